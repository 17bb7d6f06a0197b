import PyProof.Rows.All
import Wide.All
import OpenK.AllK
import Wide.FinOn
import HandS.GenList
import HandS.Comp
import HandS.AnyAll
import PyProof.TupleOfGen
import HandS.ForMost
import HandS.GenBody
import KE.GoesEnum
import HandS.Exc
import HandS.ExcOwn
import HandS.TryOnly
import HandS.WordsExc
import HandS.Lambda
import HandS.Walk
import HandS.DictComp
import HandS.TupAny
import HandS.TupMul
import HandS.Wide
import HandS.Rev
import HandS.Text
import HandS.Dict
import HandS.More
import HandS.FStr
import HandS.ListItems
import KE.KIndexOf
import PyProof.MeetsIn
import HandS.ListEq
import HandS.DictEq
import HandS.TupLen
import KE.KDictPairs
import HandS.NamedTupSort
import HandS.WordsDict
import PySem.Str
import HandS.HeadHook4
import HandS.HeadWalk
import HandS.Head0
import HandS.Head1
import HandS.Head2
import HandS.Defaults
import PySem.Challenge.RW_parsestack_k12_scopes_of_names
set_option Elab.async false
set_option linter.all false
set_option maxRecDepth 100000
set_option maxHeartbeats 0
/-! GE: a generator expression of any element, any tests; tuple(..) of it. -/
namespace FL
open PySem PySem.Spec PyProof.Rows L2 GenW

section
variable {elt tg iter : Expr} {ifs : List Expr} {scope : Scope} {pos : Pos} {it acc : Value} {env : Env}
theorem over_gl {A : Around} : A.over (.compLoop (.GeneratorExp elt [⟨tg, iter, ifs, 0⟩] scope pos) 0 it acc env) [] = A.deeper env := by
  first
    | rfl
    | (obtain ⟨hd, d, fr, gs, u⟩ := A; simp [Around.over, Around.deeper, marksOver, frameCount, unitsOf, envsOf, guardsOf, pushEnvs, pushGuards, Code.envs, Code.env?, Code.isFrame, Code.guards, Code.isGuard, Code.weight, Code.frames, Code.isCreation, Code.isCaller, Code.cUnits])
theorem over_gs {A : Around} : A.over (.compStart (.GeneratorExp elt [⟨tg, iter, ifs, 0⟩] scope pos) 0 it acc env) [] = A.deeper env := by
  first
    | rfl
    | (obtain ⟨hd, d, fr, gs, u⟩ := A; simp [Around.over, Around.deeper, marksOver, frameCount, unitsOf, envsOf, guardsOf, pushEnvs, pushGuards, Code.envs, Code.env?, Code.isFrame, Code.guards, Code.isGuard, Code.weight, Code.frames, Code.isCreation, Code.isCaller, Code.cUnits])
end

abbrev geEnv (X : Cx) (scope : Scope) (C : Addr) (code : Value) : Env := genEnv scope (cloFrom X.env.cells scope.names []) C code builtinsNs X.env
/-- the context of the generator's body: made at s, run within A -/
def geCx (X : Cx) (A : Around) (s : Shared) (H : Hp) (scope : Scope) (code : Value) (fp : List Addr) (pn : List (Addr × Obj)) : Cx where
  prog := X.prog
  w := X.w
  K := X.K
  mg := X.mg
  base := X.base
  A := A.deeper (geEnv X scope s.heap.objs.size code)
  N := X.N
  s_0 := s
  H_0 := H
  env := geEnv X scope s.heap.objs.size code
  outer := X.stack
  stack := geEnv X scope s.heap.objs.size code :: X.stack
  ex := fp
  fn := fun _ => false
  calm := true
  pn := pn
  xe := fun _ _ => False

section
variable {X : Cx} {pins : List (Addr × Obj)} {σ : L2.St} {H : Hp} {s s1 : Shared}
theorem ge_start {A : Around} {scope : Scope} {own : List (Str × Nat)} {fp : List Addr} {code : Value} {pn : List (Addr × Obj)} {m : Str → Option Value} (I : Inv X pins σ H s) (ok : BlkOk X.N X.env.scope scope own) (hcell : ∀ y ∈ scope.names, y.2 ≠ .cell) (hN : X.N.Nodup)
    (hfp : ∀ b ∈ fp, FpOk X pins H b ∧ b < s.heap.objs.size) (hd : A.handled = none) (hfr : A.frames = some X.stack) (hos : s1.os = s.os) (hba : AllBare s1.gens) (kp : ∀ b o, s.heap.get? b = some o → s1.heap.get? b = some o)
    (hns : s1.heap.Ns s.heap.objs.size m) {pins' : List (Addr × Obj)} (hpn : ∀ p ∈ pn ++ pins', s1.heap.get? p.1 = some p.2 ∧ s.heap.objs.size < p.1 ∧ ∀ v, p.2.data ≠ .cell v) :
    Inv (geCx X A s H scope code fp pn) pins' (wipe σ (own.map (·.2))) H s1 := by
  have hfree : ∀ y ∈ scope.names, y.2 = .free → ∃ c, X.env.cells.lookup y.1 = some c := fun y hy e => by
    rcases ok.free y hy e with k | k
    · exact I.ok.has _ (.inl k)
    · exact I.ok.has _ (.inr k)
  have cm : ∀ {y c}, (cloFrom X.env.cells scope.names []).lookup y = some c → X.env.cells.lookup y = some c := fun {y c} e => by
    rcases cloFrom_mem (PySem.mem_of_lookup e) with hm | ⟨h1, h2⟩
    · cases hm
    · obtain ⟨c1, hc⟩ := hfree _ h1 rfl
      have hc : X.env.cells.lookup y = some c1 := hc
      have e2 : c = c1 := by
        rw [h2, hc] <;> rfl
      rw [e2]
      exact hc
  have look : ∀ {y}, scope.names.lookup y = some .free → ∃ c, (cloFrom X.env.cells scope.names []).lookup y = some c := fun {y} hl => by
    have hy : (y, NameKind.free) ∈ scope.names := PySem.mem_of_lookup hl
    exact mem_lookup (cloFrom_has (cells := X.env.cells) (acc := []) hy)
  obtain ⟨h1, g1, d1, t1, o1⟩ := s1
  have ho : o1 = s.os := hos
  subst ho
  refine ⟨⟨I.ok.mod, ok.kind, I.ok.glob, rfl, Nat.le_refl _, fun y z c e1 e2 => I.ok.inj y z c (cm e1) (cm e2), fun y hy => ?_, fun y c z _ => ?_, fun _ => hd, Around.frames_deeper hfr, .inr ⟨rfl, rfl⟩, fun b hb => ⟨Nat.ne_of_lt (hfp b hb).2, fun y c e => (hfp b hb).1.2.2.2.2.1 y c (cm e)⟩, I.bs,
      Nat.le_trans I.ok.bsz I.sz, fun b o e hb => ?_, fun b hb z => ?_, I.stack, I.stkFree⟩,
    rfl, hba, Un.kept kp, ⟨m, hns, fun i y v e1 e2 e3 => ?_⟩, fun y c e => ?_, I.hok.fresh (Nat.le_refl _), fun y c e => I.freeC y c (cm e), fun q hq => ?_, I.hok.kept kp, by rw [wipe_length]; exact I.len⟩
  · have hy : scope.names.lookup y = some .cell ∨ scope.names.lookup y = some .free := hy
    rcases hy with hy | hy
    · exact absurd rfl (hcell _ (PySem.mem_of_lookup hy))
    · exact look hy
  · have z : false = true := z
    cases z
  · rcases (hfp b hb).1.2.2.2.1 with z | z
    · exact I.ok.noex b o e z
    · exact absurd (Nat.lt_of_lt_of_le (Heap.lt_size e) (Nat.le_trans I.ok.bsz z)) (Nat.lt_irrefl _)
  · rcases List.mem_cons.mp (I.stkSub b z) with z | z
    · exact (hfp b hb).1.2.1 z
    · exact (hfp b hb).1.2.2.1 z
  · obtain ⟨e2, hne⟩ := wipe_some e2
    have e3 : Vis scope y := e3
    have no : ∀ k, scope.names.lookup y = some k → (k = .local ∨ k = .cell) → False := fun k hk hh => by
      rcases ok.own _ (PySem.mem_of_lookup hk) hh with e' | e'
      · obtain ⟨p, hp, hpy⟩ := List.mem_map.mp e'
        have e4 := ok.ix p hp
        have hpy : p.1 = y := hpy
        rw [hpy] at e4
        exact hne (List.mem_map.mpr ⟨p, hp, nodup_ix hN e4 e1⟩)
      · exact e' (List.mem_of_getElem? e1)
    rcases e3 with k | k | k
    · exact (no _ k (.inl rfl)).elim
    · exact (no _ k (.inr rfl)).elim
    · obtain ⟨m', hn, hl⟩ := I.loc
      have hvis : Vis X.env.scope y := (ok.free _ (PySem.mem_of_lookup k) rfl).elim (fun k => .inr (.inl k)) (fun k => .inr (.inr k))
      obtain ⟨w', r, q⟩ := hl i y v e1 e2 hvis
      obtain ⟨c2, h2⟩ := look k
      refine ⟨w', r, .inr ⟨.inr k, c2, h2, ?_⟩⟩
      have c1 := cm h2
      rcases q with ⟨k', _⟩ | ⟨_, c3, e', z⟩
      · have k' : X.env.scope.names.lookup y = some .local := k'
        rcases ok.free _ (PySem.mem_of_lookup k) rfl with k2 | k2 <;> rw [show X.env.scope.names.lookup y = _ from k2] at k' <;> cases k'
      · rw [c1] at e'
        cases e'
        exact z.keeps kp
  · obtain ⟨w', z⟩ := I.cell y c (cm e)
    exact ⟨w', z.keeps kp⟩
  · obtain ⟨e1, e2, e3⟩ := hpn q hq
    refine ⟨e1, I.hok.fresh (Nat.le_of_lt e2), Nat.ne_of_gt e2, fun z => ?_, e3⟩
    have z : q.1 ∈ frs X.stack := z
    rcases List.mem_cons.mp (I.stkSub _ z) with z | z
    · have := I.lt
      rw [← z] at this
      exact Nat.lt_irrefl _ (Nat.lt_trans this e2)
    · exact I.nofs (Nat.le_of_lt e2) z
end
end FL
namespace FL
open PySem PySem.Spec PyProof.Rows L2 GenW

/-- what a generator expression hands out: W by the turn, a measure and all that is out -/
def tGx (wi : TI) (P : Addr) (g : TG) (tt : TT) (te : TE) (vs : List Nat) : TGen := fun σ H cont => wi σ H fun J H1 => GxR.TabG H1 P ∧ ∀ H2, GxR.Tabbed P H1 H2 → ∃ W : Nat → Nat → List V → Hp → Prop, (∃ m, W 0 m [] H2) ∧ ∀ i m ys H, W i m ys H →
  (J.stop i H ∧ cont ys H) ∨ (J.go i H ∧ ∃ Nx : List V → Hp → Prop, (∀ ys' H', Nx ys' H' → ∃ m', m' < m ∧ W (i + 1) m' ys' H') ∧ ∀ x H', J.yld i H x H' → g x (wipe σ vs) H' fun σ2 H2 => wipe σ2 vs = wipe σ vs ∧ tt σ2 H2 fun b H3 =>
    if b = true then te σ2 H3 fun y H4 => ys.length < sizeLine ∧ Nx (ys ++ [y]) H4 else Nx ys H3)

def GRn (X : Cx) (S : Addr) (Q : List V → Hp → Prop) : GenEnd := fun n s₀ r s => r = .ok .next ∧ ∃ ys ip σ H, n + ys.length = sizeLine ∧ GI X S ip ys σ H s ∧ Q ys H

section
variable {Y : Cx} {elt tg iter : Expr} {ifs : List Expr} {scope : Scope} {pos : Pos}
theorem seg_ge {A : Around} {S it : Addr} {J : It} {fp : List Addr} {tn : Nat → Heap → Prop} {g : TG} {tt : TT} {te : TE} {vs : List Nat} {σ : L2.St} {cont : List V → Hp → Prop} {W : Nat → Nat → List V → Hp → Prop}
    (hA : A.deeper Y.env = Y.A) (hc : Y.calm = true) (hex : Y.ex = fp) (hco : Y.env.scope.isCoroutine = false) (hSfp : ∀ b ∈ fp, S ≠ b) (hpnfp : ∀ b ∈ fp, ∀ p ∈ Y.pn, p.1 ≠ b) (hpnS : ∀ p ∈ Y.pn, p.1 ≠ S) (hap : Apart Y S)
    (hxe : Y.xe = fun _ _ => False) (T : Turn Y.prog Y.w Y.K tg J fp it tn) (hg : PG Y tg g) (ht : PTs Y ifs tt) (he : PE Y elt te)
    (turn : ∀ i m ys H, W i m ys H → (J.stop i H ∧ cont ys H) ∨ (J.go i H ∧ ∃ Nx : List V → Hp → Prop, (∀ ys' H', Nx ys' H' → ∃ m', m' < m ∧ W (i + 1) m' ys' H') ∧ ∀ x H', J.yld i H x H' → g x (wipe σ vs) H' fun σ2 H2 => wipe σ2 vs = wipe σ vs ∧ tt σ2 H2 fun b H3 =>
      if b = true then te σ2 H3 fun y H4 => ys.length < sizeLine ∧ Nx (ys ++ [y]) H4 else Nx ys H3)) :
    ∀ (m n i : Nat) (ys : List V) (s₀ s : Shared) (H : Hp), n + ys.length = sizeLine → W i m ys H → GI Y S [] ys (wipe σ vs) H s → tn i s.heap → (∀ b ∈ fp, H b = none) →
      Seg (model Y.prog Y.w) A (GRn Y S cont) (GY Y S) n s₀ (.compLoop (.GeneratorExp elt [⟨tg, iter, ifs, 0⟩] scope pos) 0 (.ref it) .none Y.env)
        ((model Y.prog Y.w).den (.compLoop (.GeneratorExp elt [⟨tg, iter, ifs, 0⟩] scope pos) 0 (.ref it) .none Y.env)) [] s := by
  have hov : A.over (.compLoop (.GeneratorExp elt [⟨tg, iter, ifs, 0⟩] scope pos) 0 (.ref it) .none Y.env) [] = Y.A := over_gl.trans hA
  have stat : ∀ {σ' : L2.St} {H' : Hp} {s' : Shared} {acc : Array Value} {c : Nat}, Inv Y [(S, lstObj acc c)] σ' H' s' → (∀ b ∈ fp, H' b = none) → ∀ b ∈ fp, FpOk Y [(S, lstObj acc c)] H' b := fun {σ' H' s' acc c} I' hn b hb => by
    have hb' : b ∈ Y.ex := by rw [hex]; exact hb
    refine ⟨hn b hb, (I'.ok.exf b hb').1, I'.ok.exfs b hb', .inl hb', fun x c e => (I'.ok.exf b hb').2 x c e, fun p hp => ?_⟩
    rcases List.mem_append.mp hp with z | z
    · exact hpnfp b hb p z
    · rw [List.mem_singleton.mp z]
      exact hSfp b hb
  intro m
  induction m using Nat.strongRecOn with
  | ind m ih =>
    intro n i ys s₀ s H hn w hI st n5
    show Seg _ A _ _ _ s₀ _ ((compTurn (.GeneratorExp elt [⟨tg, iter, ifs, 0⟩] scope pos) 0 (.ref it) .none Y.env).onRaise (leaving Y.env)) [] s
    rw [compTurn_gen, Sem.onRaise_eq_wrap]
    refine seg_bind_wrap (wpAny_standAt ?_)
    obtain ⟨acc, cc, r, I5⟩ := hI
    rcases turn i m ys H w with ⟨stop, qq⟩ | ⟨go, Nx, hNx, step⟩
    · have td := T.done Y rfl rfl rfl hc i _ s _ H (fun _ _ => False) I5 (stat I5 n5) st stop
      refine seg_bind_wrap ?_
      rw [hov]
      refine thnF td fun r' s6 ⟨hr, I6⟩ => ?_
      subst hr
      exact seg_end (.ok .next) ⟨rfl, ys, [], _, H, hn, ⟨acc, cc, r, I6⟩, qq⟩
    · have ti := T.item Y rfl rfl rfl hc i _ s _ H (fun _ _ => False) I5 (stat I5 n5) st go
      refine seg_bind_wrap ?_
      rw [hov]
      refine thnF ti fun r' s6 ⟨u, hr, h6⟩ => ?_
      subst hr
      refine seg_bind_wrap ?_
      rw [hov]
      refine thnF h6 fun _ s7 ⟨x, H7, I7, r7, y7, st7, n7⟩ => ?_
      have I7' := I7.pinned (stat I7 n7) (T.obj _ _ st7)
      refine seg_bind_wrap ?_
      rw [hov]
      have pg := hg.run _ s7 _ H7 x u _ I7' r7 (step x H7 y7)
      rw [hxe] at pg
      refine thnF pg fun _ s8 ⟨σ8, H8, I8, hw8, q8⟩ => ?_
      refine seg_bind_wrap ?_
      rw [hov]
      have pt := ht.run _ s8 σ8 H8 _ I8 q8
      rw [hxe] at pt
      refine thnF pt fun b s9 ⟨H9, I9, q9⟩ => ?_
      -- the turn's end
      have fin : ∀ {s' : Shared} {H' : Hp} {n' : Nat} {ys' : List V} {s₀' : Shared}, n' + ys'.length = sizeLine → GI Y S (pinsAt fp s7.heap) ys' σ8 H' s' → Nx ys' H' →
          Seg (model Y.prog Y.w) A (GRn Y S cont) (GY Y S) n' s₀' (.compLoop (.GeneratorExp elt [⟨tg, iter, ifs, 0⟩] scope pos) 0 (.ref it) .none Y.env)
            ((model Y.prog Y.w).den (.compLoop (.GeneratorExp elt [⟨tg, iter, ifs, 0⟩] scope pos) 0 (.ref it) .none Y.env)) [] s' := fun {s' H' n' ys' s₀'} hn' hI' nx => by
        obtain ⟨m', hm, w'⟩ := hNx ys' H' nx
        obtain ⟨acc', cc', r', I'⟩ := hI'
        have pin' : ∀ b ∈ fp, ∀ o, s7.heap.get? b = some o → s'.heap.get? b = some o ∧ H' b = none := fun b hb o e =>
          let z := I'.pin (b, o) (List.mem_append_right _ (List.mem_cons_of_mem _ (mem_pinsAt hb e)))
          ⟨z.1, z.2.1⟩
        have hl : (wipe σ vs).length = σ8.length := by rw [← hw8, wipe_length]
        refine ih m' hm n' (i + 1) ys' s₀' s' H' hn' w' ⟨acc', cc', r', (Inv.weak (σ := σ8) (I'.pins_of fun p hp => ?_) hl fun j v e => ?_)⟩ (T.keep _ _ _ st7 fun b hb o e => (pin' b hb o e).1) fun b hb => ?_
        · exact I'.pin p (List.mem_append_right _ (by rw [List.mem_singleton.mp hp]; exact List.mem_cons_self))
        · rw [← hw8] at e
          exact (wipe_some e).1
        · obtain ⟨o, e, _⟩ := T.obj _ _ st7 b hb
          exact (pin' b hb o e).2
      cases b with
      | false =>
        simp only [Bool.false_eq_true, if_false] at q9 ⊢
        exact seg_again rfl (fin hn ⟨acc, cc, r, I9⟩ q9)
      | true =>
        simp only [if_true] at q9 ⊢
        have hy : ∀ v, yieldOut Y.env v = yieldValue v := fun v => by simp only [yieldOut, hco, Bool.false_eq_true, if_false]
        simp only [hy]
        rw [Sem.bind_eq_wrap', Sem.bind_eq_wrap', Sem.wrap_wrap, Sem.wrap_wrap]
        refine seg_wrap ?_
        rw [hov]
        have pe := he.run _ s9 σ8 H9 _ I9 q9
        rw [hxe] at pe
        refine thnF pe fun z s10 ⟨yv, H10, I10, r10, hlt, nx⟩ => ?_
        obtain ⟨n, rfl⟩ : ∃ m, n = m + 1 := ⟨n - 1, by omega⟩
        have G1 : GI Y S (pinsAt fp s7.heap) ys σ8 H10 s10 := ⟨acc, cc, r, I10⟩
        have hip : ∀ p ∈ pinsAt fp s7.heap, p.1 ≠ S := fun p hp => Ne.symm (hSfp p.1 (of_pinsAt hp).1)
        refine seg_at (seg_yield rfl rfl rfl ⟨ys, yv, pinsAt fp s7.heap, σ8, H10, hn, r10, G1, fun s'' z' => ?_⟩)
        refine seg_again rfl (fin ?_ (G1.woken hpnS hip hap r10 z') nx)
        rw [List.length_append, List.length_singleton]
        omega

theorem seg_geStart {A : Around} {S it : Addr} {J : It} {fp : List Addr} {tn : Nat → Heap → Prop} {n : Nat} {s₀ s : Shared} {cont : List V → Hp → Prop}
    (T : Turn Y.prog Y.w Y.K tg J fp it tn) (st : tn 0 s.heap)
    (loop : Seg (model Y.prog Y.w) A (GRn Y S cont) (GY Y S) n s₀ (.compLoop (.GeneratorExp elt [⟨tg, iter, ifs, 0⟩] scope pos) 0 (.ref it) .none Y.env)
        ((model Y.prog Y.w).den (.compLoop (.GeneratorExp elt [⟨tg, iter, ifs, 0⟩] scope pos) 0 (.ref it) .none Y.env)) [] s) :
    Seg (model Y.prog Y.w) A (GRn Y S cont) (GY Y S) n s₀ (.compStart (.GeneratorExp elt [⟨tg, iter, ifs, 0⟩] scope pos) 0 (.ref it) .none Y.env)
        ((model Y.prog Y.w).den (.compStart (.GeneratorExp elt [⟨tg, iter, ifs, 0⟩] scope pos) 0 (.ref it) .none Y.env)) [] s := by
  show Seg _ A _ _ _ s₀ _ ((compStart (.GeneratorExp elt [⟨tg, iter, ifs, 0⟩] scope pos) 0 (.ref it) .none Y.env).onRaise (leaving Y.env)) [] s
  unfold compStart
  rw [Sem.onRaise_eq_wrap]
  show Seg _ A _ _ _ s₀ _ ((ask >>= _).wrap _ _ _ _) [] s
  refine seg_bind_wrap (wpAny_askSetting ?_)
  split
  · exact seg_again rfl loop
  · first
      | exact seg_bind_wrap (wpAny_rule (seg_bind_wrap (wpAny_standAt (seg_bind_wrap (T.self _ 0 s _ _ st (seg_again rfl loop))))))
      | (refine seg_bind_wrap (wpAny_rule ?_); show Seg _ A _ _ _ s₀ _ ((standAt iter.pos >>= _).wrap _ _ _ _) [] s; exact seg_bind_wrap (wpAny_standAt (seg_bind_wrap (T.self _ 0 s _ _ st (seg_again rfl loop)))))
end
end FL
namespace FL
open PySem PySem.Spec PyProof.Rows L2 GenW

/-- nothing is raised -/
abbrev noXK : XK := fun _ _ _ => False
section
variable {X : Cx}
theorem pgen_ge {k : Nat} {c P : Addr} {elt tg iter : Expr} {ifs : List Expr} {scope : Scope} {own : List (Str × Nat)} {gpos : Pos} {wi : TI} {g : TG} {tt : TT} {te : TE}
    (hr : Room (k + 1) X.A) (TB : GxR.TabB X.base X.mg c P) (hcode : X.env.code = .ref c) (hN : X.N.Nodup) (ok : BlkOk X.N X.env.scope scope own) (hco : scope.isCoroutine = false) (hcell : ∀ y ∈ scope.names, y.2 ≠ .cell) (hdot : scope.names.lookup (".0" : Str) = some NameKind.local)
    (hi : PI X tg iter wi)
    (hg : ∀ (A : Around) (s : Shared) (H : Hp) (code : Value) (fp : List Addr) (pn : List (Addr × Obj)), Room k (A.deeper (geEnv X scope s.heap.objs.size code)) → PG (geCx X A s H scope code fp pn) tg g)
    (ht : ∀ (A : Around) (s : Shared) (H : Hp) (code : Value) (fp : List Addr) (pn : List (Addr × Obj)), Room k (A.deeper (geEnv X scope s.heap.objs.size code)) → PTs (geCx X A s H scope code fp pn) ifs tt)
    (he : ∀ (A : Around) (s : Shared) (H : Hp) (code : Value) (fp : List Addr) (pn : List (Addr × Obj)), Room k (A.deeper (geEnv X scope s.heap.objs.size code)) → PE (geCx X A s H scope code fp pn) elt te)
    (hs : ∀ v, genFold iter X.env v = pure v) :
    PGen X (k + 1) (.GeneratorExp elt [⟨tg, iter, ifs, 0⟩] scope gpos) (tGx wi P g tt te (own.map (·.2))) noXK := by
  refine ⟨fun pins s σ H cont I h => ?_⟩
  have hclos : closureFor scope X.env = pure (cloFrom X.env.cells scope.names []) := closure_ok fun y hy e => by
    rcases ok.free y hy e with k | k
    · exact I.ok.has _ (.inl k)
    · exact I.ok.has _ (.inr k)
  refine wpAny_GeneratorExp_make hco hclos hcell hdot ok.kind (by have := hr.dp; omega) ?_ hs
  refine thn (hi.run pins s σ H _ I h) fun xv s1 hx => thn hx fun itv s2 h2 => ?_
  obtain ⟨it, fp, tn, J, H2, e, I2, T, st2, f2, ⟨ps, hP, htr⟩, q⟩ := h2
  subst e
  refine ⟨I2.nolimit, ?_⟩
  have hPs : s2.heap.get? P = some { cls := .none, data := .fields ps } := I2.hok P _ hP
  have cd : PySem.W.CodeHd s2.heap c P := TB.code.keeps fun b u e => I2.bk b u e
  have nPf : ∀ b ∈ fp, b ≠ P := fun b hb z => by
    have n1 := (f2 b hb).1
    rw [z, hP] at n1
    cases n1
  have cont2 : ∀ (code : Value) (h3 : Heap) (tk : Nat) (ps' : Array Value), Heap.ExtBut P s2.heap h3 → s2.heap.objs.size ≤ h3.objs.size → h3.get? P = some { cls := .none, data := .fields ps' } → (∃ more, ps' = ps ++ more) → TriplesOk ps'.toList →
      wpAny (model X.prog X.w) X.A (builtinsFor X.env.globals X.env.builtins) (fun bi s₄ =>
        ∀ h', h'.Ns s₄.heap.objs.size (fun y => if y = (".0" : Str) then some (.ref it) else none) → Heap.SameBut s₄.heap.objs.size (s₄.heap.push { cls := .type "frame", data := .dict #[] }) h' →
          (fun u s' => ∃ H1 sc ex, Inv X pins σ H1 sc ∧ ExOk X pins ex ∧ GMade X.prog X.w (k + 1) X.stack H1 sc ex cont noXK u s') (.ref h'.objs.size) { s₄ with
            gens := s₄.gens.push (.fresh (.compStart (.GeneratorExp elt [⟨tg, iter, ifs, 0⟩] scope gpos) 0 (.ref it) .none (genEnv scope (cloFrom X.env.cells scope.names []) s₄.heap.objs.size code bi X.env))),
            toks := s₄.toks + 1 + 1 + 1,
            heap := h'.push { cls := .type "generator", data := .fields #[.int s₄.gens.size 0, .str "<genexpr>" (s₄.toks + 1), .str (X.env.qual ++ "<genexpr>") (s₄.toks + 1 + 1)] } }) X.xe { s2 with heap := h3, toks := tk } := by
    intro code h3 tk ps' hx hsz hP3 ⟨more, em⟩ ht3
    obtain ⟨bm, ob, e1, e2, e3, e4, e5, e6, e7, e8⟩ := TB.bm
    have keep3 : ∀ b u, b ≠ P → s2.heap.get? b = some u → h3.get? b = some u := fun b u hb e => hx b u hb e
    refine wpAny_builtinsFor (m := X.mg) (by rw [I2.ok.glob]; exact (I2.mod.glob.keeps I2.bk).extBut hx TB.gP) e1 e2 (keep3 _ _ e4 (I2.bk _ _ e5)) e6 e7 e8 ?_
    subst em
    have J3 : Inv X pins σ (upd H2 P (.tbl (ps ++ more))) { s2 with heap := h3, toks := tk } := GxR.inv_tab (g' := s2.gens) (d' := s2.drawn) (t' := tk) I2 hP keep3 hP3 I2.bare
    have TbH : GxR.Tabbed P H2 (upd H2 P (.tbl (ps ++ more))) := ⟨⟨_, upd_same, ht3⟩, fun b hb => upd_ne hb⟩
    obtain ⟨W, ⟨m0, w0⟩, turn⟩ := q _ TbH
    have f3 : ∀ b ∈ fp, FpOk X pins (upd H2 P (.tbl (ps ++ more))) b := fun b hb => ⟨by rw [upd_ne (nPf b hb)]; exact (f2 b hb).1, (f2 b hb).2⟩
    have st3 : tn 0 h3 := T.keep _ _ _ st2 fun b hb o e => keep3 b o (nPf b hb) e
    have lt3 : ∀ b ∈ fp, b < h3.objs.size := fun b hb => by
      obtain ⟨o, e, _⟩ := T.obj _ _ st3 b hb
      exact Heap.lt_size e
    generalize hH3 : upd H2 P (.tbl (ps ++ more)) = H3 at J3 w0 f3
    generalize hs3 : ({ s2 with heap := h3, toks := tk } : Shared) = s3 at J3 ⊢
    have eh3 : s3.heap = h3 := by rw [← hs3]
    rw [← eh3] at st3 lt3
    intro h' hns hsb
    have hsz' : h'.objs.size = s3.heap.objs.size + 1 := by rw [hsb.1, Heap.size_push]
    have keep' : ∀ b o, s3.heap.get? b = some o → h'.get? b = some o := fun b o e => hsb.extBut b o (Nat.ne_of_lt (Heap.lt_size e)) (Heap.get?_push_of_some _ e)
    generalize hgo : ({ cls := .type "generator", data := .fields #[.int s3.gens.size 0, .str "<genexpr>" (s3.toks + 1), .str (X.env.qual ++ "<genexpr>") (s3.toks + 1 + 1)] } : Obj) = go
    have hgod : ∀ v, go.data ≠ .cell v := fun v z => by rw [← hgo] at z; cases z
    have keep5 : ∀ b o, s3.heap.get? b = some o → (h'.push go).get? b = some o := fun b o e => Heap.get?_push_of_some _ (keep' b o e)
    have hgat : (h'.push go).get? h'.objs.size = some go := by rw [← hgo]; exact Heap.get?_push_size _ rfl
    have isgen : ∀ {hh : Heap}, hh.get? h'.objs.size = some go → hh.IsGen h'.objs.size s3.gens.size := fun {hh} e => ⟨go, _, _, e, by rw [← hgo], by rw [← hgo], by rw [← hgo]⟩
    refine ⟨H3, s3, fp, J3, fun b hb => ⟨(f3 b hb).2.2.2.1, (f3 b hb).2.1, (f3 b hb).2.2.2.2.1, (f3 b hb).2.2.2.2.2⟩, h'.objs.size, s3.gens.size, _, rfl, by omega, by show _ < (h'.push go).objs.size; rw [Heap.size_push]; exact Nat.lt_succ_self _,
      isgen hgat, Array.getElem?_push_size .., rfl, AllBare.push J3.bare rfl, J3.nolimit.keeps keep5, keep5, ?_⟩
    intro Aw S s5 hrw hfr hSx hk5 ⟨cS, heS⟩ hos hba
    have hSx : (h'.push go).objs.size ≤ S := hSx
    have hgS : h'.objs.size ≠ S := by
      rw [Heap.size_push] at hSx
      exact Nat.ne_of_lt hSx
    have kp35 : ∀ b o, s3.heap.get? b = some o → s5.heap.get? b = some o := fun b o e => hk5 b o (keep5 b o e)
    have hge5 : s5.heap.get? h'.objs.size = some go := hk5 _ _ hgat
    have hCS : s3.heap.objs.size < S := by
      rw [Heap.size_push] at hSx
      omega
    have hrd := hrw.deeper (geEnv X scope s3.heap.objs.size code)
    have IY : Inv (geCx X Aw s3 H3 scope code fp [(h'.objs.size, go)]) [(S, lstObj #[] cS)] (wipe σ (own.map (·.2))) H3 s5 := by
      refine ge_start J3 ok hcell hN (fun b hb => ⟨f3 b hb, lt3 b hb⟩) hrw.hd hfr hos hba kp35 (m := fun y => if y = (".0" : Str) then some (.ref it) else none) ?_ fun p hp => ?_
      · refine hns.at' fun o e => hk5 _ o (Heap.get?_push_of_some _ e)
      · rcases List.mem_append.mp hp with z | z
        · rw [List.mem_singleton.mp z]
          exact ⟨hge5, by show s3.heap.objs.size < h'.objs.size; omega, hgod⟩
        · rw [List.mem_singleton.mp z]
          exact ⟨heS, hCS, fun v q => by cases q⟩
    have hpnS : ∀ p ∈ [(h'.objs.size, go)], p.1 ≠ S := fun p hp => by
      rw [List.mem_singleton.mp hp]
      exact hgS
    have hap : Apart (geCx X Aw s3 H3 scope code fp [(h'.objs.size, go)]) S := by
      refine ⟨Nat.le_of_lt hCS, Nat.ne_of_gt hCS, fun x c e z => ?_⟩
      obtain ⟨v, ob, ho, _⟩ := IY.cell x c e
      have e2 : (cloFrom X.env.cells scope.names []).lookup x = some c := e
      rcases cloFrom_mem (PySem.mem_of_lookup e2) with hm | ⟨h1, h2⟩
      · cases hm
      · obtain ⟨c1, hc1⟩ : ∃ c, X.env.cells.lookup x = some c := by
          rcases ok.free _ h1 rfl with k | k
          · exact J3.ok.has _ (.inl k)
          · exact J3.ok.has _ (.inr k)
        have e3 : c = c1 := by rw [h2, hc1] <;> rfl
        obtain ⟨v', z'⟩ := J3.cell x c1 hc1
        have := z'.lt
        rw [← e3, z] at this
        exact Nat.lt_irrefl _ (Nat.lt_trans this hCS)
    refine seg_imp (R := GRn (geCx X Aw s3 H3 scope code fp [(h'.objs.size, go)]) S cont) (Y := GY (geCx X Aw s3 H3 scope code fp [(h'.objs.size, go)]) S) (fun n s₀ r s1' hR => ?_) (fun n s₀ v s1' kap kap' hkk hY => ?_) sizeLine ?_
    · obtain ⟨er, ys, ip, σ', H', hn, hI, hQ⟩ := hR
      obtain ⟨a1, _, _, acc, cc, ra, ea⟩ := hI.at
      obtain ⟨_, _, _, JJ⟩ := hI
      exact .inl ⟨.inr er, H', ys, acc, cc, JJ.os, JJ.bare, JJ.base, JJ.hok, a1, ea, ra, by omega, hQ⟩
    · obtain ⟨ys, xx, ip, σ', H', hn, h2, hI, h3⟩ := hY
      obtain ⟨_, _, _, acc, cc, ra, ea⟩ := hI.at
      obtain ⟨_, _, _, JJ⟩ := hI
      have hg : s1'.heap.IsGen h'.objs.size s3.gens.size := isgen (JJ.pin (h'.objs.size, go) (List.mem_append_left _ (List.mem_singleton.mpr rfl))).1
      have hsz : acc.size = ys.length := by
        have e1 := ra.length
        have e2 : acc.toList.length = acc.size := by simp
        omega
      exact ⟨JJ.os, JJ.bare, JJ.nolimit, hg, ⟨acc, cc, ea, by rw [hsz]; exact hn⟩, fun s' z => hkk _ _ (h3 s' z)⟩
    · have st5 : tn 0 s5.heap := T.keep _ _ _ st3 fun b _ o e => kp35 b o e
      refine seg_geStart (Y := geCx X Aw s3 H3 scope code fp [(h'.objs.size, go)]) T st5 ?_
      refine seg_ge (Y := geCx X Aw s3 H3 scope code fp [(h'.objs.size, go)]) (fp := fp) rfl rfl rfl hco (fun b hb z => ?_) (fun b hb p hp z => ?_) hpnS hap rfl T (hg _ _ _ _ _ _ hrd) (ht _ _ _ _ _ _ hrd) (he _ _ _ _ _ _ hrd) turn m0 sizeLine 0 [] s5 s5 H3 (Nat.add_zero _) w0 ⟨#[], cS, .nil, IY⟩ st5 fun b hb => (f3 b hb).1
      · have := lt3 b hb
        rw [← z] at this
        exact Nat.lt_irrefl _ (Nat.lt_trans this hCS)
      · rw [List.mem_singleton.mp hp] at z
        have z : h'.objs.size = b := z
        have h8 := lt3 b hb
        rw [← z, hsz'] at h8
        exact absurd h8 (Nat.not_lt.mpr (Nat.le_succ _))
  cases hf : codeAmong gpos ps.toList with
  | none =>
    refine wpAny_genexprCodeX hcode (cd.code hPs htr) (cd.tab hPs) hf fun c' h' tk hx hge hlt hco' _ htab' _ => ?_
    obtain ⟨o1, vs, f1, tf, fl, tg, inF, tx, tt, op, _, _, _, _, _, _, _, _, _, htr', _⟩ := hco'
    exact cont2 _ h' tk _ hx (Nat.le_trans hge (Nat.le_of_lt hlt)) htab'.2 ⟨_, rfl⟩ htr'
  | some cv =>
    refine wpAny_genexprCode_hit hcode (cd.code hPs htr) hf ?_
    exact cont2 cv s2.heap s2.toks ps (Heap.ExtBut.refl _ _) (Nat.le_refl _) hPs ⟨#[], by simp⟩ htr
end
end FL
namespace FL
open PySem PySem.Spec PyProof.Rows L2 GenW
open Sem (wp)

theorem collect_gm {P : Program} {w : World} {outer : List Env} {H : Hp} {sc s : Shared} {ex : List Addr} {Q : List V → Hp → Prop} {A : Around} {k : Nat} {u : Value} {Q' : List Value → Shared → Prop} {E : Value → Shared → Prop}
    (hh : A.handled = none) (hd : A.depth + 3 * k + 7 < recursionLimit) (hu : A.units + 16 * k + 210 < cLine) (hfr : A.frames = some outer) (h : GMade P w k outer H sc ex Q noXK u s)
    (hQ : ∀ (s' : Shared) (acc : List Value) (H' : Hp) (ys : List V), s.heap.objs.size ≤ s'.heap.objs.size → Vals ys acc → ys.length ≤ sizeLine → s'.os = sc.os → AllBare s'.gens → Un (frs outer) ex H H' sc.heap s'.heap → HOk P w H' s'.heap → Q ys H' → Q' acc s') :
    wpAny (model P w) A (collect u) Q' E s := by
  obtain ⟨a, g, c, rfl, ha1, ha2, hg, hgs, hos, hb, hl, hkp, wake⟩ := h
  have hSa : s.heap.objs.size ≠ a := Nat.ne_of_gt ha2
  have hcl : cStatics < s.heap.objs.size := let ⟨_, hn, _⟩ := hl; hn.lt
  have hSc : s.heap.objs.size ≠ cStatics := Nat.ne_of_gt hcl
  unfold collect
  refine wpAny_bind (wpAny_runValue (codeAny_builtin F.entry_proto_collect ?_))
  rw [Around.under_plainId F.plain_proto_collect _]
  show wpAny _ A.in1 (newList [] >>= fun l => again (.builtin "list.__iadd__" ⟨[l, .ref a], []⟩)) _ _ s
  refine wpAny_bind (wpAny_newObj_type ?_)
  refine wpAny_pure ⟨plainId_quiet F.plain_list_iadd _, codeAny_builtin F.entry_list_iadd ?_⟩
  rw [Around.under_plainId F.plain_list_iadd _]
  show wpAny _ A.in1 (Builtin.List.listExtendWith (.ref s.heap.objs.size) (.ref a) (.ref s.heap.objs.size)) _ _ _
  unfold Builtin.List.listExtendWith
  have up : ∀ (h : Heap) (f : Obj → Obj), (∀ b o, s.heap.get? b = some o → h.get? b = some o) → ∀ b o, s.heap.get? b = some o → (h.update s.heap.objs.size f).get? b = some o := fun h f q b o e =>
    (Heap.get?_update_other _ _ (Ne.symm (Nat.ne_of_lt (Heap.lt_size e)))).trans (q b o e)
  have k1 : ∀ b o, s.heap.get? b = some o → (s.heap.push { cls := .type "list", data := .seq ([] : List Value).toArray }).get? b = some o := fun b o e => Heap.get?_push_of_some _ e
  have gty : ∀ {h : Heap}, (∀ b o, s.heap.get? b = some o → h.get? b = some o) → h.IsGen a g := fun {h} q => hg.keeps q
  refine wpAny_bind (wpAny_typeOf (Heap.IsGen.typeIs (s := { s with heap := _ }) (gty k1)) ?_)
  have h1 : Builtin.List.listSameRef (.ref s.heap.objs.size) (.ref a) = false := by simp [Builtin.List.listSameRef, hSa]
  have h2 : (Value.type "generator" == Value.type "list") = false := by decide
  have h3 : (Value.type "generator" == Value.type "tuple") = false := by decide
  simp only [h1, h2, h3, Bool.or_false, Bool.false_eq_true, if_false]
  refine wpAny_bind (wpAny_pyIter_gen (s := { s with heap := _ }) (gty k1) ?_)
  refine wpAny_bind (wpAny_holding ?_)
  unfold Builtin.List.listLengthHint
  refine wpAny_bind (wpAny_specialOf (Heap.IsGen.typeIs (s := { s with heap := _ }) (gty k1)) F.gen_no_len ?_)
  show wpAny _ A.in1 (specialOf (Value.ref a) (Str.ofString "__length_hint__") >>= _) _ _ _
  refine wpAny_bind (wpAny_specialOf (Heap.IsGen.typeIs (s := { s with heap := _ }) (gty k1)) F.gen_no_hint ?_)
  refine wpAny_pure ?_
  show wpAny _ A.in1 (rule "list.extend.makes-room" >>= fun _ => Builtin.List.listTouch (.ref s.heap.objs.size) >>= fun _ =>
    again (.builtin "list.extend.loop" ⟨[.ref s.heap.objs.size, .ref a, .ref s.heap.objs.size], []⟩)) _ _ _
  refine wpAny_bind (wpAny_rule ?_)
  have hS₁ : (s.heap.push { cls := .type "list", data := .seq ([] : List Value).toArray }).get? s.heap.objs.size = some { cls := .type "list", data := .seq ([] : List Value).toArray } := Heap.get?_push_size _ rfl
  refine wpAny_bind ?_
  show wpAny _ A.in1 (updateSeq s.heap.objs.size (·.push .none) >>= fun _ => updateSeq s.heap.objs.size (·.pop)) _ _ _
  refine wpAny_bind (wpAny_updateSeq hS₁ rfl ?_)
  have hS₂ := Heap.get?_update_self (Obj.mapSeq (·.push Value.none)) hS₁ rfl
  refine wpAny_updateSeq hS₂ rfl ?_
  have hS4 := Heap.get?_update_self (Obj.mapSeq (·.pop)) hS₂ rfl
  have k4 := up _ (Obj.mapSeq (·.pop)) (up _ (Obj.mapSeq (·.push Value.none)) k1)
  refine wpAny_pure ⟨plainId_quiet F.plain_extend_loop _, ?_⟩
  refine drain (P := P) (w := w) (outer := outer) (H := H) (sc := sc) (ex := ex) (Q := Q) (EX := noXK) (A := A) (g := g) hh (by omega) hSa hSc
    (fun s' acc c H' ys q1 q2 q3 q4 q5 q6 q7 q8 q9 => ?_) (fun e s' hc => ?_)
    sizeLine _ (gty k4) (hl.keeps k4) ⟨_, hgs, rfl, ?_⟩
  · show wpAny _ A (load s.heap.objs.size >>= _) _ _ s'
    refine wpAny_bind (wpAny_load q1 ?_)
    exact wpAny_pure (hQ s' acc.toList H' ys (Nat.le_of_lt (Heap.lt_size q1)) q2 q3 q4 q5 q6 q7 q9)
  · obtain ⟨_, _, _, _, _, _, _, _, _, _, _, _, z⟩ := hc
    exact z.elim
  refine wake _ _ _ ⟨hh, ?_, ?_⟩ hfr (Nat.le_refl _) k4 ⟨_, hS4⟩ hos (allBare_setGen (s := { s with heap := _ }) hb rfl)
  · show A.depth + 3 * k + 5 < _
    omega
  · show A.units + 1 + 1 + 16 * k + 200 < _
    omega

theorem code_tuple_gm {P : Program} {w : World} {outer : List Env} {H : Hp} {sc s : Shared} {ex : List Addr} {Q : List V → Hp → Prop} {A : Around} {k : Nat} {a : Addr} {Q₁ : Value → Shared → Prop} {E : Value → Shared → Prop}
    (hr : Room (k + 3) A) (hfr : A.frames = some outer) (h : GMade P w k outer H sc ex Q noXK (.ref a) s) (hT : s.TypeIs (.ref a) "generator")
    (hQ : ∀ (s' : Shared) (acc : List Value) (H' : Hp) (ys : List V), s.heap.objs.size ≤ s'.heap.objs.size → Vals ys acc → ys.length ≤ sizeLine → s'.os = sc.os → AllBare s'.gens → Un (frs outer) ex H H' sc.heap s'.heap → HOk P w H' s'.heap → Q ys H' →
      Q₁ (.ref s'.heap.objs.size) { s' with heap := s'.heap.push { cls := .type "tuple", data := .seq acc.toArray } }) :
    codeAny (model P w) A (.call (.builtin "tuple.__new__") ⟨[.type "tuple", .ref a], []⟩) (wants Q₁ E) s := by
  refine codeAny_of_tree ?_
  show wpAny _ A.in1 (do checkBuiltinCall "tuple.__new__" ⟨[.type "tuple", .ref a], []⟩; again (.builtin "tuple.__new__" ⟨[.type "tuple", .ref a], []⟩)) _ _ s
  refine wpAny_bind (wpAny_of_eq (F.newCall_tuple_1 _) (wpAny_pure ⟨plainId_quiet F.plain_tuple_new _, codeAny_builtin F.entry_tuple_new ?_⟩))
  rw [Around.under_plainId F.plain_tuple_new _]
  have hsub := sub_tuple_self
  have hinit := init_tuple_lookup
  have hmh := madeHere_tuple
  have hdp := hr.dp
  have hun := hr.un
  have hcol : ∀ {Q' : List Value → Shared → Prop} {E : Value → Shared → Prop}, (∀ (s' : Shared) (acc : List Value) (H' : Hp) (ys : List V), s.heap.objs.size ≤ s'.heap.objs.size → Vals ys acc → ys.length ≤ sizeLine → s'.os = sc.os → AllBare s'.gens → Un (frs outer) ex H H' sc.heap s'.heap → HOk P w H' s'.heap → Q ys H' → Q' acc s') →
      wpAny (model P w) A.in1 (collect (.ref a)) Q' E s := fun {Q' E} hq => collect_gm (A := A.in1) hr.hd (by show A.depth + 3 * k + 7 < _; omega) (by show A.units + 1 + 16 * k + 210 < _; omega) hfr h hq
  wp_walk using wpAny_typeOf hT, hcol
  intro s' acc H' ys q0 q1 q2 q3 q4 q5 q6 q7
  show wpAny _ _ (Builtin.Tuple.tupleExact acc.toArray >>= fun v => ret v) _ _ _
  unfold Builtin.Tuple.tupleExact
  refine wpAny_bind (wpAny_newObj_type ?_ (by show acc.toArray.size ≤ sizeLine; rw [List.size_toArray, ← q1.length]; exact q2))
  exact wpAny_pure (hQ s' acc H' ys q0 q1 q2 q3 q4 q5 q6 q7)

theorem call_tuple_gm {P : Program} {w : World} {outer : List Env} {H : Hp} {sc s : Shared} {ex : List Addr} {Q : List V → Hp → Prop} {A : Around} {k : Nat} {a : Addr} {Q' : Value → Shared → Prop} {E : Value → Shared → Prop}
    (hr : Room (k + 4) A) (hfr : A.frames = some outer) (h : GMade P w k outer H sc ex Q noXK (.ref a) s) (hT : s.TypeIs (.ref a) "generator")
    (hQ : ∀ (s' : Shared) (acc : List Value) (H' : Hp) (ys : List V), s.heap.objs.size ≤ s'.heap.objs.size → Vals ys acc → ys.length ≤ sizeLine → s'.os = sc.os → AllBare s'.gens → Un (frs outer) ex H H' sc.heap s'.heap → HOk P w H' s'.heap → Q ys H' →
      Q' (.ref s'.heap.objs.size) { s' with heap := s'.heap.push { cls := .type "tuple", data := .seq acc.toArray } }) :
    wpAny (model P w) A (call (.type "tuple") [.ref a]) Q' E s := by
  refine callType_codes (Q₁ := fun obj s₁ => s₁.TypeIs obj "tuple" ∧ Q' obj s₁) F.called_tuple (F.typeCall_tuple_1 _) F.entry_object_init
    (code_tuple_gm (A := A.in1) hr.in1 hfr h hT fun s' acc H' ys q0 q1 q2 q3 q4 q5 q6 q7 => ⟨⟨_, Heap.get?_push_size _ rfl, rfl⟩, hQ s' acc H' ys q0 q1 q2 q3 q4 q5 q6 q7⟩) fun obj s₁ h₁ => ?_
  exact ⟨h₁.1, F.args_object_init_2 obj _, object_init_meets F.called_tuple.init.lookup F.called_tuple.made (by decide) P w A.in1 _ s₁ ⟨h₁.1, rfl, h₁.2⟩⟩

section
variable {X : Cx} {k : Nat}
/-- tuple(g) -/
def tTupG (tg : TGen) : TE := fun σ H Q => tg σ H fun out H2 => ∀ p, H2 p = none → Q (.ref p) (upd H2 p (.tup out))
theorem pe_tupG {e : Expr} {tg : TGen} {nm : Str} {p pos : Pos} (h : PGen X k e tg noXK) (hr : Room (k + 5) X.A) (hg : Gl X nm) (hmg : X.mg nm = none) (hv : bootBuiltins nm = some (.type "tuple")) (hnm : nm ≠ "__name__" := by decide) (hdb : (nm == ("__debug__" : Str)) = false := by decide)
    (he : starEach [e] X.env = (false, eval e X.env) :: starEach [] X.env := by rfl) : PE X (.Call (.Name nm p) [e] [] pos) (tTupG tg) := by
  refine ⟨fun pins s σ H Q I hq => ?_⟩
  refine wpAny_Call_Name_kw (ld_blt I hg hmg hv ?_ hnm hdb)
  refine PyProof.Rows.callWith_type1 ?_ he rfl
  rw [he]
  show wpAny _ _ (spliced ((false, eval e X.env) :: backTo pos (starEach [] X.env))) _ _ s
  refine Calls.spliced_cons (thn (h.run pins s σ H _ I hq) fun u s1 ⟨H1, sc, ex, I1, hex, hG⟩ => ?_)
  refine Calls.spliced_nil ?_
  obtain ⟨a, eu, hT⟩ : ∃ a, u = .ref a ∧ s1.TypeIs (.ref a) "generator" := by
    obtain ⟨a, g, c, eu, _, _, hgen, _⟩ := hG
    exact ⟨a, eu, hgen.typeIs⟩
  subst eu
  refine call_tuple_gm (hr.mono (by omega)) I1.ok.frames hG hT (fun s' acc H' ys q0 q1 q2 q3 q4 q5 q6 q7 => ?_)
  have J : Inv X pins σ H' s' := I1.call' (ch := ex) q3 q5 q6 q4 hex
  exact ⟨.ref s'.heap.objs.size, upd H' s'.heap.objs.size (.tup ys), J.laid (t' := s'.toks) (o := .tup ys) (h' := s'.heap.push { cls := .type "tuple", data := .seq acc.toArray }) (fun b o e => Heap.get?_push_of_some _ e) (Nat.le_refl _) ⟨q2, acc, q1, IsTup.new _ _⟩, rfl, q7 _ (J.hok.fresh (Nat.le_refl _))⟩
end
end FL
/-! LC: list comprehensions, the new list out of sight until it is whole; the maker's invariant in sight. -/
namespace FL
open PySem PySem.Spec PyProof.Rows L2
open Sem (wp)

section
variable {X : Cx} {pins : List (Addr × Obj)} {σ : L2.St} {H : Hp} {s : Shared}
theorem app_pin {E : Value → Shared → Prop} {D : Addr} {ip : List (Addr × Obj)} {ys : List V} {acc : Array Value} {c : Nat} {y : V} {v : Value} {Q : Value → Shared → Prop} (I : Inv X ((D, lstObj acc c) :: ip) σ H s) (hip : ∀ p ∈ X.pn ++ ip, p.1 ≠ D)
    (h1 : D ∈ X.ex ∨ X.s_0.heap.objs.size ≤ D) (h2 : ∀ x c, X.env.cells.lookup x = some c → c ≠ D) (ra : Vals ys acc.toList) (hz : ys.length < sizeLine) (r : RelV y v)
    (h : ∀ s' acc' c', Vals (ys ++ [y]) acc'.toList → Inv X ((D, lstObj acc' c') :: ip) σ H s' → Q .none s') : wpAny (model X.prog X.w) X.A (call (.builtin "list.append") [.ref D, v]) Q E s := by
  obtain ⟨e, n, nl, nf, _⟩ := I.pin (D, lstObj acc c) (List.mem_append_right _ List.mem_cons_self)
  have hl := ra.length
  have e' : s.heap.get? D = some { cls := .type "list", data := .seq acc.toList.toArray c } := by simpa using e
  refine append_at (hsz := by rw [List.size_toArray]; omega) e' fun h' sb ho' => ?_
  have I0 : Inv X ip σ H s := I.pins_of fun p hp => I.pin p (List.mem_append_right _ (List.mem_cons_of_mem _ hp))
  have J : Inv X ip σ H { s with heap := h' } := I0.turned (t' := s.toks) (fun b o hb q => (sb.2 b hb).trans q) n nl h1 h2 hip
  refine h { s with heap := h' } (acc.toList.toArray.push v) (c + 1) ?_ (J.pins_of fun p hp => ?_)
  · simp only [Array.toList_push]
    exact ra.append (.cons r .nil)
  · rcases List.mem_cons.mp hp with hp | hp
    · rw [hp]
      refine ⟨?_, n, nl, nf, fun v q => by cases q⟩
      rw [ho']
    · exact J.pin p (List.mem_append_right _ hp)
end

section
variable {X : Cx}
/-- [elt for target in iter if ..]: W by the turn, a measure and the items so far -/
def tLc2 (wi : TI) (g : TG) (tt : L2.St → TT) (te : L2.St → TE) (vs : List Nat) : TE := fun σ H Q => wi σ H fun J H1 => ∃ W : Nat → Nat → List V → Hp → Prop, (∃ m, W 0 m [] H1) ∧ ∀ i m ys H, W i m ys H →
  (J.stop i H ∧ ys.length ≤ sizeLine ∧ ∀ p, H p = none → Q (.ref p) (upd H p (.lst ys))) ∨ (J.go i H ∧ ∃ Nx : List V → Hp → Prop, (∀ ys' H', Nx ys' H' → ∃ m', m' < m ∧ W (i + 1) m' ys' H') ∧ ∀ x H', J.yld i H x H' → g x (wipe σ vs) H' fun σ2 H2 => wipe σ2 vs = wipe σ vs ∧ tt σ σ2 H2 fun b H3 =>
    if b = true then te σ σ2 H3 fun y H4 => ys.length < sizeLine ∧ Nx (ys ++ [y]) H4 else Nx ys H3)
theorem lc2_core {pins : List (Addr × Obj)} {s : Shared} {σ : L2.St} {H : Hp} {Q : VK} {elt tg iter : Expr} {ifs : List Expr} {scope : Scope} {own : List (Str × Nat)} {pos pos' : Pos} {wi : TI} {g : TG} {tt : L2.St → TT} {te : L2.St → TE} {use : Option (Value → Sem Unit)} {Qf : Value → Shared → Prop}
    (hc : X.calm = true) (hN : X.N.Nodup) (I : Inv X pins σ H s) (hi : PI X tg iter wi) (ok : BlkOk X.N X.env.scope scope own)
    (hg : ∀ (s : Shared) (H : Hp) (C : Addr) (cl : List (Str × Addr)) (fp : List Addr), PG (X.blk s H scope (compEnvC scope cl C X.env) fp) tg g)
    (ht : ∀ (pins : List (Addr × Obj)) (σ : L2.St) (s : Shared) (H : Hp) (C : Addr) (cl : List (Str × Addr)) (fp : List Addr), Inv X pins σ H s → (∀ b ∈ fp, FpOk X pins H b ∧ b < s.heap.objs.size) → PTs (X.blk s H scope (compEnvC scope cl C X.env) fp) ifs (tt σ))
    (he : ∀ (pins : List (Addr × Obj)) (σ : L2.St) (s : Shared) (H : Hp) (C : Addr) (cl : List (Str × Addr)) (fp : List Addr), Inv X pins σ H s → (∀ b ∈ fp, FpOk X pins H b ∧ b < s.heap.objs.size) → PE (X.blk s H scope (compEnvC scope cl C X.env) fp) elt (te σ))
    (hs : ∀ x, foldedSetIterable iter X.env x = pure x)
    (h : tLc2 wi g tt te (own.map (·.2)) σ H Q)
    (hRR : ∀ D C s' m H', Inv X pins σ H' s' → Q (.ref D) H' → s'.heap.Ns C m → FpOk X pins H' C → compPost (model X.prog X.w) X.A X.xe use Qf (.ref D) C (.ok .next) s') :
    wpAny (model X.prog X.w) X.A (comprehension (.ListComp elt [⟨tg, iter, ifs, 0⟩] scope pos) scope X.env pos' (newList []) false (eval iter X.env) use) Qf X.xe s := by
  have hfree : ∀ y ∈ scope.names, y.2 = .free → ∃ c, X.env.cells.lookup y.1 = some c := fun y hy e => by
    rcases ok.free y hy e with k | k
    · exact I.ok.has _ (.inl k)
    · exact I.ok.has _ (.inr k)
  refine wpAny_comprehension_free (use := use) rfl hs (closure_ok hfree) ok.kind (fun y hy e => by rw [ok.uniq y hy, e])
    (thn (hi.run pins s σ H _ I h) fun xv s1 hx => thn hx fun itv s2 h2 => ?_)
  obtain ⟨it, fp, tn, J, H2, e, I2, T, st2, f2, W, ⟨m0, w0⟩, turn⟩ := h2
  subst e
  refine wpAny_newObj_type (newEnv_comp ?_) (by show 0 ≤ sizeLine; decide)
  generalize hD : s2.heap.objs.size = D
  have hDn : H2 D = none := I2.hok.fresh (Nat.le_of_eq hD)
  -- the new list
  generalize hs3 : ({ s2 with heap := s2.heap.push { cls := .type "list", data := .seq ([] : List Value).toArray } } : Shared) = s3
  have I3 : Inv X pins σ H2 s3 := by
    rw [← hs3]
    exact I2.kept (t' := s2.toks) fun b o e => Heap.get?_push_of_some _ e
  have h3 : s3.heap = s2.heap.push { cls := .type "list", data := .seq ([] : List Value).toArray } := by rw [← hs3]
  have eD : s3.heap.get? D = some (lstObj #[] 0) := by
    rw [h3, ← hD]
    exact Heap.get?_push_size _ rfl
  have sz : ∀ b ∈ fp, b < s2.heap.objs.size := fun b hb => by
    obtain ⟨o, e, _⟩ := T.obj _ _ st2 b hb
    exact Heap.lt_size e
  have fD : FpOk X pins H2 D := I2.fpOk (Nat.le_of_eq hD) hDn
  have lD : D < s3.heap.objs.size := by rw [h3, Heap.size_push, hD]; exact Nat.lt_succ_self _
  have nfD : ∀ b ∈ fp, b ≠ D := fun b hb => by rw [← hD]; exact Nat.ne_of_lt (sz b hb)
  have f3 : ∀ b ∈ D :: fp, FpOk X pins H2 b ∧ b < s3.heap.objs.size := fun b hb => by
    rcases List.mem_cons.mp hb with z | hb
    · rw [z]
      exact ⟨fD, lD⟩
    · exact ⟨f2 b hb, by rw [h3, Heap.size_push]; exact Nat.lt_succ_of_lt (sz b hb)⟩
  have st3 : tn 0 s3.heap := T.keep _ _ _ st2 fun b _ o e => by rw [h3]; exact Heap.get?_push_of_some _ e
  have I4 := block_start I3 ok hN f3
  have pg := hg s3 H2 s3.heap.objs.size (cellsFrom (s3.heap.objs.size + 1) scope.names (cloFrom X.env.cells scope.names [])) (D :: fp)
  have pt := ht pins σ s3 H2 s3.heap.objs.size (cellsFrom (s3.heap.objs.size + 1) scope.names (cloFrom X.env.cells scope.names [])) (D :: fp) I3 f3
  have pe := he pins σ s3 H2 s3.heap.objs.size (cellsFrom (s3.heap.objs.size + 1) scope.names (cloFrom X.env.cells scope.names [])) (D :: fp) I3 f3
  show codeAny _ _ (.compStart (.ListComp elt [⟨tg, iter, ifs, 0⟩] scope pos) 0 (.ref it) (.ref D) (compEnvC scope (cellsFrom (s3.heap.objs.size + 1) scope.names (cloFrom X.env.cells scope.names [])) s3.heap.objs.size X.env)) (compPost (model X.prog X.w) X.A X.xe use Qf (.ref D) s3.heap.objs.size) { s3 with heap := pushCells (s3.heap.push { cls := .type "dict", data := .dict #[] }) scope.names }
  generalize hce : compEnvC scope (cellsFrom (s3.heap.objs.size + 1) scope.names (cloFrom X.env.cells scope.names [])) s3.heap.objs.size X.env = ce at I4 pg pt pe ⊢
  have cL : ce.locals = s3.heap.objs.size := by subst hce; rfl
  generalize hs4 : ({ s3 with heap := pushCells (s3.heap.push { cls := .type "dict", data := .dict #[] }) scope.names } : Shared) = s4 at I4 ⊢
  have kp4 : ∀ b o, s3.heap.get? b = some o → s4.heap.get? b = some o := fun b o e => by rw [← hs4]; exact pushCells_keeps _ _ _ _ (Heap.get?_push_of_some _ e)
  have st4 : tn 0 s4.heap := T.keep _ _ _ st3 fun b _ o e => kp4 b o e
  have exY : (X.blk s3 H2 scope ce (D :: fp)).ex = D :: fp := rfl
  have dY : ∀ {σ' : L2.St} {H' : Hp} {s' : Shared} {pi : List (Addr × Obj)}, Inv (X.blk s3 H2 scope ce (D :: fp)) pi σ' H' s' → ∀ b ∈ D :: fp, b ≠ ce.locals ∧ b ∉ (X.blk s3 H2 scope ce (D :: fp)).fs ∧ ∀ x c, ce.cells.lookup x = some c → c ≠ b := fun I' b hb =>
    ⟨(I'.ok.exf b hb).1, I'.ok.exfs b hb, (I'.ok.exf b hb).2⟩
  have stat : ∀ {σ' : L2.St} {H' : Hp} {s' : Shared} {acc : Array Value} {c : Nat}, Inv (X.blk s3 H2 scope ce (D :: fp)) [(D, lstObj acc c)] σ' H' s' → (∀ b ∈ fp, H' b = none) → ∀ b ∈ fp, FpOk (X.blk s3 H2 scope ce (D :: fp)) [(D, lstObj acc c)] H' b := fun {σ' H' s' acc c} I' hn b hb => by
    obtain ⟨d1, d2, d3⟩ := dY I' b (List.mem_cons_of_mem _ hb)
    refine ⟨hn b hb, d1, d2, .inl (List.mem_cons_of_mem _ hb), d3, fun p hp => ?_⟩
    have hp : p ∈ [] ++ [(D, lstObj acc c)] := hp
    rw [List.nil_append] at hp
    rw [List.mem_singleton.mp hp]
    exact Ne.symm (nfD b hb)
  have I4' : Inv (X.blk s3 H2 scope ce (D :: fp)) [(D, lstObj #[] 0)] (wipe σ (own.map (·.2))) H2 s4 := I4.pins_of fun p hp => by
    rw [List.mem_singleton.mp hp]
    obtain ⟨d1, d2, d3⟩ := dY I4 D List.mem_cons_self
    exact ⟨kp4 D _ eD, hDn, d1, d2, fun v q => by cases q⟩
  have loop : codeAny (model X.prog X.w) X.A (.compLoop (.ListComp elt [⟨tg, iter, ifs, 0⟩] scope pos) 0 (.ref it) (.ref D) ce) (compPost (model X.prog X.w) X.A X.xe use Qf (.ref D) s3.heap.objs.size) s4 := by
    refine compLoop_any (fun n s' => ∃ i H' ys acc c, Vals ys acc.toList ∧ Inv (X.blk s3 H2 scope ce (D :: fp)) [(D, lstObj acc c)] (wipe σ (own.map (·.2))) H' s' ∧ tn i s'.heap ∧ (∀ b ∈ fp, H' b = none) ∧ W i n ys H') ?_ m0 ⟨0, H2, [], #[], 0, .nil, I4', st4, fun b hb => (f2 b hb).1, w0⟩
    rintro n s5 ⟨i, H5, ys, acc, c, ra, I5, st5, n5, w5⟩
    rcases turn i n ys H5 w5 with ⟨stop, hz, qq⟩ | ⟨go, Nx, hNx, step⟩
    · have td := T.done (X.blk s3 H2 scope ce (D :: fp)) rfl rfl rfl hc i _ s5 _ H5 (fun _ _ => False) I5 (stat I5 n5) st5 stop
      refine thnF td fun r s6 ⟨hr, I6⟩ => ?_
      subst hr
      obtain ⟨e6, nD6, d1, d2, _⟩ := I6.pin (D, lstObj acc c) (List.mem_append_right _ List.mem_cons_self)
      -- back in the def's context
      have I7 : Inv X pins σ H5 s6 := I3.call' (ch := D :: fp) I6.os I6.base I6.hok I6.bare fun b hb => ⟨(f3 b hb).1.2.2.2.1, (f3 b hb).1.2.1, (f3 b hb).1.2.2.2.2.1, (f3 b hb).1.2.2.2.2.2⟩
      -- the list is known from now on
      have I8 : Inv X pins σ (upd H5 D (.lst ys)) s6 := by
        have nL := fD.2.1
        have nC := fD.2.2.2.2.1
        have nP := fD.2.2.2.2.2
        refine I3.call' (ch := D :: fp) I6.os ⟨I6.base.keep, I6.base.slot, fun b ob q n hx => ?_, I6.base.there, fun b xs q => ?_, fun b ob y q => ?_, fun b qs q => ?_⟩ (fun b u q => ?_) I6.bare fun b hb => ⟨(f3 b hb).1.2.2.2.1, (f3 b hb).1.2.1, (f3 b hb).1.2.2.2.2.1, (f3 b hb).1.2.2.2.2.2⟩
        · rw [upd_ne (fun z => hx (by rw [z]; exact List.mem_cons_self))]
          exact I6.base.free b ob q n hx
        · have q2 := I6.base.tups b xs q
          rw [upd_ne (ne_of_none q2 nD6)]; exact q2
        · have q2 := I6.base.frzs b ob y q
          rw [upd_ne (ne_of_none q2 nD6)]; exact q2
        · obtain ⟨more, q2⟩ := I6.base.tbls b qs q
          exact ⟨more, by rw [upd_ne (ne_of_none q2 nD6)]; exact q2⟩
        · by_cases hb : b = D
          · subst hb
            rw [upd_same] at q
            cases q
            exact ⟨hz, acc.toList, c, ra, by rw [e6]⟩
          · rw [upd_ne hb] at q
            exact (I6.hok b u q).stay (fun _ _ _ z => z) (fun d z => by rw [upd_ne (ne_of_none z nD6)]; exact z) fun d xs z => by rw [upd_ne (ne_of_none z nD6)]; exact z
      have nC : H5 s3.heap.objs.size = none := by
        have z : H5 ce.locals = none := I6.free
        rw [cL] at z
        exact z
      obtain ⟨m, hn, _⟩ := I6.loc
      have hn : s6.heap.Ns ce.locals m := hn
      rw [cL] at hn
      exact hRR D s3.heap.objs.size s6 m _ I8 (qq D nD6) hn (I3.fpOk (Nat.le_refl _) (by rw [upd_ne (Nat.ne_of_gt lD)]; exact nC))
    · have ti := T.item (X.blk s3 H2 scope ce (D :: fp)) rfl rfl rfl hc i _ s5 _ H5 (fun _ _ => False) I5 (stat I5 n5) st5 go
      refine thnF ti fun r s6 ⟨u, hr, h6⟩ => ?_
      subst hr
      refine thnF h6 fun _ s7 ⟨x, H7, I7, r7, y7, st7, n7⟩ => ?_
      have I7' := I7.pinned (stat I7 n7) (T.obj _ _ st7)
      refine thnF (pg.run _ s7 _ H7 x u _ I7' r7 (step x H7 y7)) fun _ s8 ⟨σ8, H8, I8, hw8, q8⟩ => ?_
      refine thnF (pt.run _ s8 σ8 H8 _ I8 q8) fun b s9 ⟨H9, I9, q9⟩ => ?_
      -- the turn's end
      have fin : ∀ {s' : Shared} {H' : Hp} {ys' : List V} {acc' : Array Value} {c' : Nat}, Vals ys' acc'.toList → Inv (X.blk s3 H2 scope ce (D :: fp)) ((D, lstObj acc' c') :: pinsAt fp s7.heap) σ8 H' s' → Nx ys' H' →
          ∃ m, m < n ∧ ∃ i H' ys acc c, Vals ys acc.toList ∧ Inv (X.blk s3 H2 scope ce (D :: fp)) [(D, lstObj acc c)] (wipe σ (own.map (·.2))) H' s' ∧ tn i s'.heap ∧ (∀ b ∈ fp, H' b = none) ∧ W i m ys H' := fun {s' H' ys' acc' c'} ra' I' nx => by
        obtain ⟨m', hm, w'⟩ := hNx ys' H' nx
        have pin' : ∀ b ∈ fp, ∀ o, s7.heap.get? b = some o → s'.heap.get? b = some o ∧ H' b = none := fun b hb o e =>
          let z := I'.pin (b, o) (List.mem_append_right _ (List.mem_cons_of_mem _ (mem_pinsAt hb e)))
          ⟨z.1, z.2.1⟩
        have hl : (wipe σ (own.map (·.2))).length = σ8.length := by rw [← hw8, wipe_length]
        refine ⟨m', hm, i + 1, H', ys', acc', c', ra', (Inv.weak (σ := σ8) (I'.pins_of fun p hp => ?_) hl fun j v e => ?_), T.keep _ _ _ st7 fun b hb o e => (pin' b hb o e).1, fun b hb => ?_, w'⟩
        · exact I'.pin p (List.mem_append_right _ (by rw [List.mem_singleton.mp hp]; exact List.mem_cons_self))
        · rw [← hw8] at e
          exact (wipe_some e).1
        · obtain ⟨o, e, _⟩ := T.obj _ _ st7 b hb
          exact (pin' b hb o e).2
      cases b with
      | false =>
        simp only [Bool.false_eq_true, if_false] at q9 ⊢
        exact fin ra I9 q9
      | true =>
        simp only [if_true] at q9 ⊢
        refine thnF (pe.run _ s9 σ8 H9 _ I9 q9) fun z s10 ⟨yv, H10, I10, r10, hz10, nx⟩ => ?_
        refine app_pin (X := X.blk s3 H2 scope ce (D :: fp)) (ip := pinsAt fp s7.heap) I10 (fun p hp => ?_) (.inl List.mem_cons_self) (dY I10 D List.mem_cons_self).2.2 ra hz10 r10 fun s11 acc' c' ra' I11 => fin ra' I11 nx
        have hp : p ∈ [] ++ pinsAt fp s7.heap := hp
        rw [List.nil_append] at hp
        exact nfD p.1 (of_pinsAt hp).1
  exact codeAny_compStart_list loop (T.self X.A 0 _ _ _ st4 loop)
/-- as a value -/
theorem pe_lc2 {elt tg iter : Expr} {ifs : List Expr} {scope : Scope} {own : List (Str × Nat)} {pos : Pos} {wi : TI} {g : TG} {tt : L2.St → TT} {te : L2.St → TE} (hc : X.calm = true) (hN : X.N.Nodup) (hi : PI X tg iter wi) (ok : BlkOk X.N X.env.scope scope own)
    (hg : ∀ (s : Shared) (H : Hp) (C : Addr) (cl : List (Str × Addr)) (fp : List Addr), PG (X.blk s H scope (compEnvC scope cl C X.env) fp) tg g)
    (ht : ∀ (pins : List (Addr × Obj)) (σ : L2.St) (s : Shared) (H : Hp) (C : Addr) (cl : List (Str × Addr)) (fp : List Addr), Inv X pins σ H s → (∀ b ∈ fp, FpOk X pins H b ∧ b < s.heap.objs.size) → PTs (X.blk s H scope (compEnvC scope cl C X.env) fp) ifs (tt σ))
    (he : ∀ (pins : List (Addr × Obj)) (σ : L2.St) (s : Shared) (H : Hp) (C : Addr) (cl : List (Str × Addr)) (fp : List Addr), Inv X pins σ H s → (∀ b ∈ fp, FpOk X pins H b ∧ b < s.heap.objs.size) → PE (X.blk s H scope (compEnvC scope cl C X.env) fp) elt (te σ))
    (hs : ∀ x, foldedSetIterable iter X.env x = pure x := by intro _; rfl) :
    PE X (.ListComp elt [⟨tg, iter, ifs, 0⟩] scope pos) (tLc2 wi g tt te (own.map (·.2))) := by
  refine ⟨fun pins s σ H Q I h => ?_⟩
  rw [eval_ListComp]
  refine lc2_core hc hN I hi ok hg ht he hs h fun D C s' m H' I' q hn f => ⟨m, hn, fun h'' sb => ?_⟩
  obtain ⟨f0, f1, f2, f3, f4, f5⟩ := f
  exact ⟨.ref D, H', I'.turned (t' := s'.toks) (fun b o hb e => (sb.2 b hb).trans e) f0 f1 f3 f4 f5, rfl, q⟩
/-- name = [..] on one line, the name a local -/
theorem ps_setLc2 {i : Nat} {y : Str} {py : Pos} {elt tg iter : Expr} {ifs : List Expr} {scope : Scope} {own : List (Str × Nat)} {pos spos : Pos} {wi : TI} {g : TG} {tt : L2.St → TT} {te : L2.St → TE} (hc : X.calm = true) (hN : X.N.Nodup) (hy : X.N[i]? = some y) (hyl : X.env.scope.names.lookup y = some .local)
    (hsw : swapsWith (.ListComp elt [⟨tg, iter, ifs, 0⟩] scope pos) (some (.Name y py)) spos.line X.env = pure true) (hi : PI X tg iter wi) (ok : BlkOk X.N X.env.scope scope own)
    (hg : ∀ (s : Shared) (H : Hp) (C : Addr) (cl : List (Str × Addr)) (fp : List Addr), PG (X.blk s H scope (compEnvC scope cl C X.env) fp) tg g)
    (ht : ∀ (pins : List (Addr × Obj)) (σ : L2.St) (s : Shared) (H : Hp) (C : Addr) (cl : List (Str × Addr)) (fp : List Addr), Inv X pins σ H s → (∀ b ∈ fp, FpOk X pins H b ∧ b < s.heap.objs.size) → PTs (X.blk s H scope (compEnvC scope cl C X.env) fp) ifs (tt σ))
    (he : ∀ (pins : List (Addr × Obj)) (σ : L2.St) (s : Shared) (H : Hp) (C : Addr) (cl : List (Str × Addr)) (fp : List Addr), Inv X pins σ H s → (∀ b ∈ fp, FpOk X pins H b ∧ b < s.heap.objs.size) → PE (X.blk s H scope (compEnvC scope cl C X.env) fp) elt (te σ))
    (hs : ∀ x, foldedSetIterable iter X.env x = pure x := by intro _; rfl) :
    PS X (.Assign [.Name y py] (.ListComp elt [⟨tg, iter, ifs, 0⟩] scope pos) spos) (tAsg (tLc2 wi g tt te (own.map (·.2))) (gName i)) := by
  refine ⟨fun pins s σ H D I h => ?_⟩
  rw [exec_Assign_Name_used _ _ _ _ hsw]
  refine wpAny_bind (wpAny_standAt (wpAny_bind ?_))
  show wpAny _ X.A (do let _ ← comprehension (.ListComp elt [⟨tg, iter, ifs, 0⟩] scope pos) scope X.env (firstIterPos [⟨tg, iter, ifs, 0⟩] pos) (newList []) false (eval iter X.env) (some (assign (.Name y py) X.env))) _ _ s
  have h : tLc2 wi g tt te (own.map (·.2)) σ H (fun x H1 => gName i x σ H1 D.nx) := h
  refine wpAny_bind (thn (lc2_core (Qf := fun _ s' => SP X pins D .next s') hc hN I hi ok hg ht he hs h fun L C s' m H' I' q hn f => ?_) fun _ s' hq => wpAny_pure (wpAny_pure hq))
  show wpAny _ _ (assign (.Name y py) X.env (.ref L)) _ _ _
  refine wpAny_assign_Name (store_ok2 (v := V.ref L) I' hN hy (.inl hyl) rfl (fun s2 I2 ⟨a, sb, ha⟩ => ?_) (.inr hyl))
  obtain ⟨f0, f1, f2, f3, f4, f5⟩ := f
  have haC : C ≠ a := by
    rcases ha with z | z
    · rw [z]; exact f1
    · exact fun e => f4 y a z e.symm
  refine ⟨m, hn.sameBut sb haC, fun h3 sb3 => ?_⟩
  exact ⟨_, H', I2.turned (t' := s2.toks) (fun b o hb e => (sb3.2 b hb).trans e) f0 f1 f3 f4 f5, q⟩
end
end FL
/-! EN: enumerate of a tuple; what is walked: a list, a tuple or a text. -/
namespace FL
open PySem PySem.Spec PyProof.Rows L2
open Sem (wp)

theorem meets_enumerate_new1 {v : Value} {o : Obj} {H : Heap → Prop} (B : Begins v o H) :
    Meets (Builtin.«enumerate.__new__» ⟨[.type "enumerate", v], []⟩) (fun _ R s => H s.heap ∧
      R (.ok (.ret (.ref (s.heap.push o).objs.size))) { s with heap := (s.heap.push o).push { cls := .type "enumerate", data := .fields #[.none, .bool false, .ref s.heap.objs.size, rawInt 0, .none, .none] } }) :=
  .of_wp fun prog w A R s h => by
    obtain ⟨hp, g, d, tk, os⟩ := s; obtain ⟨h1, h⟩ := h
    have hsub := sub_enumerate
    have q1 : ∀ {A' : Around} {E : Value → Shared → Prop} {Q : Value → Shared → Prop}, Q (.ref hp.objs.size) ⟨hp.push o, g, d, tk, os⟩ → wpAny (model prog w) A' (pyIter v) Q E ⟨hp, g, d, tk, os⟩ :=
      fun q => B.iter prog w _ _ ⟨hp, g, d, tk, os⟩ _ h1 q
    wp_walk using q1
    refine wpAny_stack_any fun st => wpAny_pure ?_
    split
    · rename_i c _ _ _ _ _
      cases (c == Value.type "enumerate")
      · wp_walk using q1
        exact ⟨_, rfl, h⟩
      · wp_walk using q1
        exact ⟨_, rfl, h⟩
    · wp_walk using q1
      exact ⟨_, rfl, h⟩
section
variable {prog : Program} {w : World} {A : Around} {E : Value → Shared → Prop} {s : Shared}
theorem enum_begins1 {v : Value} {o : Obj} {H : Heap → Prop} {Q : Value → Shared → Prop} (B : Begins v o H) (h1 : H s.heap)
    (h : ∀ h', IsEnum h' (s.heap.objs.size + 1) s.heap.objs.size 0 .none → h'.get? s.heap.objs.size = some o → h'.objs.size = s.heap.objs.size + 2 →
      (∀ b o, s.heap.get? b = some o → h'.get? b = some o) → Q (.ref (s.heap.objs.size + 1)) { s with heap := h' }) :
    wpAny (model prog w) A (call (.type "enumerate") [v]) Q E s := by
  refine callType_new F.called_enumerate (by decide) (F.typeCall_enumerate_1 _) (F.newCall_enumerate_1 _) (fun obj => F.args_object_init_2 obj _) F.entry_enumerate_new
    (meets_enumerate_new1 B) ⟨h1, ?_⟩
  have hz : (s.heap.push o).objs.size = s.heap.objs.size + 1 := Heap.size_push ..
  show _ ∧ _
  rw [hz]
  have he : IsEnum ((s.heap.push o).push { cls := .type "enumerate", data := .fields #[.none, .bool false, .ref s.heap.objs.size, rawInt 0, .none, .none] }) (s.heap.objs.size + 1) s.heap.objs.size 0 .none := by
    have := Heap.get?_push_size (s.heap.push o) (o := { cls := .type "enumerate", data := .fields #[.none, .bool false, .ref s.heap.objs.size, rawInt 0, .none, .none] }) rfl
    rw [hz] at this; exact this
  refine ⟨⟨_, he, rfl⟩, h _ he (Heap.get?_push_of_some _ (Heap.get?_push_size _ B.free)) (by rw [Heap.size_push, hz]) fun b o x => Heap.get?_push_of_some _ (Heap.get?_push_of_some _ x)⟩
end
/-- the tuple at a, each item in a new pair -/
def IteT (K : PySem.W.Frag) (a : Addr) : It :=
  ⟨fun i H => ∃ (xs : List V) (x : V), SqT K H a xs ∧ xs[i]? = some x, fun i H v H' => ∃ T x, v = .ref T ∧ H T = none ∧ H' = upd H T (.tup [.int (i : Nat), x]) ∧ ∀ xs, SqT K H a xs → xs[i]? = some x, fun i H => ∃ xs : List V, SqT K H a xs ∧ xs.length = i⟩
theorem turn_enumT {P : Program} {w : World} {K : PySem.W.Frag} {elts : List Expr} {kk : Nat} {tpos : Pos} (a e it : Addr) :
    Turn P w K (.Tuple elts kk tpos) (IteT K a) [e, it] e (fun i h => (∃ old, IsEnum h e it ((i : Nat) : Int) old) ∧ h.IsTupleIter it a i ∧ e ≠ it) where
  mem := by simp
  obj := fun i h st b hb => by
    obtain ⟨⟨old, he⟩, ⟨o, ho, hc, hd⟩, _⟩ := st
    have e' : b = e ∨ b = it := by simpa using hb
    rcases e' with z | z
    · rw [z]; exact ⟨_, he, fun v q => nomatch q⟩
    · rw [z]; exact ⟨o, ho, fun v q => by rw [hd] at q; cases q⟩
  keep := fun i h h' st k => let ⟨⟨old, he⟩, hi, hne⟩ := st; ⟨⟨old, k e (by simp) _ he⟩, hi.at fun o q => k it (by simp) o q, hne⟩
  item := by
    intro X hP hw hK hc i pins s σ H E I hf st hg
    subst hP hw hK
    obtain ⟨⟨old, he⟩, hit, hne⟩ := st
    obtain ⟨xs, x, hq, hx⟩ := hg
    obtain ⟨its, rv, p, hz⟩ := I.tuple hq
    obtain ⟨u, hu, ru⟩ := rv.get hx
    have hel : e < s.heap.objs.size := Heap.lt_size he
    have hil : it < s.heap.objs.size := by obtain ⟨_, q, _⟩ := hit; exact Heap.lt_size q
    have hai : a ≠ it := fun z => by
      obtain ⟨o, q1, q2, _⟩ := hit
      obtain ⟨o', q3, q4, _⟩ := p
      rw [z, q1] at q3; cases q3; rw [q2] at q4; exact absurd q4 (by decide)
    have hae : a ≠ e := fun z => by
      obtain ⟨o', q3, q4, _⟩ := p
      have he' : s.heap.get? e = some _ := he
      rw [z, he'] at q3; cases q3; exact absurd (show Value.type "enumerate" = Value.type "tuple" from q4) (by decide)
    have hj : i < its.toArray.size := by
      have := (List.getElem?_eq_some_iff.mp hu).1
      simpa using this
    refine wpAny_pyNext_enum_itemD (Draws.tuple (A := X.A.in1) (I.ok.hd hc) it a hai its.toArray) he ⟨hit, p⟩ hj hne (by simp; exact ⟨hne, Ne.symm hae⟩) fun x2 h' tk hx2 ho hit' hT hsz hk => ?_
    have ex2 : x2 = u := by
      have h3 : its[i]? = some x2 := by simpa using hx2
      rw [hu] at h3
      exact (Option.some.inj h3).symm
    subst ex2
    refine ⟨_, rfl, wpAny_letOwnedTupleGo_enum (s := { s with heap := h', toks := tk + 1 }) ho fun h'' he' sb => ?_⟩
    have hT2 : h''.get? s.heap.objs.size = some { cls := .type "tuple", data := .seq #[.int i tk, x2] } := (sb.2 _ (Nat.ne_of_gt hel)).trans hT
    have new : ObjOk X.prog X.w (upd H s.heap.objs.size (.tup [.int (i : Nat), x])) h'' s.heap.objs.size (.tup [.int (i : Nat), x]) :=
      ⟨by show 2 ≤ sizeLine; decide, [.int i tk, x2], .cons ⟨_, rfl⟩ (.cons ru .nil), ⟨_, hT2, rfl, _, rfl⟩⟩
    have I1 : Inv X pins σ (upd H s.heap.objs.size (.tup [.int (i : Nat), x])) { s with heap := h'', toks := tk + 1 } :=
      I.turnedNew (ch := [e, it]) (fun b ob hb q => (sb.2 b (fun z => hb (by simp [z]))).trans (hk b ob (fun z => hb (by simp [z])) (fun z => hb (by simp [z])) q)) hf (Nat.le_refl _) new
    refine ⟨.ref s.heap.objs.size, _, I1, rfl, ⟨_, x, rfl, I.hok.fresh (Nat.le_refl _), rfl, fun ys hy => by rw [I.tuple_inj hy hq]; exact hx⟩, ⟨⟨x2, ?_⟩, hit'.1.at fun o q => (sb.2 it (Ne.symm hne)).trans q, hne⟩, fun b hb => ?_⟩
    · have e1 : ((i + 1 : Nat) : Int) = (i : Int) + 1 := by omega
      rw [e1]; exact he'
    · have hb' : b < s.heap.objs.size := by
        have e' : b = e ∨ b = it := by simpa using hb
        rcases e' with z | z
        · rw [z]; exact hel
        · rw [z]; exact hil
      rw [upd_ne (Nat.ne_of_lt hb')]
      exact (hf b hb).1
  done := by
    intro X hP hw hK hc i pins s σ H E I hf st hg
    subst hP hw hK
    obtain ⟨⟨old, he⟩, hit, hne⟩ := st
    obtain ⟨xs, hq, hx⟩ := hg
    obtain ⟨its, rv, p, hz⟩ := I.tuple hq
    obtain ⟨f0, f1, f2, f3, f4, f5⟩ := hf it (by simp)
    have hl := rv.length
    have hai : a ≠ it := fun z => by
      obtain ⟨o, q1, q2, _⟩ := hit
      obtain ⟨o', q3, q4, _⟩ := p
      rw [z, q1] at q3; cases q3; rw [q2] at q4; exact absurd q4 (by decide)
    have hsz : its.toArray.size = i := by simp; omega
    refine wpAny_pyNext_enum_endD (Draws.tuple (A := X.A.in1) (I.ok.hd hc) it a hai its.toArray) he (by rw [hsz]; exact ⟨hit, p⟩) fun h' eb => ⟨rfl, I.turned (t' := s.toks) (fun b o hb q => eb b o hb q) f0 f1 f3 f4 f5⟩
  self := fun A i s Q E st h => let ⟨⟨_, he⟩, _⟩ := st; wpAny_pyIter_enum he h

section
variable {X : Cx} {tg : Expr}
/-- enumerate(e), e a list or a tuple -/
def iEnumA (K : PySem.W.Frag) (ta : TA) : TI := fun σ H R => ta σ H fun vs H1 => ∃ a, vs = [.ref a] ∧ ((∃ xs, SqL K H1 a xs ∧ R (Ite K a) H1) ∨ ∃ xs, SqT K H1 a xs ∧ R (IteT K a) H1)
theorem pi_enumA {e : Expr} {ta : TA} {p pos tpos : Pos} {elts : List Expr} {kk : Nat} (hg : Gl X "enumerate") (hm : X.mg "enumerate" = none) (ha : PA X [e] ta) (hs : starEach [e] X.env = [(false, eval e X.env)] := by rfl) :
    PI X (.Tuple elts kk tpos) (.Call (.Name "enumerate" p) [e] [] pos) (iEnumA X.K ta) := by
  refine ⟨fun pins s σ H R I h => ?_⟩
  refine Call_ (ld_blt I hg hm boot_enumerate (PyProof.Rows.callWith_type1 (thn (ha.run pos pins s σ H _ I h) fun us s1 ⟨vs, H1, I1, r1, q1⟩ => ?_) hs rfl))
  obtain ⟨a, ex, q1⟩ := q1
  subst ex
  cases r1 with
  | cons r rr =>
    cases rr
    cases r
    have fin : ∀ {h' : Heap} {J : It} {tn : Nat → Heap → Prop}, (∀ b o, s1.heap.get? b = some o → h'.get? b = some o) → IsEnum h' (s1.heap.objs.size + 1) s1.heap.objs.size 0 .none → R J H1 → tn 0 h' →
        Turn X.prog X.w X.K (.Tuple elts kk tpos) J [s1.heap.objs.size + 1, s1.heap.objs.size] (s1.heap.objs.size + 1) tn →
        PIE X pins σ (.Tuple elts kk tpos) R (.ref (s1.heap.objs.size + 1)) { s1 with heap := h' } := fun {h' J tn} hk he q st T => by
      have I2 : Inv X pins σ H1 { s1 with heap := h' } := I1.kept (t' := s1.toks) hk
      refine ⟨s1.heap.objs.size + 1, [s1.heap.objs.size + 1, s1.heap.objs.size], _, _, H1, rfl, I2, T, st, fun b hb => ?_, q⟩
      have e' : b = s1.heap.objs.size + 1 ∨ b = s1.heap.objs.size := by simpa using hb
      have hle : s1.heap.objs.size ≤ b := by
        rcases e' with z | z
        · rw [z]; exact Nat.le_add_right _ _
        · rw [z]; exact Nat.le_refl _
      exact I1.fpOk hle (I1.hok.fresh hle)
    rcases q1 with ⟨xs, hq, q⟩ | ⟨xs, hq, q⟩
    · obtain ⟨its, rv, p', hz⟩ := I1.list hq
      refine call_enumerate_list p'.isList fun h' he hit hsz hk => wpAny_pyIter_enum he ?_
      exact fin hk he q ⟨⟨.none, he⟩, hit, Nat.succ_ne_self _⟩ (turn_enum a (s1.heap.objs.size + 1) s1.heap.objs.size)
    · obtain ⟨its, rv, p', hz⟩ := I1.tuple hq
      refine enum_begins1 (begins_tuple a its.toArray) p' fun h' he hit hsz hk => wpAny_pyIter_enum he ?_
      exact fin hk he q ⟨⟨.none, he⟩, ⟨_, hit, rfl, rfl⟩, Nat.succ_ne_self _⟩ (turn_enumT a (s1.heap.objs.size + 1) s1.heap.objs.size)
/-- a list, a tuple, a text -/
def iAny (K : PySem.W.Frag) (te : TE) : TI := fun σ H R => te σ H fun v H1 => (∃ a, v = .ref a ∧ ((∃ xs, SqL K H1 a xs) ∧ R (Itl K a) H1 ∨ (∃ xs, SqT K H1 a xs) ∧ R (Itt K a) H1)) ∨ ∃ x, v = .str x ∧ R (Its x) H1
theorem pi_any {l : Expr} {tl : TE} (hl : PE X l tl) : PI X tg l (iAny X.K tl) := by
  refine ⟨fun pins s σ H R I h => ?_⟩
  refine thn (hl.run pins s σ H _ I h) fun v s1 ⟨y, H1, I1, r1, q1⟩ => ?_
  rcases q1 with ⟨a, e, q1⟩ | ⟨x, ex, q⟩
  · subst e
    cases r1
    rcases q1 with ⟨⟨xs, hq⟩, q⟩ | ⟨⟨xs, hq⟩, q⟩
    · obtain ⟨its, rv, p, hz⟩ := I1.list hq
      refine wpAny_pyIter_list p.isList ?_
      exact pi_one (tk := s1.toks) I1 _ (turn_list a _) ⟨_, Heap.get?_push_size _ rfl, rfl, rfl⟩ q
    · obtain ⟨its, rv, p, hz⟩ := I1.tuple hq
      refine wpAny_pyIter_tuple (show s1.heap.IsTuple a its.toArray from p) ?_
      exact pi_one (tk := s1.toks) I1 _ (turn_tuple a _) ⟨_, Heap.get?_push_size _ rfl, rfl, rfl⟩ q
  · subst ex
    obtain ⟨t, rfl⟩ := r1
    cases ha : x.cps.all (· < 128)
    · exact wpAny_pyIter_wide ha (pi_one (tk := s1.toks) I1 _ (turn_str _ x t "str_iterator" (.inr rfl)) ⟨_, Heap.get?_push_size _ rfl, rfl, rfl⟩ q)
    · exact wpAny_pyIter_ascii ha (pi_one (tk := s1.toks) I1 _ (turn_str _ x t "str_ascii_iterator" (.inl rfl)) ⟨_, Heap.get?_push_size _ rfl, rfl, rfl⟩ q)
end
end FL
/-! FB: data over the hand layer: values as data, a store of the objects that change, readings of data. -/
namespace FL
open PySem PySem.Spec PyProof.Rows L2

/-- a value as data: lists here are never changed; a changed object is told by its number in the store; fn: a lambda; tpk: a tuple whose object is known -/
inductive D where
  | non | bl (b : Bool) | int (i : Int) | str (x : Str) | tup (l : List D) | tpk (l : List D) | lst (l : List D) | ref (i : Nat) | fn (k : Nat) | raw (v : V)
/-- an object of the store; dctR: a dict that is only read from now on -/
inductive DO where
  | lst (l : List D) | dct (l : List (Key × D)) | dctR (l : List (Key × D)) | ins (C : Addr) (fs : List (Str × D)) | dctN (n : Nat) | gone
abbrev SD := List DO
/-- what stands fixed: the module's objects, the tables of defs with generator expressions, with lambdas, how a lambda lies -/
structure Wd where
  K : PySem.W.Frag
  tg : List Addr
  tl : List (Addr × Str)
  fnp : Nat → V → List Addr → Hp → Prop
  fnm : ∀ k v (m m' : List Addr) (H H' : Hp), (∀ a φ, H a = some (.ext φ) → H' a = some (.ext φ)) → (∀ a o xs, H a = some (.frz o (.lst xs)) → H' a = some (.frz o (.lst xs))) → (∀ a xs, H a = some (.lst xs) → a ∉ m → H' a = some (.lst xs) ∧ a ∉ m') → fnp k v m H → fnp k v m' H'
  lk : List Nat
/-- the store's dict number i is locked: it is walked -/
def Lkd (m : List Addr) (H : Hp) (i : Nat) : Prop := ∃ a o kvs, m[i]? = some a ∧ H a = some (.frz o (.dK kvs))
/-- .. besides the others -/
abbrev Wd.lock (W : Wd) (i : Nat) : Wd := { W with lk := i :: W.lk }

section
variable (W : Wd) (m : List Addr) (H : Hp)
mutual
/-- the value v stands for the data -/
def Is : D → V → Prop
  | .non, v => v = .non
  | .bl b, v => v = .bl b
  | .int i, v => v = .int i
  | .str x, v => v = .str x
  | .tup l, v => ∃ a vs, v = .ref a ∧ SqT W.K H a vs ∧ IsL l vs
  | .tpk l, v => ∃ a vs o, v = .ref a ∧ (H a = some (.frz o (.tup vs)) ∧ o.dict = none) ∧ IsL l vs
  | .lst l, v => ∃ a vs, v = .ref a ∧ H a = some (.lst vs) ∧ a ∉ m ∧ IsL l vs
  | .ref i, v => ∃ a, m[i]? = some a ∧ v = .ref a
  | .fn k, v => W.fnp k v m H
  | .raw w, v => v = w
def IsL : List D → List V → Prop
  | [], vs => vs = []
  | d :: l, vs => ∃ v r, vs = v :: r ∧ Is d v ∧ IsL l r
end
def IsK : List (Key × D) → List (Key × V) → Prop
  | [], vs => vs = []
  | (k, d) :: l, vs => ∃ v r, vs = (k, v) :: r ∧ Is W m H d v ∧ IsK l r
end

/-- what an object of the store may be -/
def Own : Option HO → Prop
  | some (.lst _) => True
  | some (.dK _) => True
  | some (.dT _) => True
  | some (.frz _ (.dK _)) => True
  | some (.ins _ _ _) => True
  | _ => False
/-- what a step keeps: the map grows by new objects; all that was told stands, but the store's objects and the tables -/
structure Stp (m : List Addr) (H : Hp) (m' : List Addr) (H' : Hp) : Prop where
  pre : ∃ r, m' = m ++ r ∧ ∀ p ∈ r, H p = none
  keep : ∀ a o, H a = some o → a ∉ m → (∀ ps, o ≠ .tbl ps) → H' a = some o
  frz : ∀ a o u, H a = some (.frz o u) → H' a = some (.frz o u)
  dom : ∀ a, H' a = none → H a = none
theorem Stp.refl (m : List Addr) (H : Hp) : Stp m H m H := ⟨⟨[], by simp, by simp⟩, fun _ _ e _ _ => e, fun _ _ _ e => e, fun _ e => e⟩
def MutM (m : List Addr) (H : Hp) : Prop := ∀ p ∈ m, Own (H p)

section
variable {W : Wd} {m m' : List Addr} {H H' : Hp}
theorem Stp.mem (S : Stp m H m' H') {a : Addr} {o : HO} (e : H a = some o) (n : a ∉ m) : a ∉ m' := by
  obtain ⟨⟨r', rfl, hn⟩, _⟩ := S
  intro hm
  rcases List.mem_append.mp hm with h | h
  · exact n h
  · rw [hn a h] at e; cases e
theorem Stp.rd (S : Stp m H m' H') {a : Addr} {u : HO} (r : Rd H a u) (n : a ∉ m) (hu : ∀ ps, u ≠ .tbl ps) : Rd H' a u ∧ a ∉ m' := by
  rcases r with r | ⟨o, r⟩
  · exact ⟨.inl (S.keep _ _ r n hu), S.mem r n⟩
  · exact ⟨.inr ⟨o, S.frz _ _ _ r⟩, S.mem r n⟩
theorem Stp.sqT (S : Stp m H m' H') (M : MutM m H) {a : Addr} {vs : List V} (h : SqT W.K H a vs) : SqT W.K H' a vs := by
  rcases h with r | r
  · have n : a ∉ m := fun hm => by
      have mu := M a hm
      rcases r with r | ⟨o, r⟩ <;> rw [r] at mu <;> exact mu
    exact .inl (S.rd r n (fun ps z => by cases z)).1
  · exact .inr r
theorem Stp.ext (S : Stp m H m' H') (M : MutM m H) : ∀ a φ, H a = some (.ext φ) → H' a = some (.ext φ) := fun a φ e =>
  S.keep a _ e (fun hm => by have mu := M a hm; rw [e] at mu; exact mu) fun ps z => by cases z
theorem Stp.at (S : Stp m H m' H') {i : Nat} {a : Addr} (e : m[i]? = some a) : m'[i]? = some a := by
  obtain ⟨⟨r', rfl, _⟩, _⟩ := S
  rw [List.getElem?_append_left (List.getElem?_eq_some_iff.mp e).1]
  exact e
mutual
theorem Is.mono (S : Stp m H m' H') (M : MutM m H) : ∀ (d : D) (v : V), Is W m H d v → Is W m' H' d v
  | .non, _, h => h
  | .bl _, _, h => h
  | .int _, _, h => h
  | .str _, _, h => h
  | .tup l, _, ⟨a, vs, e, q, r⟩ => ⟨a, vs, e, S.sqT M q, IsL.mono S M l vs r⟩
  | .tpk l, _, ⟨a, vs, o, e, q, r⟩ => ⟨a, vs, o, e, ⟨S.frz _ _ _ q.1, q.2⟩, IsL.mono S M l vs r⟩
  | .lst l, _, ⟨a, vs, e, q, n, r⟩ => ⟨a, vs, e, S.keep a _ q n (fun ps z => by cases z), S.mem q n, IsL.mono S M l vs r⟩
  | .ref i, _, ⟨a, e, h⟩ => ⟨a, S.at e, h⟩
  | .fn k, v, h => W.fnm k v m m' H H' (S.ext M) (fun a o xs e => S.frz a o _ e) (fun a xs e n => ⟨S.keep a _ e n (fun ps z => by cases z), S.mem e n⟩) h
  | .raw _, _, h => h
theorem IsL.mono (S : Stp m H m' H') (M : MutM m H) : ∀ (l : List D) (vs : List V), IsL W m H l vs → IsL W m' H' l vs
  | [], _, h => h
  | d :: l, _, ⟨v, r, e, h, t⟩ => ⟨v, r, e, Is.mono S M d v h, IsL.mono S M l r t⟩
end
theorem IsK.mono (S : Stp m H m' H') (M : MutM m H) : ∀ (l : List (Key × D)) (vs : List (Key × V)), IsK W m H l vs → IsK W m' H' l vs
  | [], _, h => h
  | (k, d) :: l, _, ⟨v, r, e, h, t⟩ => ⟨v, r, e, Is.mono S M d v h, IsK.mono S M l r t⟩
theorem IsL.length : ∀ {l : List D} {vs : List V}, IsL W m H l vs → l.length = vs.length
  | [], _, h => by cases h; rfl
  | d :: l, _, ⟨v, r, e, h, t⟩ => by subst e; simp [IsL.length t]
theorem IsL.append : ∀ {l l' : List D} {vs vs' : List V}, IsL W m H l vs → IsL W m H l' vs' → IsL W m H (l ++ l') (vs ++ vs')
  | [], _, _, _, h, h' => by cases h; exact h'
  | d :: l, _, _, _, ⟨v, r, e, h, t⟩, h' => by subst e; exact ⟨v, r ++ _, rfl, h, IsL.append t h'⟩
theorem IsL.get : ∀ {l : List D} {vs : List V} {i : Nat} {d : D}, IsL W m H l vs → l[i]? = some d → ∃ v, vs[i]? = some v ∧ Is W m H d v
  | [], _, _, _, h, e => by simp at e
  | d :: l, _, 0, _, ⟨v, r, e, h, t⟩, q => by
    subst e
    simp at q
    subst q
    exact ⟨v, rfl, h⟩
  | d :: l, _, i + 1, _, ⟨v, r, e, h, t⟩, q => by
    subst e
    obtain ⟨v', e', h'⟩ := IsL.get (i := i) t (by simpa using q)
    exact ⟨v', by simpa using e', h'⟩
theorem IsL.get' {l : List D} {vs : List V} {i : Nat} {v : V} (h : IsL W m H l vs) (e : vs[i]? = some v) : ∃ d, l[i]? = some d ∧ Is W m H d v := by
  have hl := h.length
  obtain ⟨hi, _⟩ := List.getElem?_eq_some_iff.mp e
  have hi' : i < l.length := by omega
  obtain ⟨v', e', h'⟩ := h.get (List.getElem?_eq_getElem hi')
  rw [e] at e'
  cases e'
  exact ⟨_, List.getElem?_eq_getElem hi', h'⟩
theorem IsL.single {d : D} {v : V} (h : Is W m H d v) : IsL W m H [d] [v] := ⟨v, [], rfl, h, rfl⟩
theorem IsL.set : ∀ {l : List D} {vs : List V} {i : Nat} {d : D} {v : V}, IsL W m H l vs → Is W m H d v → IsL W m H (l.set i d) (vs.set i v)
  | [], _, _, _, _, h, _ => by cases h; exact rfl
  | d :: l, _, 0, _, _, ⟨v, r, e, h, t⟩, q => by subst e; exact ⟨_, _, rfl, q, t⟩
  | d :: l, _, i + 1, _, _, ⟨v, r, e, h, t⟩, q => by subst e; exact ⟨_, _, rfl, h, IsL.set t q⟩
theorem IsL.take : ∀ {l : List D} {vs : List V} (n : Nat), IsL W m H l vs → IsL W m H (l.take n) (vs.take n)
  | l, _, 0, h => rfl
  | [], _, n + 1, h => by cases h; exact rfl
  | d :: l, _, n + 1, ⟨v, r, e, h, t⟩ => by subst e; exact ⟨_, _, rfl, h, IsL.take n t⟩
theorem IsL.drop : ∀ {l : List D} {vs : List V} (n : Nat), IsL W m H l vs → IsL W m H (l.drop n) (vs.drop n)
  | l, _, 0, h => h
  | [], _, n + 1, h => by cases h; exact rfl
  | d :: l, _, n + 1, ⟨v, r, e, h, t⟩ => by subst e; exact IsL.drop n t
theorem IsL.reverse : ∀ {l : List D} {vs : List V}, IsL W m H l vs → IsL W m H l.reverse vs.reverse
  | [], _, h => by cases h; exact rfl
  | d :: l, _, ⟨v, r, e, h, t⟩ => by
    subst e
    rw [List.reverse_cons, List.reverse_cons]
    exact IsL.append (IsL.reverse t) (IsL.single h)
end

/-- the store's object stands at the address -/
def ObjIs (W : Wd) (m : List Addr) (H : Hp) (a : Addr) : DO → Prop
  | .lst l => ∃ vs, H a = some (.lst vs) ∧ IsL W m H l vs
  | .dct l => ∃ kvs, H a = some (.dK kvs) ∧ IsK W m H l kvs
  | .dctR l => ∃ kvs, Rd H a (.dK kvs) ∧ IsK W m H l kvs
  | .ins C fs => ∃ dx fvs, H a = some (.ins C dx fvs) ∧ fvs.map (·.1) = fs.map (·.1) ∧ IsL W m H (fs.map (·.2)) (fvs.map (·.2))
  | .dctN n => ∃ kvs, H a = some (.dT kvs) ∧ kvs.length = n
  | .gone => Own (H a)
structure StOk (W : Wd) (m : List Addr) (H : Hp) (st : SD) : Prop where
  len : m.length = st.length
  nd : m.Nodup
  obj : ∀ (i : Nat) (o : DO) (a : Addr), st[i]? = some o → m[i]? = some a → ObjIs W m H a o
  tg : ∀ P ∈ W.tg, GxR.TabG H P
  tl : LamX.Tabs W.tl H
  lk : ∀ i ∈ W.lk, Lkd m H i
section
variable {W : Wd} {m m' : List Addr} {H H' : Hp} {st : SD}
theorem Lkd.mono {i : Nat} (S : Stp m H m' H') (h : Lkd m H i) : Lkd m' H' i := let ⟨a, o, kvs, e1, e2⟩ := h; ⟨a, o, kvs, S.at e1, S.frz _ _ _ e2⟩
theorem ObjIs.own {a : Addr} {o : DO} (h : ObjIs W m H a o) : Own (H a) := by
  cases o with
  | lst l => obtain ⟨vs, e, _⟩ := h; rw [e]; trivial
  | dct l => obtain ⟨vs, e, _⟩ := h; rw [e]; trivial
  | dctR l =>
    obtain ⟨vs, e, _⟩ := h
    rcases e with e | ⟨o, e⟩ <;> rw [e] <;> trivial
  | ins C fs => obtain ⟨dx, vs, e, _⟩ := h; rw [e]; trivial
  | dctN n => obtain ⟨kvs, e, _⟩ := h; rw [e]; trivial
  | gone => exact h
theorem StOk.mut (S : StOk W m H st) : MutM m H := fun p hp => by
  obtain ⟨i, hi, e⟩ := List.getElem_of_mem hp
  have hi' : i < st.length := by rw [← S.len]; exact hi
  exact (S.obj i _ p (List.getElem?_eq_getElem hi') (by rw [List.getElem?_eq_getElem hi, e])).own
theorem StOk.at (S : StOk W m H st) {i : Nat} {o : DO} (e : st[i]? = some o) : ∃ a, m[i]? = some a ∧ ObjIs W m H a o := by
  obtain ⟨hi, _⟩ := List.getElem?_eq_some_iff.mp e
  have hi' : i < m.length := by rw [S.len]; exact hi
  exact ⟨_, List.getElem?_eq_getElem hi', S.obj i o _ e (List.getElem?_eq_getElem hi')⟩
theorem StOk.notMem (S : StOk W m H st) {p : Addr} (hp : H p = none) : p ∉ m := fun hm => by
  have mu := S.mut p hm
  rw [hp] at mu
  exact mu
theorem Stp.trans {m'' : List Addr} {H'' : Hp} (a : Stp m H m' H') (b : Stp m' H' m'' H'') : Stp m H m'' H'' := by
  have am := fun {x o} => a.mem (a := x) (o := o)
  obtain ⟨⟨r1, rfl, n1⟩, k1, f1, d1⟩ := a
  obtain ⟨⟨r2, rfl, n2⟩, k2, f2, d2⟩ := b
  refine ⟨⟨r1 ++ r2, by simp, fun p hp => ?_⟩, fun x o e hx ht => k2 x o (k1 x o e hx ht) (am e hx) ht, fun x o u e => f2 x o u (f1 x o u e), fun x e => d1 x (d2 x e)⟩
  rcases List.mem_append.mp hp with h | h
  · exact n1 p h
  · exact d1 p (n2 p h)
theorem ObjIs.mono (S : Stp m H m' H') (M : MutM m H) {a : Addr} (e : H' a = H a) : ∀ {o : DO}, ObjIs W m H a o → ObjIs W m' H' a o
  | .lst l, ⟨vs, q, h⟩ => ⟨vs, e.trans q, IsL.mono S M l vs h⟩
  | .dct l, ⟨vs, q, h⟩ => ⟨vs, e.trans q, IsK.mono S M l vs h⟩
  | .dctR l, ⟨vs, q, h⟩ => ⟨vs, by unfold Rd; rw [e]; exact q, IsK.mono S M l vs h⟩
  | .ins C fs, ⟨dx, fvs, q, n, h⟩ => ⟨dx, fvs, e.trans q, n, IsL.mono S M _ _ h⟩
  | .dctN n, ⟨kvs, q, h⟩ => ⟨kvs, e.trans q, h⟩
  | .gone, h => by
    show Own (H' a)
    rw [e]
    exact h
/-- no code object of a table is of the store -/
theorem tabs_mono (M : MutM m H) (S : Stp m H m' H') (T : List (Addr × Str)) (e : ∀ p ∈ T, H' p.1 = H p.1) (h : LamX.Tabs T H) : LamX.Tabs T H' := fun p hp => by
  obtain ⟨ps, h1, h2, h3⟩ := h p hp
  refine ⟨ps, (e p hp).trans h1, h2, fun pos cv hc => ?_⟩
  obtain ⟨c, e1, e2⟩ := h3 pos cv hc
  exact ⟨c, e1, S.ext M c _ e2⟩
theorem tg_ne {H : Hp} {P : Addr} (h : GxR.TabG H P) : ∃ ps, H P = some (.tbl ps) := let ⟨ps, e, _⟩ := h; ⟨ps, e⟩
/-- what stands at a place of the heap is changed or made: all tables stay -/
theorem StOk.tab (S : StOk W m H st) (T : Stp m H m' H') (e : ∀ a ps, H a = some (.tbl ps) → H' a = some (.tbl ps)) : (∀ P ∈ W.tg, GxR.TabG H' P) ∧ LamX.Tabs W.tl H' ∧ ∀ i ∈ W.lk, Lkd m' H' i :=
  ⟨fun P hP => let ⟨ps, h1, h2⟩ := S.tg P hP; ⟨ps, e _ _ h1, h2⟩, tabs_mono S.mut T W.tl (fun p hp => let ⟨ps, h1, _⟩ := S.tl p hp; (e _ _ h1).trans h1.symm) S.tl, fun i hi => (S.lk i hi).mono T⟩
/-- a new thing that is never changed -/
theorem Stp.new {p : Addr} {o : HO} (hp : H p = none) : Stp m H m (upd H p o) :=
  ⟨⟨[], by simp, by simp⟩, fun a u e _ _ => by rw [upd_ne (ne_of_none e hp)]; exact e, fun a u v e => by rw [upd_ne (ne_of_none e hp)]; exact e, fun a e => by
    by_cases h : a = p
    · rw [h, upd_same] at e; cases e
    · rw [upd_ne h] at e; exact e⟩
theorem StOk.new (S : StOk W m H st) {p : Addr} {o : HO} (hp : H p = none) : StOk W m (upd H p o) st :=
  have t := S.tab (Stp.new (m := m) (o := o) hp) fun a ps e => by rw [upd_ne (ne_of_none e hp)]; exact e
  ⟨S.len, S.nd, fun i ob a e1 e2 => (S.obj i ob a e1 e2).mono (.new hp) S.mut (by
    have mu := S.mut a (List.mem_of_getElem? e2)
    refine upd_ne fun z => ?_
    rw [z, hp] at mu
    exact mu), t.1, t.2.1, t.2.2⟩
/-- a new object of the store -/
theorem Stp.obj {p : Addr} {o : HO} (hp : H p = none) : Stp m H (m ++ [p]) (upd H p o) :=
  ⟨⟨[p], rfl, fun q hq => by simp at hq; rw [hq]; exact hp⟩, (Stp.new (m := m) hp).keep, (Stp.new (m := m) hp).frz, (Stp.new (m := m) hp).dom⟩
theorem StOk.obj' (S : StOk W m H st) {p : Addr} {o : HO} {ob : DO} (hp : H p = none) (h : ObjIs W (m ++ [p]) (upd H p o) p ob) : StOk W (m ++ [p]) (upd H p o) (st ++ [ob]) := by
  have np := S.notMem hp
  have t := S.tab (Stp.obj (m := m) (o := o) hp) fun a ps e => by rw [upd_ne (ne_of_none e hp)]; exact e
  refine ⟨by simp [S.len], List.nodup_append.mpr ⟨S.nd, by simp, fun a ha b hb => by simp at hb; rw [hb]; exact fun z => np (z ▸ ha)⟩, fun i u a e1 e2 => ?_, t.1, t.2.1, t.2.2⟩
  by_cases hi : i < st.length
  · rw [List.getElem?_append_left hi] at e1
    rw [List.getElem?_append_left (by rw [S.len]; exact hi)] at e2
    refine (S.obj i u a e1 e2).mono (.obj hp) S.mut (upd_ne fun z => np (z ▸ List.mem_of_getElem? e2))
  · have hi2 : i = st.length := by
      have := (List.getElem?_eq_some_iff.mp e1).1
      simp at this
      omega
    subst hi2
    rw [List.getElem?_append_right (Nat.le_refl _)] at e1
    rw [List.getElem?_append_right (by rw [S.len]; exact Nat.le_refl _)] at e2
    simp [S.len] at e1 e2
    subst e1 e2
    exact h
/-- an object of the store is changed -/
theorem Stp.set {i : Nat} {p : Addr} {o : HO} (hm : m[i]? = some p) (hf : ∀ o u, H p ≠ some (.frz o u)) : Stp m H m (upd H p o) :=
  ⟨⟨[], by simp, by simp⟩, fun a u e n _ => by rw [upd_ne (fun z => n (by rw [z]; exact List.mem_of_getElem? hm))]; exact e, fun a u v e => by rw [upd_ne (fun z => hf u v (by rw [← z]; exact e))]; exact e, fun a e => by
    by_cases h : a = p
    · rw [h, upd_same] at e; cases e
    · rw [upd_ne h] at e; exact e⟩
theorem StOk.set (S : StOk W m H st) {i : Nat} {p : Addr} {o : HO} {ob : DO} (hm : m[i]? = some p) (hf : ∀ o u, H p ≠ some (.frz o u)) (h : ObjIs W m (upd H p o) p ob) : StOk W m (upd H p o) (st.set i ob) := by
  have t := S.tab (Stp.set (o := o) hm hf) fun a ps e => by
    rw [upd_ne fun z => ?_]
    · exact e
    · have mu := S.mut p (List.mem_of_getElem? hm)
      rw [← z, e] at mu
      exact mu
  refine ⟨by simp [S.len], S.nd, fun j u a e1 e2 => ?_, t.1, t.2.1, t.2.2⟩
  by_cases hj : j = i
  · subst hj
    rw [hm] at e2
    cases e2
    obtain ⟨hi, _⟩ := List.getElem?_eq_some_iff.mp e1
    rw [List.getElem?_set_self (by simpa using hi)] at e1
    cases e1
    exact h
  · rw [List.getElem?_set_ne (Ne.symm hj)] at e1
    refine (S.obj j u a e1 e2).mono (.set hm hf) S.mut (upd_ne fun z => hj ?_)
    subst z
    obtain ⟨h1, q1⟩ := List.getElem?_eq_some_iff.mp e2
    obtain ⟨h2, q2⟩ := List.getElem?_eq_some_iff.mp hm
    exact (List.getElem_inj S.nd).mp (q1.trans q2.symm)
/-- a dict is only read from now on -/
theorem StOk.lockR (S : StOk W m H st) {i : Nat} {l : List (Key × D)} (e : st[i]? = some (.dct l)) : StOk W m H (st.set i (.dctR l)) := by
  refine ⟨by simp [S.len], S.nd, fun j u a e1 e2 => ?_, S.tg, S.tl, S.lk⟩
  by_cases hj : j = i
  · subst hj
    obtain ⟨hi, _⟩ := List.getElem?_eq_some_iff.mp e1
    rw [List.getElem?_set_self (by simpa using hi)] at e1
    cases e1
    obtain ⟨kvs, h1, h2⟩ := S.obj j _ a e e2
    exact ⟨kvs, .inl h1, h2⟩
  · rw [List.getElem?_set_ne (Ne.symm hj)] at e1
    exact S.obj j u a e1 e2
/-- the last objects are forgotten -/
theorem StOk.pref (S : StOk W m H (st ++ r)) : ∃ m1, (∃ m2, m = m1 ++ m2) ∧ m1.length = st.length := ⟨m.take st.length, ⟨m.drop st.length, (List.take_append_drop _ _).symm⟩, by
  rw [List.length_take, S.len]; simp⟩
mutual
theorem Is.lk (i : Nat) : ∀ (d : D) (v : V), Is (W.lock i) m H d v ↔ Is W m H d v
  | .non, _ => Iff.rfl
  | .bl _, _ => Iff.rfl
  | .int _, _ => Iff.rfl
  | .str _, _ => Iff.rfl
  | .tup l, _ => ⟨fun ⟨a, vs, e, q, r⟩ => ⟨a, vs, e, q, (IsL.lk i l vs).mp r⟩, fun ⟨a, vs, e, q, r⟩ => ⟨a, vs, e, q, (IsL.lk i l vs).mpr r⟩⟩
  | .tpk l, _ => ⟨fun ⟨a, vs, o, e, q, r⟩ => ⟨a, vs, o, e, q, (IsL.lk i l vs).mp r⟩, fun ⟨a, vs, o, e, q, r⟩ => ⟨a, vs, o, e, q, (IsL.lk i l vs).mpr r⟩⟩
  | .lst l, _ => ⟨fun ⟨a, vs, e, q, n, r⟩ => ⟨a, vs, e, q, n, (IsL.lk i l vs).mp r⟩, fun ⟨a, vs, e, q, n, r⟩ => ⟨a, vs, e, q, n, (IsL.lk i l vs).mpr r⟩⟩
  | .ref _, _ => Iff.rfl
  | .fn _, _ => Iff.rfl
  | .raw _, _ => Iff.rfl
theorem IsL.lk (i : Nat) : ∀ (l : List D) (vs : List V), IsL (W.lock i) m H l vs ↔ IsL W m H l vs
  | [], _ => Iff.rfl
  | d :: l, _ => ⟨fun ⟨v, r, e, h, t⟩ => ⟨v, r, e, (Is.lk i d v).mp h, (IsL.lk i l r).mp t⟩, fun ⟨v, r, e, h, t⟩ => ⟨v, r, e, (Is.lk i d v).mpr h, (IsL.lk i l r).mpr t⟩⟩
end
theorem IsK.lk (i : Nat) : ∀ (l : List (Key × D)) (vs : List (Key × V)), IsK (W.lock i) m H l vs ↔ IsK W m H l vs
  | [], _ => Iff.rfl
  | (k, d) :: l, _ => ⟨fun ⟨v, r, e, h, t⟩ => ⟨v, r, e, (Is.lk i d v).mp h, (IsK.lk i l r).mp t⟩, fun ⟨v, r, e, h, t⟩ => ⟨v, r, e, (Is.lk i d v).mpr h, (IsK.lk i l r).mpr t⟩⟩
theorem ObjIs.lk (i : Nat) {a : Addr} : ∀ {o : DO}, ObjIs (W.lock i) m H a o ↔ ObjIs W m H a o
  | .lst l => ⟨fun ⟨vs, e, h⟩ => ⟨vs, e, (IsL.lk i _ _).mp h⟩, fun ⟨vs, e, h⟩ => ⟨vs, e, (IsL.lk i _ _).mpr h⟩⟩
  | .dct l => ⟨fun ⟨vs, e, h⟩ => ⟨vs, e, (IsK.lk i _ _).mp h⟩, fun ⟨vs, e, h⟩ => ⟨vs, e, (IsK.lk i _ _).mpr h⟩⟩
  | .dctR l => ⟨fun ⟨vs, e, h⟩ => ⟨vs, e, (IsK.lk i _ _).mp h⟩, fun ⟨vs, e, h⟩ => ⟨vs, e, (IsK.lk i _ _).mpr h⟩⟩
  | .ins C fs => ⟨fun ⟨dx, vs, e, n, h⟩ => ⟨dx, vs, e, n, (IsL.lk i _ _).mp h⟩, fun ⟨dx, vs, e, n, h⟩ => ⟨dx, vs, e, n, (IsL.lk i _ _).mpr h⟩⟩
  | .dctN n => Iff.rfl
  | .gone => Iff.rfl
theorem StOk.locked {i : Nat} (S : StOk W m H st) (h : Lkd m H i) : StOk (W.lock i) m H st :=
  ⟨S.len, S.nd, fun j o a e1 e2 => (ObjIs.lk i).mpr (S.obj j o a e1 e2), S.tg, S.tl, fun j hj => by
    rcases List.mem_cons.mp hj with z | z
    · rw [z]; exact h
    · exact S.lk j z⟩
theorem StOk.unlocked {i : Nat} (S : StOk (W.lock i) m H st) : StOk W m H st :=
  ⟨S.len, S.nd, fun j o a e1 e2 => (ObjIs.lk i).mp (S.obj j o a e1 e2), S.tg, S.tl, fun j hj => S.lk j (List.mem_cons_of_mem _ hj)⟩
end
end FL
/-! FC: readings of data, lifted to the hand layer's. -/
namespace FL
open PySem PySem.Spec PyProof.Rows L2

abbrev DV := List (Option D)
def EnvOk (W : Wd) (m : List Addr) (H : Hp) (env : DV) (σ : L2.St) : Prop := ∀ (i : Nat) (d : D), env[i]? = some (some d) → ∃ v, σ[i]? = some (some v) ∧ Is W m H d v
/-- what is wanted of a value; of an error's class; behind a statement -/
abbrev DP := D → SD → Prop
abbrev DX := Addr → SD → Prop
structure DEnds where
  nx : DV → SD → Prop
  rt : DP
  bk : DV → SD → Prop := fun _ _ => False
  ct : DV → SD → Prop := fun _ _ => False
abbrev TD := DV → SD → DP → DX → Prop
abbrev TDB := DV → SD → (Bool → SD → Prop) → DX → Prop
abbrev TDL := DV → SD → (List D → SD → Prop) → DX → Prop
abbrev TDS := DEnds → DX → DV → SD → Prop
def Nrm (W : Wd) (m : List Addr) (H : Hp) (P : DP) (Q : VK) : Prop := ∀ d st' m' H' v, P d st' → Stp m H m' H' → StOk W m' H' st' → Is W m' H' d v → Q v H'
def NrmB (W : Wd) (m : List Addr) (H : Hp) (P : Bool → SD → Prop) (Q : Bool → Hp → Prop) : Prop := ∀ b st' m' H', P b st' → Stp m H m' H' → StOk W m' H' st' → Q b H'
def NrmL (W : Wd) (m : List Addr) (H : Hp) (P : List D → SD → Prop) (Q : List V → Hp → Prop) : Prop := ∀ d st' m' H' v, P d st' → Stp m H m' H' → StOk W m' H' st' → IsL W m' H' d v → Q v H'
def NrmS (W : Wd) (m : List Addr) (H : Hp) (P : DV → SD → Prop) (Q : L2.St → Hp → Prop) : Prop := ∀ env' st' m' H' σ', P env' st' → Stp m H m' H' → StOk W m' H' st' → EnvOk W m' H' env' σ' → Q σ' H'
def Exn (W : Wd) (m : List Addr) (H : Hp) (Ex : DX) (E : XK) : Prop := ∀ C x st' m' H', Ex C st' → Stp m H m' H' → StOk W m' H' st' → E (.ref C) x H'
section
variable {W : Wd} {m m' : List Addr} {H H' : Hp} {st st' : SD} {env : DV} {σ : L2.St} {E : XK}
theorem EnvOk.mono (h : EnvOk W m H env σ) (S : Stp m H m' H') (M : MutM m H) : EnvOk W m' H' env σ := fun i d e =>
  let ⟨v, h1, h2⟩ := h i d e
  ⟨v, h1, Is.mono S M d v h2⟩
theorem EnvOk.set (h : EnvOk W m H env σ) (hl : env.length ≤ σ.length) {i : Nat} {d : D} {v : V} (hv : Is W m H d v) : EnvOk W m H (env.set i (some d)) (σ.set i (some v)) := fun j d' e => by
  by_cases hj : j = i
  · subst hj
    have hi : j < env.length := by
      have := (List.getElem?_eq_some_iff.mp e).1
      simpa using this
    rw [List.getElem?_set_self hi] at e
    cases e
    exact ⟨v, by rw [List.getElem?_set_self (by omega)], hv⟩
  · rw [List.getElem?_set_ne (Ne.symm hj)] at e ⊢
    exact h j d' e
theorem EnvOk.lt (h : EnvOk W m H env σ) {i : Nat} {d : D} (e : env[i]? = some (some d)) : i < σ.length := by
  obtain ⟨v, e, _⟩ := h i d e
  exact (List.getElem?_eq_some_iff.mp e).1
theorem Nrm.go {P : DP} {Q : VK} (h : Nrm W m H P Q) (S : Stp m H m' H') : Nrm W m' H' P Q := fun d st' m2 H2 v p T => h d st' m2 H2 v p (S.trans T)
theorem NrmB.go {P : Bool → SD → Prop} {Q : Bool → Hp → Prop} (h : NrmB W m H P Q) (S : Stp m H m' H') : NrmB W m' H' P Q := fun d st' m2 H2 p T => h d st' m2 H2 p (S.trans T)
theorem NrmL.go {P : List D → SD → Prop} {Q : List V → Hp → Prop} (h : NrmL W m H P Q) (S : Stp m H m' H') : NrmL W m' H' P Q := fun d st' m2 H2 v p T => h d st' m2 H2 v p (S.trans T)
theorem NrmS.go {P : DV → SD → Prop} {Q : L2.St → Hp → Prop} (h : NrmS W m H P Q) (S : Stp m H m' H') : NrmS W m' H' P Q := fun d st' m2 H2 v p T => h d st' m2 H2 v p (S.trans T)
theorem Exn.go {Ex : DX} (h : Exn W m H Ex E) (S : Stp m H m' H') : Exn W m' H' Ex E := fun C x st' m2 H2 p T => h C x st' m2 H2 p (S.trans T)
end
/-- the data's state and the hand layer's -/
structure Sim (W : Wd) (m : List Addr) (H : Hp) (st : SD) (env : DV) (σ : L2.St) : Prop where
  ok : StOk W m H st
  sl : EnvOk W m H env σ
  len : env.length ≤ σ.length
theorem Sim.go {W : Wd} {m m' : List Addr} {H H' : Hp} {st st' : SD} {env : DV} {σ : L2.St} (s : Sim W m H st env σ) (S : Stp m H m' H') (O : StOk W m' H' st') : Sim W m' H' st' env σ := ⟨O, s.sl.mono S s.ok.mut, s.len⟩
def lift (W : Wd) (E : XK) (t : TD) : TE := fun σ H Q => ∃ m st env P Ex, Sim W m H st env σ ∧ t env st P Ex ∧ Nrm W m H P Q ∧ Exn W m H Ex E
def liftB (W : Wd) (E : XK) (t : TDB) : TT := fun σ H Q => ∃ m st env P Ex, Sim W m H st env σ ∧ t env st P Ex ∧ NrmB W m H P Q ∧ Exn W m H Ex E
def liftL (W : Wd) (E : XK) (t : TDL) : TA := fun σ H Q => ∃ m st env P Ex, Sim W m H st env σ ∧ t env st P Ex ∧ NrmL W m H P Q ∧ Exn W m H Ex E
def liftS (W : Wd) (E : XK) (t : TDS) : TS := fun D σ H => ∃ m st env Dd Ex, Sim W m H st env σ ∧ t Dd Ex env st ∧ (∀ env' st' m' H' σ', Dd.nx env' st' → Stp m H m' H' → Sim W m' H' st' env' σ' → D.nx σ' H') ∧
  Nrm W m H Dd.rt D.rt ∧ (∀ env' st' m' H' σ', Dd.bk env' st' → Stp m H m' H' → Sim W m' H' st' env' σ' → D.bk σ' H') ∧ (∀ env' st' m' H' σ', Dd.ct env' st' → Stp m H m' H' → Sim W m' H' st' env' σ' → D.ct σ' H') ∧ Exn W m H Ex E
theorem pe_lift {X : Cx} {e : Expr} {t u : TE} (h : PE X e t) (i : ∀ σ H Q, u σ H Q → t σ H Q) : PE X e u := ⟨fun pins s σ H Q I q => h.run pins s σ H Q I (i σ H Q q)⟩
theorem pt_lift {X : Cx} {e : Expr} {t u : TT} (h : PT X e t) (i : ∀ σ H Q, u σ H Q → t σ H Q) : PT X e u := ⟨fun pins s σ H Q I q => h.run pins s σ H Q I (i σ H Q q)⟩
theorem pw_lift {X : Cx} {e : Expr} {t u : TT} (h : PW X e t) (i : ∀ σ H Q, u σ H Q → t σ H Q) : PW X e u := ⟨fun wh pins s σ H Q I q => h.run wh pins s σ H Q I (i σ H Q q)⟩
theorem pts_lift {X : Cx} {e : List Expr} {t u : TT} (h : PTs X e t) (i : ∀ σ H Q, u σ H Q → t σ H Q) : PTs X e u := ⟨fun pins s σ H Q I q => h.run pins s σ H Q I (i σ H Q q)⟩
theorem pa_lift {X : Cx} {e : List Expr} {t u : TA} (h : PA X e t) (i : ∀ σ H Q, u σ H Q → t σ H Q) : PA X e u := ⟨fun po pins s σ H Q I q => h.run po pins s σ H Q I (i σ H Q q)⟩
theorem ps_lift {X : Cx} {e : Stmt} {t u : TS} (h : PS X e t) (i : ∀ D σ H, u D σ H → t D σ H) : PS X e u := ⟨fun pins s σ H D I q => h.run pins s σ H D I (i D σ H q)⟩
theorem pss_lift {X : Cx} {e : List Stmt} {t u : TS} (h : PSs X e t) (i : ∀ D σ H, u D σ H → t D σ H) : PSs X e u := ⟨fun pins s σ H D I q => h.run pins s σ H D I (i D σ H q)⟩
theorem pg_lift {X : Cx} {e : Expr} {t u : TG} (h : PG X e t) (i : ∀ v σ H Q, u v σ H Q → t v σ H Q) : PG X e u := ⟨fun pins s σ H v w Q I r q => h.run pins s σ H v w Q I r (i v σ H Q q)⟩

/-! ### names, constants, argument lists -/
section
variable {X : Cx} {W : Wd} {E : XK} {pos : Pos} {a b e : Expr} {es : List Expr} {ta tb : TD} {tl : TDL} {tt tu : TDB}
def dVar (i : Nat) : TD := fun env st P _ => ∃ d, env[i]? = some (some d) ∧ P d st
def dC (d : D) : TD := fun _ st P _ => P d st
theorem d_var {i : Nat} {x : Str} (hN : X.N[i]? = some x) (hv : Vis X.env.scope x) (hd : (x == ("__debug__" : Str)) = false := by decide) (hcd : (x == ("__classdict__" : Str)) = false := by decide) : PE X (.Name x pos) (lift W E (dVar i)) :=
  pe_lift (pe_var hN hv hd hcd) fun σ H Q ⟨m, st, env, P, Ex, r, ⟨d, e, q⟩, k, _⟩ =>
    let ⟨v, e', h⟩ := r.sl i d e
    ⟨v, e', k d st m H v q (.refl _ _) r.ok h⟩
theorem d_const {d : D} {v : V} (h : PE X e (tC v)) (hi : ∀ m H, Is W m H d v) : PE X e (lift W E (dC d)) := pe_lift h fun σ H Q ⟨m, st, env, P, Ex, r, q, k, _⟩ => k d st m H _ q (.refl _ _) r.ok (hi m H)
theorem d_int {i j} : PE X (.Constant (.int i) j pos) (lift W E (dC (.int i))) := d_const pe_int fun _ _ => rfl
theorem d_bl {i j} : PE X (.Constant (.bool i) j pos) (lift W E (dC (.bl i))) := d_const pe_bl fun _ _ => rfl
theorem d_non {j} : PE X (.Constant .none j pos) (lift W E (dC .non)) := d_const pe_non fun _ _ => rfl
theorem d_str {i j} : PE X (.Constant (.str i) j pos) (lift W E (dC (.str i))) := d_const pe_str fun _ _ => rfl
def dNil : TDL := fun _ st P _ => P [] st
def dCons (t : TD) (u : TDL) : TDL := fun env st P Ex => t env st (fun d st1 => u env st1 (fun ds st2 => P (d :: ds) st2) Ex) Ex
theorem da_nil : PA X [] (liftL W E dNil) := pa_lift pa_nil fun σ H Q ⟨m, st, env, P, Ex, r, q, k, _⟩ => k [] st m H _ q (.refl _ _) r.ok rfl
theorem da_cons (ha : PE X e (lift W E ta)) (hr : PA X es (liftL W E tl)) (hs : starEach (e :: es) X.env = (false, eval e X.env) :: starEach es X.env := by rfl) : PA X (e :: es) (liftL W E (dCons ta tl)) :=
  pa_lift (pa_cons ha hr hs) fun σ H Q ⟨m, st, env, P, Ex, r, q, k, x⟩ => ⟨m, st, env, _, Ex, r, q, fun d st1 m1 H1 v q1 S1 O1 h1 =>
    ⟨m1, st1, env, _, Ex, r.go S1 O1, q1, fun ds st2 m2 H2 vs q2 S2 O2 h2 => k (d :: ds) st2 m2 H2 (v :: vs) q2 (S1.trans S2) O2 ⟨v, vs, rfl, Is.mono S2 O1.mut d v h1, h2⟩, x.go S1⟩, x⟩

/-! ### value rules -/
abbrev F1 := SD → D → DP → Prop
abbrev F2 := SD → D → D → DP → Prop
abbrev FN := SD → List D → DP → Prop
def Rl1 (W : Wd) (r : V → Hp → VK → Prop) (f : F1) : Prop := ∀ (m : List Addr) (H : Hp) (st : SD) (x : D) (v : V) (P : DP) (Q : VK), StOk W m H st → Is W m H x v → f st x P → Nrm W m H P Q → r v H Q
def Rl2 (W : Wd) (r : R2) (f : F2) : Prop := ∀ (m : List Addr) (H : Hp) (st : SD) (x y : D) (v w : V) (P : DP) (Q : VK), StOk W m H st → Is W m H x v → Is W m H y w → f st x y P → Nrm W m H P Q → r v w H Q
def RlN (W : Wd) (r : List V → Hp → VK → Prop) (f : FN) : Prop := ∀ (m : List Addr) (H : Hp) (st : SD) (xs : List D) (vs : List V) (P : DP) (Q : VK), StOk W m H st → IsL W m H xs vs → f st xs P → Nrm W m H P Q → r vs H Q
theorem Rl2.or {r r' : R2} {f f' : F2} (h : Rl2 W r f) (h' : Rl2 W r' f') : Rl2 W (fun x y H Q => r x y H Q ∨ r' x y H Q) (fun st x y P => f st x y P ∨ f' st x y P) := fun m H st x y v w P Q O i j q k =>
  q.elim (fun q => .inl (h m H st x y v w P Q O i j q k)) fun q => .inr (h' m H st x y v w P Q O i j q k)
theorem RlN.or {r r' : List V → Hp → VK → Prop} {f f' : FN} (h : RlN W r f) (h' : RlN W r' f') : RlN W (fun x H Q => r x H Q ∨ r' x H Q) (fun st x P => f st x P ∨ f' st x P) := fun m H st x v P Q O i q k =>
  q.elim (fun q => .inl (h m H st x v P Q O i q k)) fun q => .inr (h' m H st x v P Q O i q k)
def dOp (f : F2) (ta tb : TD) : TD := fun env st P Ex => ta env st (fun x st1 => tb env st1 (fun y st2 => f st2 x y P) Ex) Ex
theorem op_core {r : R2} {f : F2} (hf : Rl2 W r f) {σ : L2.St} {H : Hp} {Q : VK} (h : lift W E (dOp f ta tb) σ H Q) : tOp r (lift W E ta) (lift W E tb) σ H Q := by
  obtain ⟨m, st, env, P, Ex, r0, q, k, x⟩ := h
  exact ⟨m, st, env, _, Ex, r0, q, fun x1 st1 m1 H1 v q1 S1 O1 h1 => ⟨m1, st1, env, _, Ex, r0.go S1 O1, q1, fun y st2 m2 H2 w q2 S2 O2 h2 =>
    hf m2 H2 st2 x1 y v w P Q O2 (Is.mono S2 O1.mut x1 v h1) h2 q2 (k.go (S1.trans S2)), x.go S1⟩, x⟩
theorem d_op {op : Operator} {r : R2} {f : F2} (ho : OpR X (binaryOp op) r) (hf : Rl2 W r f) (ha : PE X a (lift W E ta)) (hb : PE X b (lift W E tb)) : PE X (.BinOp a op b pos) (lift W E (dOp f ta tb)) :=
  pe_lift (pe_op ho ha hb) fun σ H Q h => op_core hf h
theorem d_cmp {op : CmpOp} {r : R2} {f : F2} (ho : OpR X (compareOp op) r) (hf : Rl2 W r f) (ha : PE X a (lift W E ta)) (hb : PE X b (lift W E tb)) (hm : behindInMarks op b = false := by rfl) : PE X (.Compare a [op] [b] pos) (lift W E (dOp f ta tb)) :=
  pe_lift (pe_cmpR ho ha hb hm) fun σ H Q h => op_core hf h
def dUn (f : F1) (ta : TD) : TD := fun env st P Ex => ta env st (fun x st1 => f st1 x P) Ex
theorem un_core {r : V → Hp → VK → Prop} {f : F1} (hf : Rl1 W r f) {σ : L2.St} {H : Hp} {Q : VK} (h : lift W E (dUn f ta) σ H Q) : lift W E ta σ H (fun x H1 => r x H1 Q) := by
  obtain ⟨m, st, env, P, Ex, r0, q, k, x⟩ := h
  exact ⟨m, st, env, _, Ex, r0, q, fun x1 st1 m1 H1 v q1 S1 O1 h1 => hf m1 H1 st1 x1 v P Q O1 h1 q1 (k.go S1), x⟩
/-- a test of a value that is a bool -/
def dTest (t : TD) : TDB := fun env st P Ex => t env st (fun d st1 => ∃ b, d = .bl b ∧ P b st1) Ex
theorem dt_val {t : TD} (h : PE X e (lift W E t)) (he : ∀ whole, isTrue e X.env whole = (do let v ← whole; standAt e.pos; holding [v] (truthy v)) := by intro _; rfl) : PT X e (liftB W E (dTest t)) :=
  pt_lift (pt_val h he) fun σ H Q ⟨m, st, env, P, Ex, r, q, k, x⟩ => ⟨m, st, env, _, Ex, r, q, fun d st1 m1 H1 v ⟨b, e, p⟩ S1 O1 h1 => ⟨b, by subst e; exact h1, k b st1 m1 H1 p S1 O1⟩, x⟩
def dCmpT (f : F2) (ta tb : TD) : TDB := dTest (dOp f ta tb)
theorem dt_cmp {op : CmpOp} {r : R2} {f : F2} (ho : OpR X (compareOp op) r) (hf : Rl2 W r f) (ha : PE X a (lift W E ta)) (hb : PE X b (lift W E tb)) (hm : behindInMarks op b = false := by rfl) : PT X (.Compare a [op] [b] pos) (liftB W E (dCmpT f ta tb)) :=
  pt_lift (pt_cmpR ho ha hb hm) fun σ H Q ⟨m, st, env, P, Ex, r, q, k, x⟩ => op_core hf ⟨m, st, env, _, Ex, r, q, fun d st1 m1 H1 v ⟨b, e, p⟩ S1 O1 h1 => ⟨b, by subst e; exact h1, k b st1 m1 H1 p S1 O1⟩, x⟩
/-! ### and, or, not -/
def dAndT (t u : TDB) : TDB := fun env st P Ex => t env st (fun b st1 => if b = true then u env st1 P Ex else P false st1) Ex
def dOrT (t u : TDB) : TDB := fun env st P Ex => t env st (fun b st1 => if b = true then P true st1 else u env st1 P Ex) Ex
def dNotT (t : TDB) : TDB := fun env st P Ex => t env st (fun b st1 => P (!b) st1) Ex
variable {rest : List Expr}
theorem dw_and1 (ha : PT X a (liftB W E tt)) : PW X (.BoolOp .And [a] pos) (liftB W E tt) := pw_and1 ha
theorem dw_or1 (ha : PT X a (liftB W E tt)) : PW X (.BoolOp .Or [a] pos) (liftB W E tt) := pw_or1 ha
theorem dw_and (ha : PT X a (liftB W E tt)) (hb : PW X (.BoolOp .And (b :: rest) pos) (liftB W E tu)) : PW X (.BoolOp .And (a :: b :: rest) pos) (liftB W E (dAndT tt tu)) :=
  pw_lift (pw_and ha hb) fun σ H Q ⟨m, st, env, P, Ex, r, q, k, x⟩ => ⟨m, st, env, _, Ex, r, q, fun c st1 m1 H1 q1 S1 O1 => by
    cases c with
    | true => exact ⟨m1, st1, env, P, Ex, r.go S1 O1, by simpa using q1, k.go S1, x.go S1⟩
    | false => exact k false st1 m1 H1 (by simpa using q1) S1 O1, x⟩
theorem dw_or (ha : PT X a (liftB W E tt)) (hb : PW X (.BoolOp .Or (b :: rest) pos) (liftB W E tu)) : PW X (.BoolOp .Or (a :: b :: rest) pos) (liftB W E (dOrT tt tu)) :=
  pw_lift (pw_or ha hb) fun σ H Q ⟨m, st, env, P, Ex, r, q, k, x⟩ => ⟨m, st, env, _, Ex, r, q, fun c st1 m1 H1 q1 S1 O1 => by
    cases c with
    | false => exact ⟨m1, st1, env, P, Ex, r.go S1 O1, by simpa using q1, k.go S1, x.go S1⟩
    | true => exact k true st1 m1 H1 (by simpa using q1) S1 O1, x⟩
theorem dt_not (ha : PT X a (liftB W E tt)) : PT X (.UnaryOp .Not a pos) (liftB W E (dNotT tt)) :=
  pt_lift (pt_not ha) fun σ H Q ⟨m, st, env, P, Ex, r, q, k, x⟩ => ⟨m, st, env, _, Ex, r, q, fun c st1 m1 H1 q1 S1 O1 => k (!c) st1 m1 H1 q1 S1 O1, x⟩
/-- .. as values -/
def dAndV (t u : TD) : TD := fun env st P Ex => t env st (fun d st1 => ∃ b, d = .bl b ∧ if b = true then u env st1 P Ex else P (.bl false) st1) Ex
def dOrV (t u : TD) : TD := fun env st P Ex => t env st (fun d st1 => ∃ b, d = .bl b ∧ if b = true then P (.bl true) st1 else u env st1 P Ex) Ex
def dNotV (t : TD) : TD := fun env st P Ex => t env st (fun d st1 => ∃ b, d = .bl b ∧ P (.bl (!b)) st1) Ex
theorem d_one {op} (ha : PE X a (lift W E ta)) : PE X (.BoolOp op [a] pos) (lift W E ta) := pe_one ha
theorem d_and (ha : PE X a (lift W E ta)) (hb : PE X (.BoolOp .And (b :: rest) pos) (lift W E tb)) : PE X (.BoolOp .And (a :: b :: rest) pos) (lift W E (dAndV ta tb)) :=
  pe_lift (pe_and ha hb) fun σ H Q ⟨m, st, env, P, Ex, r, q, k, x⟩ => ⟨m, st, env, _, Ex, r, q, fun d st1 m1 H1 v ⟨c, ec, q1⟩ S1 O1 h1 => ⟨c, by subst ec; exact h1, by
    cases c with
    | true => exact ⟨m1, st1, env, P, Ex, r.go S1 O1, by simpa using q1, k.go S1, x.go S1⟩
    | false => exact k (.bl false) st1 m1 H1 _ (by simpa using q1) S1 O1 rfl⟩, x⟩
theorem d_or (ha : PE X a (lift W E ta)) (hb : PE X (.BoolOp .Or (b :: rest) pos) (lift W E tb)) : PE X (.BoolOp .Or (a :: b :: rest) pos) (lift W E (dOrV ta tb)) :=
  pe_lift (pe_or ha hb) fun σ H Q ⟨m, st, env, P, Ex, r, q, k, x⟩ => ⟨m, st, env, _, Ex, r, q, fun d st1 m1 H1 v ⟨c, ec, q1⟩ S1 O1 h1 => ⟨c, by subst ec; exact h1, by
    cases c with
    | false => exact ⟨m1, st1, env, P, Ex, r.go S1 O1, by simpa using q1, k.go S1, x.go S1⟩
    | true => exact k (.bl true) st1 m1 H1 _ (by simpa using q1) S1 O1 rfl⟩, x⟩
theorem d_not (ha : PE X a (lift W E ta)) : PE X (.UnaryOp .Not a pos) (lift W E (dNotV ta)) :=
  pe_lift (pe_not ha) fun σ H Q ⟨m, st, env, P, Ex, r, q, k, x⟩ => ⟨m, st, env, _, Ex, r, q, fun d st1 m1 H1 v ⟨c, ec, q1⟩ S1 O1 h1 => ⟨c, by subst ec; exact h1, k (.bl (!c)) st1 m1 H1 _ q1 S1 O1 rfl⟩, x⟩
def dIf (t : TDB) (ta tb : TD) : TD := fun env st P Ex => t env st (fun b st1 => if b = true then ta env st1 P Ex else tb env st1 P Ex) Ex
theorem d_if {c : Expr} (hc : PT X c (liftB W E tt)) (ha : PE X a (lift W E ta)) (hb : PE X b (lift W E tb)) : PE X (.IfExp c a b pos) (lift W E (dIf tt ta tb)) :=
  pe_lift (pe_ifExp hc ha hb) fun σ H Q ⟨m, st, env, P, Ex, r, q, k, x⟩ => ⟨m, st, env, _, Ex, r, q, fun c st1 m1 H1 q1 S1 O1 => by
    cases c with
    | true => exact ⟨m1, st1, env, P, Ex, r.go S1 O1, by simpa using q1, k.go S1, x.go S1⟩
    | false => exact ⟨m1, st1, env, P, Ex, r.go S1 O1, by simpa using q1, k.go S1, x.go S1⟩, x⟩

/-! ### statements -/
variable {s1 : Stmt} {ss : List Stmt} {ts us : TDS}
def dNext : TDS := fun D _ env st => D.nx env st
def dSeq (t u : TDS) : TDS := fun D Ex env st => t { D with nx := u D Ex } Ex env st
theorem dss_nil : PSs X [] (liftS W E dNext) := pss_lift pss_nil fun D σ H ⟨m, st, env, Dd, Ex, r, q, k, _⟩ => k env st m H σ q (.refl _ _) r
theorem dss_cons (h1 : PS X s1 (liftS W E ts)) (h2 : PSs X ss (liftS W E us)) : PSs X (s1 :: ss) (liftS W E (dSeq ts us)) :=
  pss_lift (pss_cons h1 h2) fun D σ H ⟨m, st, env, Dd, Ex, r, q, k1, k2, k3, k4, x⟩ => ⟨m, st, env, _, Ex, r, q, fun env1 st1 m1 H1 σ1 q1 S1 r1 =>
    ⟨m1, st1, env1, Dd, Ex, r1, q1, fun e s mm hh sg p S => k1 e s mm hh sg p (S1.trans S), k2.go S1, fun e s mm hh sg p S => k3 e s mm hh sg p (S1.trans S), fun e s mm hh sg p S => k4 e s mm hh sg p (S1.trans S), x.go S1⟩, k2, k3, k4, x⟩
theorem dss_one (h1 : PS X s1 (liftS W E ts)) : PSs X [s1] (liftS W E ts) := pss_one h1
theorem ds_pass : PS X (.Pass pos) (liftS W E dNext) := ps_lift ps_pass fun D σ H ⟨m, st, env, Dd, Ex, r, q, k, _⟩ => k env st m H σ q (.refl _ _) r
def dBreak : TDS := fun D _ env st => D.bk env st
def dCont : TDS := fun D _ env st => D.ct env st
theorem ds_break : PS X (.Break pos) (liftS W E dBreak) := ps_lift ps_break fun D σ H ⟨m, st, env, Dd, Ex, r, q, _, _, k, _⟩ => k env st m H σ q (.refl _ _) r
theorem ds_continue : PS X (.Continue pos) (liftS W E dCont) := ps_lift ps_continue fun D σ H ⟨m, st, env, Dd, Ex, r, q, _, _, _, k, _⟩ => k env st m H σ q (.refl _ _) r
theorem ds_doc {x j pos'} : PS X (.Expr (.Constant (.str x) j pos) pos') (liftS W E dNext) := ps_lift ps_doc fun D σ H ⟨m, st, env, Dd, Ex, r, q, k, _⟩ => k env st m H σ q (.refl _ _) r
def dDrop (t : TD) : TDS := fun D Ex env st => t env st (fun _ st1 => D.nx env st1) Ex
theorem ds_expr (he : PE X e (lift W E ta)) (hs : swapsWith e none pos.line X.env = pure false := by rfl) : PS X (.Expr e pos) (liftS W E (dDrop ta)) :=
  ps_lift (ps_expr he hs) fun D σ H ⟨m, st, env, Dd, Ex, r, q, k1, k2, k3, k4, x⟩ => ⟨m, st, env, _, Ex, r, q, fun d st1 m1 H1 v q1 S1 O1 h1 => k1 env st1 m1 H1 σ q1 S1 (r.go S1 O1), x⟩
def dRet (t : TD) : TDS := fun D Ex env st => t env st D.rt Ex
theorem ds_ret (he : PE X e (lift W E ta)) : PS X (.Return (some e) pos) (liftS W E (dRet ta)) :=
  ps_lift (ps_ret he) fun D σ H ⟨m, st, env, Dd, Ex, r, q, k1, k2, k3, k4, x⟩ => ⟨m, st, env, _, Ex, r, q, k2, x⟩
def dRetN : TDS := fun D _ _ st => D.rt .non st
theorem ds_retN : PS X (.Return none pos) (liftS W E dRetN) := ps_lift ps_retN fun D σ H ⟨m, st, env, Dd, Ex, r, q, k1, k2, k3, k4, x⟩ => k2 .non st m H _ q (.refl _ _) r.ok rfl
def dIfS (t : TDB) (ts us : TDS) : TDS := fun D Ex env st => t env st (fun b st1 => if b = true then ts D Ex env st1 else us D Ex env st1) Ex
theorem ds_if {c : Expr} {p q : List Stmt} (hc : PT X c (liftB W E tt)) (ha : PSs X p (liftS W E ts)) (hb : PSs X q (liftS W E us)) : PS X (.If c p q pos) (liftS W E (dIfS tt ts us)) :=
  ps_lift (ps_if hc ha hb) fun D σ H ⟨m, st, env, Dd, Ex, r, q, k1, k2, k3, k4, x⟩ => ⟨m, st, env, _, Ex, r, q, fun c st1 m1 H1 q1 S1 O1 => by
    have go : ∀ {t : TDS}, t Dd Ex env st1 → liftS W E t D σ H1 := fun {t} p => ⟨m1, st1, env, Dd, Ex, r.go S1 O1, p, fun e s mm hh sg p S => k1 e s mm hh sg p (S1.trans S), k2.go S1, fun e s mm hh sg p S => k3 e s mm hh sg p (S1.trans S), fun e s mm hh sg p S => k4 e s mm hh sg p (S1.trans S), x.go S1⟩
    cases c with
    | true => exact go (by simpa using q1)
    | false => exact go (by simpa using q1), x⟩
end
end FL
/-! FD: targets, what is walked, for, while, comprehensions on data. -/
namespace FL
open PySem PySem.Spec PyProof.Rows L2

/-! ### targets -/
abbrev TDG := D → DV → SD → (DV → SD → Prop) → Prop
abbrev TDGs := List D → DV → SD → (DV → SD → Prop) → Prop
def NrmE (W : Wd) (m : List Addr) (H : Hp) (P : DV → SD → Prop) (Q : L2.St → Hp → Prop) : Prop := ∀ env' st' m' H' σ', P env' st' → Stp m H m' H' → Sim W m' H' st' env' σ' → Q σ' H'
theorem NrmE.go {W : Wd} {m m' : List Addr} {H H' : Hp} {P : DV → SD → Prop} {Q : L2.St → Hp → Prop} (h : NrmE W m H P Q) (S : Stp m H m' H') : NrmE W m' H' P Q := fun e st' m2 H2 s p T => h e st' m2 H2 s p (S.trans T)
def liftG (W : Wd) (g : TDG) : TG := fun v σ H Q => ∃ m st env d P, Sim W m H st env σ ∧ Is W m H d v ∧ g d env st P ∧ NrmE W m H P Q
def liftGs (W : Wd) (g : TDGs) : TGs := fun v σ H Q => ∃ m st env d P, Sim W m H st env σ ∧ IsL W m H d v ∧ g d env st P ∧ NrmE W m H P Q
theorem Sim.set {W : Wd} {m : List Addr} {H : Hp} {st : SD} {env : DV} {σ : L2.St} (s : Sim W m H st env σ) {d : D} {v : V} (h : Is W m H d v) (i : Nat) : Sim W m H st (env.set i (some d)) (σ.set i (some v)) :=
  ⟨s.ok, s.sl.set s.len h, by simpa using s.len⟩
section
variable {X : Cx} {W : Wd} {E : XK} {pos : Pos} {e : Expr} {es : List Expr}
def dgName (i : Nat) : TDG := fun d env st P => P (env.set i (some d)) st
theorem dg_name {i : Nat} {x : Str} (hN : X.N.Nodup) (hi : X.N[i]? = some x) (hx : Loc X.env.scope x) (hf : X.fn x = true ∨ X.env.scope.names.lookup x = some .local := by first | exact .inl rfl | exact .inr rfl | assumption) : PG X (.Name x pos) (liftG W (dgName i)) :=
  pg_lift (pg_name hN hi hx hf) fun v σ H Q ⟨m, st, env, d, P, s, h, q, k⟩ => k _ st m H _ q (.refl _ _) (s.set h i)
def dgNil : TDGs := fun l env st P => l = [] ∧ P env st
def dgCons (t : TDG) (u : TDGs) : TDGs := fun l env st P => ∃ d r, l = d :: r ∧ t d env st fun env' st' => u r env' st' P
theorem dgs_nil : PGs X [] (liftGs W dgNil) := ⟨fun pins s σ H vs us Q I r ⟨m, st, env, d, P, sm, h, ⟨e, q⟩, k⟩ => by
  subst e
  have h : vs = [] := h
  subst h
  exact pgs_nil.run pins s σ H [] us Q I r ⟨rfl, k env st m H σ q (.refl _ _) sm⟩⟩
theorem dgs_cons {t : TDG} {u : TDGs} (h1 : PG X e (liftG W t)) (h2 : PGs X es (liftGs W u)) (hs : (assignEach (e :: es) X.env).map (·.2) = assign e X.env :: (assignEach es X.env).map (·.2) := by rfl) : PGs X (e :: es) (liftGs W (dgCons t u)) := ⟨fun pins s σ H vs us Q I r ⟨m, st, env, d, P, sm, h, ⟨d0, dr, ed, q⟩, k⟩ => by
  subst ed
  obtain ⟨v, vr, ev, h0, hr⟩ := h
  subst ev
  exact (pgs_cons h1 h2 hs).run pins s σ H _ us Q I r ⟨v, vr, rfl, m, st, env, d0, _, sm, h0, q, fun env1 st1 m1 H1 σ1 q1 S1 s1 => ⟨m1, st1, env1, dr, P, s1, IsL.mono S1 sm.ok.mut dr vr hr, q1, k.go S1⟩⟩⟩
def dgTup (n : Nat) (u : TDGs) : TDG := fun d env st P => ∃ l, d = .tup l ∧ l.length = n ∧ u l env st P
theorem dg_tup {k : Nat} {u : TDGs} {n : Nat} (hK : X.K = W.K) (hc : X.calm = true) (h : PGs X es (liftGs W u)) (hn : (assignEach es X.env).length = n := by rfl) (hst : (assignEach es X.env).findIdx? (·.1) = none := by rfl) : PG X (.Tuple es k pos) (liftG W (dgTup n u)) :=
  pg_lift (pg_tup hc h hn hst) fun v σ H Q ⟨m, st, env, d, P, s, h, ⟨l, ed, hl, q⟩, k⟩ => by
    subst ed
    obtain ⟨a, vs, ev, hq, hi⟩ := h
    exact ⟨a, vs, ev, by rw [hK]; exact hq, by rw [← hi.length]; exact hl, m, st, env, l, P, s, hi, q, k⟩
def dAsg (t : TD) (g : TDG) : TDS := fun D Ex env st => t env st (fun d st1 => g d env st1 D.nx) Ex
theorem asg_core {t : TD} {g : TDG} {D : Ends} {σ : L2.St} {H : Hp} (h : liftS W E (dAsg t g) D σ H) : tAsg (lift W E t) (liftG W g) D σ H := by
  obtain ⟨m, st, env, Dd, Ex, r, q, k1, k2, k3, k4, x⟩ := h
  exact ⟨m, st, env, _, Ex, r, q, fun d st1 m1 H1 v q1 S1 O1 h1 => ⟨m1, st1, env, d, _, r.go S1 O1, h1, q1, fun env2 st2 m2 H2 σ2 q2 S2 s2 => k1 env2 st2 m2 H2 σ2 q2 (S1.trans S2) s2⟩, x⟩
theorem ds_asg {tg : Expr} {t : TD} {g : TDG} (he : PE X e (lift W E t)) (hg : PG X tg (liftG W g)) (hs : swapsWithSole [tg] e pos.line X.env = pure false := by rfl) (hw : swappedStores [tg] e X.env = pure none := by rfl)
    (h1 : (assignEach [tg] X.env).map (·.2) = [assign tg X.env] := by rfl) : PS X (.Assign [tg] e pos) (liftS W E (dAsg t g)) := ps_lift (ps_asg he hg hs hw h1) fun D σ H h => asg_core h
theorem name_core {t : TD} {i : Nat} {D : Ends} {σ : L2.St} {H : Hp} (h : liftS W E (dAsg t (dgName i)) D σ H) : tAsg (lift W E t) (gName i) D σ H := by
  obtain ⟨m, st, env, Dd, Ex, r, q, k1, k2, k3, k4, x⟩ := h
  exact ⟨m, st, env, _, Ex, r, q, fun d st1 m1 H1 v q1 S1 O1 h1 => k1 _ st1 m1 H1 _ q1 S1 ((r.go S1 O1).set h1 i), x⟩
theorem ds_set {i : Nat} {x : Str} {t : TD} {pos' : Pos} (hN : X.N.Nodup) (hi : X.N[i]? = some x) (hx : Loc X.env.scope x) (he : PE X e (lift W E t)) (hs : swapsWith e (some (.Name x pos')) pos.line X.env = pure false := by rfl) (hf : X.fn x = true ∨ X.env.scope.names.lookup x = some .local := by first | exact .inl rfl | exact .inr rfl | assumption) :
    PS X (.Assign [.Name x pos'] e pos) (liftS W E (dAsg t (dgName i))) := ps_lift (ps_set hN hi hx he hs hf) fun D σ H h => name_core h
/-- a, b = x, y -/
def dPar (i j : Nat) (tl : TDL) : TDS := fun D Ex env st => tl env st (fun l st1 => ∃ d e, l = [d, e] ∧ D.nx ((env.set i (some d)).set j (some e)) st1) Ex
theorem ds_par {i j : Nat} {x y : Str} {a b : Expr} {tl : TDL} {px py pt : Pos} {kt k2 pt2} (hc : X.calm = true) (hN : X.N.Nodup) (hi : X.N[i]? = some x) (hj : X.N[j]? = some y) (hij : i ≠ j)
    (hx : X.env.scope.names.lookup x = some .local) (hy : X.env.scope.names.lookup y = some .local) (ha : PA X [a, b] (liftL W E tl))
    (hw : swappedStores [.Tuple [.Name x px, .Name y py] kt pt] (.Tuple [a, b] k2 pt2) X.env = pure (some [x, y]))
    (hs : swapsWithSole [.Tuple [.Name x px, .Name y py] kt pt] (.Tuple [a, b] k2 pt2) pos.line X.env = pure false := by rfl) :
    PS X (.Assign [.Tuple [.Name x px, .Name y py] kt pt] (.Tuple [a, b] k2 pt2) pos) (liftS W E (dPar i j tl)) :=
  ps_lift (ps_par hc hN hi hj hij hx hy ha hw hs) fun D σ H ⟨m, st, env, Dd, Ex, r, q, k1, k2, k3, k4, x⟩ => ⟨m, st, env, _, Ex, r, q, fun l st1 m1 H1 vs ⟨d, e, el, q1⟩ S1 O1 h1 => by
    subst el
    obtain ⟨v, r1, e1, h0, w, r2, e2, h2, e3⟩ := h1
    subst e1 e2
    have e3 : r2 = [] := e3
    subst e3
    exact ⟨v, w, rfl, k1 _ st1 m1 H1 _ q1 S1 (((r.go S1 O1).set h0 i).set h2 j)⟩, x⟩
end

/-! ### what is walked -/
structure Yields (W : Wd) (J : It) (m0 : List Addr) (H0 : Hp) (xs : List D) (G : SD → Prop) : Prop where
  go : ∀ i m H st, Stp m0 H0 m H → StOk W m H st → G st → i < xs.length → J.go i H
  stop : ∀ m H st, Stp m0 H0 m H → StOk W m H st → G st → J.stop xs.length H
  yld : ∀ i m H st x H', Stp m0 H0 m H → StOk W m H st → G st → i < xs.length → J.yld i H x H' → ∃ d, xs[i]? = some d ∧ Stp m H m H' ∧ StOk W m H' st ∧ Is W m H' d x
theorem Yields.mono {W : Wd} {J : It} {m0 m1 : List Addr} {H0 H1 : Hp} {xs : List D} {G : SD → Prop} (y : Yields W J m0 H0 xs G) (S : Stp m0 H0 m1 H1) : Yields W J m1 H1 xs G :=
  ⟨fun i m H st T => y.go i m H st (S.trans T), fun m H st T => y.stop m H st (S.trans T), fun i m H st x H' T => y.yld i m H st x H' (S.trans T)⟩
abbrev TDI := DV → SD → (List D → (SD → Prop) → SD → Prop) → DX → Prop
def liftI (W : Wd) (E : XK) (t : TDI) : TI := fun σ H R => ∃ m st env P Ex, Sim W m H st env σ ∧ t env st P Ex ∧ (∀ xs G st' m' H' J, P xs G st' → Stp m H m' H' → StOk W m' H' st' → Yields W J m' H' xs G → R J H') ∧ Exn W m H Ex E
theorem pi_lift {X : Cx} {tg e : Expr} {t u : TI} (h : PI X tg e t) (i : ∀ σ H R, u σ H R → t σ H R) : PI X tg e u := ⟨fun pins s σ H R I q => h.run pins s σ H R I (i σ H R q)⟩
theorem pi_or {X : Cx} {tg e : Expr} {t u : TI} (h : PI X tg e t) (h' : PI X tg e u) : PI X tg e (fun σ H R => t σ H R ∨ u σ H R) := ⟨fun pins s σ H R I q => q.elim (h.run pins s σ H R I) (h'.run pins s σ H R I)⟩
theorem pe_or' {X : Cx} {e : Expr} {t u : TE} (h : PE X e t) (h' : PE X e u) : PE X e (fun σ H R => t σ H R ∨ u σ H R) := ⟨fun pins s σ H R I q => q.elim (h.run pins s σ H R I) (h'.run pins s σ H R I)⟩
theorem ps_or' {X : Cx} {e : Stmt} {t u : TS} (h : PS X e t) (h' : PS X e u) : PS X e (fun D σ H => t D σ H ∨ u D σ H) := ⟨fun pins s σ H D I q => q.elim (h.run pins s σ H D I) (h'.run pins s σ H D I)⟩
section
variable {W : Wd} {m0 : List Addr} {H0 : Hp} {st0 : SD}
theorem IsL.at {l : List D} {vs : List V} {m : List Addr} {H : Hp} (h : IsL W m H l vs) {i : Nat} {x : V} (e : vs[i]? = some x) : ∃ d, l[i]? = some d ∧ Is W m H d x := h.get' e
theorem yields_tup {a : Addr} {vs : List V} {l : List D} (O : StOk W m0 H0 st0) (q : SqT W.K H0 a vs) (h : IsL W m0 H0 l vs) : Yields W (Itt W.K a) m0 H0 l (fun _ => True) where
  go := fun i m H st S O' _ hi => ⟨vs, vs[i]'(by rw [← h.length]; exact hi), S.sqT O.mut q, by simp [h.length ▸ hi]⟩
  stop := fun m H st S O' _ => ⟨vs, S.sqT O.mut q, by rw [h.length]; exact Nat.le_refl _⟩
  yld := fun i m H st x H' S O' _ _ ⟨e, y⟩ => by
    subst e
    obtain ⟨d, e1, e2⟩ := h.get' (y vs (S.sqT O.mut q))
    exact ⟨d, e1, .refl _ _, O', Is.mono S O.mut d x e2⟩
theorem yields_lst {a : Addr} {vs : List V} {l : List D} (O : StOk W m0 H0 st0) (q : H0 a = some (.lst vs)) (n : a ∉ m0) (h : IsL W m0 H0 l vs) : Yields W (Itl W.K a) m0 H0 l (fun _ => True) where
  go := fun i m H st S O' _ hi => ⟨vs, vs[i]'(by rw [← h.length]; exact hi), .inl (.inl (S.keep a _ q n (fun ps z => by cases z))), by simp [h.length ▸ hi]⟩
  stop := fun m H st S O' _ => ⟨vs, .inl (.inl (S.keep a _ q n (fun ps z => by cases z))), by rw [h.length]; exact Nat.le_refl _⟩
  yld := fun i m H st x H' S O' _ _ ⟨e, y⟩ => by
    subst e
    obtain ⟨d, e1, e2⟩ := h.get' (y vs (.inl (.inl (S.keep a _ q n (fun ps z => by cases z)))))
    exact ⟨d, e1, .refl _ _, O', Is.mono S O.mut d x e2⟩
theorem lst_at {m : List Addr} {H : Hp} {st : SD} (O : StOk W m H st) {j : Nat} {a : Addr} {l : List D} (e : m[j]? = some a) (g : st[j]? = some (.lst l)) : ∃ vs, H a = some (.lst vs) ∧ IsL W m H l vs := by
  obtain ⟨a', e', h⟩ := O.at g
  rw [e] at e'
  cases e'
  exact h
theorem yields_ref {j : Nat} {a : Addr} {l : List D} (e : m0[j]? = some a) : Yields W (Itl W.K a) m0 H0 l (fun st => st[j]? = some (.lst l)) where
  go := fun i m H st S O' g hi => by
    obtain ⟨vs, q, h⟩ := lst_at O' (S.at e) g
    exact ⟨vs, vs[i]'(by rw [← h.length]; exact hi), .inl (.inl q), by simp [h.length ▸ hi]⟩
  stop := fun m H st S O' g => by
    obtain ⟨vs, q, h⟩ := lst_at O' (S.at e) g
    exact ⟨vs, .inl (.inl q), by rw [h.length]; exact Nat.le_refl _⟩
  yld := fun i m H st x H' S O' g _ ⟨e', y⟩ => by
    subst e'
    obtain ⟨vs, q, h⟩ := lst_at O' (S.at e) g
    obtain ⟨d, e1, e2⟩ := h.get' (y vs (.inl (.inl q)))
    exact ⟨d, e1, .refl _ _, O', e2⟩
theorem is_int {m : List Addr} {H : Hp} {i : Int} : Is W m H (.int i) (.int i) := rfl
theorem yields_range {lo : Int} {n : Nat} : Yields W (Itr lo n) m0 H0 ((List.range n).map fun i => D.int (lo + (i : Nat))) (fun _ => True) where
  go := fun i m H st S O' _ hi => by
    have hi : i < n := by simpa using hi
    exact hi
  stop := fun m H st S O' _ => by show n ≤ _; simp
  yld := fun i m H st x H' S O' _ hi ⟨e, y⟩ => by
    subst e y
    have hi : i < n := by simpa using hi
    exact ⟨.int (lo + i), by simp [hi], .refl _ _, O', rfl⟩
/-- a new pair -/
theorem pair_new {m : List Addr} {H : Hp} {st : SD} (O : StOk W m H st) {T : Addr} {d e : D} {x y : V} (hT : H T = none) (hd : Is W m H d x) (he : Is W m H e y) : Stp m H m (upd H T (.tup [x, y])) ∧ StOk W m (upd H T (.tup [x, y])) st ∧ Is W m (upd H T (.tup [x, y])) (.tup [d, e]) (.ref T) :=
  have S : Stp m H m (upd H T (.tup [x, y])) := Stp.new hT
  ⟨S, O.new hT, T, [x, y], rfl, .inl (.inl upd_same), x, [y], rfl, Is.mono S O.mut d x hd, y, [], rfl, Is.mono S O.mut e y he, rfl⟩
def enumD (l : List D) : List D := (List.range l.length).zipWith (fun i d => .tup [.int (i : Nat), d]) l
theorem enumD_length (l : List D) : (enumD l).length = l.length := by unfold enumD; simp
theorem enumD_at {l : List D} {i : Nat} {d : D} (e : l[i]? = some d) : (enumD l)[i]? = some (.tup [.int (i : Nat), d]) := by
  unfold enumD
  obtain ⟨h, e'⟩ := List.getElem?_eq_some_iff.mp e
  rw [List.getElem?_eq_some_iff]
  refine ⟨by simp [h], ?_⟩
  simp [e']
theorem yields_enum {a : Addr} {l : List D} {G : SD → Prop} (hq : ∀ m H st, Stp m0 H0 m H → StOk W m H st → G st → ∃ vs, SqL W.K H a vs ∧ IsL W m H l vs) : Yields W (Ite W.K a) m0 H0 (enumD l) G where
  go := fun i m H st S O' g hi => by
    obtain ⟨vs, q, h⟩ := hq m H st S O' g
    rw [enumD_length, h.length] at hi
    exact ⟨vs, vs[i], q, by simp [hi]⟩
  stop := fun m H st S O' g => by
    obtain ⟨vs, q, h⟩ := hq m H st S O' g
    exact ⟨vs, q, by rw [enumD_length, h.length]; exact Nat.le_refl _⟩
  yld := fun i m H st x H' S O' g hi ⟨T, y, ex, hT, eH, hy⟩ => by
    subst ex eH
    obtain ⟨vs, q, h⟩ := hq m H st S O' g
    obtain ⟨d, e1, e2⟩ := h.get' (hy vs q)
    obtain ⟨p1, p2, p3⟩ := pair_new O' hT (is_int (W := W) (i := (i : Nat))) e2
    exact ⟨_, enumD_at e1, p1, p2, p3⟩
def keyD : Key → D
  | .inl i => .int i
  | .inr x => .str x
theorem is_key {m : List Addr} {H : Hp} : ∀ k : Key, Is W m H (keyD k) (kV k)
  | .inl _ => rfl
  | .inr _ => rfl
theorem IsK.length : ∀ {l : List (Key × D)} {kvs : List (Key × V)} {m : List Addr} {H : Hp}, IsK W m H l kvs → l.length = kvs.length
  | [], _, _, _, h => by cases h; rfl
  | (k, d) :: l, _, _, _, ⟨v, r, e, h, t⟩ => by subst e; simp [IsK.length t]
theorem IsK.at : ∀ {l : List (Key × D)} {kvs : List (Key × V)} {m : List Addr} {H : Hp} {i : Nat} {k : Key} {v : V}, IsK W m H l kvs → kvs[i]? = some (k, v) → ∃ d, l[i]? = some (k, d) ∧ Is W m H d v
  | [], _, _, _, _, _, _, h, e => by
    have h : _ = [] := h
    subst h
    simp at e
  | (k, d) :: l, _, _, _, 0, _, _, ⟨v, r, e, h, t⟩, q => by
    subst e
    simp at q
    obtain ⟨q1, q2⟩ := q
    subst q1 q2
    exact ⟨d, rfl, h⟩
  | (k, d) :: l, _, _, _, i + 1, _, _, ⟨v, r, e, h, t⟩, q => by
    subst e
    obtain ⟨d', e1, e2⟩ := IsK.at (i := i) t (by simpa using q)
    exact ⟨d', by simpa using e1, e2⟩
theorem yields_items {d : Addr} {o : Obj} {kvs : List (Key × V)} {l : List (Key × D)} (O : StOk W m0 H0 st0) (q : H0 d = some (.frz o (.dK kvs))) (h : IsK W m0 H0 l kvs) : Yields W (Iti d o kvs) m0 H0 (l.map fun p => .tup [keyD p.1, p.2]) (fun _ => True) where
  go := fun i m H st S O' _ hi => ⟨S.frz _ _ _ q, by rw [← h.length]; simpa using hi⟩
  stop := fun m H st S O' _ => ⟨S.frz _ _ _ q, by rw [← h.length]; simp⟩
  yld := fun i m H st x H' S O' _ hi ⟨T, k, v, e1, ex, hT, eH⟩ => by
    subst ex eH
    obtain ⟨dd, e2, e3⟩ := h.at e1
    obtain ⟨p1, p2, p3⟩ := pair_new O' hT (is_key (W := W) k) (Is.mono S O.mut dd v e3)
    exact ⟨_, by rw [List.getElem?_map, e2]; rfl, p1, p2, p3⟩
theorem yields_keys {d : Addr} {o : Obj} {kvs : List (Key × V)} {l : List (Key × D)} (q : H0 d = some (.frz o (.dK kvs))) (h : IsK W m0 H0 l kvs) : Yields W (Itk d o kvs) m0 H0 (l.map fun p => keyD p.1) (fun _ => True) where
  go := fun i m H st S O' _ hi => ⟨S.frz _ _ _ q, by rw [← h.length]; simpa using hi⟩
  stop := fun m H st S O' _ => ⟨S.frz _ _ _ q, by rw [← h.length]; simp⟩
  yld := fun i m H st x H' S O' _ hi ⟨eH, k, v, e1, ex⟩ => by
    subst ex eH
    obtain ⟨dd, e2, e3⟩ := h.at e1
    exact ⟨keyD k, by rw [List.getElem?_map, e2]; rfl, .refl _ _, O', is_key k⟩
theorem yields_vals {d : Addr} {o : Obj} {kvs : List (Key × V)} {l : List (Key × D)} (O : StOk W m0 H0 st0) (q : H0 d = some (.frz o (.dK kvs))) (h : IsK W m0 H0 l kvs) : Yields W (Itd d o kvs) m0 H0 (l.map fun p => p.2) (fun _ => True) where
  go := fun i m H st S O' _ hi => ⟨S.frz _ _ _ q, by rw [← h.length]; simpa using hi⟩
  stop := fun m H st S O' _ => ⟨S.frz _ _ _ q, by rw [← h.length]; simp⟩
  yld := fun i m H st x H' S O' _ hi ⟨eH, k, e1⟩ => by
    subst eH
    obtain ⟨dd, e2, e3⟩ := h.at e1
    exact ⟨dd, by rw [List.getElem?_map, e2]; rfl, .refl _ _, O', Is.mono S O.mut dd x e3⟩
end

/-! ### for -/
section
variable {X : Cx} {W : Wd} {E : XK} {pos : Pos}
/-- the turns of a loop over xs, while G holds of the store -/
def dLoop (G : SD → Prop) (g : TDG) (tb : TDS) (D : DEnds) (Ex : DX) : List FL.D → DV → SD → Prop
  | [], env, st => G st ∧ D.nx env st
  | x :: r, env, st => G st ∧ g x env st fun env1 st1 => tb { nx := dLoop G g tb D Ex r, rt := D.rt, bk := D.nx, ct := dLoop G g tb D Ex r } Ex env1 st1
def dFor (ti : TDI) (g : TDG) (tb : TDS) : TDS := fun D Ex env st => ti env st (fun xs G st1 => dLoop G g tb D Ex xs env st1) Ex
theorem dLoop_guard {G : SD → Prop} {g : TDG} {tb : TDS} {D : DEnds} {Ex : DX} : ∀ {xs : List FL.D} {env : DV} {st : SD}, dLoop G g tb D Ex xs env st → G st
  | [], _, _, h => h.1
  | _ :: _, _, _, h => h.1
theorem for_core {ti : TDI} {g : TDG} {tb : TDS} {D : Ends} {σ : L2.St} {H : Hp} (h : liftS W E (dFor ti g tb) D σ H) : tFor (liftI W E ti) (liftG W g) (liftS W E tb) D σ H := by
  obtain ⟨m, st, env, Dd, Ex, r, q, k1, k2, k3, k4, x⟩ := h
  refine ⟨m, st, env, _, Ex, r, q, fun xs G st1 m1 H1 J q1 S1 O1 y => ?_, x⟩
  refine ⟨fun i n σ' H' => n = xs.length - i ∧ i ≤ xs.length ∧ ∃ m' st' env', Stp m1 H1 m' H' ∧ Sim W m' H' st' env' σ' ∧ dLoop G g tb Dd Ex (xs.drop i) env' st', ⟨xs.length, by simp, Nat.zero_le _, m1, st1, env, .refl _ _, r.go S1 O1, by simpa using q1⟩, ?_⟩
  rintro i n σ' H' ⟨rfl, hi, m', st', env', S', s', q'⟩
  have hG := dLoop_guard q'
  by_cases hlt : i < xs.length
  · refine .inr ⟨y.go i m' H' st' S' s'.ok hG hlt, fun σ2 H2 => i < xs.length ∧ ∃ m2 st2 env2, Stp m1 H1 m2 H2 ∧ Sim W m2 H2 st2 env2 σ2 ∧ dLoop G g tb Dd Ex (xs.drop (i + 1)) env2 st2, fun σ2 H2 ⟨_, p⟩ => ⟨xs.length - (i + 1), by omega, rfl, hlt, p⟩, fun v H2 hy => ?_⟩
    obtain ⟨d, ed, T2, O2, hd⟩ := y.yld i m' H' st' v H2 S' s'.ok hG hlt hy
    obtain ⟨_, ed'⟩ := List.getElem?_eq_some_iff.mp ed
    rw [List.drop_eq_getElem_cons hlt, ed'] at q'
    obtain ⟨_, q'⟩ := q'
    refine ⟨m', st', env', d, _, s'.go T2 O2, hd, q', fun env3 st3 m3 H3 σ3 q3 S3 s3 => ?_⟩
    have S13 := (S'.trans T2).trans S3
    refine ⟨m3, st3, env3, _, Ex, s3, q3, fun env4 st4 m4 H4 σ4 q4 S4 s4 => ⟨hlt, m4, st4, env4, S13.trans S4, s4, q4⟩, k2.go (S1.trans S13), fun env4 st4 m4 H4 σ4 q4 S4 s4 => k1 env4 st4 m4 H4 σ4 q4 ((S1.trans S13).trans S4) s4,
      fun env4 st4 m4 H4 σ4 q4 S4 s4 => ⟨hlt, m4, st4, env4, S13.trans S4, s4, q4⟩, x.go (S1.trans S13)⟩
  · have e : i = xs.length := by omega
    subst e
    rw [List.drop_length] at q'
    exact .inl ⟨y.stop m' H' st' S' s'.ok hG, k1 env' st' m' H' σ' q'.2 (S1.trans S') s'⟩
theorem ds_for {iter tg : Expr} {body : List Stmt} {ti : TDI} {g : TDG} {tb : TDS} (hp : PassesOwn (model X.prog X.w) X.A X.env X.xe) (hc : X.calm = true) (hi : PI X tg iter (liftI W E ti)) (hg : PG X tg (liftG W g)) (hb : PSs X body (liftS W E tb))
    (hs : ∀ x, foldedSetIterable iter X.env x = pure x := by intro _; rfl) : PS X (.For tg iter body [] pos) (liftS W E (dFor ti g tb)) := ps_lift (ps_for hp hc hi hg hb hs) fun D σ H h => for_core h
/-! ### while -/
def dWhile (c : TDB) (tb : TDS) : TDS := fun D Ex env st => ∃ V : Nat → DV → SD → Prop, (∃ n, V n env st) ∧ ∀ n env st, V n env st →
  c env st (fun b st1 => if b = true then ∃ N : DV → SD → Prop, (∀ env' st', N env' st' → ∃ n', n' < n ∧ V n' env' st') ∧ tb { nx := N, rt := D.rt, bk := D.nx, ct := N } Ex env st1 else D.nx env st1) Ex
theorem ds_while {c : Expr} {body : List Stmt} {tc : TDB} {tb : TDS} (hp : PassesOwn (model X.prog X.w) X.A X.env X.xe) (hc : PT X c (liftB W E tc)) (hb : PSs X body (liftS W E tb)) : PS X (.While c body [] pos) (liftS W E (dWhile tc tb)) :=
  ps_lift (ps_while hp hc hb) fun D σ H ⟨m, st, env, Dd, Ex, r, ⟨V, ⟨n0, v0⟩, turn⟩, k1, k2, k3, k4, x⟩ => by
    refine ⟨fun n σ' H' => ∃ m' st' env', Stp m H m' H' ∧ Sim W m' H' st' env' σ' ∧ V n env' st', ⟨n0, m, st, env, .refl _ _, r, v0⟩, ?_⟩
    rintro n σ' H' ⟨m', st', env', S', s', v'⟩
    refine ⟨m', st', env', _, Ex, s', turn n env' st' v', fun b st1 m1 H1 q1 S1 O1 => ?_, x.go S'⟩
    cases b with
    | false =>
      rw [if_neg Bool.false_ne_true] at q1 ⊢
      exact k1 env' st1 m1 H1 σ' q1 (S'.trans S1) (s'.go S1 O1)
    | true =>
      rw [if_pos rfl] at q1 ⊢
      obtain ⟨N, hN, q1⟩ := q1
      have S2 := S'.trans S1
      refine ⟨fun σ2 H2 => ∃ m2 st2 env2, Stp m H m2 H2 ∧ Sim W m2 H2 st2 env2 σ2 ∧ N env2 st2, fun σ2 H2 ⟨m2, st2, env2, T, s2, n2⟩ => ?_, m1, st1, env', _, Ex, s'.go S1 O1, q1, fun env4 st4 m4 H4 σ4 q4 S4 s4 => ⟨m4, st4, env4, S2.trans S4, s4, q4⟩, k2.go S2,
        fun env4 st4 m4 H4 σ4 q4 S4 s4 => k1 env4 st4 m4 H4 σ4 q4 (S2.trans S4) s4, fun env4 st4 m4 H4 σ4 q4 S4 s4 => ⟨m4, st4, env4, S2.trans S4, s4, q4⟩, x.go S2⟩
      obtain ⟨n', hn, v2⟩ := hN env2 st2 n2
      exact ⟨n', hn, m2, st2, env2, T, s2, v2⟩
end
end FL
/-! FE: iterables, locks, comprehensions, tuple(generator expression) on data. -/
namespace FL
open PySem PySem.Spec PyProof.Rows L2

section
variable {X : Cx} {W : Wd} {E : XK} {pos : Pos} {tg e : Expr}
/-- over a list, a tuple, a text -/
def strD (x : Str) : List D := x.cps.toList.map fun c => .str ⟨#[c]⟩
def diAt (d : D) (st1 : SD) (P : List D → (SD → Prop) → SD → Prop) : Prop := match d with
  | .tup l => P l (fun _ => True) st1
  | .tpk l => P l (fun _ => True) st1
  | .lst l => P l (fun _ => True) st1
  | .str x => P (strD x) (fun _ => True) st1
  | .ref j => ∃ l, st1[j]? = some (.lst l) ∧ P l (fun s => s[j]? = some (.lst l)) st1
  | _ => False
def diVal (t : TD) : TDI := fun env st P Ex => t env st (fun d st1 => diAt d st1 P) Ex
theorem yields_str {m0 : List Addr} {H0 : Hp} {x : Str} : Yields W (Its x) m0 H0 (strD x) (fun _ => True) where
  go := fun i m H st S O' _ hi => by
    have hi : i < x.cps.size := by simpa [strD] using hi
    exact hi
  stop := fun m H st S O' _ => by show x.cps.size ≤ _; simp [strD]
  yld := fun i m H st v H' S O' _ hi ⟨e, c, ec, ev⟩ => by
    subst e ev
    refine ⟨.str ⟨#[c]⟩, ?_, .refl _ _, O', rfl⟩
    simp only [strD, List.getElem?_map, Array.getElem?_toList, ec]
    rfl
theorem di_val {t : TD} (hK : X.K = W.K) (he : PE X e (lift W E t)) : PI X tg e (liftI W E (diVal t)) :=
  pi_lift (pi_any he) fun σ H R ⟨m, st, env, P, Ex, r, q, k, x⟩ => ⟨m, st, env, _, Ex, r, q, fun d st1 m1 H1 v q1 S1 O1 h1 => by
    rw [hK]
    cases d with
    | tup l =>
      obtain ⟨a, vs, ev, hq, hi⟩ := h1
      exact .inl ⟨a, ev, .inr ⟨⟨vs, hq⟩, k l _ st1 m1 H1 _ q1 S1 O1 (yields_tup O1 hq hi)⟩⟩
    | tpk l =>
      obtain ⟨a, vs, o, ev, ⟨hq, _⟩, hi⟩ := h1
      exact .inl ⟨a, ev, .inr ⟨⟨vs, .inl (.inr ⟨o, hq⟩)⟩, k l _ st1 m1 H1 _ q1 S1 O1 (yields_tup O1 (.inl (.inr ⟨o, hq⟩)) hi)⟩⟩
    | lst l =>
      obtain ⟨a, vs, ev, hq, hn, hi⟩ := h1
      exact .inl ⟨a, ev, .inl ⟨⟨vs, .inl (.inl hq)⟩, k l _ st1 m1 H1 _ q1 S1 O1 (yields_lst O1 hq hn hi)⟩⟩
    | ref j =>
      obtain ⟨l, hl, q1⟩ := q1
      obtain ⟨a, em, ev⟩ := h1
      obtain ⟨vs, hq, _⟩ := lst_at O1 em hl
      exact .inl ⟨a, ev, .inl ⟨⟨vs, .inl (.inl hq)⟩, k l _ st1 m1 H1 _ q1 S1 O1 (yields_ref em)⟩⟩
    | str x => exact .inr ⟨x, h1, k _ _ st1 m1 H1 _ q1 S1 O1 yields_str⟩
    | _ => exact False.elim q1, x⟩
/-- enumerate(..) of a list, a tuple -/
def deAt (d : D) (st1 : SD) (P : List D → (SD → Prop) → SD → Prop) : Prop := match d with
  | .tup l => P (enumD l) (fun _ => True) st1
  | .lst l => P (enumD l) (fun _ => True) st1
  | .ref j => ∃ l, st1[j]? = some (.lst l) ∧ P (enumD l) (fun s => s[j]? = some (.lst l)) st1
  | _ => False
def diEnum (t : TD) : TDI := fun env st P Ex => t env st (fun d st1 => deAt d st1 P) Ex
theorem yields_enumT {m0 : List Addr} {H0 : Hp} {st0 : SD} {a : Addr} {vs : List V} {l : List D} (O : StOk W m0 H0 st0) (q : SqT W.K H0 a vs) (h : IsL W m0 H0 l vs) : Yields W (IteT W.K a) m0 H0 (enumD l) (fun _ => True) where
  go := fun i m H st S O' g hi => by
    rw [enumD_length, h.length] at hi
    exact ⟨vs, vs[i], S.sqT O.mut q, by simp [hi]⟩
  stop := fun m H st S O' g => ⟨vs, S.sqT O.mut q, by rw [enumD_length, h.length]⟩
  yld := fun i m H st x H' S O' g hi ⟨T, y, ex, hT, eH, hy⟩ => by
    subst ex eH
    obtain ⟨d, e1, e2⟩ := h.get' (hy vs (S.sqT O.mut q))
    obtain ⟨p1, p2, p3⟩ := pair_new O' hT (is_int (W := W) (i := (i : Nat))) (Is.mono S O.mut d y e2)
    exact ⟨_, enumD_at e1, p1, p2, p3⟩
theorem di_enum {t : TD} {p tpos : Pos} {elts : List Expr} {kk : Nat} (hK : X.K = W.K) (hg : Gl X "enumerate") (hm : X.mg "enumerate" = none) (he : PE X e (lift W E t)) (hs : starEach [e] X.env = [(false, eval e X.env)] := by rfl) :
    PI X (.Tuple elts kk tpos) (.Call (.Name "enumerate" p) [e] [] pos) (liftI W E (diEnum t)) :=
  pi_lift (pi_enumA hg hm (pa_cons he pa_nil hs) hs) fun σ H R ⟨m, st, env, P, Ex, r, q, k, x⟩ => ⟨m, st, env, _, Ex, r, q, fun d st1 m1 H1 v q1 S1 O1 h1 => by
    show ∃ a, [v] = [.ref a] ∧ _
    rw [hK]
    cases d with
    | tup l =>
      obtain ⟨a, vs, ev, hq, hi⟩ := h1
      exact ⟨a, by rw [ev], .inr ⟨vs, hq, k _ _ st1 m1 H1 _ q1 S1 O1 (yields_enumT O1 hq hi)⟩⟩
    | lst l =>
      obtain ⟨a, vs, ev, hq, hn, hi⟩ := h1
      exact ⟨a, by rw [ev], .inl ⟨vs, .inl (.inl hq), k _ _ st1 m1 H1 _ q1 S1 O1 (yields_enum fun m2 H2 st2 S2 O2 _ => ⟨vs, .inl (.inl (S2.keep a _ hq hn (fun ps z => by cases z))), IsL.mono S2 O1.mut _ _ hi⟩)⟩⟩
    | ref j =>
      obtain ⟨l, hl, q1⟩ := q1
      obtain ⟨a, em, ev⟩ := h1
      obtain ⟨vs, hq, _⟩ := lst_at O1 em hl
      exact ⟨a, by rw [ev], .inl ⟨vs, .inl (.inl hq), k _ _ st1 m1 H1 _ q1 S1 O1 (yields_enum fun m2 H2 st2 S2 O2 g => let ⟨ws, h1, h2⟩ := lst_at O2 (S2.at em) g; ⟨ws, .inl (.inl h1), h2⟩)⟩⟩
    | _ => exact False.elim q1, x⟩
def rngD (lo : Int) (n : Nat) : List D := (List.range n).map fun i => .int (lo + (i : Nat))
def diRng1 (t : TD) : TDI := fun env st P Ex => t env st (fun d st1 => ∃ j : Int, d = .int j ∧ -(2 ^ 62) ≤ j ∧ j < 2 ^ 62 ∧ P (rngD 0 j.toNat) (fun _ => True) st1) Ex
theorem di_range1 {t : TD} {p : Pos} (hg : Gl X "range") (hm : X.mg "range" = none) (he : PE X e (lift W E t)) (hs : starEach [e] X.env = [(false, eval e X.env)] := by rfl) :
    PI X tg (.Call (.Name "range" p) [e] [] pos) (liftI W E (diRng1 t)) :=
  pi_lift (pi_range1 hg hm (pa_cons he pa_nil hs) hs) fun σ H R ⟨m, st, env, P, Ex, r, q, k, x⟩ => ⟨m, st, env, _, Ex, r, q, fun d st1 m1 H1 v ⟨j, ed, h2, h3, q1⟩ S1 O1 h1 => by
    subst ed
    have h1 : v = .int j := h1
    exact ⟨j, by rw [h1], h2, h3, k _ _ st1 m1 H1 _ q1 S1 O1 yields_range⟩, x⟩
/-! ### a locked dict walked -/
def diItems (i : Nat) (t : TD) : TDI := fun env st P Ex => t env st (fun d st1 => d = .ref i ∧ ∃ l, st1[i]? = some (.dctR l) ∧ P (l.map fun p => .tup [keyD p.1, p.2]) (fun _ => True) st1) Ex
def diKeys (i : Nat) (t : TD) : TDI := fun env st P Ex => t env st (fun d st1 => d = .ref i ∧ ∃ l, st1[i]? = some (.dctR l) ∧ P (l.map fun p => keyD p.1) (fun _ => True) st1) Ex
def diVals (i : Nat) (t : TD) : TDI := fun env st P Ex => t env st (fun d st1 => d = .ref i ∧ ∃ l, st1[i]? = some (.dctR l) ∧ P (l.map fun p => p.2) (fun _ => True) st1) Ex
theorem lkd_at {m : List Addr} {H : Hp} {st : SD} {i : Nat} {l : List (Key × D)} {v : V} (O : StOk W m H st) (hi : i ∈ W.lk) (e : st[i]? = some (.dctR l)) (h : Is W m H (.ref i) v) : ∃ a o kvs, v = .ref a ∧ H a = some (.frz o (.dK kvs)) ∧ IsK W m H l kvs := by
  obtain ⟨a, em, ev⟩ := h
  obtain ⟨a', o, kvs, em', eH⟩ := O.lk i hi
  rw [em] at em'
  cases em'
  obtain ⟨a2, em2, kvs2, hr, hk⟩ := O.at e
  rw [em] at em2
  cases em2
  refine ⟨a, o, kvs, ev, eH, ?_⟩
  rcases hr with hr | ⟨o2, hr⟩
  · rw [eH] at hr; cases hr
  · rw [eH] at hr; cases hr; exact hk
theorem di_items {i : Nat} {t : TD} {apos tpos : Pos} {elts : List Expr} {kk : Nat} (hi : i ∈ W.lk) (he : PE X e (lift W E t)) (hbase : attributeBase e "items" X.env (eval e X.env) = eval e X.env := by rfl) (hline : (apos.endLine == pos.line) = true := by rfl) :
    PI X (.Tuple elts kk tpos) (.Call (.Attribute e "items" apos) [] [] pos) (liftI W E (diItems i t)) :=
  pi_lift (pi_items he hbase hline) fun σ H R ⟨m, st, env, P, Ex, r, q, k, x⟩ => ⟨m, st, env, _, Ex, r, q, fun d st1 m1 H1 v ⟨ed, l, hl, q1⟩ S1 O1 h1 => by
    subst ed
    obtain ⟨a, o, kvs, ev, eH, hk⟩ := lkd_at O1 hi hl h1
    exact ⟨a, o, kvs, ev, eH, k _ _ st1 m1 H1 _ q1 S1 O1 (yields_items O1 eH hk)⟩, x⟩
theorem di_keys {i : Nat} {t : TD} (hi : i ∈ W.lk) (he : PE X e (lift W E t)) : PI X tg e (liftI W E (diKeys i t)) :=
  pi_lift (pi_keys he) fun σ H R ⟨m, st, env, P, Ex, r, q, k, x⟩ => ⟨m, st, env, _, Ex, r, q, fun d st1 m1 H1 v ⟨ed, l, hl, q1⟩ S1 O1 h1 => by
    subst ed
    obtain ⟨a, o, kvs, ev, eH, hk⟩ := lkd_at O1 hi hl h1
    exact ⟨a, o, ev, .inl ⟨kvs, eH, k _ _ st1 m1 H1 _ q1 S1 O1 (yields_keys eH hk)⟩⟩, x⟩
theorem di_vals {i : Nat} {t : TD} {apos : Pos} (hi : i ∈ W.lk) (he : PE X e (lift W E t)) (hbase : attributeBase e "values" X.env (eval e X.env) = eval e X.env := by rfl) (hline : (apos.endLine == pos.line) = true := by rfl) :
    PI X tg (.Call (.Attribute e "values" apos) [] [] pos) (liftI W E (diVals i t)) :=
  pi_lift (pi_values he hbase hline) fun σ H R ⟨m, st, env, P, Ex, r, q, k, x⟩ => ⟨m, st, env, _, Ex, r, q, fun d st1 m1 H1 v ⟨ed, l, hl, q1⟩ S1 O1 h1 => by
    subst ed
    obtain ⟨a, o, kvs, ev, eH, hk⟩ := lkd_at O1 hi hl h1
    exact ⟨a, o, kvs, ev, eH, k _ _ st1 m1 H1 _ q1 S1 O1 (yields_vals O1 eH hk)⟩, x⟩
/-! ### locks -/
theorem stp_lock {m : List Addr} {H : Hp} {i : Nat} {a : Addr} {od : Obj} {kvs : List (Key × V)} (e : m[i]? = some a) (eH : H a = some (.dK kvs)) : Stp m H m (upd H a (.frz od (.dK kvs))) :=
  Stp.set e fun o u z => by rw [eH] at z; cases z
theorem ok_lock {m : List Addr} {H : Hp} {st : SD} {i : Nat} {l : List (Key × D)} {a : Addr} {od : Obj} {kvs : List (Key × V)} (O : StOk W m H st) (es : st[i]? = some (.dctR l)) (e : m[i]? = some a) (eH : H a = some (.dK kvs)) : StOk (W.lock i) m (upd H a (.frz od (.dK kvs))) st := by
  have S := stp_lock (od := od) e eH
  obtain ⟨a2, e2, kvs2, hr, hk⟩ := O.at es
  rw [e] at e2
  cases e2
  have hkk : kvs2 = kvs := by
    rcases hr with hr | ⟨o2, hr⟩ <;> rw [eH] at hr <;> cases hr
    rfl
  subst hkk
  have q := O.set (ob := .dctR l) e (o := .frz od (.dK kvs2)) (fun o u z => by rw [eH] at z; cases z) ⟨kvs2, .inr ⟨od, upd_same⟩, IsK.mono S O.mut l kvs2 hk⟩
  have hset : st.set i (.dctR l) = st := by
    obtain ⟨hi, ei⟩ := List.getElem?_eq_some_iff.mp es
    rw [← ei]
    exact List.set_getElem_self hi
  rw [hset] at q
  exact q.locked ⟨a, od, kvs2, e, upd_same⟩
theorem stp_unlock {m m' : List Addr} {H H' : Hp} {i : Nat} {a : Addr} {od : Obj} {kvs : List (Key × V)} (e : m[i]? = some a) (eH : H a = some (.dK kvs)) (S : Stp m (upd H a (.frz od (.dK kvs))) m' H') : Stp m H m' (upd H' a (.dK kvs)) := by
  have hm : a ∈ m := List.mem_of_getElem? e
  refine ⟨?_, fun b o eb nb ht => ?_, fun b o u eb => ?_, fun b eb => ?_⟩
  · obtain ⟨r, er, hr⟩ := S.pre
    refine ⟨r, er, fun p hp => ?_⟩
    have := hr p hp
    by_cases h : p = a
    · rw [h, upd_same] at this; cases this
    · rw [upd_ne h] at this; exact this
  · have nba : b ≠ a := fun z => nb (by rw [z]; exact hm)
    rw [upd_ne nba]
    exact S.keep b o (by rw [upd_ne nba]; exact eb) nb ht
  · have nba : b ≠ a := fun z => by rw [z, eH] at eb; cases eb
    rw [upd_ne nba]
    exact S.frz b o u (by rw [upd_ne nba]; exact eb)
  · by_cases h : b = a
    · rw [h, upd_same] at eb; cases eb
    · rw [upd_ne h] at eb
      have := S.dom b eb
      rw [upd_ne h] at this
      exact this
theorem is_unlock {m : List Addr} {H : Hp} {i : Nat} {a : Addr} {od : Obj} {kvs : List (Key × V)} (M : MutM m H) (e : m[i]? = some a) (eH : H a = some (.frz od (.dK kvs))) :
    (∀ (d : D) (v : V), Is W m H d v → Is W m (upd H a (.dK kvs)) d v) ∧ (∀ (l : List D) (vs : List V), IsL W m H l vs → IsL W m (upd H a (.dK kvs)) l vs) := by
  have nt : ∀ b o, H b = some o → (∀ o' u', o ≠ .frz o' u') → upd H a (.dK kvs) b = some o := fun b o eb hn => by
    rw [upd_ne (fun z => by rw [z, eH] at eb; cases eb; exact hn _ _ rfl)]; exact eb
  have hrd : ∀ b u, Rd H b u → b ∉ m → Rd (upd H a (.dK kvs)) b u := fun b u hb nb => by
    have nba : b ≠ a := fun z => nb (by rw [z]; exact List.mem_of_getElem? e)
    rcases hb with hb | ⟨o, hb⟩
    · exact .inl (by rw [upd_ne nba]; exact hb)
    · exact .inr ⟨o, by rw [upd_ne nba]; exact hb⟩
  have hsq : ∀ b vs, SqT W.K H b vs → SqT W.K (upd H a (.dK kvs)) b vs := fun b vs hb => by
    rcases hb with hb | hb
    · refine .inl (hrd b _ hb fun hm => ?_)
      have mu := M b hm
      rcases hb with hb | ⟨o, hb⟩ <;> rw [hb] at mu <;> exact mu
    · exact .inr hb
  have hext : ∀ b φ, H b = some (.ext φ) → upd H a (.dK kvs) b = some (.ext φ) := fun b φ eb => nt b _ eb fun _ _ z => by cases z
  have key : ∀ n, (∀ (d : D) (v : V), sizeOf d < n → Is W m H d v → Is W m (upd H a (.dK kvs)) d v) ∧ (∀ (l : List D) (vs : List V), sizeOf l < n → IsL W m H l vs → IsL W m (upd H a (.dK kvs)) l vs) := by
    intro n
    induction n with
    | zero => exact ⟨fun _ _ h => absurd h (Nat.not_lt_zero _), fun _ _ h => absurd h (Nat.not_lt_zero _)⟩
    | succ n ih =>
      refine ⟨fun d v hs h => ?_, fun l vs hs h => ?_⟩
      · cases d with
        | tup l =>
          obtain ⟨b, vs, ev, hq, hi⟩ := h
          exact ⟨b, vs, ev, hsq b vs hq, ih.2 l vs (by simp at hs; omega) hi⟩
        | tpk l =>
          obtain ⟨b, vs, o, ev, hq, hi⟩ := h
          exact ⟨b, vs, o, ev, ⟨by rw [upd_ne (fun z => by rw [← z, hq.1] at eH; cases eH)]; exact hq.1, hq.2⟩, ih.2 l vs (by simp at hs; omega) hi⟩
        | lst l =>
          obtain ⟨b, vs, ev, hq, hn, hi⟩ := h
          exact ⟨b, vs, ev, nt b _ hq (fun _ _ z => by cases z), hn, ih.2 l vs (by simp at hs; omega) hi⟩
        | fn k => exact W.fnm k v m m H _ hext (fun b o xs e2 => by rw [upd_ne (fun z => by rw [z, eH] at e2; cases e2)]; exact e2) (fun b xs e2 nb => ⟨nt b _ e2 (fun _ _ z => by cases z), nb⟩) h
        | _ => exact h
      · cases l with
        | nil => exact h
        | cons d l =>
          obtain ⟨v, r, ev, h0, ht⟩ := h
          exact ⟨v, r, ev, ih.1 d v (by simp at hs; omega) h0, ih.2 l r (by simp at hs; omega) ht⟩
  exact ⟨fun d v => (key (sizeOf d + 1)).1 d v (Nat.lt_succ_self _), fun l vs => (key (sizeOf l + 1)).2 l vs (Nat.lt_succ_self _)⟩
theorem ok_unlock {m : List Addr} {H : Hp} {st : SD} {i : Nat} {l : List (Key × D)} {a : Addr} {od : Obj} {kvs : List (Key × V)} (hni : i ∉ W.lk) (O : StOk (W.lock i) m H st) (es : st[i]? = some (.dctR l)) (e : m[i]? = some a) (eH : H a = some (.frz od (.dK kvs))) : StOk W m (upd H a (.dK kvs)) st := by
  have M := O.mut
  have O1 := O.unlocked
  have is' := is_unlock (W := W) M e eH
  have nt : ∀ b o, H b = some o → (∀ o' u', o ≠ .frz o' u') → upd H a (.dK kvs) b = some o := fun b o eb hn => by
    rw [upd_ne (fun z => by rw [z, eH] at eb; cases eb; exact hn _ _ rfl)]; exact eb
  have hext : ∀ b φ, H b = some (.ext φ) → upd H a (.dK kvs) b = some (.ext φ) := fun b φ eb => nt b _ eb fun _ _ z => by cases z
  have isK' : ∀ (l : List (Key × D)) (ks : List (Key × V)), IsK W m H l ks → IsK W m (upd H a (.dK kvs)) l ks := by
    intro l
    induction l with
    | nil => exact fun _ h => h
    | cons p l ih =>
      intro ks h
      obtain ⟨v, r, ev, h0, ht⟩ := h
      exact ⟨v, r, ev, is'.1 _ _ h0, ih r ht⟩
  refine ⟨O1.len, O1.nd, fun j o b e1 e2 => ?_, fun P hP => ?_, fun p hp => ?_, fun j hj => ?_⟩
  · have hb := O1.obj j o b e1 e2
    by_cases hj : j = i
    · subst hj
      rw [e] at e2
      cases e2
      rw [es] at e1
      cases e1
      obtain ⟨ks, hr, hk⟩ := hb
      rcases hr with hr | ⟨o2, hr⟩
      · rw [eH] at hr; cases hr
      · rw [eH] at hr
        cases hr
        exact ⟨kvs, .inl upd_same, isK' _ _ hk⟩
    · have nba : b ≠ a := fun z => hj (by
        subst z
        obtain ⟨h1, q1⟩ := List.getElem?_eq_some_iff.mp e2
        obtain ⟨h2, q2⟩ := List.getElem?_eq_some_iff.mp e
        exact (List.getElem_inj O1.nd).mp (q1.trans q2.symm))
      cases o with
      | lst l => obtain ⟨vs, hq, hi⟩ := hb; exact ⟨vs, by rw [upd_ne nba]; exact hq, is'.2 _ _ hi⟩
      | dct l => obtain ⟨vs, hq, hi⟩ := hb; exact ⟨vs, by rw [upd_ne nba]; exact hq, isK' _ _ hi⟩
      | dctR l => obtain ⟨vs, hq, hi⟩ := hb; exact ⟨vs, by unfold Rd; rw [upd_ne nba]; exact hq, isK' _ _ hi⟩
      | ins C fs => obtain ⟨dx, vs, hq, hn, hi⟩ := hb; exact ⟨dx, vs, by rw [upd_ne nba]; exact hq, hn, is'.2 _ _ hi⟩
      | dctN n => obtain ⟨vs, hq, hn⟩ := hb; exact ⟨vs, by rw [upd_ne nba]; exact hq, hn⟩
      | gone =>
        show Own (upd H a (.dK kvs) b)
        rw [upd_ne nba]
        exact hb
  · obtain ⟨ps, h1, h2⟩ := O1.tg P hP
    exact ⟨ps, nt P _ h1 (fun _ _ z => by cases z), h2⟩
  · obtain ⟨ps, h1, h2, h3⟩ := O1.tl p hp
    refine ⟨ps, nt p.1 _ h1 (fun _ _ z => by cases z), h2, fun pos cv hc => ?_⟩
    obtain ⟨c, e1, e2⟩ := h3 pos cv hc
    exact ⟨c, e1, hext c _ e2⟩
  · obtain ⟨b, o, ks, e1, e2⟩ := O1.lk j hj
    have nba : b ≠ a := fun z => by
      subst z
      obtain ⟨h1, q1⟩ := List.getElem?_eq_some_iff.mp e1
      obtain ⟨h2, q2⟩ := List.getElem?_eq_some_iff.mp e
      have : j = i := (List.getElem_inj O1.nd).mp (q1.trans q2.symm)
      rw [this] at hj
      exact hni hj
    exact ⟨b, o, ks, e1, by rw [upd_ne nba]; exact e2⟩
theorem Sim.locked {m : List Addr} {H : Hp} {st : SD} {env : DV} {σ : L2.St} {i : Nat} (s : Sim W m H st env σ) (h : Lkd m H i) : Sim (W.lock i) m H st env σ :=
  ⟨s.ok.locked h, fun j d e => let ⟨v, h1, h2⟩ := s.sl j d e; ⟨v, h1, (Is.lk i d v).mpr h2⟩, s.len⟩
theorem Sim.unlocked {m : List Addr} {H : Hp} {st : SD} {env : DV} {σ : L2.St} {i : Nat} (s : Sim (W.lock i) m H st env σ) : Sim W m H st env σ :=
  ⟨s.ok.unlocked, fun j d e => let ⟨v, h1, h2⟩ := s.sl j d e; ⟨v, h1, (Is.lk i d v).mp h2⟩, s.len⟩
theorem Sim.unlock {m : List Addr} {H : Hp} {st : SD} {env : DV} {σ : L2.St} {i : Nat} {l : List (Key × D)} {a : Addr} {od : Obj} {kvs : List (Key × V)} (hni : i ∉ W.lk) (s : Sim (W.lock i) m H st env σ) (es : st[i]? = some (.dctR l)) (e : m[i]? = some a) (eH : H a = some (.frz od (.dK kvs))) :
    Sim W m (upd H a (.dK kvs)) st env σ :=
  ⟨ok_unlock hni s.ok es e eH, fun j d ej => let ⟨v, h1, h2⟩ := s.unlocked.sl j d ej; ⟨v, h1, (is_unlock s.ok.mut e eH).1 d v h2⟩, s.len⟩
/-- what may be the case of a dict that is only read: it is locked, or it is not -/
theorem rd_case {m : List Addr} {H : Hp} {st : SD} {i : Nat} {l : List (Key × D)} (O : StOk W m H st) (es : st[i]? = some (.dctR l)) : Lkd m H i ∨ ∃ a kvs, m[i]? = some a ∧ H a = some (.dK kvs) ∧ i ∉ W.lk := by
  obtain ⟨a, e, kvs, hr, hk⟩ := O.at es
  rcases hr with hr | ⟨o, hr⟩
  · refine .inr ⟨a, kvs, e, hr, fun hi => ?_⟩
    obtain ⟨a2, o, ks, e2, h2⟩ := O.lk i hi
    rw [e] at e2
    cases e2
    rw [hr] at h2
    cases h2
  · exact .inl ⟨a, o, kvs, e, hr⟩
/-- a statement that walks a dict of the store, which is only read -/
def dLockS (t : Nat → TDS) : TDS := fun D Ex env st => ∃ i l, st[i]? = some (.dctR l) ∧
  t i { nx := fun e s => s[i]? = some (.dctR l) ∧ D.nx e s, rt := fun d s => s[i]? = some (.dctR l) ∧ D.rt d s, bk := fun e s => s[i]? = some (.dctR l) ∧ D.bk e s, ct := fun e s => s[i]? = some (.dctR l) ∧ D.ct e s } Ex env st
theorem ds_lock {S : Stmt} {t : Nat → TDS} (h : ∀ i, PS X S (liftS (W.lock i) E (t i))) : PS X S (liftS W E (dLockS t)) := by
  refine ⟨fun pins s σ H D I ⟨m, st, env, Dd, Ex, r, ⟨i, l, es, q⟩, k1, k2, k3, k4, x⟩ => ?_⟩
  have xl : ∀ {H2 : Hp}, Stp m H m H2 → Exn (W.lock i) m H2 Ex E := fun {H2} S C y st' m' H' p T O => x C y st' m' H' p (S.trans T) O.unlocked
  rcases rd_case r.ok es with hl | ⟨a, kvs, e, eH, hni⟩
  · refine (h i).run pins s σ H D I ⟨m, st, env, _, Ex, r.locked hl, q, fun env' st' m' H' σ' p T s' => k1 env' st' m' H' σ' p.2 T s'.unlocked, fun d st' m' H' v p T O hv => k2 d st' m' H' v p.2 T O.unlocked ((Is.lk i d v).mp hv),
      fun env' st' m' H' σ' p T s' => k3 env' st' m' H' σ' p.2 T s'.unlocked, fun env' st' m' H' σ' p T s' => k4 env' st' m' H' σ' p.2 T s'.unlocked, xl (.refl _ _)⟩
  · refine (ps_lock (h i)).run pins s σ H D I ⟨a, .dK kvs, eH, trivial, fun od => ?_⟩
    have S := stp_lock (od := od) e eH
    have hf : ∀ {m' H'}, Stp m (upd H a (.frz od (.dK kvs))) m' H' → H' a = some (.frz od (.dK kvs)) := fun {m' H'} T => T.frz _ _ _ upd_same
    have s0 : Sim (W.lock i) m (upd H a (.frz od (.dK kvs))) st env σ := ⟨ok_lock r.ok es e eH, fun j d ej => let ⟨v, h1, h2⟩ := r.sl j d ej; ⟨v, h1, (Is.lk i d v).mpr (Is.mono S r.ok.mut d v h2)⟩, r.len⟩
    refine ⟨m, st, env, _, Ex, s0, q, fun env' st' m' H' σ' p T s' => ⟨hf T, k1 env' st' m' _ σ' p.2 (stp_unlock e eH T) (s'.unlock hni p.1 (T.at e) (hf T))⟩,
      fun d st' m' H' v p T O hv => ⟨hf T, k2 d st' m' _ v p.2 (stp_unlock e eH T) (ok_unlock hni O p.1 (T.at e) (hf T)) ((is_unlock O.mut (T.at e) (hf T)).1 d v ((Is.lk i d v).mp hv))⟩,
      fun env' st' m' H' σ' p T s' => ⟨hf T, k3 env' st' m' _ σ' p.2 (stp_unlock e eH T) (s'.unlock hni p.1 (T.at e) (hf T))⟩, fun env' st' m' H' σ' p T s' => ⟨hf T, k4 env' st' m' _ σ' p.2 (stp_unlock e eH T) (s'.unlock hni p.1 (T.at e) (hf T))⟩, xl S⟩
/-- an expression that walks a dict of the store, which is only read -/
def dLock (t : Nat → TD) : TD := fun env st P Ex => ∃ i l, st[i]? = some (.dctR l) ∧ t i env st (fun d s => s[i]? = some (.dctR l) ∧ P d s) Ex
theorem d_lock {t : Nat → TD} (h : ∀ i, PE X e (lift (W.lock i) E (t i))) : PE X e (lift W E (dLock t)) := by
  refine ⟨fun pins s σ H Q I ⟨m, st, env, P, Ex, r, ⟨i, l, es, q⟩, k, x⟩ => ?_⟩
  have xl : ∀ {H2 : Hp}, Stp m H m H2 → Exn (W.lock i) m H2 Ex E := fun {H2} S C y st' m' H' p T O => x C y st' m' H' p (S.trans T) O.unlocked
  rcases rd_case r.ok es with hl | ⟨a, kvs, e, eH, hni⟩
  · exact (h i).run pins s σ H Q I ⟨m, st, env, _, Ex, r.locked hl, q, fun d st' m' H' v p T O hv => k d st' m' H' v p.2 T O.unlocked ((Is.lk i d v).mp hv), xl (.refl _ _)⟩
  · refine (pe_lock (h i)).run pins s σ H Q I ⟨a, .dK kvs, eH, trivial, fun od => ?_⟩
    have S := stp_lock (od := od) e eH
    have hf : ∀ {m' H'}, Stp m (upd H a (.frz od (.dK kvs))) m' H' → H' a = some (.frz od (.dK kvs)) := fun {m' H'} T => T.frz _ _ _ upd_same
    have s0 : Sim (W.lock i) m (upd H a (.frz od (.dK kvs))) st env σ := ⟨ok_lock r.ok es e eH, fun j d ej => let ⟨v, h1, h2⟩ := r.sl j d ej; ⟨v, h1, (Is.lk i d v).mpr (Is.mono S r.ok.mut d v h2)⟩, r.len⟩
    exact ⟨m, st, env, _, Ex, s0, q, fun d st' m' H' v p T O hv => ⟨hf T, k d st' m' _ v p.2 (stp_unlock e eH T) (ok_unlock hni O p.1 (T.at e) (hf T)) ((is_unlock O.mut (T.at e) (hf T)).1 d v ((Is.lk i d v).mp hv))⟩, xl S⟩
end
end FL
/-! FF: comprehensions, tuple(generator expression) on data. -/
namespace FL
open PySem PySem.Spec PyProof.Rows L2

theorem wipe_set (σ : L2.St) (i : Nat) (x : Option V) : ∀ vs : List Nat, wipe (σ.set i x) vs = if i ∈ vs then wipe σ vs else (wipe σ vs).set i x
  | [] => by simp [wipe]
  | v :: vs => by
    unfold wipe
    rw [wipe_set σ i x vs]
    by_cases h : i ∈ vs
    · simp [h]
    · by_cases e : i = v
      · subst e
        simp [h]
      · simp only [h, if_false, List.mem_cons, e, false_or]
        exact List.set_comm _ _ e
def dwipe (env : DV) : List Nat → DV
  | [] => env
  | v :: vs => (dwipe env vs).set v none
theorem dwipe_length (env : DV) : ∀ vs : List Nat, (dwipe env vs).length = env.length
  | [] => rfl
  | v :: vs => by unfold dwipe; rw [List.length_set, dwipe_length env vs]
theorem Sim.wipe {W : Wd} {m : List Addr} {H : Hp} {st : SD} {env : DV} {σ : L2.St} (s : Sim W m H st env σ) : ∀ vs : List Nat, Sim W m H st (dwipe env vs) (L2.wipe σ vs)
  | [] => s
  | v :: vs => by
    have ih := s.wipe vs
    refine ⟨ih.ok, fun j d e => ?_, by rw [dwipe_length, wipe_length]; exact s.len⟩
    unfold dwipe at e
    by_cases hj : v = j
    · subst hj
      by_cases hl : v < (dwipe env vs).length
      · rw [List.getElem?_set_self hl] at e; cases e
      · rw [List.getElem?_eq_none (by simpa using hl)] at e; cases e
    · rw [List.getElem?_set_ne hj] at e
      obtain ⟨w, h1, h2⟩ := ih.sl j d e
      refine ⟨w, ?_, h2⟩
      unfold L2.wipe
      rw [List.getElem?_set_ne hj]
      exact h1

theorem wipe_none : ∀ (us : List Nat) (τ : L2.St), (∀ i ∈ us, ∀ x, τ[i]? = some x → x = none) → L2.wipe τ us = τ
  | [], _, _ => rfl
  | u :: us, τ, h => by
    unfold L2.wipe
    rw [wipe_none us τ fun i hi => h i (List.mem_cons_of_mem _ hi)]
    apply List.ext_getElem?
    intro j
    by_cases e : u = j
    · subst e
      by_cases hl : u < τ.length
      · rw [List.getElem?_set_self hl]
        have := h u List.mem_cons_self τ[u] (List.getElem?_eq_getElem hl)
        rw [List.getElem?_eq_getElem hl, this]
      · rw [List.getElem?_eq_none (by simpa using hl), List.getElem?_eq_none (by simpa using hl)]
    · rw [List.getElem?_set_ne e]
theorem wipe_twice (σ : L2.St) (vs : List Nat) : L2.wipe (L2.wipe σ vs) vs = L2.wipe σ vs := wipe_none vs _ fun i hi x hx => by
  cases x with
  | none => rfl
  | some x => exact absurd hi (wipe_some hx).2

/-- a target within a comprehension: it stores in the slots vs -/
abbrev NrmW (W : Wd) (vs : List Nat) (σ : L2.St) (m : List Addr) (H : Hp) (P : DV → SD → Prop) (Q : L2.St → Hp → Prop) : Prop := ∀ env' st' m' H' σ', P env' st' → Stp m H m' H' → Sim W m' H' st' env' σ' → L2.wipe σ' vs = L2.wipe σ vs → Q σ' H'
def TgOk (W : Wd) (vs : List Nat) (g : TG) (gd : TDG) : Prop := ∀ (v : V) (σ : L2.St) (H : Hp) (Q : L2.St → Hp → Prop) (m : List Addr) (st : SD) (env : DV) (d : D) (P : DV → SD → Prop), Sim W m H st env σ → Is W m H d v → gd d env st P → NrmW W vs σ m H P Q → g v σ H Q
def TgsOk (W : Wd) (vs : List Nat) (g : TGs) (gd : TDGs) : Prop := ∀ (v : List V) (σ : L2.St) (H : Hp) (Q : L2.St → Hp → Prop) (m : List Addr) (st : SD) (env : DV) (d : List D) (P : DV → SD → Prop), Sim W m H st env σ → IsL W m H d v → gd d env st P → NrmW W vs σ m H P Q → g v σ H Q
section
variable {W : Wd} {vs : List Nat}
theorem tg_name {i : Nat} (hi : i ∈ vs) : TgOk W vs (gName i) (dgName i) := fun v σ H Q m st env d P s h q k => k _ st m H _ q (.refl _ _) (s.set h i) (by rw [wipe_set, if_pos hi])
theorem tgs_nil : TgsOk W vs gNil dgNil := fun v σ H Q m st env d P s h ⟨e, q⟩ k => by
  subst e
  exact ⟨h, k env st m H σ q (.refl _ _) s rfl⟩
theorem tgs_cons {g : TG} {gd : TDG} {gs : TGs} {gds : TDGs} (h1 : TgOk W vs g gd) (h2 : TgsOk W vs gs gds) : TgsOk W vs (gCons g gs) (dgCons gd gds) := fun v σ H Q m st env d P s h ⟨d0, dr, ed, q⟩ k => by
  subst ed
  obtain ⟨v0, vr, ev, h0, hr⟩ := h
  subst ev
  exact ⟨v0, vr, rfl, h1 v0 σ H _ m st env d0 _ s h0 q fun env1 st1 m1 H1 σ1 q1 S1 s1 w1 => h2 vr σ1 H1 Q m1 st1 env1 dr P s1 (IsL.mono S1 s.ok.mut dr vr hr) q1 fun env2 st2 m2 H2 σ2 q2 S2 s2 w2 => k env2 st2 m2 H2 σ2 q2 (S1.trans S2) s2 (w2.trans w1)⟩
theorem tg_tup {K : PySem.W.Frag} {n : Nat} {gs : TGs} {gds : TDGs} (hK : K = W.K) (h : TgsOk W vs gs gds) : TgOk W vs (gTup K n gs) (dgTup n gds) := fun v σ H Q m st env d P s hv ⟨l, ed, hl, q⟩ k => by
  subst ed hK
  obtain ⟨a, ws, ev, hq, hi⟩ := hv
  exact ⟨a, ws, ev, hq, by rw [← hi.length]; exact hl, h ws σ H Q m st env l P s hi q k⟩
end

/-- nothing is raised -/
abbrev noX : DX := fun _ _ => False
theorem exn_no {W : Wd} {m : List Addr} {H : Hp} {E : XK} : Exn W m H noX E := fun _ _ _ _ _ h => h.elim
/-- a clause's tests -/
def dYes : TDB := fun _ st P _ => P true st
section
variable {X : Cx} {W : Wd} {E : XK} {pos : Pos}
theorem dts_nil : PTs X [] (liftB W E dYes) := pts_lift pts_nil fun σ H Q ⟨m, st, env, P, Ex, r, q, k, _⟩ => k true st m H q (.refl _ _) r.ok
theorem dts_one {c : Expr} {t : TDB} (h : PT X c (liftB W E t)) : PTs X [c] (liftB W E t) := pts_one h
/-- the turns of a comprehension: ys is made -/
def dComp (G : SD → Prop) (g : TDG) (tt : TDB) (te : TD) (env0 : DV) (fin : List FL.D → SD → Prop) : List FL.D → List FL.D → SD → Prop
  | [], ys, st => G st ∧ fin ys st
  | x :: r, ys, st => G st ∧ g x env0 st fun env1 st1 => tt env1 st1 (fun b st2 => if b = true then te env1 st2 (fun y st3 => ys.length < sizeLine ∧ dComp G g tt te env0 fin r (ys ++ [y]) st3) noX else dComp G g tt te env0 fin r ys st2) noX
theorem dComp_guard {G : SD → Prop} {g : TDG} {tt : TDB} {te : TD} {env0 : DV} {fin : List FL.D → SD → Prop} : ∀ {xs ys : List FL.D} {st : SD}, dComp G g tt te env0 fin xs ys st → G st
  | [], _, _, h => h.1
  | _ :: _, _, _, h => h.1
def dLc (ti : TDI) (g : TDG) (tt : TDB) (te : TD) (vs : List Nat) : TD := fun env st P Ex => ti env st (fun xs G st1 => dComp G g tt te (dwipe env vs) (fun ys st2 => P (.lst ys) st2) xs [] st1) Ex
/-- the turns, on the hand layer -/
theorem comp_turns {J : It} {xs : List FL.D} {G : SD → Prop} {m1 : List Addr} {H1 : Hp} {vs : List Nat} {g : TG} {gd : TDG} {tt : TDB} {te : TD} {env : DV} {σ : L2.St} {fin : List FL.D → SD → Prop} {End : List V → Hp → Prop} {st1 : SD} (y : Yields W J m1 H1 xs G) (hg : TgOk W vs g gd) (s1 : Sim W m1 H1 st1 env σ)
    (q : dComp G gd tt te (dwipe env vs) fin xs [] st1)
    (hend : ∀ ys st' m' H' us, fin ys st' → Stp m1 H1 m' H' → Sim W m' H' st' env σ → IsL W m' H' ys us → us.length ≤ sizeLine → End us H') :
    ∃ V : Nat → Nat → List V → Hp → Prop, (∃ n, V 0 n [] H1) ∧ ∀ i n us H, V i n us H → (J.stop i H ∧ us.length ≤ sizeLine ∧ End us H) ∨ (J.go i H ∧ ∃ Nx : List L2.V → Hp → Prop, (∀ us' H', Nx us' H' → ∃ n', n' < n ∧ V (i + 1) n' us' H') ∧ ∀ x H', J.yld i H x H' → g x (L2.wipe σ vs) H' fun σ2 H2 => L2.wipe σ2 vs = L2.wipe σ vs ∧ liftB W noXK tt σ2 H2 fun b H3 =>
      if b = true then lift W noXK te σ2 H3 fun z H4 => us.length < sizeLine ∧ Nx (us ++ [z]) H4 else Nx us H3) := by
  refine ⟨fun i n us H' => n = xs.length - i ∧ i ≤ xs.length ∧ us.length ≤ sizeLine ∧ ∃ m' st' ys, Stp m1 H1 m' H' ∧ StOk W m' H' st' ∧ IsL W m' H' ys us ∧ dComp G gd tt te (dwipe env vs) fin (xs.drop i) ys st', ⟨xs.length, by simp, Nat.zero_le _, Nat.zero_le _, m1, st1, [], .refl _ _, s1.ok, rfl, by simpa using q⟩, ?_⟩
  rintro i n us H' ⟨rfl, hi, hz, m', st', ys, S', O', hys, q'⟩
  have hG := dComp_guard q'
  have s' := s1.go S' O'
  by_cases hlt : i < xs.length
  · refine .inr ⟨y.go i m' H' st' S' O' hG hlt, fun us2 H2 => i < xs.length ∧ us2.length ≤ sizeLine ∧ ∃ m2 st2 ys2, Stp m1 H1 m2 H2 ∧ StOk W m2 H2 st2 ∧ IsL W m2 H2 ys2 us2 ∧ dComp G gd tt te (dwipe env vs) fin (xs.drop (i + 1)) ys2 st2, fun us2 H2 ⟨_, hz2, p⟩ => ⟨xs.length - (i + 1), by omega, rfl, hlt, hz2, p⟩, fun v H2 hy => ?_⟩
    obtain ⟨d, ed, T2, O2, hd⟩ := y.yld i m' H' st' v H2 S' O' hG hlt hy
    obtain ⟨_, ed'⟩ := List.getElem?_eq_some_iff.mp ed
    rw [List.drop_eq_getElem_cons hlt, ed'] at q'
    obtain ⟨_, q'⟩ := q'
    have s2 := (s'.go T2 O2).wipe vs
    have ST2 := S'.trans T2
    refine hg v (L2.wipe σ vs) H2 _ m' st' (dwipe env vs) d _ s2 hd q' fun env3 st3 m3 H3 σ3 q3 S3 s3 w3 => ?_
    have ww : L2.wipe (L2.wipe σ vs) vs = L2.wipe σ vs := wipe_twice σ vs
    refine ⟨w3.trans ww, m3, st3, env3, _, noX, s3, q3, fun b st4 m4 H4 q4 S4 O4 => ?_, exn_no⟩
    have S04 := (ST2.trans S3).trans S4
    have hys4 : IsL W m4 H4 ys us := IsL.mono ((T2.trans S3).trans S4) O'.mut ys us hys
    cases b with
    | false =>
      simp only [Bool.false_eq_true, if_false] at q4 ⊢
      exact ⟨hlt, hz, m4, st4, ys, S04, O4, hys4, q4⟩
    | true =>
      simp only [if_true] at q4 ⊢
      refine ⟨m4, st4, env3, _, noX, s3.go S4 O4, q4, fun d5 st5 m5 H5 z q5 S5 O5 h5 => ?_, exn_no⟩
      obtain ⟨hl5, q5⟩ := q5
      have hlen := hys.length
      exact ⟨by omega, hlt, by rw [List.length_append, List.length_singleton]; omega, m5, st5, ys ++ [d5], S04.trans S5, O5, IsL.append (IsL.mono S5 O4.mut ys us hys4) (IsL.single h5), q5⟩
  · have e : i = xs.length := by omega
    subst e
    rw [List.drop_length] at q'
    exact .inl ⟨y.stop m' H' st' S' O' hG, hz, hend ys st' m' H' us q'.2 S' s' hys hz⟩
theorem lst_new {m : List Addr} {H : Hp} {st : SD} (O : StOk W m H st) {p : Addr} {ys : List FL.D} {us : List V} (hp : H p = none) (h : IsL W m H ys us) : Stp m H m (upd H p (.lst us)) ∧ StOk W m (upd H p (.lst us)) st ∧ Is W m (upd H p (.lst us)) (.lst ys) (.ref p) :=
  have S : Stp m H m (upd H p (.lst us)) := Stp.new hp
  ⟨S, O.new hp, p, us, rfl, upd_same, O.notMem hp, IsL.mono S O.mut ys us h⟩
theorem tup_new {m : List Addr} {H : Hp} {st : SD} (O : StOk W m H st) {p : Addr} {ys : List FL.D} {us : List V} (hp : H p = none) (h : IsL W m H ys us) : Stp m H m (upd H p (.tup us)) ∧ StOk W m (upd H p (.tup us)) st ∧ Is W m (upd H p (.tup us)) (.tup ys) (.ref p) :=
  have S : Stp m H m (upd H p (.tup us)) := Stp.new hp
  ⟨S, O.new hp, p, us, rfl, .inl (.inl upd_same), IsL.mono S O.mut ys us h⟩
theorem lc_lift {ti : TDI} {g : TG} {gd : TDG} {tt : TDB} {te : TD} {vs : List Nat} (hg : TgOk W vs g gd) {σ : L2.St} {H : Hp} {Q : VK} (h : lift W E (dLc ti gd tt te vs) σ H Q) :
    tLc2 (liftI W E ti) g (fun _ => liftB W noXK tt) (fun _ => lift W noXK te) vs σ H Q := by
  obtain ⟨m, st, env, P, Ex, r, q, k, x⟩ := h
  refine ⟨m, st, env, _, Ex, r, q, fun xs G st1 m1 H1 J q1 S1 O1 y => ?_, x⟩
  exact comp_turns y hg (r.go S1 O1) q1 fun ys st' m' H' us p S' s' hys hz pp hp => by
    obtain ⟨n1, n2, n3⟩ := lst_new s'.ok hp hys
    exact k (.lst ys) st' m' _ _ p ((S1.trans S').trans n1) n2 n3
/-- [e for ..] -/
theorem d_lc {elt tg iter : Expr} {ifs : List Expr} {scope : Scope} {own : List (Str × Nat)} {ti : TDI} {g : TG} {gd : TDG} {tt : TDB} {te : TD} (hc : X.calm = true) (hN : X.N.Nodup) (hi : PI X tg iter (liftI W E ti)) (ok : BlkOk X.N X.env.scope scope own) (hgd : TgOk W (own.map (·.2)) g gd)
    (hg : ∀ (s : Shared) (H : Hp) (C : Addr) (cl : List (Str × Addr)) (fp : List Addr), PG (X.blk s H scope (compEnvC scope cl C X.env) fp) tg g)
    (ht : ∀ (s : Shared) (H : Hp) (C : Addr) (cl : List (Str × Addr)) (fp : List Addr), PTs (X.blk s H scope (compEnvC scope cl C X.env) fp) ifs (liftB W noXK tt))
    (he : ∀ (s : Shared) (H : Hp) (C : Addr) (cl : List (Str × Addr)) (fp : List Addr), PE (X.blk s H scope (compEnvC scope cl C X.env) fp) elt (lift W noXK te))
    (hs : ∀ x, foldedSetIterable iter X.env x = pure x := by intro _; rfl) : PE X (.ListComp elt [⟨tg, iter, ifs, 0⟩] scope pos) (lift W E (dLc ti gd tt te (own.map (·.2)))) :=
  pe_lift (pe_lc2 hc hN hi ok hg (fun _ _ s H C cl fp _ _ => ht s H C cl fp) (fun _ _ s H C cl fp _ _ => he s H C cl fp) hs) fun σ H Q h => lc_lift hgd h
/-- name = [e for ..] on one line -/
theorem ds_setLc {i : Nat} {y : Str} {py : Pos} {elt tg iter : Expr} {ifs : List Expr} {scope : Scope} {own : List (Str × Nat)} {spos : Pos} {ti : TDI} {g : TG} {gd : TDG} {tt : TDB} {te : TD} (hc : X.calm = true) (hN : X.N.Nodup) (hy : X.N[i]? = some y) (hyl : X.env.scope.names.lookup y = some .local)
    (hsw : swapsWith (.ListComp elt [⟨tg, iter, ifs, 0⟩] scope pos) (some (.Name y py)) spos.line X.env = pure true) (hi : PI X tg iter (liftI W E ti)) (ok : BlkOk X.N X.env.scope scope own) (hgd : TgOk W (own.map (·.2)) g gd)
    (hg : ∀ (s : Shared) (H : Hp) (C : Addr) (cl : List (Str × Addr)) (fp : List Addr), PG (X.blk s H scope (compEnvC scope cl C X.env) fp) tg g)
    (ht : ∀ (s : Shared) (H : Hp) (C : Addr) (cl : List (Str × Addr)) (fp : List Addr), PTs (X.blk s H scope (compEnvC scope cl C X.env) fp) ifs (liftB W noXK tt))
    (he : ∀ (s : Shared) (H : Hp) (C : Addr) (cl : List (Str × Addr)) (fp : List Addr), PE (X.blk s H scope (compEnvC scope cl C X.env) fp) elt (lift W noXK te))
    (hs : ∀ x, foldedSetIterable iter X.env x = pure x := by intro _; rfl) : PS X (.Assign [.Name y py] (.ListComp elt [⟨tg, iter, ifs, 0⟩] scope pos) spos) (liftS W E (dAsg (dLc ti gd tt te (own.map (·.2))) (dgName i))) :=
  ps_lift (ps_setLc2 hc hN hy hyl hsw hi ok hg (fun _ _ s H C cl fp _ _ => ht s H C cl fp) (fun _ _ s H C cl fp _ _ => he s H C cl fp) hs) fun D σ H ⟨m, st, env, Dd, Ex, r, q, k1, k2, k3, k4, x⟩ =>
    lc_lift hgd ⟨m, st, env, _, Ex, r, q, fun d st1 m1 H1 v q1 S1 O1 h1 => k1 _ st1 m1 H1 _ q1 S1 ((r.go S1 O1).set h1 i), x⟩
/-- tuple(e for ..) -/
def dTupG (ti : TDI) (g : TDG) (tt : TDB) (te : TD) (vs : List Nat) : TD := fun env st P Ex => ti env st (fun xs G st1 => dComp G g tt te (dwipe env vs) (fun ys st2 => P (.tup ys) st2) xs [] st1) Ex
theorem StOk.tabbed {m : List Addr} {H H' : Hp} {st : SD} (O : StOk W m H st) {P : Addr} (hP : P ∈ W.tg) (hl : ∀ p ∈ W.tl, p.1 ≠ P) (T : GxR.Tabbed P H H') : Stp m H m H' ∧ StOk W m H' st := by
  obtain ⟨ps, hps, _⟩ := O.tg P hP
  have nt : ∀ a o, H a = some o → (∀ qs, o ≠ .tbl qs) → H' a = some o := fun a o e n => by
    rw [T.2 a fun z => by rw [z, hps] at e; cases e; exact n _ rfl]
    exact e
  have S : Stp m H m H' := ⟨⟨[], by simp, by simp⟩, fun a o e _ n => nt a o e n, fun a o u e => nt a _ e (fun _ z => by cases z), fun a e => by
    by_cases h : a = P
    · obtain ⟨qs, hq, _⟩ := T.1
      rw [h, hq] at e; cases e
    · rw [T.2 a h] at e; exact e⟩
  refine ⟨S, O.len, O.nd, fun i o a e1 e2 => (O.obj i o a e1 e2).mono S O.mut ?_, fun Q hQ => ?_, tabs_mono O.mut S W.tl (fun p hp => T.2 p.1 (hl p hp)) O.tl, fun i hi => (O.lk i hi).mono S⟩
  · refine T.2 a fun z => ?_
    have mu := O.mut a (List.mem_of_getElem? e2)
    rw [z, hps] at mu
    exact mu
  · by_cases h : Q = P
    · rw [h]; exact T.1
    · obtain ⟨qs, h1, h2⟩ := O.tg Q hQ
      exact ⟨qs, (T.2 Q h).trans h1, h2⟩
theorem d_tupG {k : Nat} {c P : Addr} {elt tg iter : Expr} {ifs : List Expr} {scope : Scope} {own : List (Str × Nat)} {gpos p : Pos} {ti : TDI} {g : TG} {gd : TDG} {tt : TDB} {te : TD} {nm : Str}
    (hr : Room (k + 6) X.A) (TB : GxR.TabB X.base X.mg c P) (hP : P ∈ W.tg) (hl : ∀ p ∈ W.tl, p.1 ≠ P) (hcode : X.env.code = .ref c) (hN : X.N.Nodup) (ok : BlkOk X.N X.env.scope scope own) (hco : scope.isCoroutine = false) (hcell : ∀ y ∈ scope.names, y.2 ≠ .cell) (hdot : scope.names.lookup (".0" : Str) = some NameKind.local)
    (hi : PI X tg iter (liftI W E ti)) (hgd : TgOk W (own.map (·.2)) g gd)
    (hg : ∀ (A : Around) (s : Shared) (H : Hp) (code : Value) (fp : List Addr) (pn : List (Addr × Obj)), Room k (A.deeper (geEnv X scope s.heap.objs.size code)) → PG (geCx X A s H scope code fp pn) tg g)
    (ht : ∀ (A : Around) (s : Shared) (H : Hp) (code : Value) (fp : List Addr) (pn : List (Addr × Obj)), Room k (A.deeper (geEnv X scope s.heap.objs.size code)) → PTs (geCx X A s H scope code fp pn) ifs (liftB W noXK tt))
    (he : ∀ (A : Around) (s : Shared) (H : Hp) (code : Value) (fp : List Addr) (pn : List (Addr × Obj)), Room k (A.deeper (geEnv X scope s.heap.objs.size code)) → PE (geCx X A s H scope code fp pn) elt (lift W noXK te))
    (hs : ∀ v, genFold iter X.env v = pure v) (hgl : Gl X nm) (hmg : X.mg nm = none) (hv : bootBuiltins nm = some (.type "tuple")) (hnm : nm ≠ "__name__" := by decide) (hdb : (nm == ("__debug__" : Str)) = false := by decide)
    (hst : starEach [.GeneratorExp elt [⟨tg, iter, ifs, 0⟩] scope gpos] X.env = (false, eval (.GeneratorExp elt [⟨tg, iter, ifs, 0⟩] scope gpos) X.env) :: starEach [] X.env := by rfl) :
    PE X (.Call (.Name nm p) [.GeneratorExp elt [⟨tg, iter, ifs, 0⟩] scope gpos] [] pos) (lift W E (dTupG ti gd tt te (own.map (·.2)))) :=
  pe_lift (pe_tupG (pgen_ge (hr.mono (by omega)) TB hcode hN ok hco hcell hdot hi hg ht he hs) hr hgl hmg hv hnm hdb hst) fun σ H Q ⟨m, st, env, Pp, Ex, r, q, k, x⟩ => by
    refine ⟨m, st, env, _, Ex, r, q, fun xs G st1 m1 H1 J q1 S1 O1 y => ⟨O1.tg P hP, fun H2 TH => ?_⟩, x⟩
    obtain ⟨S2, O2⟩ := O1.tabbed hP hl TH
    obtain ⟨Vv, h0, turn⟩ := comp_turns (y.mono S2) hgd ((r.go S1 O1).go S2 O2) q1 (End := fun us H' => ∀ p, H' p = none → Q (.ref p) (upd H' p (.tup us))) fun ys st' m' H' us p S' s' hys hz pp hp => by
      obtain ⟨n1, n2, n3⟩ := tup_new s'.ok hp hys
      exact k (.tup ys) st' m' _ _ p (((S1.trans S2).trans S').trans n1) n2 n3
    exact ⟨Vv, h0, fun i n us H hv => (turn i n us H hv).elim (fun ⟨a, _, c⟩ => .inl ⟨a, c⟩) .inr⟩
end
end FL
/-! FG: displays, places, lengths, slices, operators on data. -/
namespace FL
open PySem PySem.Spec PyProof.Rows L2

/-- the items of a list or a tuple -/
def seqD (st : SD) : D → Option (List D)
  | .tup l => some l
  | .tpk l => some l
  | .lst l => some l
  | .ref j => match st[j]? with
    | some (.lst l) => some l
    | _ => none
  | _ => none
section
variable {W : Wd} {m : List Addr} {H : Hp} {st : SD}
theorem seq_is (O : StOk W m H st) {x : D} {v : V} {l : List D} (h : Is W m H x v) (e : seqD st x = some l) : ∃ a vs, v = .ref a ∧ (SqL W.K H a vs ∨ SqT W.K H a vs) ∧ IsL W m H l vs := by
  cases x with
  | tup l' =>
    cases e
    obtain ⟨a, vs, ev, hq, hi⟩ := h
    exact ⟨a, vs, ev, .inr hq, hi⟩
  | tpk l' =>
    cases e
    obtain ⟨a, vs, o, ev, hq, hi⟩ := h
    exact ⟨a, vs, ev, .inr (.inl (.inr ⟨o, hq.1⟩)), hi⟩
  | lst l' =>
    cases e
    obtain ⟨a, vs, ev, hq, hn, hi⟩ := h
    exact ⟨a, vs, ev, .inl (.inl (.inl hq)), hi⟩
  | ref j =>
    obtain ⟨a, em, ev⟩ := h
    simp only [seqD] at e
    split at e
    · rename_i l' hl
      cases e
      obtain ⟨vs, hq, hi⟩ := lst_at O em hl
      exact ⟨a, vs, ev, .inl (.inl (.inl hq)), hi⟩
    · cases e
  | _ => cases e
/-- a list that stands in the heap by itself -/
def lstD (st : SD) : D → Option (List D)
  | .lst l => some l
  | .ref j => match st[j]? with
    | some (.lst l) => some l
    | _ => none
  | _ => none
theorem lst_is (O : StOk W m H st) {x : D} {v : V} {l : List D} (h : Is W m H x v) (e : lstD st x = some l) : ∃ a vs, v = .ref a ∧ H a = some (.lst vs) ∧ IsL W m H l vs := by
  cases x with
  | lst l' =>
    cases e
    obtain ⟨a, vs, ev, hq, hn, hi⟩ := h
    exact ⟨a, vs, ev, hq, hi⟩
  | ref j =>
    obtain ⟨a, em, ev⟩ := h
    simp only [lstD] at e
    split at e
    · rename_i l' hl
      cases e
      obtain ⟨vs, hq, hi⟩ := lst_at O em hl
      exact ⟨a, vs, ev, hq, hi⟩
    · cases e
  | _ => cases e
theorem isL_atI {l : List D} {vs : List V} {i : Int} {d : D} (h : IsL W m H l vs) (e : atI l i = some d) : ∃ v, atI vs i = some v ∧ Is W m H d v := by
  unfold atI at e ⊢
  rw [← h.length]
  cases q : ixN l.length i with
  | none => rw [q] at e; cases e
  | some j =>
    rw [q] at e
    exact h.get e
end
section
variable {X : Cx} {W : Wd} {E : XK} {pos : Pos} {a b e : Expr} {es : List Expr} {ta tb : TD} {tl : TDL}
/-! ### displays -/
def dTupS (tl : TDL) : TD := fun env st P Ex => tl env st (fun ds st1 => ds.length ≤ sizeLine ∧ P (.tup ds) st1) Ex
def dLstS (tl : TDL) : TD := fun env st P Ex => tl env st (fun ds st1 => ds.length ≤ sizeLine ∧ P (.lst ds) st1) Ex
/-- a list that will be changed -/
def dLstR (tl : TDL) : TD := fun env st P Ex => tl env st (fun ds st1 => ds.length ≤ sizeLine ∧ P (.ref st1.length) (st1 ++ [.lst ds])) Ex
theorem d_tup {x1} (h : PA X es (liftL W E tl)) : PE X (.Tuple es x1 pos) (lift W E (dTupS tl)) :=
  pe_lift (pe_tup h) fun σ H Q ⟨m, st, env, P, Ex, r, q, k, x⟩ => ⟨m, st, env, _, Ex, r, q, fun ds st1 m1 H1 vs ⟨hz, q1⟩ S1 O1 h1 => ⟨by rw [← h1.length]; exact hz, fun p hp => by
    obtain ⟨n1, n2, n3⟩ := tup_new O1 hp h1
    exact k _ st1 m1 _ _ q1 (S1.trans n1) n2 n3⟩, x⟩
theorem d_lst (h : PA X es (liftL W E tl)) : PE X (.List es pos) (lift W E (dLstS tl)) :=
  pe_lift (pe_lst h) fun σ H Q ⟨m, st, env, P, Ex, r, q, k, x⟩ => ⟨m, st, env, _, Ex, r, q, fun ds st1 m1 H1 vs ⟨hz, q1⟩ S1 O1 h1 => ⟨by rw [← h1.length]; exact hz, fun p hp => by
    obtain ⟨n1, n2, n3⟩ := lst_new O1 hp h1
    exact k _ st1 m1 _ _ q1 (S1.trans n1) n2 n3⟩, x⟩
theorem obj_new {m : List Addr} {H : Hp} {st : SD} (O : StOk W m H st) {p : Addr} {ho : HO} {ob : DO} (hp : H p = none) (h : ∀ H' m', Stp m H m' H' → H' p = some ho → ObjIs W m' H' p ob) : Stp m H (m ++ [p]) (upd H p ho) ∧ StOk W (m ++ [p]) (upd H p ho) (st ++ [ob]) ∧ Is W (m ++ [p]) (upd H p ho) (.ref st.length) (.ref p) :=
  have S : Stp m H (m ++ [p]) (upd H p ho) := Stp.obj hp
  ⟨S, O.obj' hp (h _ _ S upd_same), p, by rw [← O.len]; simp, rfl⟩
theorem lstR_new {m : List Addr} {H : Hp} {st : SD} (O : StOk W m H st) {p : Addr} {ys : List FL.D} {us : List V} (hp : H p = none) (h : IsL W m H ys us) : Stp m H (m ++ [p]) (upd H p (.lst us)) ∧ StOk W (m ++ [p]) (upd H p (.lst us)) (st ++ [.lst ys]) ∧ Is W (m ++ [p]) (upd H p (.lst us)) (.ref st.length) (.ref p) :=
  obj_new O hp fun H' m' S e => ⟨us, e, IsL.mono S O.mut ys us h⟩
theorem d_lstR (h : PA X es (liftL W E tl)) : PE X (.List es pos) (lift W E (dLstR tl)) :=
  pe_lift (pe_lst h) fun σ H Q ⟨m, st, env, P, Ex, r, q, k, x⟩ => ⟨m, st, env, _, Ex, r, q, fun ds st1 m1 H1 vs ⟨hz, q1⟩ S1 O1 h1 => ⟨by rw [← h1.length]; exact hz, fun p hp => by
    obtain ⟨n1, n2, n3⟩ := lstR_new O1 hp h1
    exact k _ _ _ _ _ q1 (S1.trans n1) n2 n3⟩, x⟩
/-! ### places -/
def fIx : F2 := fun st x y P => ∃ l i d, seqD st x = some l ∧ y = .int i ∧ atI l i = some d ∧ P d st
theorem rl_ix : Rl2 W (fun x y H Q => rIxL W.K x y H Q ∨ rIxT W.K x y H Q) fIx := fun m H st x y v w P Q O hx hy ⟨l, i, d, es, ey, ed, q⟩ k => by
  subst ey
  have hy : w = .int i := hy
  subst hy
  obtain ⟨a, vs, ev, hq, hi⟩ := seq_is O hx es
  obtain ⟨u, eu, hu⟩ := isL_atI hi ed
  rcases hq with hq | hq
  · exact .inl ⟨a, vs, i, u, ev, rfl, hq, eu, k d st m H u q (.refl _ _) O hu⟩
  · exact .inr ⟨a, vs, i, u, ev, rfl, hq, eu, k d st m H u q (.refl _ _) O hu⟩
theorem d_ix (hK : X.K = W.K) (ha : PE X a (lift W E ta)) (hb : PE X b (lift W E tb)) (hs : PlainIx b := by intro _ _; rfl) : PE X (.Subscript a b pos) (lift W E (dOp fIx ta tb)) :=
  pe_lift (pe_ix (IxR.or ix_list ix_tup) ha hb hs) fun σ H Q h => by rw [hK]; exact op_core rl_ix h
def fIxS : F2 := fun st x y P => ∃ z i c, x = .str z ∧ y = .int i ∧ z.length ≤ sizeLine ∧ atI z.cps.toList i = some c ∧ P (.str ⟨#[c]⟩) st
theorem d_ixS (ha : PE X a (lift W E ta)) (hb : PE X b (lift W E tb)) (hr : IxR X rIxS) (hs : PlainIx b := by intro _ _; rfl) : PE X (.Subscript a b pos) (lift W E (dOp fIxS ta tb)) :=
  pe_lift (pe_ix hr ha hb hs) fun σ H Q h => op_core (r := rIxS) (fun m H st x y v w P Q O hx hy ⟨z, i, c, ex, ey, hz, ec, q⟩ k => by
    subst ex ey
    exact ⟨z, i, c, hx, hy, hz, ec, k _ st m H _ q (.refl _ _) O rfl⟩) h
/-! ### calls of built-ins -/
theorem calls_core {r : List V → Hp → VK → Prop} {f : FN} (hf : RlN W r f) {σ : L2.St} {H : Hp} {Q : VK} (h : lift W E (fun env st P Ex => tl env st (fun ds st1 => f st1 ds P) Ex) σ H Q) : liftL W E tl σ H (fun vs H1 => r vs H1 Q) := by
  obtain ⟨m, st, env, P, Ex, r0, q, k, x⟩ := h
  exact ⟨m, st, env, _, Ex, r0, q, fun ds st1 m1 H1 vs q1 S1 O1 h1 => hf m1 H1 st1 ds vs P Q O1 h1 q1 (k.go S1), x⟩
def dCall (f : FN) (tl : TDL) : TD := fun env st P Ex => tl env st (fun ds st1 => f st1 ds P) Ex
theorem d_callB {id : String} {x : Str} {p : Pos} {r : List V → Hp → VK → Prop} {f : FN} (hc : CallR X (.builtin id) r) (hf : RlN W r f) (hg : Gl X x) (hm : X.mg x = none) (hv : bootBuiltins x = some (.builtin id)) (ha : PA X (e :: es) (liftL W E tl)) (hn : x ≠ "__name__" := by decide) (hdb : (x == ("__debug__" : Str)) = false := by decide)
    (he : starEach (e :: es) X.env = (false, eval e X.env) :: starEach es X.env := by rfl) (hpl : (backTo pos (starEach es X.env)).any (·.1) = false := by rfl) : PE X (.Call (.Name x p) (e :: es) [] pos) (lift W E (dCall f tl)) :=
  pe_lift (pe_callB hc hg hm hv ha hn hdb he hpl) fun σ H Q h => calls_core hf h
theorem d_callTy {T : String} {x : Str} {p : Pos} {r : List V → Hp → VK → Prop} {f : FN} (hc : CallR X (.type T) r) (hf : RlN W r f) (hg : Gl X x) (hm : X.mg x = none) (hv : bootBuiltins x = some (.type T)) (ha : PA X (e :: es) (liftL W E tl)) (hn : x ≠ "__name__" := by decide) (hdb : (x == ("__debug__" : Str)) = false := by decide)
    (he : starEach (e :: es) X.env = (false, eval e X.env) :: starEach es X.env := by rfl) (hpl : (backTo pos (starEach es X.env)).any (·.1) = false := by rfl) : PE X (.Call (.Name x p) (e :: es) [] pos) (lift W E (dCall f tl)) :=
  pe_lift (pe_callTy hc hg hm hv ha hn hdb he hpl) fun σ H Q h => calls_core hf h
theorem isL1 {m : List Addr} {H : Hp} {x : FL.D} {vs : List V} (h : IsL W m H [x] vs) : ∃ v, vs = [v] ∧ Is W m H x v := by
  obtain ⟨v, r, e, h0, hr⟩ := h
  have hr : r = [] := hr
  subst hr
  exact ⟨v, e, h0⟩
theorem isL2 {m : List Addr} {H : Hp} {x y : FL.D} {vs : List V} (h : IsL W m H [x, y] vs) : ∃ v w, vs = [v, w] ∧ Is W m H x v ∧ Is W m H y w := by
  obtain ⟨v, r, e, h0, hr⟩ := h
  obtain ⟨w, er, hw⟩ := isL1 hr
  subst er
  exact ⟨v, w, e, h0, hw⟩
/-- len of a list, a tuple, a dict -/
def fLen : FN := fun st xs P => (∃ x l, xs = [x] ∧ seqD st x = some l ∧ P (.int l.length) st) ∨ ∃ j l, xs = [.ref j] ∧ (st[j]? = some (.dct l)) ∧ P (.int l.length) st
theorem rl_len {K : PySem.W.Frag} (hK : K = W.K) : RlN W (fun xs H Q => (∃ p ys, xs = [.ref p] ∧ (SqL K H p ys ∨ SqT K H p ys) ∧ Q (.int ys.length) H) ∨ ∃ (p : Addr) (kvs : List (Key × V)), xs = [.ref p] ∧ H p = some (.dK kvs) ∧ Q (.int kvs.length) H) fLen := fun m H st xs vs P Q O hx h k => by
  subst hK
  rcases h with ⟨x, l, ex, es, q⟩ | ⟨j, l, ex, es, q⟩
  · subst ex
    obtain ⟨v, ev, hv⟩ := isL1 hx
    obtain ⟨a, ws, ea, hq, hi⟩ := seq_is O hv es
    subst ev ea
    exact .inl ⟨a, ws, rfl, hq, k _ st m H _ q (.refl _ _) O (by rw [hi.length]; rfl)⟩
  · subst ex
    obtain ⟨v, ev, a, em, ea⟩ := isL1 hx
    obtain ⟨a', em', kvs, hk, hi⟩ := O.at es
    rw [em] at em'
    cases em'
    subst ev ea
    exact .inr ⟨a, kvs, rfl, hk, k _ st m H _ q (.refl _ _) O (by rw [hi.length]; rfl)⟩
/-- list(x), tuple(x) -/
def fList : FN := fun st xs P => ∃ x l, xs = [x] ∧ seqD st x = some l ∧ P (.lst l) st
def fTuple : FN := fun st xs P => ∃ x l, xs = [x] ∧ seqD st x = some l ∧ P (.tup l) st
theorem rl_list {K : PySem.W.Frag} (hK : K = W.K) : RlN W (fun xs H Q => ∃ p ys, xs = [.ref p] ∧ (SqL K H p ys ∨ SqT K H p ys) ∧ ∀ l, H l = none → Q (.ref l) (upd H l (.lst ys))) fList := fun m H st xs vs P Q O hx ⟨x, l, ex, es, q⟩ k => by
  subst hK ex
  obtain ⟨v, ev, hv⟩ := isL1 hx
  obtain ⟨a, ws, ea, hq, hi⟩ := seq_is O hv es
  subst ev ea
  refine ⟨a, ws, rfl, hq, fun p hp => ?_⟩
  obtain ⟨n1, n2, n3⟩ := lst_new O hp hi
  exact k _ st m _ _ q n1 n2 n3
theorem rl_tuple {K : PySem.W.Frag} (hK : K = W.K) : RlN W (fun xs H Q => ∃ p ys, xs = [.ref p] ∧ ((SqL K H p ys ∧ ∀ l, H l = none → Q (.ref l) (upd H l (.tup ys))) ∨ (SqT K H p ys ∧ Q (.ref p) H))) fTuple := fun m H st xs vs P Q O hx ⟨x, l, ex, es, q⟩ k => by
  subst hK ex
  obtain ⟨v, ev, hv⟩ := isL1 hx
  obtain ⟨a, ws, ea, hq, hi⟩ := seq_is O hv es
  subst ev ea
  rcases hq with hq | hq
  · refine ⟨a, ws, rfl, .inl ⟨hq, fun p hp => ?_⟩⟩
    obtain ⟨n1, n2, n3⟩ := tup_new O hp hi
    exact k _ st m _ _ q n1 n2 n3
  · exact ⟨a, ws, rfl, .inr ⟨hq, k _ st m H _ q (.refl _ _) O ⟨a, ws, rfl, hq, hi⟩⟩⟩
/-! ### + and * -/
/-- a + b: ints, tuples, lists, texts -/
def fAdd : F2 := fun st x y P => (∃ i j, x = .int i ∧ y = .int j ∧ P (.int (i + j)) st) ∨ (∃ l l', x = .tup l ∧ y = .tup l' ∧ l.length + l'.length ≤ sizeLine ∧ P (.tup (l ++ l')) st) ∨
  (∃ l l', lstD st x = some l ∧ lstD st y = some l' ∧ l.length + l'.length ≤ sizeLine ∧ P (.lst (l ++ l')) st) ∨ ∃ s t, x = .str s ∧ y = .str t ∧ s.length + t.length ≤ sizeLine ∧ P (.str (s ++ t)) st
theorem d_add (hK : X.K = W.K) (ha : PE X a (lift W E ta)) (hb : PE X b (lift W E tb)) : PE X (.BinOp a .Add b pos) (lift W E (dOp fAdd ta tb)) :=
  d_op (OpR.or op_add (OpR.or op_catA (OpR.or op_cat op_add_str))) (fun m H st x y v w P Q O hx hy h k => by
    rw [hK]
    rcases h with ⟨i, j, ex, ey, q⟩ | ⟨l, l', ex, ey, hz, q⟩ | ⟨l, l', ex, ey, hz, q⟩ | ⟨s, t, ex, ey, hz, q⟩
    · subst ex ey
      exact .inl ⟨i, j, hx, hy, k _ st m H _ q (.refl _ _) O rfl⟩
    · subst ex ey
      obtain ⟨a1, vs, e1, h1, i1⟩ := hx
      obtain ⟨a2, ws, e2, h2, i2⟩ := hy
      refine .inr (.inl ⟨a1, a2, vs, ws, e1, e2, h1, h2, by rw [← i1.length, ← i2.length]; exact hz, fun ev => ?_, fun _ ew => ?_, fun _ _ p hp => ?_⟩)
      · subst ev
        have hl : l = [] := by
          have := i1.length
          simpa using this
        subst hl
        exact k _ st m H _ q (.refl _ _) O ⟨a2, ws, rfl, h2, i2⟩
      · subst ew
        have hl : l' = [] := by
          have := i2.length
          simpa using this
        subst hl
        exact k _ st m H _ q (.refl _ _) O ⟨a1, vs, rfl, h1, by rw [List.append_nil]; exact i1⟩
      · obtain ⟨n1, n2, n3⟩ := tup_new O hp (IsL.append i1 i2)
        exact k _ st m _ _ q n1 n2 n3
    · obtain ⟨a1, vs, e1, h1, i1⟩ := lst_is O hx ex
      obtain ⟨a2, ws, e2, h2, i2⟩ := lst_is O hy ey
      refine .inr (.inr (.inl ⟨a1, a2, vs, ws, e1, e2, h1, h2, by rw [← i1.length, ← i2.length]; exact hz, fun p hp => ?_⟩))
      obtain ⟨n1, n2, n3⟩ := lst_new O hp (IsL.append i1 i2)
      exact k _ st m _ _ q n1 n2 n3
    · subst ex ey
      exact .inr (.inr (.inr ⟨s, t, hx, hy, hz, k _ st m H _ q (.refl _ _) O rfl⟩))) ha hb
def fSub : F2 := fun st x y P => ∃ i j, x = .int i ∧ y = .int j ∧ P (.int (i - j)) st
theorem d_sub (ha : PE X a (lift W E ta)) (hb : PE X b (lift W E tb)) : PE X (.BinOp a .Sub b pos) (lift W E (dOp fSub ta tb)) :=
  d_op op_sub (fun m H st x y v w P Q O hx hy ⟨i, j, ex, ey, q⟩ k => by
    subst ex ey
    exact ⟨i, j, hx, hy, k _ st m H _ q (.refl _ _) O rfl⟩) ha hb
/-- tests of two ints -/
def fCmp (p : Int → Int → Bool) : F2 := fun st x y P => ∃ i j, x = .int i ∧ y = .int j ∧ P (.bl (p i j)) st
theorem rl_cmp {p : Int → Int → Bool} : Rl2 W (rI0 fun i j => .bl (p i j)) (fCmp p) := fun m H st x y v w P Q O hx hy ⟨i, j, ex, ey, q⟩ k => by
  subst ex ey
  exact ⟨i, j, hx, hy, k _ st m H _ q (.refl _ _) O rfl⟩
abbrev fLt : F2 := fCmp fun i j => decide (i < j)
abbrev fLe : F2 := fCmp fun i j => decide (i ≤ j)
abbrev fGt : F2 := fCmp fun i j => decide (j < i)
abbrev fGe : F2 := fCmp fun i j => decide (j ≤ i)
/-- is None, is not None -/
def isNonD : FL.D → Bool
  | .non => true
  | .raw v => decide (v = .non)
  | _ => false
def fIsN : F2 := fun st x y P => y = .non ∧ (∀ k, x ≠ .fn k) ∧ P (.bl (isNonD x)) st
def fNotN : F2 := fun st x y P => y = .non ∧ (∀ k, x ≠ .fn k) ∧ P (.bl (!isNonD x)) st
theorem isNon_is {m : List Addr} {H : Hp} {x : FL.D} {v : V} (h : Is W m H x v) (hf : ∀ k, x ≠ .fn k) : decide (v = .non) = isNonD x := by
  cases x with
  | non => have h : v = .non := h; subst h; rfl
  | raw w => have h : v = w := h; subst h; rfl
  | bl b => have h : v = _ := h; subst h; rfl
  | int b => have h : v = _ := h; subst h; rfl
  | str b => have h : v = _ := h; subst h; rfl
  | tup l => obtain ⟨a, vs, e, _⟩ := h; subst e; rfl
  | tpk l => obtain ⟨a, vs, o, e, _⟩ := h; subst e; rfl
  | lst l => obtain ⟨a, vs, e, _⟩ := h; subst e; rfl
  | ref i => obtain ⟨a, _, e⟩ := h; subst e; rfl
  | fn k => exact absurd rfl (hf k)
theorem rl_isN : Rl2 W (fun x y H Q => y = .non ∧ Q (.bl (decide (x = .non))) H) fIsN := fun m H st x y v w P Q O hx hy ⟨ey, hf, q⟩ k => by
  subst ey
  exact ⟨hy, by rw [isNon_is hx hf]; exact k _ st m H _ q (.refl _ _) O rfl⟩
theorem rl_notN : Rl2 W (fun x y H Q => y = .non ∧ Q (.bl (!decide (x = .non))) H) fNotN := fun m H st x y v w P Q O hx hy ⟨ey, hf, q⟩ k => by
  subst ey
  exact ⟨hy, by rw [isNon_is hx hf]; exact k _ st m H _ q (.refl _ _) O rfl⟩
end
end FL
/-! FH: == and in of data; slices; dicts; attributes; methods of lists, texts. -/
namespace FL
open PySem PySem.Spec PyProof.Rows L2

/-! ### data without references, bools, lambdas -/
mutual
def plainD : Nat → D → Bool
  | _, .non => true
  | _, .int _ => true
  | _, .str x => PyData.strOk x
  | n + 1, .tup l => plainL n l
  | n + 1, .lst l => plainL n l
  | _, _ => false
def plainL : Nat → List D → Bool
  | _, [] => true
  | n, d :: l => plainD n d && plainL n l
end
mutual
def py : D → PyData
  | .int i => .int i
  | .str x => .str x
  | .tup l => .tuple (pyL l)
  | .lst l => .list (pyL l)
  | _ => .none
def pyL : List D → List PyData
  | [] => []
  | d :: l => py d :: pyL l
end
mutual
theorem py_depth : ∀ (n : Nat) (d : D), plainD n d = true → (py d).depth ≤ n
  | n, .non, _ => Nat.zero_le _
  | n, .int _, _ => Nat.zero_le _
  | n, .str _, _ => Nat.zero_le _
  | n + 1, .tup l, h => by
    have := pyL_depth n l (by simpa [plainD] using h)
    simp only [py, PyData.depth]; omega
  | n + 1, .lst l, h => by
    have := pyL_depth n l (by simpa [plainD] using h)
    simp only [py, PyData.depth]; omega
  | 0, .tup _, h => by simp [plainD] at h
  | 0, .lst _, h => by simp [plainD] at h
  | n, .bl _, h => by simp [plainD] at h
  | n, .ref _, h => by simp [plainD] at h
  | n, .fn _, h => by simp [plainD] at h
  | n, .tpk _, h => by simp [plainD] at h
  | n, .raw _, h => by simp [plainD] at h
theorem pyL_depth : ∀ (n : Nat) (l : List D), plainL n l = true → PyData.depthAll (pyL l) ≤ n
  | n, [], _ => Nat.zero_le _
  | n, d :: l, h => by
    simp only [plainL, Bool.and_eq_true] at h
    have h1 := py_depth n d h.1
    have h2 := pyL_depth n l h.2
    simp only [pyL, PyData.depthAll]
    omega
end
mutual
theorem py_lay : ∀ (n : Nat) (d : D), plainD n d = true → (py d).canLay0 = true
  | n, .non, _ => by simp [py, PyData.canLay0]
  | n, .int _, _ => by simp [py, PyData.canLay0]
  | n, .str x, h => by simpa [plainD, py, PyData.canLay0] using h
  | n + 1, .tup l, h => by
    have := pyL_lay n l (by simpa [plainD] using h)
    simpa [py, PyData.canLay0] using this
  | n + 1, .lst l, h => by
    have := pyL_lay n l (by simpa [plainD] using h)
    simpa [py, PyData.canLay0] using this
  | 0, .tup _, h => by simp [plainD] at h
  | 0, .lst _, h => by simp [plainD] at h
  | n, .bl _, h => by simp [plainD] at h
  | n, .ref _, h => by simp [plainD] at h
  | n, .fn _, h => by simp [plainD] at h
  | n, .tpk _, h => by simp [plainD] at h
  | n, .raw _, h => by simp [plainD] at h
theorem pyL_lay : ∀ (n : Nat) (l : List D), plainL n l = true → PyData.canLayAll0 (pyL l) = true
  | n, [], _ => by simp [pyL, PyData.canLayAll0]
  | n, d :: l, h => by
    simp only [plainL, Bool.and_eq_true] at h
    simp [pyL, PyData.canLayAll0, py_lay n d h.1, pyL_lay n l h.2]
end
mutual
theorem py_eqv : ∀ (n : Nat) (a b : D), plainD n a = true → plainD n b = true → (PyData.eqv (py a) (py b) = true ↔ a = b)
  | n, a, b, ha, hb => by
    cases a with
    | non => cases b <;> simp_all [plainD, py, PyData.eqv]
    | int i => cases b <;> simp_all [plainD, py, PyData.eqv]
    | str i => cases b <;> simp_all [plainD, py, PyData.eqv]
    | tup l =>
      cases n with
      | zero => simp [plainD] at ha
      | succ n =>
        cases b with
        | tup l' =>
          have := pyL_eqv n l l' (by simpa [plainD] using ha) (by simpa [plainD] using hb)
          simpa [py, PyData.eqv] using this
        | _ => simp_all [plainD, py, PyData.eqv]
    | lst l =>
      cases n with
      | zero => simp [plainD] at ha
      | succ n =>
        cases b with
        | lst l' =>
          have := pyL_eqv n l l' (by simpa [plainD] using ha) (by simpa [plainD] using hb)
          simpa [py, PyData.eqv] using this
        | _ => simp_all [plainD, py, PyData.eqv]
    | _ => simp [plainD] at ha
theorem pyL_eqv : ∀ (n : Nat) (a b : List D), plainL n a = true → plainL n b = true → (PyData.eqvAll (pyL a) (pyL b) = true ↔ a = b)
  | n, [], [], _, _ => by simp [pyL, PyData.eqvAll]
  | n, [], _ :: _, _, _ => by simp [pyL, PyData.eqvAll]
  | n, _ :: _, [], _, _ => by simp [pyL, PyData.eqvAll]
  | n, x :: xs, y :: ys, ha, hb => by
    simp only [plainL, Bool.and_eq_true] at ha hb
    have h1 := py_eqv n x y ha.1 hb.1
    have h2 := pyL_eqv n xs ys ha.2 hb.2
    simp only [pyL, PyData.eqvAll, Bool.and_eq_true, h1, h2, List.cons.injEq]
end
def flatD (st : SD) : D → Option D
  | .ref j => match st[j]? with
    | some (.lst l) => some (.lst l)
    | _ => none
  | .tpk l => some (.tup l)
  | d => some d
section
variable {W : Wd} {m : List Addr} {H : Hp} {st : SD}
mutual
theorem dp_of : ∀ (n : Nat) (d : D) (v : V), Is W m H d v → plainD n d = true → Dp W.K H v (py d)
  | n, .non, _, h, _ => by have h : _ = V.non := h; subst h; exact .non
  | n, .int i, _, h, _ => by have h : _ = V.int i := h; subst h; exact .int i
  | n, .str i, _, h, _ => by have h : _ = V.str i := h; subst h; exact .str i
  | n + 1, .tup l, _, ⟨a, vs, e, hq, hi⟩, hp => by subst e; exact .tup hq (dpL_of n l vs hi (by simpa [plainD] using hp))
  | n + 1, .lst l, _, ⟨a, vs, e, hq, _, hi⟩, hp => by subst e; exact .lst (.inl (.inl hq)) (dpL_of n l vs hi (by simpa [plainD] using hp))
  | 0, .tup _, _, _, h => by simp [plainD] at h
  | 0, .lst _, _, _, h => by simp [plainD] at h
  | n, .bl _, _, _, h => by simp [plainD] at h
  | n, .ref _, _, _, h => by simp [plainD] at h
  | n, .fn _, _, _, h => by simp [plainD] at h
  | n, .tpk _, _, _, h => by simp [plainD] at h
  | n, .raw _, _, _, h => by simp [plainD] at h
theorem dpL_of : ∀ (n : Nat) (l : List D) (vs : List V), IsL W m H l vs → plainL n l = true → DpAll W.K H vs (pyL l)
  | n, [], _, h, _ => by have h : _ = [] := h; subst h; exact .nil
  | n, d :: l, _, ⟨v, r, e, h0, ht⟩, hp => by
    simp only [plainL, Bool.and_eq_true] at hp
    subst e
    exact .cons (dp_of n d v h0 hp.1) (dpL_of n l r ht hp.2)
end
theorem dp_flat (O : StOk W m H st) {n : Nat} {x a : D} {v : V} (h : Is W m H x v) (e : flatD st x = some a) (hp : plainD (n + 1) a = true) : Dp W.K H v (py a) := by
  cases x with
  | ref j =>
    obtain ⟨p, em, ev⟩ := h
    simp only [flatD] at e
    split at e
    · rename_i l hl
      cases e
      obtain ⟨vs, hq, hi⟩ := lst_at O em hl
      subst ev
      exact .lst (.inl (.inl hq)) (dpL_of n l vs hi (by simpa [plainD] using hp))
    · cases e
  | tpk l =>
    simp only [flatD] at e
    cases e
    obtain ⟨p, vs, o, ev, hq, hi⟩ := h
    subst ev
    exact .tup (.inl (.inr ⟨o, hq.1⟩)) (dpL_of n l vs hi (by simpa [plainD] using hp))
  | _ =>
    simp only [flatD] at e
    cases e
    exact dp_of (n + 1) _ v h hp
theorem py_shaped {n : Nat} {d : D} (h : plainD n d = true) (hn : n ≤ 64) : SeqAt.shaped (py d) = true := by
  unfold SeqAt.shaped
  rw [py_lay n d h, Bool.true_and]
  exact decide_eq_true (Nat.le_trans (py_depth n d h) hn)
end
section
variable {X : Cx} {W : Wd} {E : XK} {pos : Pos} {a b e : Expr} {es : List Expr} {ta tb : TD} {tl : TDL}
/-- a == b -/
def fEqB (neg : Bool) : F2 := fun st x y P => (∃ a b, x = .bl a ∧ y = .bl b ∧ P (.bl (decide (a = b) != neg)) st) ∨
  ∃ a b, flatD st x = some a ∧ flatD st y = some b ∧ plainD 50 a = true ∧ plainD 50 b = true ∧ ∀ r : Bool, (r = true ↔ a = b) → P (.bl (r != neg)) st
abbrev fEq : F2 := fEqB false
abbrev fNe : F2 := fEqB true
theorem rl_eq {K : PySem.W.Frag} (hK : K = W.K) : Rl2 W (fun x y H Q => rEq x y H Q ∨ rEqD K x y H Q) fEq := fun m H st x y v w P Q O hx hy h k => by
  subst hK
  rcases h with ⟨p, q, ex, ey, h⟩ | ⟨p, q, ex, ey, hp, hq, h⟩
  · subst ex ey
    have hx : v = .bl p := hx
    have hy : w = .bl q := hy
    subst hx hy
    refine .inl ⟨rfl, k _ st m H _ h (.refl _ _) O ?_⟩
    show V.bl _ = V.bl _
    simp
  · refine .inr ⟨py p, py q, dp_flat O hx ex hp, dp_flat O hy ey hq, py_shaped hp (by decide), py_shaped hq (by decide), k _ st m H _ (h _ (py_eqv 50 p q hp hq)) (.refl _ _) O ?_⟩
    show V.bl _ = V.bl _
    simp
theorem rl_ne {K : PySem.W.Frag} (hK : K = W.K) : Rl2 W (fun x y H Q => rNe x y H Q ∨ rNeD K x y H Q) fNe := fun m H st x y v w P Q O hx hy h k => by
  subst hK
  rcases h with ⟨p, q, ex, ey, h⟩ | ⟨p, q, ex, ey, hp, hq, h⟩
  · subst ex ey
    have hx : v = .bl p := hx
    have hy : w = .bl q := hy
    subst hx hy
    refine .inl ⟨rfl, k _ st m H _ h (.refl _ _) O ?_⟩
    show V.bl _ = V.bl _
    simp
  · refine .inr ⟨py p, py q, dp_flat O hx ex hp, dp_flat O hy ey hq, py_shaped hp (by decide), py_shaped hq (by decide), k _ st m H _ (h _ (py_eqv 50 p q hp hq)) (.refl _ _) O ?_⟩
    show V.bl _ = V.bl _
    simp
/-- x in a list or a tuple of ints, texts, None -/
def atomD : FL.D → Bool
  | .non => true
  | .int _ => true
  | .str _ => true
  | _ => false
def fInB (neg : Bool) : F2 := fun st x y P => ∃ l, seqD st y = some l ∧ atomD x = true ∧ l.all atomD = true ∧ ∀ r : Bool, (r = true ↔ x ∈ l) → P (.bl (r != neg)) st
theorem atom_is {m : List Addr} {H : Hp} {x : FL.D} {v : V} (h : Is W m H x v) (hx : atomD x = true) : flatV v = true := by
  cases x with
  | non => have h : v = _ := h; subst h; rfl
  | int _ => have h : v = _ := h; subst h; rfl
  | str _ => have h : v = _ := h; subst h; rfl
  | _ => cases hx
theorem atom_eq {m : List Addr} {H : Hp} {x y : FL.D} {v w : V} (h : Is W m H x v) (h' : Is W m H y w) (hx : atomD x = true) (hy : atomD y = true) : eqV v w = true ↔ x = y := by
  cases x <;> (try cases hx) <;> cases y <;> (try cases hy) <;> (have h : v = _ := h; have h' : w = _ := h'; subst h h'; simp [eqV])
theorem atom_in {m : List Addr} {H : Hp} {x : FL.D} {v : V} (h : Is W m H x v) (hx : atomD x = true) : ∀ {l : List FL.D} {vs : List V}, IsL W m H l vs → l.all atomD = true → vs.all flatV = true ∧ (inV v vs = true ↔ x ∈ l)
  | [], _, hl, _ => by
    have hl : _ = [] := hl
    subst hl
    simp [inV]
  | d :: l, _, ⟨w, r, e, h0, ht⟩, ha => by
    subst e
    simp only [List.all_cons, Bool.and_eq_true] at ha
    obtain ⟨i1, i2⟩ := atom_in h hx ht ha.2
    have e1 := atom_eq h0 h ha.1 hx
    refine ⟨by simp [atom_is h0 ha.1, i1], ?_⟩
    simp only [inV, List.any_cons, Bool.or_eq_true, List.mem_cons, e1] at i2 ⊢
    rw [i2]
    exact ⟨fun h => h.elim (fun z => .inl z.symm) .inr, fun h => h.elim (fun z => .inl z.symm) .inr⟩
theorem rl_in {K : PySem.W.Frag} (hK : K = W.K) (neg : Bool) : Rl2 W (rIn K neg) (fInB neg) := fun m H st x y v w P Q O hx hy ⟨l, es, h1, h2, q⟩ k => by
  subst hK
  obtain ⟨a, vs, ev, hq, hi⟩ := seq_is O hy es
  obtain ⟨i1, i2⟩ := atom_in hx h1 hi h2
  refine ⟨a, vs, ev, hq, atom_is hx h1, i1, k _ st m H _ (q (inV v vs) i2) (.refl _ _) O ?_⟩
  show V.bl _ = V.bl _
  cases neg <;> simp
end
end FL
/-! FI: what a def does, on data; calls, instances, raise, try. -/
namespace FL
open PySem PySem.Spec PyProof.Rows L2

/-- what a def does, on data -/
abbrev FD := List D → SD → DP → DX → Prop
/-- .. as a promise of the hand layer -/
def spOf (W : Wd) (n : Nat) (f : FD) : Sp := fun vs H Q E => vs.length = n ∧ ∃ m st ds P Ex, StOk W m H st ∧ IsL W m H ds vs ∧ f ds st P Ex ∧ Nrm W m H P Q ∧ Exn W m H Ex E
theorem exn_all {W : Wd} {m : List Addr} {H : Hp} {Ex : DX} {E : XK} (h : ∀ C st, ¬ Ex C st) : Exn W m H Ex E := fun C x st' m' H' p _ _ => (h C st' p).elim
/-- a def's body: from the slots of the arguments -/
def dStart (n : Nat) (ds : List D) : DV := ds.map some ++ List.replicate (n - ds.length) none
def fdOf (n p : Nat) (tb : TDS) : FD := fun ds st P Ex => ds.length = p ∧ tb { nx := fun _ st' => P .non st', rt := P } Ex (dStart n ds) st
theorem sim_start {W : Wd} {m : List Addr} {H : Hp} {st : SD} {N : List Str} {ds : List D} {vs : List V} (O : StOk W m H st) (h : IsL W m H ds vs) : Sim W m H st (dStart N.length ds) (L2.start N vs) := by
  have hl := h.length
  refine ⟨O, fun i d e => ?_, ?_⟩
  · unfold dStart at e
    have hi : i < ds.length := by
      by_cases hi : i < ds.length
      · exact hi
      · rw [List.getElem?_append_right (by simpa using hi)] at e
        rw [List.getElem?_replicate] at e
        split at e <;> cases e
    rw [List.getElem?_append_left (by simpa using hi), List.getElem?_map] at e
    cases q : ds[i]? with
    | none => rw [q] at e; cases e
    | some d' =>
      rw [q] at e
      cases e
      obtain ⟨v, e1, e2⟩ := h.get q
      refine ⟨v, ?_, e2⟩
      unfold L2.start
      rw [List.getElem?_append_left (by rw [List.length_map, ← hl]; exact hi), List.getElem?_map, e1]
      rfl
  · unfold dStart L2.start
    simp only [List.length_append, List.length_map, List.length_replicate]
    omega
/-- THE RULE for a def: its body's derivation -/
theorem fn_body {W : Wd} {X : Cx} {N : List Str} {np : Nat} {body : List Stmt} {tb : TDS} {vs : List V} {H : Hp} {Q : VK} {E : XK} (hb : PSs X body (liftS W E tb)) (h : spOf W np (fdOf N.length np tb) vs H Q E) :
    ∃ t, PSs X body t ∧ t { nx := fun _ H' => Q .non H', rt := Q } (L2.start N vs) H := by
  obtain ⟨hl, m, st, ds, P, Ex, O, hi, ⟨hd, q⟩, k, x⟩ := h
  refine ⟨_, hb, m, st, dStart N.length ds, _, Ex, sim_start O hi, q, fun env' st' m' H' σ' p S s => k .non st' m' H' .non p S s.ok rfl, k, fun _ _ _ _ _ p => p.elim, fun _ _ _ _ _ p => p.elim, x⟩

section
variable {X : Cx} {W : Wd} {E : XK} {pos : Pos} {e o : Expr} {es : List Expr} {ta tv : TD} {tl : TDL} {k : Nat} {f C : Addr} {fd : FuncData} {ps : List Str} {F : FD} {x m : Str} {p apos : Pos}
def dFn (F : FD) (tl : TDL) : TD := fun env st P Ex => tl env st (fun ds st1 => F ds st1 P Ex) Ex
theorem fn_core {n : Nat} {σ : L2.St} {H : Hp} {Q : VK} (hn : ∀ ds st P Ex, F ds st P Ex → ds.length = n) (h : lift W E (dFn F tl) σ H Q) : tCall (spOf W n F) [] E (liftL W E tl) σ H Q := by
  obtain ⟨m, st, env, P, Ex, r, q, k, x⟩ := h
  exact ⟨m, st, env, _, Ex, r, q, fun ds st1 m1 H1 vs q1 S1 O1 h1 => by
    show spOf W n F (vs ++ []) H1 Q E
    rw [List.append_nil]
    exact ⟨by rw [← h1.length]; exact hn _ _ _ _ q1, m1, st1, ds, P, Ex, O1, h1, q1, k.go S1, x.go S1⟩, x⟩
theorem d_fn (hF : FnOk X.prog X.w X.K X.mg X.base (L2.CX X.prog X.w) k f fd ps (spOf W ps.length F)) (hn : ∀ ds st P Ex, F ds st P Ex → ds.length = ps.length) (hr : Room k X.A) (hg : Gl X x) (hm : X.mg x = some (.ref f)) (hk : PySem.W.keepIn X.K (.ref f) = true) (hb : Binds X.K fd ps []) (hx : Passes (L2.CX X.prog X.w) X E)
    (ha : PA X (e :: es) (liftL W E tl)) (hdb : (x == ("__debug__" : Str)) = false := by decide) (he : starEach (e :: es) X.env = (false, eval e X.env) :: starEach es X.env := by rfl) (hpl : (backTo pos (starEach es X.env)).any (·.1) = false := by rfl) :
    PE X (.Call (.Name x p) (e :: es) [] pos) (lift W E (dFn F tl)) := pe_lift (pe_call hF hr hg hm hk hb .nil hx ha hdb he hpl) fun σ H Q h => fn_core hn h
theorem nil_core {n : Nat} {σ : L2.St} {H : Hp} {Q : VK} (hn : ∀ ds st P Ex, F ds st P Ex → ds.length = n) (h : lift W E (dFn F dNil) σ H Q) : tCall (spOf W n F) [] E tNil σ H Q := by
  obtain ⟨m, st, env, P, Ex, r, q, k, x⟩ := h
  show spOf W n F ([] ++ []) H Q E
  exact ⟨hn [] st P Ex q, m, st, [], P, Ex, r.ok, rfl, q, k, x⟩
theorem d_fn0 (hF : FnOk X.prog X.w X.K X.mg X.base (L2.CX X.prog X.w) k f fd ps (spOf W ps.length F)) (hn : ∀ ds st P Ex, F ds st P Ex → ds.length = ps.length) (hr : Room k X.A) (hg : Gl X x) (hm : X.mg x = some (.ref f)) (hk : PySem.W.keepIn X.K (.ref f) = true) (hb : Binds X.K fd ps []) (hx : Passes (L2.CX X.prog X.w) X E)
    (hdb : (x == ("__debug__" : Str)) = false := by decide) : PE X (.Call (.Name x p) [] [] pos) (lift W E (dFn F dNil)) := pe_lift (pe_call0 hF hr hg hm hk hb .nil hx hdb) fun σ H Q h => nil_core hn h
/-! ### instances -/
theorem fld_look {W : Wd} {m : List Addr} {H : Hp} : ∀ {fs : List (Str × FL.D)} {fvs : List (Str × V)}, fvs.map (·.1) = fs.map (·.1) → IsL W m H (fs.map (·.2)) (fvs.map (·.2)) → ∀ g : Str, (fs.lookup g = none → fvs.lookup g = none) ∧ ∀ d, fs.lookup g = some d → ∃ v, fvs.lookup g = some v ∧ Is W m H d v
  | [], fvs, hn, hi, g => by
    have : fvs = [] := by simpa using hn
    subst this
    exact ⟨fun _ => rfl, fun d h => by cases h⟩
  | (a, d0) :: fs, [], hn, hi, g => by simp at hn
  | (a, d0) :: fs, (b, v0) :: fvs, hn, hi, g => by
    simp only [List.map_cons, List.cons.injEq] at hn
    obtain ⟨e1, e2⟩ := hn
    obtain ⟨v, r, e3, h0, ht⟩ := hi
    simp only [List.map_cons, List.cons.injEq] at e3
    obtain ⟨e4, e5⟩ := e3
    subst e1 e4 e5
    obtain ⟨i1, i2⟩ := fld_look e2 ht g
    by_cases h : (g == b) = true
    · simp only [List.lookup, h]
      exact ⟨fun z => by simp at z, fun d z => ⟨v0, rfl, by cases z; exact h0⟩⟩
    · have h : (g == b) = false := by simpa using h
      simp only [List.lookup, h]
      exact ⟨i1, i2⟩
theorem ins_at {m : List Addr} {H : Hp} {st : SD} (O : StOk W m H st) {j : Nat} {a : Addr} {fs : List (Str × FL.D)} (em : m[j]? = some a) (e : st[j]? = some (.ins C fs)) : ∃ dx fvs, H a = some (.ins C dx fvs) ∧ fvs.map (·.1) = fs.map (·.1) ∧ IsL W m H (fs.map (·.2)) (fvs.map (·.2)) := by
  obtain ⟨a', e', h⟩ := O.at e
  rw [em] at e'
  cases e'
  exact h
/-- o.f -/
def dFld (C : Addr) (g : Str) (ta : TD) : TD := fun env st P Ex => ta env st (fun x st1 => ∃ j fs d, x = .ref j ∧ st1[j]? = some (.ins C fs) ∧ fs.lookup g = some d ∧ P d st1) Ex
theorem d_fld {g : Str} (c : Cls X.K C) (n : NoAttr X.K C g) (he : PE X e (lift W E ta)) (hb : attributeBase e g X.env (eval e X.env) = eval e X.env := by rfl) : PE X (.Attribute e g pos) (lift W E (dFld C g ta)) :=
  pe_lift (pe_fld he hb) fun σ H Q ⟨m, st, env, P, Ex, r, q, k, x⟩ => ⟨m, st, env, _, Ex, r, q, fun d st1 m1 H1 v ⟨j, fs, dd, ed, es, el, q1⟩ S1 O1 h1 => by
    subst ed
    obtain ⟨a, em, ev⟩ := h1
    obtain ⟨dx, fvs, h2, h3, h4⟩ := ins_at O1 em es
    obtain ⟨w, e5, e6⟩ := (fld_look h3 h4 g).2 dd el
    exact ⟨a, C, dx, fvs, w, ev, h2, c, n, e5, k dd st1 m1 H1 w q1 S1 O1 e6⟩, x⟩
def putFD (g : Str) (d : FL.D) : List (Str × FL.D) → List (Str × FL.D)
  | [] => [(g, d)]
  | (h, x) :: r => if h = g then (h, d) :: r else (h, x) :: putFD g d r
theorem putF_is {W : Wd} {m : List Addr} {H : Hp} {g : Str} {d : FL.D} {v : V} (hd : Is W m H d v) : ∀ {fs : List (Str × FL.D)} {fvs : List (Str × V)}, fvs.map (·.1) = fs.map (·.1) → IsL W m H (fs.map (·.2)) (fvs.map (·.2)) →
    (putF g v fvs).map (·.1) = (putFD g d fs).map (·.1) ∧ IsL W m H ((putFD g d fs).map (·.2)) ((putF g v fvs).map (·.2))
  | [], fvs, hn, hi => by
    have : fvs = [] := by simpa using hn
    subst this
    exact ⟨rfl, IsL.single hd⟩
  | (a, d0) :: fs, [], hn, hi => by simp at hn
  | (a, d0) :: fs, (b, v0) :: fvs, hn, hi => by
    simp only [List.map_cons, List.cons.injEq] at hn
    obtain ⟨e1, e2⟩ := hn
    obtain ⟨w, r, e3, h0, ht⟩ := hi
    simp only [List.map_cons, List.cons.injEq] at e3
    obtain ⟨e4, e5⟩ := e3
    subst e1 e4 e5
    unfold putF putFD
    by_cases h : b = g
    · rw [if_pos h, if_pos h]
      exact ⟨by simp [e2], v, _, rfl, hd, ht⟩
    · rw [if_neg h, if_neg h]
      obtain ⟨i1, i2⟩ := putF_is (g := g) hd e2 ht
      exact ⟨by simp [i1], v0, _, rfl, h0, i2⟩
/-- o.f = v -/
def dSetF (C : Addr) (g : Str) (ta tv : TD) : TDS := fun D Ex env st => tv env st (fun d st1 => ta env st1 (fun x st2 => ∃ j fs, x = .ref j ∧ st2[j]? = some (.ins C fs) ∧ fs.length < 1000 ∧ D.nx env (st2.set j (.ins C (putFD g d fs)))) Ex) Ex
theorem ds_fld {g : Str} {value : Expr} {pos' : Pos} (c : Cls X.K C) (n : NoAttr X.K C g) (ha : PE X o (lift W E ta)) (hv : PE X value (lift W E tv)) (hs : swapsWith value (some (.Attribute o g pos')) pos.line X.env = pure false := by rfl) : PS X (.Assign [.Attribute o g pos'] value pos) (liftS W E (dSetF C g ta tv)) :=
  ps_lift (ps_fld ha hv hs) fun D σ H ⟨m, st, env, Dd, Ex, r, q, k1, k2, k3, k4, x⟩ => ⟨m, st, env, _, Ex, r, q, fun d st1 m1 H1 v q1 S1 O1 h1 => ⟨m1, st1, env, _, Ex, r.go S1 O1, q1, fun d2 st2 m2 H2 u ⟨j, fs, ed, es, hl, q2⟩ S2 O2 h2 => by
    subst ed
    obtain ⟨a, em, ev⟩ := h2
    obtain ⟨dx, fvs, e2, e3, e4⟩ := ins_at O2 em es
    have hd := Is.mono S2 O1.mut d v h1
    have hlen : fvs.length = fs.length := by simpa using congrArg List.length e3
    have hf : ∀ o u, H2 a ≠ some (.frz o u) := fun o u z => by rw [e2] at z; cases z
    have S3 : Stp m2 H2 m2 (upd H2 a (.ins C dx (putF g v fvs))) := Stp.set em hf
    obtain ⟨p1, p2⟩ := putF_is (g := g) hd e3 e4
    have O3 := O2.set (ob := .ins C (putFD g d fs)) em hf ⟨dx, _, upd_same, p1, IsL.mono S3 O2.mut _ _ p2⟩
    exact ⟨a, C, dx, fvs, ev, e2, c, n, by omega, k1 env _ m2 _ σ q2 ((S1.trans S2).trans S3) (((r.go S1 O1).go S2 O2).go S3 O3)⟩, x.go S1⟩, x⟩
/-- o.m(..) -/
def dMeth (C : Addr) (m : Str) (F : FD) (ta : TD) (tl : TDL) : TD := fun env st P Ex => ta env st (fun x st1 => ∃ j fs, x = .ref j ∧ st1[j]? = some (.ins C fs) ∧ fs.lookup m = none ∧ tl env st1 (fun ds st2 => F (.ref j :: ds) st2 P Ex) Ex) Ex
theorem meth_core {n : Nat} {σ : L2.St} {H : Hp} {Q : VK} (hn : ∀ ds st P Ex, F ds st P Ex → ds.length = n) (h : lift W E (dMeth C m F ta tl) σ H Q) : tMeth C m (spOf W n F) [] E (lift W E ta) (liftL W E tl) σ H Q := by
  obtain ⟨mm, st, env, P, Ex, r, q, k, x⟩ := h
  refine ⟨mm, st, env, _, Ex, r, q, fun d st1 m1 H1 v ⟨j, fs, ed, es, el, q1⟩ S1 O1 h1 => ?_, x⟩
  subst ed
  obtain ⟨a, em, ev⟩ := h1
  obtain ⟨dx, fvs, h2, h3, h4⟩ := ins_at O1 em es
  refine ⟨a, dx, fvs, ev, h2, (fld_look h3 h4 m).1 el, m1, st1, env, _, Ex, r.go S1 O1, q1, fun ds st2 m2 H2 vs q2 S2 O2 hv => ?_, x.go S1⟩
  show spOf W n F (v :: (vs ++ [])) H2 Q E
  rw [List.append_nil]
  have hi : IsL W m2 H2 (.ref j :: ds) (v :: vs) := ⟨v, vs, rfl, ⟨a, S2.at em, ev⟩, hv⟩
  exact ⟨by rw [← hi.length]; exact hn _ _ _ _ q2, m2, st2, _, P, Ex, O2, hi, q2, k.go (S1.trans S2), x.go (S1.trans S2)⟩
theorem d_meth {pl : Sem Bool} (hF : FnOk X.prog X.w X.K X.mg X.base (L2.CX X.prog X.w) k f fd ps (spOf W ps.length F)) (hn : ∀ ds st P Ex, F ds st P Ex → ds.length = ps.length) (he : PE X o (lift W E ta)) (c : Cls X.K C) (hm : Meth X.K C m f) (hr : Room k X.A) (hb : Binds X.K fd ps []) (hx : Passes (L2.CX X.prog X.w) X E) (ha : PA X (e :: es) (liftL W E tl))
    (hst : starEach (e :: es) X.env = (false, eval e X.env) :: starEach es X.env := by rfl) (hpl : (backTo pos (starEach es X.env)).any (·.1) = false := by rfl)
    (ht : eval (.Call (.Attribute o m apos) (e :: es) [] pos) X.env = (do
      let ov ← eval o X.env
      standAt apos.atName
      let (f, first) ← holding [ov] (getMethod ov m pl)
      callWith pos f first (backTo pos (starEach (e :: es) X.env)) (backToKw pos (keywordEach [] X.env))) := by rfl) :
    PE X (.Call (.Attribute o m apos) (e :: es) [] pos) (lift W E (dMeth C m F ta tl)) := pe_lift (pe_meth he c hm hF hr hb .nil hx ha hst hpl ht) fun σ H Q h => meth_core hn h
theorem d_meth0 {pl : Sem Bool} (hF : FnOk X.prog X.w X.K X.mg X.base (L2.CX X.prog X.w) k f fd ps (spOf W ps.length F)) (hn : ∀ ds st P Ex, F ds st P Ex → ds.length = ps.length) (he : PE X o (lift W E ta)) (c : Cls X.K C) (hm : Meth X.K C m f) (hr : Room k X.A) (hb : Binds X.K fd ps []) (hx : Passes (L2.CX X.prog X.w) X E)
    (ht : eval (.Call (.Attribute o m apos) [] [] pos) X.env = (do
      let ov ← eval o X.env
      standAt apos.atName
      let (f, first) ← holding [ov] (getMethod ov m pl)
      callWith pos f first (backTo pos (starEach [] X.env)) (backToKw pos (keywordEach [] X.env))) := by rfl) :
    PE X (.Call (.Attribute o m apos) [] [] pos) (lift W E (dMeth C m F ta dNil)) := pe_lift (pe_meth0 he c hm hF hr hb .nil hx ht) fun σ H Q ⟨mm, st, env, P, Ex, r, q, k, x⟩ => by
  refine ⟨mm, st, env, _, Ex, r, q, fun d st1 m1 H1 v ⟨j, fs, ed, es, el, q1⟩ S1 O1 h1 => ?_, x⟩
  subst ed
  obtain ⟨a, em, ev⟩ := h1
  obtain ⟨dx, fvs, h2, h3, h4⟩ := ins_at O1 em es
  refine ⟨a, dx, fvs, ev, h2, (fld_look h3 h4 m).1 el, ?_⟩
  have hi : IsL W m1 H1 [.ref j] [v] := ⟨v, [], rfl, ⟨a, em, ev⟩, rfl⟩
  show spOf W ps.length F [v] H1 Q E
  exact ⟨by rw [← hi.length]; exact hn _ _ _ _ q1, m1, st1, _, P, Ex, O1, hi, q1, k.go S1, x.go S1⟩
/-- C(..) -/
def dMake (C : Addr) (F : FD) (tl : TDL) : TD := fun env st P Ex => tl env st (fun ds st1 => F (.ref st1.length :: ds) (st1 ++ [.ins C []]) (fun d st2 => d = .non ∧ P (.ref st1.length) st2) Ex) Ex
theorem ins_new {m : List Addr} {H : Hp} {st : SD} (O : StOk W m H st) {p dx : Addr} (hp : H p = none) (hd : H dx = none) (ne : dx ≠ p) :
    Stp m H (m ++ [p]) (upd (upd H dx (.own p)) p (.ins C dx [])) ∧ StOk W (m ++ [p]) (upd (upd H dx (.own p)) p (.ins C dx [])) (st ++ [.ins C []]) ∧ (m ++ [p])[st.length]? = some p := by
  have S1 : Stp m H m (upd H dx (.own p)) := Stp.new hd
  have O1 : StOk W m (upd H dx (.own p)) st := O.new hd
  have hp1 : upd H dx (.own p) p = none := by rw [upd_ne (Ne.symm ne)]; exact hp
  obtain ⟨n1, n2, n3⟩ := obj_new O1 (ob := .ins C []) (ho := .ins C dx []) hp1 fun H' m' S e => ⟨dx, [], e, rfl, rfl⟩
  exact ⟨S1.trans n1, n2, by rw [← O.len]; simp⟩
theorem d_make (M : Mk X.K C f) (hF : FnOk X.prog X.w X.K X.mg X.base (L2.CX X.prog X.w) k f fd ps (spOf W ps.length F)) (hn : ∀ ds st P Ex, F ds st P Ex → ds.length = ps.length) (hr : Room (k + 1) X.A) (hg : Gl X x) (hm : X.mg x = some (.ref C)) (hb : Binds X.K fd ps []) (hx : Passes (L2.CX X.prog X.w) X E)
    (ha : PA X (e :: es) (liftL W E tl)) (hdb : (x == ("__debug__" : Str)) = false := by decide) (he : starEach (e :: es) X.env = (false, eval e X.env) :: starEach es X.env := by rfl) (hpl : (backTo pos (starEach es X.env)).any (·.1) = false := by rfl) :
    PE X (.Call (.Name x p) (e :: es) [] pos) (lift W E (dMake C F tl)) := pe_lift (pe_make M hF hr hg hm hb .nil hx ha hdb he hpl) fun σ H Q ⟨mm, st, env, P, Ex, r, q, k, x⟩ =>
  ⟨mm, st, env, _, Ex, r, q, fun ds st1 m1 H1 vs q1 S1 O1 h1 => fun p dx hp hd ne => by
    obtain ⟨n1, n2, n3⟩ := ins_new (C := C) O1 hp hd ne
    rw [List.append_nil]
    have hi : IsL W (m1 ++ [p]) (upd (upd H1 dx (.own p)) p (.ins C dx [])) (.ref st1.length :: ds) (.ref p :: vs) := ⟨.ref p, vs, rfl, ⟨p, n3, rfl⟩, IsL.mono n1 O1.mut ds vs h1⟩
    exact ⟨by rw [← hi.length]; exact hn _ _ _ _ q1, _, _, _, _, Ex, n2, hi, q1, fun d st' m' H' v ⟨ed, p'⟩ S O hv => by
      subst ed
      exact ⟨hv, k (.ref st1.length) st' m' H' (.ref p) p' ((S1.trans n1).trans S) O ⟨p, S.at n3, rfl⟩⟩, x.go (S1.trans n1)⟩, x⟩
/-! ### raise, try -/
/-- raise C('..') -/
def dRaise (C : Addr) : TDS := fun _ Ex _ st => Ex C st
theorem ds_raise {Wx : WX} {x : Expr} (hc : X.calm = true) (tk : Takes X Wx) (hW : ∀ cls d σ H, E cls d H → Wx cls d σ H) (he : PMk X x (fun _ H Q => Q (.ref C) none H)) : PS X (.Raise (some x) none pos) (liftS W E (dRaise C)) :=
  ps_lift (ps_raise hc tk he) fun D σ H ⟨m, st, env, Dd, Ex, r, q, _, _, _, _, x⟩ => hW _ _ _ _ (x C none st m H q (.refl _ _) r.ok)
/-- try: .. except C: .. (the suite reads no slot) -/
def dTry (C : Addr) (tb ts : TDS) : TDS := fun D Ex env st => tb D (fun C' st' => C' = C ∧ ts D Ex [] st') env st
theorem ds_try {xc : Str} {np pos' : Pos} {body suite : List Stmt} {b₀ : Stmt} {tb ts : TDS} (hs : X.stack = X.env :: X.outer) (hf : X.env.frame = some X.env.locals) (hcl : X.calm = true) (hN : Names X xc (.ref C)) (hex : PySem.W.exmOne X.K (.ref C) (.ref C) = some true)
    (hb : ∀ (E' : XK) (pn : List (Addr × Obj)) (xe : Value → Shared → Prop) (Wx : WX), Takes (X.tr pn xe) Wx → (∀ cls d σ H, E' cls d H → Wx cls d σ H) → PSs (X.tr pn xe) body (liftS W E' tb))
    (hsu : ∀ (a : Addr) (oe : Obj) (cls : Value) (d : Option Addr) (pn : List (Addr × Obj)), PSs (X.suite a ((a, oe) :: pn)) (b₀ :: suite) (liftS W E ts))
    (hE : ∀ (Wx : WX), Takes X Wx → True := by intros; trivial) (tk : Takes X (fun _ _ _ _ => False)) :
    PS X (.Try body [.ExceptHandler (some (.Name xc np)) none (b₀ :: suite) pos'] [] [] pos) (liftS W E (dTry C tb ts)) := by
  refine ps_lift (ps_try_only (tb := fun Wx => liftS W (fun cls d H => ∀ σ, Wx cls d σ H) tb) (ts := fun _ _ _ => liftS W E ts) hs hf hN tk (fun Wx pn xe tk' _ => hb _ pn xe Wx tk' fun cls d σ H h => h σ) fun a oe cls d pn _ _ => hsu a oe cls d pn) ?_
  rintro D σ H ⟨m, st, env, Dd, Ex, r, q, k1, k2, k3, k4, x⟩
  refine ⟨m, st, env, _, _, r, q, k1, k2, k3, k4, fun C' y st' m' H' ⟨eC, p⟩ S O σ' => ?_⟩
  subst eC
  refine ⟨true, hex, fun _ a ha => ?_, fun z => by cases z⟩
  exact ⟨m', st', [], Dd, Ex, ⟨O, fun i d e => by simp at e, Nat.zero_le _⟩, p, fun e s mm hh sg p T => k1 e s mm hh sg p (S.trans T), k2.go S, fun e s mm hh sg p T => k3 e s mm hh sg p (S.trans T), fun e s mm hh sg p T => k4 e s mm hh sg p (S.trans T), x.go S⟩
end
end FL
/-! FJ: more rules on data: signs, chains, +=, slices, dicts. -/
namespace FL
open PySem PySem.Spec PyProof.Rows L2

section
variable {X : Cx} {W : Wd} {E : XK} {pos : Pos} {a b c e o i : Expr} {es : List Expr} {ta tb tc tv : TD} {tl : TDL}
/-! ### -x, a < b < c, x += n -/
def fNeg : F1 := fun st x P => ∃ i, x = .int i ∧ P (.int (-i)) st
theorem d_neg (ha : PE X a (lift W E ta)) : PE X (.UnaryOp .USub a pos) (lift W E (dUn fNeg ta)) :=
  pe_lift (pe_un un_neg ha) fun σ H Q h => un_core (r := rU fun i => .int (-i)) (fun m H st x v P Q O hx ⟨i, ex, q⟩ k => by
    subst ex
    exact ⟨i, hx, k _ st m H _ q (.refl _ _) O rfl⟩) h
def dChain (f g : F2) (ta tb tc : TD) : TD := fun env st P Ex => ta env st (fun x st1 => tb env st1 (fun y st2 => f st2 x y fun z st3 => ∃ k, z = .bl k ∧ if k = true then tc env st3 (fun w st4 => g st4 y w P) Ex else P (.bl false) st3) Ex) Ex
theorem chain_core {r r' : R2} {f g : F2} (hf : Rl2 W r f) (hg : Rl2 W r' g) {σ : L2.St} {H : Hp} {Q : VK} (h : lift W E (dChain f g ta tb tc) σ H Q) : tChain r r' (lift W E ta) (lift W E tb) (lift W E tc) σ H Q := by
  obtain ⟨m, st, env, P, Ex, r0, q, k, x⟩ := h
  exact ⟨m, st, env, _, Ex, r0, q, fun x1 st1 m1 H1 v q1 S1 O1 h1 => ⟨m1, st1, env, _, Ex, r0.go S1 O1, q1, fun y st2 m2 H2 w q2 S2 O2 h2 =>
    hf m2 H2 st2 x1 y v w _ _ O2 (Is.mono S2 O1.mut x1 v h1) h2 q2 fun z st3 m3 H3 u ⟨b, eb, q3⟩ S3 O3 h3 => by
      subst eb
      have h3 : u = .bl b := h3
      subst h3
      refine ⟨b, rfl, ?_⟩
      have S13 := (S1.trans S2).trans S3
      cases b with
      | false => exact k (.bl false) st3 m3 H3 _ (by simpa using q3) S13 O3 rfl
      | true =>
        simp only [if_true] at q3 ⊢
        exact ⟨m3, st3, env, _, Ex, r0.go S13 O3, q3, fun t st4 m4 H4 v4 q4 S4 O4 h4 => hg m4 H4 st4 y t w v4 P Q O4 (Is.mono (S3.trans S4) O2.mut y w h2) h4 q4 (k.go (S13.trans S4)), x.go S13⟩, x.go S1⟩, x⟩
theorem d_chain {op op' : CmpOp} {r r' : R2} {f g : F2} (ho : OpR X (compareOp op) r) (ho' : OpR X (compareOp op') r') (hf : Rl2 W r f) (hg : Rl2 W r' g) (ha : PE X a (lift W E ta)) (hb : PE X b (lift W E tb)) (hc : PE X c (lift W E tc))
    (hm : lastMarks [op, op'] [b, c] = false := by with_unfolding_all rfl) : PE X (.Compare a [op, op'] [b, c] pos) (lift W E (dChain f g ta tb tc)) := pe_lift (pe_chain ho ho' ha hb hc hm) fun σ H Q h => chain_core hf hg h
theorem dt_chain {op op' : CmpOp} {r r' : R2} {f g : F2} (ho : OpR X (compareOp op) r) (ho' : OpR X (compareOp op') r') (hf : Rl2 W r f) (hg : Rl2 W r' g) (ha : PE X a (lift W E ta)) (hb : PE X b (lift W E tb)) (hc : PE X c (lift W E tc))
    (hm : lastMarks [op, op'] [b, c] = false := by with_unfolding_all rfl) : PT X (.Compare a [op, op'] [b, c] pos) (liftB W E (dTest (dChain f g ta tb tc))) :=
  pt_lift (pt_chain ho ho' ha hb hc hm) fun σ H Q ⟨m, st, env, P, Ex, r, q, k, x⟩ => chain_core hf hg ⟨m, st, env, _, Ex, r, q, fun d st1 m1 H1 v ⟨b, e, p⟩ S1 O1 h1 => ⟨b, by subst e; exact h1, k b st1 m1 H1 p S1 O1⟩, x⟩
def dAug (i : Nat) (te : TD) : TDS := fun D Ex env st => ∃ n, env[i]? = some (some (.int n)) ∧ te env st (fun y st1 => ∃ k, y = .int k ∧ D.nx (env.set i (some (.int (n + k)))) st1) Ex
theorem ds_aug {j : Nat} {x : Str} {pos' : Pos} (hN : X.N.Nodup) (hi : X.N[j]? = some x) (hx : Loc X.env.scope x) (he : PE X e (lift W E ta)) (hf : X.fn x = true ∨ X.env.scope.names.lookup x = some .local := by first | exact .inl rfl | exact .inr rfl | assumption) :
    PS X (.AugAssign (.Name x pos') .Add e pos) (liftS W E (dAug j ta)) :=
  ps_lift (ps_aug hN hi hx he ip_add hf) fun D σ H ⟨m, st, env, Dd, Ex, r, ⟨n, en, q⟩, k1, k2, k3, k4, x⟩ => by
    obtain ⟨v, ev, hv⟩ := r.sl j _ en
    have hv : v = .int n := hv
    subst hv
    exact ⟨_, ev, m, st, env, _, Ex, r, q, fun d st1 m1 H1 v1 ⟨k, ek, q1⟩ S1 O1 h1 => by
      subst ek
      exact ⟨n, k, rfl, h1, k1 _ st1 m1 H1 _ q1 S1 ((r.go S1 O1).set (d := .int (n + k)) rfl j)⟩, x⟩
/-! ### slices -/
abbrev TDO := DV → SD → (Option Int → SD → Prop) → DX → Prop
def liftO (W : Wd) (E : XK) (t : TDO) : TO := fun σ H Q => ∃ m st env P Ex, Sim W m H st env σ ∧ t env st P Ex ∧ (∀ o st' m' H', P o st' → Stp m H m' H' → StOk W m' H' st' → Q o H') ∧ Exn W m H Ex E
def doNone : TDO := fun _ st P _ => P none st
def doSome (t : TD) : TDO := fun env st P Ex => t env st (fun d st1 => ∃ i, d = .int i ∧ P (some i) st1) Ex
theorem po_lift {X : Cx} {e : Option Expr} {t u : TO} (h : PO X e t) (i : ∀ σ H Q, u σ H Q → t σ H Q) : PO X e u := ⟨fun pins s σ H Q I q => h.run pins s σ H Q I (i σ H Q q)⟩
theorem do_none : PO X none (liftO W E doNone) := po_lift po_none fun σ H Q ⟨m, st, env, P, Ex, r, q, k, x⟩ => k none st m H q (.refl _ _) r.ok
theorem do_some (h : PE X e (lift W E ta)) : PO X (some e) (liftO W E (doSome ta)) := po_lift (po_some h) fun σ H Q ⟨m, st, env, P, Ex, r, q, k, x⟩ => ⟨m, st, env, _, Ex, r, q, fun d st1 m1 H1 v ⟨i, ei, p⟩ S1 O1 h1 => by
  subst ei
  exact ⟨i, h1, k _ st1 m1 H1 p S1 O1⟩, x⟩
def cutD (xs : List FL.D) (lo hi : Option Int) : List FL.D := (xs.drop (HT.sIx xs.length 0 lo)).take (HT.sIx xs.length xs.length hi - HT.sIx xs.length 0 lo)
theorem isL_cut {m : List Addr} {H : Hp} {l : List FL.D} {vs : List V} (h : IsL W m H l vs) (lo hi : Option Int) : IsL W m H (cutD l lo hi) (cutV vs lo hi) := by
  unfold cutD cutV
  rw [h.length]
  exact (h.drop _).take _
def fSl (x : FL.D) (lo hi : Option Int) (st : SD) (P : DP) : Prop := match x with
  | .tup l => P (.tup (cutD l lo hi)) st
  | .lst l => P (.lst (cutD l lo hi)) st
  | .str z => z.length ≤ sizeLine ∧ P (.str (cutS z lo hi)) st
  | .ref j => ∃ l, st[j]? = some (.lst l) ∧ P (.lst (cutD l lo hi)) st
  | _ => False
def dSl (te : TD) (tl th : TDO) : TD := fun env st P Ex => te env st (fun x st1 => tl env st1 (fun lo st2 => th env st2 (fun hi st3 => fSl x lo hi st3 P) Ex) Ex) Ex
theorem cutD_all {l : List FL.D} {lo hi : Option Int} (h : HT.sIx l.length 0 lo = 0 ∧ HT.sIx l.length l.length hi = l.length) : cutD l lo hi = l := by
  unfold cutD
  rw [h.1, h.2]
  simp
theorem d_slice {lo hi : Option Expr} {p2 : Pos} {t1 t2 : TDO} (hK : X.K = W.K) (he : PE X e (lift W E ta)) (hl : PO X lo (liftO W E t1)) (hh : PO X hi (liftO W E t2)) : PE X (.Subscript e (.Slice lo hi none p2) pos) (lift W E (dSl ta t1 t2)) :=
  pe_lift (pe_slice (SlR.or sl_list (SlR.or sl_tupA sl_str)) he hl hh) fun σ H Q ⟨m, st, env, P, Ex, r, q, k, x⟩ => ⟨m, st, env, _, Ex, r, q, fun d st1 m1 H1 v q1 S1 O1 h1 => ⟨m1, st1, env, _, Ex, r.go S1 O1, q1, fun lo st2 m2 H2 q2 S2 O2 => ⟨m2, st2, env, _, Ex, (r.go S1 O1).go S2 O2, q2, fun hi st3 m3 H3 q3 S3 O3 => by
    have S23 := S2.trans S3
    have S13 := S1.trans S23
    have hd := Is.mono S23 O1.mut d v h1
    rw [hK]
    cases d with
    | tup l =>
      obtain ⟨a, vs, ev, hq, hi'⟩ := hd
      refine .inr (.inl ⟨a, vs, ev, hq, fun z => ?_, fun z p hp => ?_⟩)
      · refine k _ st3 m3 H3 _ q3 S13 O3 ⟨a, vs, rfl, hq, ?_⟩
        rw [← hi'.length] at z
        rw [cutD_all z]
        exact hi'
      · obtain ⟨n1, n2, n3⟩ := tup_new O3 hp (isL_cut hi' lo hi)
        exact k _ st3 m3 _ _ q3 (S13.trans n1) n2 n3
    | lst l =>
      obtain ⟨a, vs, ev, hq, hn, hi'⟩ := hd
      refine .inl ⟨a, vs, ev, .inl (.inl hq), fun p hp => ?_⟩
      obtain ⟨n1, n2, n3⟩ := lst_new O3 hp (isL_cut hi' lo hi)
      exact k _ st3 m3 _ _ q3 (S13.trans n1) n2 n3
    | ref j =>
      obtain ⟨l, el, q3⟩ := q3
      obtain ⟨a, em, ev⟩ := hd
      obtain ⟨vs, hq, hi'⟩ := lst_at O3 em el
      refine .inl ⟨a, vs, ev, .inl (.inl hq), fun p hp => ?_⟩
      obtain ⟨n1, n2, n3⟩ := lst_new O3 hp (isL_cut hi' lo hi)
      exact k _ st3 m3 _ _ q3 (S13.trans n1) n2 n3
    | str z =>
      obtain ⟨hz, q3⟩ := q3
      exact .inr (.inr ⟨z, hd, hz, k _ st3 m3 H3 _ q3 S13 O3 rfl⟩)
    | _ => exact False.elim q3, (x.go S1).go S2⟩, x.go S1⟩, x⟩
/-! ### dicts -/
/-- the dict number j -/
def dctD (st : SD) (j : Nat) : Option (List (Key × FL.D)) := match st[j]? with
  | some (.dct l) => some l
  | some (.dctR l) => some l
  | _ => none
def keyOf : FL.D → Option Key
  | .int i => some (.inl i)
  | .str x => some (.inr x)
  | _ => none
def getKD (l : List (Key × FL.D)) (k : Key) : Option FL.D := (l.find? fun p => decide (p.1 = k)).map (·.2)
def putKD (l : List (Key × FL.D)) (k : Key) (d : FL.D) : List (Key × FL.D) := if (l.any fun p => decide (p.1 = k)) = true then l.map (fun p => if p.1 = k then (p.1, d) else p) else l ++ [(k, d)]
theorem key_is {m : List Addr} {H : Hp} {d : FL.D} {v : V} {k : Key} (h : Is W m H d v) (e : keyOf d = some k) : v = kV k := by
  cases d <;> simp only [keyOf] at e <;> (try cases e) <;> exact h
theorem dct_at {m : List Addr} {H : Hp} {st : SD} (O : StOk W m H st) {j : Nat} {a : Addr} {l : List (Key × FL.D)} (em : m[j]? = some a) (e : dctD st j = some l) : ∃ kvs, Rd H a (.dK kvs) ∧ IsK W m H l kvs := by
  unfold dctD at e
  split at e
  · rename_i l' hl
    cases e
    obtain ⟨a', e', kvs, h1, h2⟩ := O.at hl
    rw [em] at e'
    cases e'
    exact ⟨kvs, .inl h1, h2⟩
  · rename_i l' hl
    cases e
    obtain ⟨a', e', kvs, h1, h2⟩ := O.at hl
    rw [em] at e'
    cases e'
    exact ⟨kvs, h1, h2⟩
  · cases e
theorem isK_get {m : List Addr} {H : Hp} {k : Key} : ∀ {l : List (Key × FL.D)} {kvs : List (Key × V)}, IsK W m H l kvs → (getKD l k = none → valV kvs k = none) ∧ ∀ d, getKD l k = some d → ∃ v, valV kvs k = some v ∧ Is W m H d v
  | [], kvs, h => by
    have h : kvs = [] := h
    subst h
    exact ⟨fun _ => rfl, fun d e => by cases e⟩
  | (k', d') :: l, kvs, ⟨v, r, e, h0, ht⟩ => by
    subst e
    by_cases hk : k' = k
    · have e1 : getKD ((k', d') :: l) k = some d' := by simp [getKD, hk]
      rw [valV_pos hk, e1]
      refine ⟨fun z => (by cases z), fun d z => ?_⟩
      cases z
      exact ⟨v, rfl, h0⟩
    · rw [valV_neg hk]
      have := isK_get (k := k) ht
      simp only [getKD, List.find?_cons, hk, decide_false] at this ⊢
      exact this
theorem isK_get_isSome {m : List Addr} {H : Hp} {k : Key} {l : List (Key × FL.D)} {kvs : List (Key × V)} (h : IsK W m H l kvs) : (valV kvs k).isSome = (getKD l k).isSome := by
  obtain ⟨h1, h2⟩ := isK_get (k := k) h
  cases e : getKD l k with
  | none => rw [h1 e]; rfl
  | some d =>
    obtain ⟨v, ev, _⟩ := h2 d e
    rw [ev]
    rfl
theorem isK_any {m : List Addr} {H : Hp} {k : Key} : ∀ {l : List (Key × FL.D)} {kvs : List (Key × V)}, IsK W m H l kvs → (kvs.any fun p => decide (p.1 = k)) = (l.any fun p => decide (p.1 = k))
  | [], kvs, h => by
    have h : kvs = [] := h
    subst h
    rfl
  | (k', d') :: l, kvs, ⟨v, r, e, h0, ht⟩ => by
    subst e
    simp only [List.any_cons, isK_any ht]
theorem isK_map {m : List Addr} {H : Hp} {k : Key} {d : FL.D} {v : V} (hd : Is W m H d v) : ∀ {l : List (Key × FL.D)} {kvs : List (Key × V)}, IsK W m H l kvs → IsK W m H (l.map fun p => if p.1 = k then (p.1, d) else p) (kvs.map fun p => if p.1 = k then (p.1, v) else p)
  | [], kvs, h => by
    have h : kvs = [] := h
    subst h
    rfl
  | (k', d') :: l, kvs, ⟨w, r, e, h0, ht⟩ => by
    subst e
    by_cases hk : k' = k
    · simp only [List.map_cons, hk, if_true]
      exact ⟨v, _, rfl, hd, isK_map hd ht⟩
    · simp only [List.map_cons, hk, if_false]
      exact ⟨w, _, rfl, h0, isK_map hd ht⟩
theorem isK_append {m : List Addr} {H : Hp} : ∀ {l l' : List (Key × FL.D)} {ks ks' : List (Key × V)}, IsK W m H l ks → IsK W m H l' ks' → IsK W m H (l ++ l') (ks ++ ks')
  | [], _, _, _, h, h' => by
    have h : _ = [] := h
    subst h
    exact h'
  | (k, d) :: l, _, _, _, ⟨v, r, e, h, t⟩, h' => by subst e; exact ⟨v, r ++ _, rfl, h, isK_append t h'⟩
theorem isK_put {m : List Addr} {H : Hp} {k : Key} {d : FL.D} {v : V} (hd : Is W m H d v) {l : List (Key × FL.D)} {kvs : List (Key × V)} (h : IsK W m H l kvs) : IsK W m H (putKD l k d) (putK kvs k v) := by
  unfold putKD putK
  rw [isK_any h]
  split
  · exact isK_map hd h
  · exact isK_append h ⟨v, [], rfl, hd, rfl⟩
/-- {} -/
def dNewK : TD := fun _ st P _ => P (.ref st.length) (st ++ [.dct []])
theorem d_dnew : PE X (.Dict [] [] pos) (lift W E dNewK) := pe_lift pe_dnewK fun σ H Q ⟨m, st, env, P, Ex, r, q, k, x⟩ p hp => by
  obtain ⟨n1, n2, n3⟩ := obj_new r.ok (ob := .dct []) (ho := .dK []) hp fun H' m' S e => ⟨[], e, rfl⟩
  exact k _ _ _ _ _ q n1 n2 n3
/-- d[k] -/
def fDGet : F2 := fun st x y P => ∃ j l k d, x = .ref j ∧ dctD st j = some l ∧ keyOf y = some k ∧ getKD l k = some d ∧ P d st
theorem dget_of {m : List Addr} {H : Hp} {st : SD} (O : StOk W m H st) {j : Nat} {l : List (Key × FL.D)} {k : Key} {y : FL.D} {v w : V} (hx : Is W m H (.ref j) v) (hy : Is W m H y w) (el : dctD st j = some l) (ek : keyOf y = some k) :
    ∃ a kvs, v = .ref a ∧ DGet H a w (valV kvs k) ∧ IsD H a ∧ IsK W m H l kvs := by
  obtain ⟨a, em, ev⟩ := hx
  obtain ⟨kvs, hr, hk⟩ := dct_at O em el
  exact ⟨a, kvs, ev, .inl ⟨kvs, k, hr, key_is hy ek, rfl⟩, .inl ⟨kvs, hr⟩, hk⟩
theorem d_dget (hu : X.A.units + 1 < cLine) (ho : PE X o (lift W E ta)) (hi : PE X i (lift W E tb)) (hs : NoSl i) : PE X (.Subscript o i pos) (lift W E (dOp fDGet ta tb)) :=
  pe_lift (pe_dget hu ho hi hs) fun σ H Q h => op_core (r := fun x y H Q => ∃ a v, x = .ref a ∧ DGet H a y (some v) ∧ Q v H) (fun m H st x y v w P Q O hx hy ⟨j, l, k, d, ex, el, ek, ed, q⟩ kk => by
    subst ex
    obtain ⟨a, kvs, ev, g, _, hk⟩ := dget_of O hx hy el ek
    obtain ⟨u, eu, hu⟩ := (isK_get hk).2 d ed
    rw [eu] at g
    exact ⟨a, u, ev, g, kk d st m H u q (.refl _ _) O hu⟩) h
/-- k in d -/
def fDIn (neg : Bool) : F2 := fun st y x P => ∃ j l k, x = .ref j ∧ dctD st j = some l ∧ keyOf y = some k ∧ P (.bl ((getKD l k).isSome != neg)) st
theorem pc_lift {X : Cx} {op : CmpOp} {a b : Expr} {t u : TE} (h : PC X op a b t) (i : ∀ σ H Q, u σ H Q → t σ H Q) : PC X op a b u := ⟨fun pins s σ H Q I q => h.run pins s σ H Q I (i σ H Q q)⟩
theorem dc_in (hu : X.A.units + 1 < cLine) (hi : PE X i (lift W E tb)) (ho : PE X o (lift W E ta)) : PC X .In i o (lift W E (dOp (fDIn false) tb ta)) :=
  pc_lift (pc_din hu hi ho) fun σ H Q h => op_core (r := fun y x H Q => ∃ a o, x = .ref a ∧ DGet H a y o ∧ Q (.bl o.isSome) H) (fun m H st y x w v P Q O hy hx ⟨j, l, k, ex, el, ek, q⟩ kk => by
    subst ex
    obtain ⟨a, kvs, ev, g, _, hk⟩ := dget_of O hx hy el ek
    refine ⟨a, _, ev, g, kk _ st m H _ q (.refl _ _) O ?_⟩
    show V.bl _ = V.bl _
    rw [isK_get_isSome hk]
    simp) h
theorem dc_notin (hu : X.A.units + 1 < cLine) (hi : PE X i (lift W E tb)) (ho : PE X o (lift W E ta)) : PC X .NotIn i o (lift W E (dOp (fDIn true) tb ta)) :=
  pc_lift (pc_dnotin hu hi ho) fun σ H Q h => op_core (r := fun y x H Q => ∃ a o, x = .ref a ∧ DGet H a y o ∧ Q (.bl (!o.isSome)) H) (fun m H st y x w v P Q O hy hx ⟨j, l, k, ex, el, ek, q⟩ kk => by
    subst ex
    obtain ⟨a, kvs, ev, g, _, hk⟩ := dget_of O hx hy el ek
    refine ⟨a, _, ev, g, kk _ st m H _ q (.refl _ _) O ?_⟩
    show V.bl _ = V.bl _
    rw [isK_get_isSome hk]
    simp) h
/-- d[k] = v -/
def dDPut (td ty tv : TD) : TDS := fun D Ex env st => tv env st (fun d st1 => td env st1 (fun x st2 => ty env st2 (fun y st3 => ∃ j l k, x = .ref j ∧ st3[j]? = some (.dct l) ∧ keyOf y = some k ∧ l.length < sizeLine ∧ D.nx env (st3.set j (.dct (putKD l k d)))) Ex) Ex) Ex
theorem dput_core {m : List Addr} {H : Hp} {st : SD} (O : StOk W m H st) {j : Nat} {l : List (Key × FL.D)} {k : Key} {d : FL.D} {a : Addr} {v : V} (em : m[j]? = some a) (es : st[j]? = some (.dct l)) (hd : Is W m H d v) :
    ∃ kvs, H a = some (.dK kvs) ∧ l.length = kvs.length ∧ Stp m H m (upd H a (.dK (putK kvs k v))) ∧ StOk W m (upd H a (.dK (putK kvs k v))) (st.set j (.dct (putKD l k d))) := by
  obtain ⟨a', e', kvs, h1, h2⟩ := O.at es
  rw [em] at e'
  cases e'
  have hf : ∀ o u, H a ≠ some (.frz o u) := fun o u z => by rw [h1] at z; cases z
  have S : Stp m H m (upd H a (.dK (putK kvs k v))) := Stp.set em hf
  exact ⟨kvs, h1, h2.length, S, O.set (ob := .dct (putKD l k d)) em hf ⟨_, upd_same, IsK.mono S O.mut _ _ (isK_put hd h2)⟩⟩
theorem ds_dput {value : Expr} {pos' : Pos} (hu : X.A.units + 1 < cLine) (ho : PE X o (lift W E ta)) (hi : PE X i (lift W E tb)) (hv : PE X value (lift W E tv)) (hs : swapsWith value (some (.Subscript o i pos')) pos.line X.env = pure false := by rfl) :
    PS X (.Assign [.Subscript o i pos'] value pos) (liftS W E (dDPut ta tb tv)) :=
  ps_lift (ps_dput hu ho hi hv hs) fun D σ H ⟨m, st, env, Dd, Ex, r, q, k1, k2, k3, k4, x⟩ => ⟨m, st, env, _, Ex, r, q, fun d st1 m1 H1 v q1 S1 O1 h1 => ⟨m1, st1, env, _, Ex, r.go S1 O1, q1, fun u st2 m2 H2 w q2 S2 O2 h2 =>
    ⟨m2, st2, env, _, Ex, (r.go S1 O1).go S2 O2, q2, fun y st3 m3 H3 z ⟨j, l, k, ex, el, ek, hl, q3⟩ S3 O3 h3 => by
      subst ex
      obtain ⟨a, em, ev⟩ := Is.mono S3 O2.mut _ _ h2
      obtain ⟨kvs, h4, hlen, S4, O4⟩ := dput_core O3 (k := k) em el (Is.mono (S2.trans S3) O1.mut d v h1)
      have S14 := (S1.trans (S2.trans S3)).trans S4
      refine ⟨a, _, ev, .inl ⟨kvs, k, h4, key_is h3 ek, by omega, rfl⟩, k1 env _ m3 _ σ q3 S14 (((r.go S1 O1).go S2 O2).go S3 O3 |>.go S4 O4)⟩, (x.go S1).go S2⟩, x.go S1⟩, x⟩
/-- d.get(k) -/
def dGet1 (td ty : TD) : TD := fun env st P Ex => td env st (fun x st1 => ∃ j, x = .ref j ∧ (∃ l, dctD st1 j = some l) ∧ ty env st1 (fun y st2 => ∃ l k, dctD st2 j = some l ∧ keyOf y = some k ∧ P ((getKD l k).getD .non) st2) Ex) Ex
theorem d_dget1 {apos cpos : Pos} (hu : X.A.units + 1 < cLine) (ho : PE X o (lift W E ta)) (he : PE X e (lift W E tb)) (M : M1 X o "get" apos e cpos) : PE X (.Call (.Attribute o "get" apos) [e] [] cpos) (lift W E (dGet1 ta tb)) :=
  pe_lift (pe_dget1 hu ho he M) fun σ H Q ⟨m, st, env, P, Ex, r, q, k, x⟩ => ⟨m, st, env, _, Ex, r, q, fun d st1 m1 H1 v ⟨j, ej, ⟨l0, el0⟩, q1⟩ S1 O1 h1 => by
    subst ej
    obtain ⟨a, em, ev⟩ := h1
    obtain ⟨kvs0, hr0, _⟩ := dct_at O1 em el0
    refine ⟨a, ev, .inl ⟨kvs0, hr0⟩, m1, st1, env, _, Ex, r.go S1 O1, q1, fun y st2 m2 H2 w ⟨l, kk, el, ek, q2⟩ S2 O2 h2 => ?_, x.go S1⟩
    obtain ⟨kvs, hr, hk⟩ := dct_at O2 (S2.at em) el
    refine ⟨valV kvs kk, .inl ⟨kvs, kk, hr, key_is h2 ek, rfl⟩, k _ st2 m2 H2 _ q2 (S1.trans S2) O2 ?_⟩
    obtain ⟨g1, g2⟩ := isK_get (k := kk) hk
    cases e : getKD l kk with
    | none => rw [g1 e]; rfl
    | some d =>
      obtain ⟨u, eu, hu⟩ := g2 d e
      rw [eu]
      exact hu, x⟩
end
end FL
/-! FK: methods of lists and texts, arithmetic, built-ins, dict comprehensions on data. -/
namespace FL
open PySem PySem.Spec PyProof.Rows L2

section
variable {X : Cx} {W : Wd} {E : XK} {pos : Pos} {a b c e o i : Expr} {es : List Expr} {ta tb tc tv : TD} {tl : TDL} {apos cpos : Pos}
/-! ### arithmetic -/
def fI2 (C : Int → Int → Prop) (g : Int → Int → Int) : F2 := fun st x y P => ∃ i j, x = .int i ∧ y = .int j ∧ C i j ∧ P (.int (g i j)) st
theorem rl_i2 {C : Int → Int → Prop} {g : Int → Int → Int} : Rl2 W (rI C fun i j => .int (g i j)) (fI2 C g) := fun m H st x y v w P Q O hx hy ⟨i, j, ex, ey, hc, q⟩ k => by
  subst ex ey
  exact ⟨i, j, hx, hy, hc, k _ st m H _ q (.refl _ _) O rfl⟩
abbrev fMulI : F2 := fI2 CMul fun i j => i * j
abbrev fDivI : F2 := fI2 CDiv fun i j => i / j
abbrev fModI : F2 := fI2 (fun _ j => 0 < j) fun i j => i % j
abbrev fPowI : F2 := fI2 CPow fun i j => i ^ j.toNat
/-- list * int -/
def fRep : F2 := fun st x y P => ∃ l k, lstD st x = some l ∧ y = .int k ∧ -(2 ^ 63) ≤ k ∧ k < 2 ^ 63 ∧ l.length * k.toNat ≤ sizeLine ∧ P (.lst (List.replicate k.toNat l).flatten) st
theorem isL_flatten {m : List Addr} {H : Hp} {l : List FL.D} {vs : List V} (h : IsL W m H l vs) : ∀ n, IsL W m H (List.replicate n l).flatten (List.replicate n vs).flatten
  | 0 => rfl
  | n + 1 => by
    rw [List.replicate_succ, List.replicate_succ, List.flatten_cons, List.flatten_cons]
    exact IsL.append h (isL_flatten h n)
theorem rl_rep : Rl2 W rRep fRep := fun m H st x y v w P Q O hx hy ⟨l, n, ex, ey, h1, h2, hz, q⟩ k => by
  subst ey
  obtain ⟨a, vs, ev, hq, hi⟩ := lst_is O hx ex
  refine ⟨a, n, vs, ev, hy, hq, h1, h2, by rw [← hi.length]; exact hz, fun p hp => ?_⟩
  obtain ⟨n1, n2, n3⟩ := lst_new O hp (isL_flatten hi n.toNat)
  exact k _ st m _ _ q n1 n2 n3
/-- tuple * int -/
def fRepT : F2 := fun st x y P => ∃ l k, x = .tup l ∧ y = .int k ∧ l ≠ [] ∧ 2 ≤ k ∧ k ≤ 1000 ∧ l.length ≤ 1000 ∧ P (.tup (List.replicate k.toNat l).flatten) st
theorem rl_repT {K : PySem.W.Frag} (hK : K = W.K) : Rl2 W (rRepT K) fRepT := fun m H st x y v w P Q O hx hy ⟨l, n, ex, ey, h0, h1, h2, hz, q⟩ k => by
  subst ex ey hK
  obtain ⟨a, vs, ev, hq, hi⟩ := hx
  refine ⟨a, n, vs, ev, hy, hq, fun z => h0 ?_, h1, h2, by rw [← hi.length]; exact hz, fun p hp => ?_⟩
  · have := hi.length
    rw [z] at this
    exact List.eq_nil_of_length_eq_zero this
  · obtain ⟨n1, n2, n3⟩ := tup_new O hp (isL_flatten hi n.toNat)
    exact k _ st m _ _ q n1 n2 n3
/-! ### built-ins of ints -/
def fAbs : FN := fun st xs P => ∃ i, xs = [.int i] ∧ P (.int (if i < 0 then -i else i)) st
theorem rl_abs : RlN W (fun xs H Q => ∃ i, xs = [V.int i] ∧ Q (.int (if i < 0 then -i else i)) H) fAbs := fun m H st xs vs P Q O hx ⟨i, ex, q⟩ k => by
  subst ex
  obtain ⟨v, ev, hv⟩ := isL1 hx
  have hv : v = .int i := hv
  subst hv
  exact ⟨i, ev, k _ st m H _ q (.refl _ _) O rfl⟩
def fMax : FN := fun st xs P => ∃ i j, xs = [.int i, .int j] ∧ P (.int (if j > i then j else i)) st
theorem rl_max : RlN W (fun xs H Q => ∃ i j, xs = [V.int i, V.int j] ∧ Q (.int (if j > i then j else i)) H) fMax := fun m H st xs vs P Q O hx ⟨i, j, ex, q⟩ k => by
  subst ex
  obtain ⟨v, w, ev, hv, hw⟩ := isL2 hx
  have hv : v = .int i := hv
  have hw : w = .int j := hw
  subst hv hw
  exact ⟨i, j, ev, k _ st m H _ q (.refl _ _) O rfl⟩
def fInt : FN := fun st xs P => (∃ i, xs = [.int i] ∧ P (.int i) st) ∨ ∃ b, xs = [.bl b] ∧ P (.int (if b then 1 else 0)) st
theorem rl_int : RlN W (fun xs H Q => (∃ i, xs = [V.int i] ∧ Q (.int i) H) ∨ ∃ k, xs = [V.bl k] ∧ Q (.int (if k then 1 else 0)) H) fInt := fun m H st xs vs P Q O hx h k => by
  rcases h with ⟨i, ex, q⟩ | ⟨b, ex, q⟩
  · subst ex
    obtain ⟨v, ev, hv⟩ := isL1 hx
    have hv : v = .int i := hv
    subst hv
    exact .inl ⟨i, ev, k _ st m H _ q (.refl _ _) O rfl⟩
  · subst ex
    obtain ⟨v, ev, hv⟩ := isL1 hx
    have hv : v = .bl b := hv
    subst hv
    exact .inr ⟨b, ev, k _ st m H _ q (.refl _ _) O rfl⟩
def fStrI : FN := fun st xs P => ∃ i, xs = [.int i] ∧ i.natAbs.log2 < 1920 ∧ P (.str (toString i)) st
theorem rl_strI : RlN W (fun xs H Q => ∃ i : Int, xs = [V.int i] ∧ i.natAbs.log2 < 1920 ∧ Q (.str (toString i)) H) fStrI := fun m H st xs vs P Q O hx ⟨i, ex, hz, q⟩ k => by
  subst ex
  obtain ⟨v, ev, hv⟩ := isL1 hx
  have hv : v = .int i := hv
  subst hv
  exact ⟨i, ev, hz, k _ st m H _ q (.refl _ _) O rfl⟩
/-! ### methods of lists -/
theorem ty_lst {K : PySem.W.Frag} {H : Hp} {a : Addr} {vs : List V} (h : H a = some (.lst vs)) : tyV K "list" (.ref a) H := .inl ⟨rfl, vs, .inl (.inl h)⟩
def dAppend (to te : TD) : TD := fun env st P Ex => to env st (fun x st1 => ∃ j l, x = .ref j ∧ st1[j]? = some (.lst l) ∧ te env st1 (fun d st2 => ∃ l, st2[j]? = some (.lst l) ∧ l.length < sizeLine ∧ P .non (st2.set j (.lst (l ++ [d])))) Ex) Ex
theorem lset {m : List Addr} {H : Hp} {st : SD} (O : StOk W m H st) {j : Nat} {a : Addr} {vs us : List V} {ys : List FL.D} (em : m[j]? = some a) (hq : H a = some (.lst vs)) (hi : IsL W m H ys us) :
    Stp m H m (upd H a (.lst us)) ∧ StOk W m (upd H a (.lst us)) (st.set j (.lst ys)) := by
  have hf : ∀ o u, H a ≠ some (.frz o u) := fun o u z => by rw [hq] at z; cases z
  have S : Stp m H m (upd H a (.lst us)) := Stp.set em hf
  exact ⟨S, O.set (ob := .lst ys) em hf ⟨_, upd_same, IsL.mono S O.mut _ _ hi⟩⟩
theorem d_append (ho : PE X o (lift W E ta)) (he : PE X e (lift W E tb)) (hs : starEach [e] X.env = (false, eval e X.env) :: starEach [] X.env := by rfl) (hbase : attributeBase o "append" X.env (eval o X.env) = eval o X.env := by rfl)
    (hfew : ((backTo cpos (starEach [e] X.env)).all (fun x => !x.1) && (backToKw cpos (keywordEach [] X.env)).all (fun x => x.1.isSome)
      && decide (([e] : List Expr).length + ([] : List Keyword).length + (if ([] : List Keyword).isEmpty then 0 else 1) < 30)) = true := by rfl)
    (hline : (apos.endLine == cpos.line) = true := by rfl) (hplain : (backTo cpos (starEach [] X.env)).any (·.1) = false := by rfl) :
    PE X (.Call (.Attribute o "append" apos) [e] [] cpos) (lift W E (dAppend ta tb)) :=
  pe_lift (pe_bm F.plainAttrs_list F.slot_list_append F.type_list_append mt_append ho (pa_cons he pa_nil hs) hbase hfew hline hs hplain) fun σ H Q ⟨m, st, env, P, Ex, r, q, k, x⟩ => ⟨m, st, env, _, Ex, r, q, fun d st1 m1 H1 v ⟨j, l, ed, el, q1⟩ S1 O1 h1 => by
    subst ed
    obtain ⟨a, em, ev⟩ := h1
    obtain ⟨vs, hq, _⟩ := lst_at O1 em el
    subst ev
    refine ⟨ty_lst hq, m1, st1, env, _, Ex, r.go S1 O1, q1, fun d st2 m2 H2 w q2 S2 O2 hw => ?_, x.go S1⟩
    obtain ⟨l2, el2, hl, q2⟩ := q2
    obtain ⟨ws, hq2, hi⟩ := lst_at O2 (S2.at em) el2
    obtain ⟨n1, n2⟩ := lset O2 (S2.at em) hq2 (IsL.append hi (IsL.single hw))
    refine ⟨a, ws, w, rfl, rfl, hq2, by rw [← hi.length]; exact hl, k _ _ m2 _ _ q2 ((S1.trans S2).trans n1) n2 rfl⟩, x⟩
def dPop (to : TD) : TD := fun env st P Ex => to env st (fun x st1 => ∃ j l d, x = .ref j ∧ st1[j]? = some (.lst l) ∧ l[l.length - 1]? = some d ∧ P d (st1.set j (.lst l.dropLast))) Ex
theorem isL_dropLast {m : List Addr} {H : Hp} {l : List FL.D} {vs : List V} (h : IsL W m H l vs) : IsL W m H l.dropLast vs.dropLast := by
  rw [List.dropLast_eq_take, List.dropLast_eq_take, h.length]
  exact h.take _
theorem d_pop (ho : PE X o (lift W E ta)) (hbase : attributeBase o "pop" X.env (eval o X.env) = eval o X.env := by rfl) (hline : (apos.endLine == cpos.line) = true := by rfl) :
    PE X (.Call (.Attribute o "pop" apos) [] [] cpos) (lift W E (dPop ta)) :=
  pe_lift (pe_bm0 F.plainAttrs_list F.slot_list_pop F.type_list_pop mt_pop ho hbase hline) fun σ H Q ⟨m, st, env, P, Ex, r, q, k, x⟩ => ⟨m, st, env, _, Ex, r, q, fun d st1 m1 H1 v ⟨j, l, d0, ed, el, e0, q1⟩ S1 O1 h1 => by
    subst ed
    obtain ⟨a, em, ev⟩ := h1
    obtain ⟨vs, hq, hi⟩ := lst_at O1 em el
    subst ev
    obtain ⟨w, ew, hw⟩ := hi.get e0
    obtain ⟨n1, n2⟩ := lset O1 em hq (isL_dropLast hi)
    exact ⟨ty_lst hq, a, vs, w, rfl, rfl, hq, by rw [← hi.length]; exact ew, k _ _ m1 _ _ q1 (S1.trans n1) n2 (Is.mono n1 O1.mut _ _ hw)⟩, x⟩
/-- list.index -/
def dIndex (to te : TD) : TD := fun env st P Ex => to env st (fun x st1 => (∃ l, lstD st1 x = some l) ∧ te env st1 (fun d st2 => ∃ l j, lstD st2 x = some l ∧ atomD d = true ∧ l.all atomD = true ∧ l[j]? = some d ∧ (∀ n, n < j → l[n]? ≠ some d) ∧ P (.int (j : Nat)) st2) Ex) Ex
theorem atom_all {m : List Addr} {H : Hp} : ∀ {l : List FL.D} {vs : List V}, IsL W m H l vs → l.all atomD = true → vs.all flatV = true
  | [], _, h, _ => by
    have h : _ = [] := h
    subst h
    rfl
  | d :: l, _, ⟨w, r, e, h0, ht⟩, ha => by
    subst e
    simp only [List.all_cons, Bool.and_eq_true] at ha ⊢
    exact ⟨atom_is h0 ha.1, atom_all ht ha.2⟩
theorem index_core {m : List Addr} {H : Hp} {l : List FL.D} {vs : List V} {d : FL.D} {v : V} {j : Nat} (hi : IsL W m H l vs) (hd : Is W m H d v) (h1 : atomD d = true) (h2 : l.all atomD = true) (h3 : l[j]? = some d) (h4 : ∀ n, n < j → l[n]? ≠ some d) :
    ∃ z, vs[j]? = some z ∧ eqV z v = true ∧ ∀ (n : Nat) (z' : V), n < j → vs[n]? = some z' → eqV z' v = false := by
  obtain ⟨z, ez, hz⟩ := hi.get h3
  have at' : ∀ {n : Nat} {d' : FL.D}, l[n]? = some d' → atomD d' = true := fun e => List.all_eq_true.mp h2 _ (List.mem_of_getElem? e)
  refine ⟨z, ez, (atom_eq hz hd h1 h1).mpr rfl, fun n z' hn ez' => ?_⟩
  obtain ⟨d', ed', hd'⟩ := hi.get' ez'
  cases q : eqV z' v with
  | false => rfl
  | true =>
    have := (atom_eq hd' hd (at' ed') h1).mp q
    subst this
    exact absurd ed' (h4 n hn)
theorem d_index (hK : X.K = W.K) (ho : PE X o (lift W E ta)) (he : PE X e (lift W E tb)) (hs : starEach [e] X.env = (false, eval e X.env) :: starEach [] X.env := by rfl) (hbase : attributeBase o "index" X.env (eval o X.env) = eval o X.env := by rfl)
    (hfew : ((backTo cpos (starEach [e] X.env)).all (fun x => !x.1) && (backToKw cpos (keywordEach [] X.env)).all (fun x => x.1.isSome)
      && decide (([e] : List Expr).length + ([] : List Keyword).length + (if ([] : List Keyword).isEmpty then 0 else 1) < 30)) = true := by rfl)
    (hline : (apos.endLine == cpos.line) = true := by rfl) (hplain : (backTo cpos (starEach [] X.env)).any (·.1) = false := by rfl) :
    PE X (.Call (.Attribute o "index" apos) [e] [] cpos) (lift W E (dIndex ta tb)) :=
  pe_lift (pe_bm F.plainAttrs_list F.slot_list_index F.type_list_index mt_index ho (pa_cons he pa_nil hs) hbase hfew hline hs hplain) fun σ H Q ⟨m, st, env, P, Ex, r, q, k, x⟩ => ⟨m, st, env, _, Ex, r, q, fun d st1 m1 H1 v ⟨⟨l, el⟩, q1⟩ S1 O1 h1 => by
    obtain ⟨a, vs, ev, hq, hi⟩ := lst_is O1 h1 el
    refine ⟨by rw [ev]; exact ty_lst hq, m1, st1, env, _, Ex, r.go S1 O1, q1, fun d2 st2 m2 H2 w ⟨l2, j, el2, g1, g2, g3, g4, q2⟩ S2 O2 hw => ?_, x.go S1⟩
    obtain ⟨a2, vs2, ev2, hq2, hi2⟩ := lst_is O2 (Is.mono S2 O1.mut d v h1) el2
    obtain ⟨z, z1, z2, z3⟩ := index_core hi2 hw g1 g2 g3 g4
    exact ⟨a2, vs2, w, j, z, ev2, rfl, .inl (.inl hq2), atom_is hw g1, atom_all hi2 g2, z1, z2, z3, k _ st2 m2 H2 _ q2 (S1.trans S2) O2 rfl⟩, x⟩
/-! ### methods of texts -/
def strsD (ys : List Str) : List FL.D := ys.map .str
theorem isL_strs {m : List Addr} {H : Hp} : ∀ ys : List Str, IsL W m H (strsD ys) (ys.map V.str)
  | [] => rfl
  | y :: ys => ⟨.str y, _, rfl, rfl, isL_strs ys⟩
theorem isL_strs' {m : List Addr} {H : Hp} : ∀ {ys : List Str} {vs : List V}, IsL W m H (strsD ys) vs → vs = ys.map V.str
  | [], _, h => h
  | y :: ys, _, ⟨v, r, e, h0, ht⟩ => by
    have h0 : v = .str y := h0
    subst e h0
    rw [isL_strs' ht]
    rfl
def dSplit (to te : TD) : TD := fun env st P Ex => to env st (fun x st1 => ∃ a, x = .str a ∧ te env st1 (fun y st2 => ∃ b, y = .str b ∧ (b.length == 0) = false ∧ a.length + 2 ≤ sizeLine ∧ P (.lst (strsD (Txt.split a b))) st2) Ex) Ex
theorem d_split (ho : PE X o (lift W E ta)) (he : PE X e (lift W E tb)) (hs : starEach [e] X.env = [(false, eval e X.env)] := by rfl) (hbase : attributeBase o "split" X.env (eval o X.env) = eval o X.env := by rfl) (hline : (apos.endLine == pos.line) = true := by rfl) :
    PE X (.Call (.Attribute o "split" apos) [e] [] pos) (lift W E (dSplit ta tb)) :=
  pe_lift (pe_split ho he hs hbase hline) fun σ H Q ⟨m, st, env, P, Ex, r, q, k, x⟩ => ⟨m, st, env, _, Ex, r, q, fun d st1 m1 H1 v ⟨a, ed, q1⟩ S1 O1 h1 => by
    subst ed
    have h1 : v = .str a := h1
    subst h1
    refine ⟨⟨a, rfl⟩, m1, st1, env, _, Ex, r.go S1 O1, q1, fun d2 st2 m2 H2 w ⟨b, eb, hb, hz, q2⟩ S2 O2 h2 => ?_, x.go S1⟩
    subst eb
    have h2 : w = .str b := h2
    subst h2
    refine ⟨a, b, rfl, rfl, hb, hz, fun p hp => ?_⟩
    obtain ⟨n1, n2, n3⟩ := lst_new O2 hp (isL_strs (W := W) (Txt.split a b))
    exact k _ st2 m2 _ _ q2 ((S1.trans S2).trans n1) n2 n3, x⟩
def dJoin (to te : TD) : TD := fun env st P Ex => to env st (fun x st1 => ∃ a, x = .str a ∧ te env st1 (fun y st2 => ∃ ys, seqD st2 y = some (strsD ys) ∧ (ys.map (·.length)).sum + ys.length * a.length ≤ 16777216 ∧ P (.str (Txt.join a ys)) st2) Ex) Ex
theorem d_join (hK : X.K = W.K) (ho : PE X o (lift W E ta)) (he : PE X e (lift W E tb)) (hs : starEach [e] X.env = [(false, eval e X.env)] := by rfl) (hbase : attributeBase o "join" X.env (eval o X.env) = eval o X.env := by rfl) (hline : (apos.endLine == pos.line) = true := by rfl) :
    PE X (.Call (.Attribute o "join" apos) [e] [] pos) (lift W E (dJoin ta tb)) :=
  pe_lift (pe_join ho he hs hbase hline) fun σ H Q ⟨m, st, env, P, Ex, r, q, k, x⟩ => ⟨m, st, env, _, Ex, r, q, fun d st1 m1 H1 v ⟨a, ed, q1⟩ S1 O1 h1 => by
    subst ed
    have h1 : v = .str a := h1
    subst h1
    refine ⟨⟨a, rfl⟩, m1, st1, env, _, Ex, r.go S1 O1, q1, fun d2 st2 m2 H2 w ⟨ys, es, hz, q2⟩ S2 O2 h2 => ?_, x.go S1⟩
    obtain ⟨p, vs, ew, hq, hi⟩ := seq_is O2 h2 es
    have hi := isL_strs' hi
    subst hi ew
    rw [hK]
    exact ⟨a, p, ys, rfl, rfl, hq, hz, k _ st2 m2 H2 _ q2 (S1.trans S2) O2 rfl⟩, x⟩
/-! ### f'..' -/
def dFmt (te : TD) : TD := fun env st P Ex => te env st (fun x st1 => (∃ y, x = .str y ∧ y.length ≤ sizeLine ∧ P (.str y) st1) ∨ ∃ i : Int, x = .int i ∧ i.natAbs.log2 < 1920 ∧ P (.str (toString i)) st1) Ex
theorem d_fmt (he : PE X e (lift W E ta)) : PE X (.FormattedValue e (-1) none pos) (lift W E (dFmt ta)) :=
  pe_lift (pe_fmt he) fun σ H Q ⟨m, st, env, P, Ex, r, q, k, x⟩ => ⟨m, st, env, _, Ex, r, q, fun d st1 m1 H1 v q1 S1 O1 h1 => by
    rcases q1 with ⟨y, ed, hz, q1⟩ | ⟨i, ed, hz, q1⟩
    · subst ed
      exact .inl ⟨y, h1, hz, k _ st1 m1 H1 _ q1 S1 O1 rfl⟩
    · subst ed
      exact .inr ⟨i, h1, hz, k _ st1 m1 H1 _ q1 S1 O1 rfl⟩, x⟩
def dJs : List TD → Str → DV → SD → (Str → SD → Prop) → DX → Prop
  | [], acc, _, st, P, _ => P acc st
  | t :: ts, acc, env, st, P, Ex => t env st (fun x st1 => ∃ y, x = .str y ∧ (acc ++ y).length ≤ sizeLine ∧ dJs ts (acc ++ y) env st1 P Ex) Ex
inductive PJD (X : Cx) (W : Wd) (E : XK) : List Expr → List TD → Prop where
  | nil : PJD X W E [] []
  | cons {e : Expr} {t : TD} {es : List Expr} {ts : List TD} (h : PE X e (lift W E t)) (r : PJD X W E es ts) : PJD X W E (e :: es) (t :: ts)
theorem PJD.pj {es : List Expr} {ts : List TD} (h : PJD X W E es ts) : PJ X es (ts.map (lift W E)) := by
  induction h with
  | nil => exact .nil
  | cons h _ ih => exact .cons h ih
theorem js_core : ∀ {ts : List TD} {acc : Str} {m : List Addr} {H : Hp} {st : SD} {env : DV} {σ : L2.St} {P : Str → SD → Prop} {Q : Str → Hp → Prop} {Ex : DX}, Sim W m H st env σ → dJs ts acc env st P Ex → (∀ x st' m' H', P x st' → Stp m H m' H' → StOk W m' H' st' → Q x H') → Exn W m H Ex E → tJs (ts.map (lift W E)) acc σ H Q
  | [], acc, m, H, st, env, σ, P, Q, Ex, r, q, k, x => k acc st m H q (.refl _ _) r.ok
  | t :: ts, acc, m, H, st, env, σ, P, Q, Ex, r, q, k, x => ⟨m, st, env, _, Ex, r, q, fun d st1 m1 H1 v ⟨y, ed, hz, q1⟩ S1 O1 h1 => by
    subst ed
    exact ⟨y, h1, hz, js_core (r.go S1 O1) q1 (fun x st' m' H' p S => k x st' m' H' p (S1.trans S)) (x.go S1)⟩, x⟩
def dJoined (ts : List TD) : TD := fun env st P Ex => dJs ts Str.empty env st (fun x st1 => P (.str x) st1) Ex
theorem d_joined {v1 v2 : Expr} {rest : List Expr} {ts : List TD} (h : PJD X W E (v1 :: v2 :: rest) ts) : PE X (.JoinedStr (v1 :: v2 :: rest) pos) (lift W E (dJoined ts)) :=
  pe_lift (pe_joined h.pj) fun σ H Q ⟨m, st, env, P, Ex, r, q, k, x⟩ => js_core r q (fun y st' m' H' p S O => k _ st' m' H' _ p S O rfl) x
/-! ### sorted(d), dict(..), list(d.items()) -/
def fSortD : FN := fun st xs P => ∃ j l ks, xs = [.ref j] ∧ dctD st j = some l ∧ l.map (·.1) = ks.map Sum.inr ∧ ks.length < 64 ∧ ∀ ys : List Str, ys.Perm ks → sortedS ys = true → P (.lst (strsD ys)) st
theorem isK_keys {m : List Addr} {H : Hp} : ∀ {l : List (Key × FL.D)} {kvs : List (Key × V)}, IsK W m H l kvs → kvs.map (·.1) = l.map (·.1)
  | [], _, h => by
    have h : _ = [] := h
    subst h
    rfl
  | (k, d) :: l, _, ⟨v, r, e, h0, ht⟩ => by
    subst e
    simp only [List.map_cons, isK_keys ht]
theorem rl_sortD : RlN W (fun xs H Q => ∃ (a : Addr) (kvs : List (Key × V)) (ks : List Str), xs = [.ref a] ∧ Rd H a (.dK kvs) ∧ kvs.map (·.1) = ks.map Sum.inr ∧ ks.length < 64 ∧
    ∀ ys p, ys.Perm ks → sortedS ys = true → H p = none → Q (.ref p) (upd H p (.lst (ys.map V.str)))) fSortD := fun m H st xs vs P Q O hx ⟨j, l, ks, ex, el, hk, hz, q⟩ k => by
  subst ex
  obtain ⟨v, ev, a, em, ea⟩ := isL1 hx
  subst ev ea
  obtain ⟨kvs, hr, hi⟩ := dct_at O em el
  refine ⟨a, kvs, ks, rfl, hr, (isK_keys hi).trans hk, hz, fun ys p h1 h2 hp => ?_⟩
  obtain ⟨n1, n2, n3⟩ := lst_new O hp (isL_strs (W := W) ys)
  exact k _ st m _ _ (q ys h1 h2) n1 n2 n3
/-- dict(list of pairs) -/
def pairK : FL.D → Option (Key × FL.D)
  | .tup [k, d] => (keyOf k).map fun k => (k, d)
  | _ => none
def mergeKD (l more : List (Key × FL.D)) : List (Key × FL.D) := more.foldl (fun acc p => putKD acc p.1 p.2) l
theorem isK_merge {m : List Addr} {H : Hp} : ∀ {more : List (Key × FL.D)} {rs : List (Key × V)} {l : List (Key × FL.D)} {kvs : List (Key × V)}, IsK W m H more rs → IsK W m H l kvs → IsK W m H (mergeKD l more) (mergeK kvs rs)
  | [], _, _, _, h, h' => by
    have h : _ = [] := h
    subst h
    exact h'
  | (k, d) :: more, _, _, _, ⟨v, r, e, h0, ht⟩, h' => by
    subst e
    exact isK_merge (rs := r) (l := putKD _ k d) (kvs := putK _ k v) ht (isK_put h0 h')
def fDict : FN := fun st xs P => ∃ x l ps, xs = [x] ∧ lstD st x = some l ∧ l.map pairK = ps.map some ∧ P (.ref st.length) (st ++ [.dct (mergeKD [] ps)])
theorem pairs_is {m : List Addr} {H : Hp} : ∀ {l : List FL.D} {vs : List V} {ps : List (Key × FL.D)}, IsL W m H l vs → l.map pairK = ps.map some → ∃ (as : List Addr) (kvs : List (Key × V)), vs = as.map V.ref ∧ Paired (fun p (kv : Key × V) => SqT W.K H p [kV kv.1, kv.2]) as kvs ∧ IsK W m H ps kvs
  | [], _, ps, h, e => by
    have h : _ = [] := h
    subst h
    have : ps = [] := by
      cases ps with
      | nil => rfl
      | cons a b => simp at e
    subst this
    exact ⟨[], [], rfl, .nil, rfl⟩
  | d :: l, _, [], _, e => by simp at e
  | d :: l, _, p :: ps, ⟨v, r, ev, h0, ht⟩, e => by
    subst ev
    simp only [List.map_cons, List.cons.injEq] at e
    obtain ⟨as, kvs, e1, e2, e3⟩ := pairs_is ht e.2
    have e0 := e.1
    unfold pairK at e0
    split at e0
    · rename_i kd dd
      obtain ⟨a, ws, ea, hq, hi⟩ := h0
      obtain ⟨u, w, ew, hu, hw⟩ := isL2 hi
      subst ew ea
      cases ek : keyOf kd with
      | none => rw [ek] at e0; cases e0
      | some key =>
        rw [ek] at e0
        cases e0
        have := key_is hu ek
        subst this
        exact ⟨a :: as, (key, w) :: kvs, by rw [e1]; rfl, .cons hq e2, w, kvs, rfl, hw, e3⟩
    · cases e0
theorem rl_dict {K : PySem.W.Frag} (hK : K = W.K) : RlN W (fun xs H Q => ∃ (a : Addr) (ps : List Addr) (kvs : List (Key × V)), xs = [.ref a] ∧ SqL K H a (ps.map V.ref) ∧ Paired (fun p kv => SqT K H p [kV kv.1, kv.2]) ps kvs ∧
    ∀ p, H p = none → Q (.ref p) (upd H p (.dK (mergeK [] kvs)))) fDict := fun m H st xs vs P Q O hx ⟨x, l, ps, ex, el, ep, q⟩ k => by
  subst ex hK
  obtain ⟨v, ev, hv⟩ := isL1 hx
  obtain ⟨a, ws, ea, hq, hi⟩ := lst_is O hv el
  obtain ⟨as, kvs, e1, e2, e3⟩ := pairs_is hi ep
  subst ev ea e1
  refine ⟨a, as, kvs, rfl, .inl (.inl hq), e2, fun p hp => ?_⟩
  obtain ⟨n1, n2, n3⟩ := obj_new O (ob := .dct (mergeKD [] ps)) (ho := .dK (mergeK [] kvs)) hp fun H' m' S e => ⟨_, e, IsK.mono S O.mut _ _ (isK_merge e3 rfl)⟩
  exact k _ _ _ _ _ q n1 n2 n3
end
end FL
/-! FM: tuples whose object is known; what stands turned round. -/
namespace FL
open PySem PySem.Spec PyProof.Rows L2

/-! ### x[::-1] -/
theorem bounds_rev (n : Nat) : sliceBounds none none (some (-1)) n = ((n : Int) - 1, -1, -1) := by
  unfold sliceBounds
  simp
theorem range_rev (n : Nat) : PySem.sliceRange ((n : Int) - 1) (-1) (-1) = (List.range n).map fun k => n - 1 - k := by
  unfold PySem.sliceRange
  have h0 : ¬ ((-1 : Int) > 0) := by omega
  rw [if_neg h0]
  have hc : (if (n : Int) - 1 > -1 then ((n : Int) - 1 - -1 - -1 - 1) / (- -1) else 0).toNat = n := by
    split
    · have : ((n : Int) - 1 - -1 - -1 - 1) / (- -1) = n := by
        rw [show (- -1 : Int) = 1 by decide, Int.ediv_one]
        omega
      rw [this]
      omega
    · omega
  show List.map _ (List.range (if (n : Int) - 1 > -1 then ((n : Int) - 1 - -1 - -1 - 1) / (- -1) else 0).toNat) = _
  rw [hc]
  refine List.map_congr_left fun k _ => ?_
  omega
theorem filterMap_some {α β : Type} (f : α → Option β) (g : α → β) : ∀ l : List α, (∀ k ∈ l, f k = some (g k)) → l.filterMap f = l.map g
  | [], _ => rfl
  | a :: l, h => by
    rw [List.filterMap_cons, h a List.mem_cons_self, List.map_cons, filterMap_some f g l fun k hk => h k (List.mem_cons_of_mem _ hk)]
theorem pick_rev_list (xs : List Value) : ((List.range xs.length).map fun k => xs.length - 1 - k).filterMap (fun k => xs[k]?) = xs.reverse := by
  rw [List.filterMap_map, filterMap_some _ (fun k => xs.getD (xs.length - 1 - k) .none) _ fun k hk => ?_]
  · apply List.ext_getElem?
    intro i
    rw [List.getElem?_map]
    by_cases hi : i < xs.length
    · rw [List.getElem?_range hi, List.getElem?_reverse hi, Option.map_some, List.getD_eq_getElem?_getD, List.getElem?_eq_getElem (by omega), Option.getD_some]
    · rw [List.getElem?_eq_none (by simpa using hi), List.getElem?_eq_none (by simpa using hi)]
      rfl
  · have hk := List.mem_range.mp hk
    show xs[xs.length - 1 - k]? = some _
    rw [List.getD_eq_getElem?_getD, List.getElem?_eq_getElem (by omega), Option.getD_some]
theorem pick_rev (xs : List Value) : slicePick xs.toArray none none (some (-1)) = xs.reverse.toArray := by
  unfold slicePick
  rw [bounds_rev, range_rev]
  congr 1
  have := pick_rev_list xs
  simpa using this
section
variable {prog : Program} {w : World} {A : Around} {E : Value → Shared → Prop} {s : Shared}
theorem places_rev (n : Nat) : Builtin.Slice.slicePlaces ((n : Int) - 1) (-1) (-1) = n := by
  unfold Builtin.Slice.slicePlaces
  have h0 : ¬ ((-1 : Int) > 0) := by omega
  rw [if_neg h0]
  split
  · rw [show (- -1 : Int) = 1 by decide, Int.ediv_one]
    omega
  · omega
theorem applied_rev {sl : Addr} {tk : Tok} {n : Nat} {Q : Int × Int × Nat → Shared → Prop} (hs : s.heap.IsSliceOf sl .none .none (.int (-1) tk)) (h : Q ((n : Int) - 1, -1, n) s) :
    wpAny (model prog w) A (Builtin.Slice.sliceApplied (.ref sl) (pure (n : Int))) Q E s := by
  obtain ⟨os, hos, hcs, hds⟩ := id hs
  unfold Builtin.Slice.sliceApplied Builtin.Slice.sliceFields
  refine wpAny_bind (wpAny_bind (wpAny_field hos hds (x := Value.none) rfl (wpAny_bind (wpAny_field hos hds (x := Value.none) rfl (wpAny_bind (wpAny_field hos hds (x := .int (-1) tk) rfl (wpAny_pure ?_)))))))
  refine wpAny_bind (HT.slicePart_ (.int (-1) tk) ?_)
  show wpAny _ _ (if ((-1 : Int) == 0) = true then _ else _) _ _ s
  rw [if_neg (by decide)]
  refine wpAny_bind (HT.slicePart_ .none (wpAny_bind (HT.slicePart_ .none (wpAny_bind (wpAny_pure ?_)))))
  show wpAny _ _ (pure ((n : Int) - 1, (-1 : Int), Builtin.Slice.slicePlaces ((n : Int) - 1) (-1) (-1))) _ _ s
  rw [places_rev]
  exact wpAny_pure h
theorem tuple_turned {t sl : Addr} {its : List Value} {tk : Tok} {Q : Value → Shared → Prop} (ht : IsTup s.heap t its.toArray) (hs : s.heap.IsSliceOf sl .none .none (.int (-1) tk))
    (h : Q (.ref s.heap.objs.size) { s with heap := s.heap.push { cls := .type "tuple", data := .seq its.reverse.toArray } }) (hsz : its.length ≤ sizeLine) : wpAny (model prog w) A (getItem (.ref t) (.ref sl)) Q E s := by
  obtain ⟨os, hos, hcs, hds⟩ := id hs
  have isS : s.TypeIs (.ref sl) "slice" := ⟨os, hos, hcs⟩
  have hsz' : sizeOk (.seq its.reverse.toArray) := by
    show its.reverse.toArray.size ≤ sizeLine
    rw [List.size_toArray, List.length_reverse]
    exact hsz
  unfold getItem
  try with_reducible refine wpAny_holding ?_
  first | refine wpAny_bind (wpAny_pure ?_) | skip
  refine wpAny_bind (wpAny_sequenceKey ht.typeIs (by decide) ?_)
  refine wpAny_bind (wpAny_callSpecial?_slot (name := Str.ofString "__getitem__") ht.typeIs PyProof.Rows.slot_tuple_getitem
    (wpAny_call_entry PyProof.Rows.slot_tuple_getitem ht.typeIs entry_tuple_getitem ?_ (args_tuple_getitem _ _)))
  show wpAny _ _ (Builtin.Tuple.tupleItemsOf (.ref t) >>= _) _ _ s
  refine wpAny_bind (tupleItemsOf_ ht ?_)
  refine wpAny_bind (wpAny_typeOf isS ?_)
  rw [if_pos (by decide)]
  refine wpAny_bind (applied_rev (n := its.toArray.size) hs ?_)
  have hno : ¬ ((((its.toArray.size : Int) - 1) == 0 && (-1 : Int) == 1 && its.toArray.size == its.toArray.size) = true) := by
    intro q
    rw [Bool.and_eq_true, Bool.and_eq_true] at q
    exact absurd q.1.2 (by decide)
  show wpAny _ _ (if (((its.toArray.size : Int) - 1) == 0 && (-1 : Int) == 1 && its.toArray.size == its.toArray.size) = true then _ else _) _ _ s
  rw [if_neg hno]
  have hpick : ((List.range its.toArray.size).filterMap fun (m : Nat) => its.toArray[(((its.toArray.size : Int) - 1) + (m : Int) * (-1)).toNat]?).toArray = its.reverse.toArray := by
    congr 1
    rw [← pick_rev_list its, List.filterMap_map, List.size_toArray]
    congr 1
    funext m
    have : ((((its.length : Nat) : Int) - 1) + (m : Int) * (-1)).toNat = its.length - 1 - m := by omega
    show its.toArray[((((its.length : Nat) : Int) - 1) + (m : Int) * (-1)).toNat]? = its[its.length - 1 - m]?
    rw [this]
    simp
  rw [hpick]
  first
    | exact wpAny_bind (m := Builtin.Tuple.tupleExact _) (wpAny_newObj_type (wpAny_pure ⟨_, rfl, wpAny_pure h⟩) hsz')
    | exact wpAny_bind (m := Builtin.Tuple.tupleExact _) (wpAny_newObj_type (wpAny_bind (wpAny_pure (wpAny_pure ⟨_, rfl, wpAny_pure h⟩))) hsz')
    | exact wpAny_bind (wpAny_bind (m := Builtin.Tuple.tupleExact _) (wpAny_newObj_type (wpAny_pure (wpAny_pure ⟨_, rfl, wpAny_pure h⟩)) hsz'))
    | exact wpAny_bind (wpAny_bind (m := Builtin.Tuple.tupleExact _) (wpAny_newObj_type (wpAny_pure ⟨_, rfl, wpAny_pure h⟩) hsz'))
end
/-- x[::-1] -/
def tRev (K : PySem.W.Frag) (te ts : TE) : TE := fun σ H Q => te σ H fun x H1 => ts σ H1 fun y H2 => y = .int (-1) ∧ ((∃ a xs, x = .ref a ∧ SqL K H2 a xs ∧ ∀ p, H2 p = none → Q (.ref p) (upd H2 p (.lst xs.reverse))) ∨ ∃ a xs, x = .ref a ∧ SqT K H2 a xs ∧ ∀ p, H2 p = none → Q (.ref p) (upd H2 p (.tup xs.reverse)))
theorem vals_rev' : ∀ {xs : List V} {us : List Value}, Vals xs us → Vals xs.reverse us.reverse
  | _, _, .nil => .nil
  | _, _, .cons r rs => by
    rw [List.reverse_cons, List.reverse_cons]
    exact (vals_rev' rs).append (.cons r .nil)
theorem pe_rev {X : Cx} {e st : Expr} {p2 pos : Pos} {te ts : TE} (he : PE X e te) (hs : PE X st ts) : PE X (.Subscript e (.Slice none none (some st) p2) pos) (tRev X.K te ts) := by
  refine ⟨fun pins s σ H Q I h => ?_⟩
  refine Subscript_ (thn (he.run pins s σ H _ I h) fun v s1 ⟨x, H1, I1, r1, q1⟩ => ?_)
  refine wpAny_Slice ?_
  rw [evalPart_none]
  refine wpAny_pure (wpAny_pure ?_)
  rw [evalPart_some]
  refine thn (hs.run pins s1 σ H1 _ I1 q1) fun u s3 ⟨y, H3, I3, r3, ey, q3⟩ => ?_
  subst ey
  obtain ⟨tk, rfl⟩ := r3
  have I4 : Inv X pins σ H3 { s3 with heap := s3.heap.push { cls := .type "slice", data := .fields #[.none, .none, .int (-1) tk] } } := I3.kept (t' := s3.toks) fun b ob q => Heap.get?_push_of_some _ q
  have hsl : (s3.heap.push { cls := .type "slice", data := .fields #[.none, .none, .int (-1) tk] }).IsSliceOf s3.heap.objs.size .none .none (.int (-1) tk) := Heap.IsSliceOf.new ..
  rcases q3 with ⟨a, xs, ex, hq, q3⟩ | ⟨a, xs, ex, hq, q3⟩
  · subst ex
    cases r1
    obtain ⟨its, r, ht, hz⟩ := I4.list hq
    have hl := r.length
    have hg : wpAny (model X.prog X.w) X.A (getItem (.ref a) (.ref s3.heap.objs.size)) (EP X pins σ Q) X.xe { s3 with heap := s3.heap.push { cls := .type "slice", data := .fields #[.none, .none, .int (-1) tk] } } := by
      refine wpAny_getItem_list_slice ht.isList hsl .none .none (.int (-1) tk) (by simp) ?_ (by rw [List.size_toArray]; omega)
      rw [pick_rev]
      refine ⟨.ref _, _, I4.laid (t' := s3.toks) (o := .lst xs.reverse) (fun b ob q => Heap.get?_push_of_some _ q) (Nat.le_refl _) ?_, rfl, q3 _ (I4.hok.fresh (Nat.le_refl _))⟩
      exact ⟨by rw [List.length_reverse]; exact hz, _, 0, vals_rev' r, Heap.get?_push_size _ rfl⟩
    show wpAny (model X.prog X.w) X.A (subscriptTail e (.Slice none none (some st) p2) (.ref a) (.ref s3.heap.objs.size)) (EP X pins σ Q) X.xe { s3 with heap := s3.heap.push { cls := .type "slice", data := .fields #[.none, .none, .int (-1) tk] } }
    exact tail_any (ops := [.ref a, .ref s3.heap.objs.size]) ht.isList.typeIs slot_list_getitem.lookup hg (by with_unfolding_all rfl)
  · subst ex
    cases r1
    obtain ⟨its, r, ht, hz⟩ := I4.tuple hq
    have hl := r.length
    have hg : wpAny (model X.prog X.w) X.A (getItem (.ref a) (.ref s3.heap.objs.size)) (EP X pins σ Q) X.xe { s3 with heap := s3.heap.push { cls := .type "slice", data := .fields #[.none, .none, .int (-1) tk] } } := by
      refine tuple_turned ht hsl ?_ (by omega)
      refine ⟨.ref _, _, I4.laid (t' := s3.toks) (o := .tup xs.reverse) (fun b ob q => Heap.get?_push_of_some _ q) (Nat.le_refl _) ?_, rfl, q3 _ (I4.hok.fresh (Nat.le_refl _))⟩
      exact ⟨by rw [List.length_reverse]; exact hz, _, vals_rev' r, IsTup.new _ _⟩
    show wpAny (model X.prog X.w) X.A (subscriptTail e (.Slice none none (some st) p2) (.ref a) (.ref s3.heap.objs.size)) (EP X pins σ Q) X.xe { s3 with heap := s3.heap.push { cls := .type "slice", data := .fields #[.none, .none, .int (-1) tk] } }
    exact tail_any (ops := [.ref a, .ref s3.heap.objs.size]) ht.typeIs PyProof.Rows.slot_tuple_getitem.lookup hg (by with_unfolding_all rfl)

section
variable {X : Cx} {W : Wd} {E : XK} {pos : Pos} {a b c e o i : Expr} {es : List Expr} {ta tb tc tv : TD} {tl : TDL} {apos cpos : Pos}
/-- x[::-1] of a list, a tuple -/
def fRev (x : FL.D) (st : SD) (P : DP) : Prop := match x with
  | .tup l => P (.tup l.reverse) st
  | .tpk l => P (.tup l.reverse) st
  | .lst l => P (.lst l.reverse) st
  | .ref j => ∃ l, st[j]? = some (.lst l) ∧ P (.lst l.reverse) st
  | _ => False
def dRev (te ts : TD) : TD := fun env st P Ex => te env st (fun x st1 => ts env st1 (fun y st2 => y = .int (-1) ∧ fRev x st2 P) Ex) Ex
theorem d_rev {s : Expr} {p2 : Pos} {ts : TD} (hK : X.K = W.K) (he : PE X e (lift W E ta)) (hs : PE X s (lift W E ts)) : PE X (.Subscript e (.Slice none none (some s) p2) pos) (lift W E (dRev ta ts)) :=
  pe_lift (pe_rev he hs) fun σ H Q ⟨m, st, env, P, Ex, r, q, k, x⟩ => ⟨m, st, env, _, Ex, r, q, fun d st1 m1 H1 v q1 S1 O1 h1 => ⟨m1, st1, env, _, Ex, r.go S1 O1, q1, fun y st2 m2 H2 u ⟨ey, q2⟩ S2 O2 h2 => by
    subst ey
    refine ⟨h2, ?_⟩
    rw [hK]
    have hd := Is.mono S2 O1.mut d v h1
    have S12 := S1.trans S2
    cases d with
    | tup l =>
      obtain ⟨a, vs, ev, hq, hi⟩ := hd
      refine .inr ⟨a, vs, ev, hq, fun p hp => ?_⟩
      obtain ⟨n1, n2, n3⟩ := tup_new O2 hp hi.reverse
      exact k _ st2 m2 _ _ q2 (S12.trans n1) n2 n3
    | tpk l =>
      obtain ⟨a, vs, o, ev, hq, hi⟩ := hd
      refine .inr ⟨a, vs, ev, .inl (.inr ⟨o, hq.1⟩), fun p hp => ?_⟩
      obtain ⟨n1, n2, n3⟩ := tup_new O2 hp hi.reverse
      exact k _ st2 m2 _ _ q2 (S12.trans n1) n2 n3
    | lst l =>
      obtain ⟨a, vs, ev, hq, hn, hi⟩ := hd
      refine .inl ⟨a, vs, ev, .inl (.inl hq), fun p hp => ?_⟩
      obtain ⟨n1, n2, n3⟩ := lst_new O2 hp hi.reverse
      exact k _ st2 m2 _ _ q2 (S12.trans n1) n2 n3
    | ref j =>
      obtain ⟨l, el, q2⟩ := q2
      obtain ⟨a, em, ev⟩ := hd
      obtain ⟨vs, hq, hi⟩ := lst_at O2 em el
      refine .inl ⟨a, vs, ev, .inl (.inl hq), fun p hp => ?_⟩
      obtain ⟨n1, n2, n3⟩ := lst_new O2 hp hi.reverse
      exact k _ st2 m2 _ _ q2 (S12.trans n1) n2 n3
    | _ => exact False.elim q2, x.go S1⟩, x⟩
/-! ### tuples whose object is known -/
def tTupF (t : TA) : TE := fun σ H Q => t σ H fun xs H1 => xs.length ≤ sizeLine ∧ ∀ p o, H1 p = none → o.dict = none → Q (.ref p) (upd H1 p (.frz o (.tup xs)))
theorem pe_tupF {t : TA} {x1} (h : PA X es t) : PE X (.Tuple es x1 pos) (tTupF t) := by
  refine ⟨fun pins s σ H Q I hq => wpAny_Tuple_spliced (thn (h.run pos pins s σ H _ I hq) fun us s1 ⟨xs, H1, I1, r, z, q⟩ => ⟨by rw [← r.length]; exact z, ?_⟩)⟩
  have hf : H1 s1.heap.objs.size = none := I1.hok.fresh (Nat.le_refl _)
  exact ⟨.ref s1.heap.objs.size, upd H1 s1.heap.objs.size (.frz _ (.tup xs)), I1.laid (t' := s1.toks) (fun b u e => Heap.get?_push_of_some _ e) (Nat.le_refl _) ⟨Heap.get?_push_size _ rfl, z, us, r, ⟨_, Heap.get?_push_size _ rfl, rfl, _, rfl⟩⟩, rfl, q _ _ hf rfl⟩
theorem tpk_new {m : List Addr} {H : Hp} {st : SD} (O : StOk W m H st) {p : Addr} {ob : Obj} {ys : List FL.D} {us : List V} (hp : H p = none) (hd : ob.dict = none) (h : IsL W m H ys us) :
    Stp m H m (upd H p (.frz ob (.tup us))) ∧ StOk W m (upd H p (.frz ob (.tup us))) st ∧ Is W m (upd H p (.frz ob (.tup us))) (.tpk ys) (.ref p) :=
  have S : Stp m H m (upd H p (.frz ob (.tup us))) := Stp.new hp
  ⟨S, O.new hp, p, us, ob, rfl, ⟨upd_same, hd⟩, IsL.mono S O.mut ys us h⟩
def dTupF (tl : TDL) : TD := fun env st P Ex => tl env st (fun ds st1 => ds.length ≤ sizeLine ∧ P (.tpk ds) st1) Ex
theorem d_tupF {x1} (h : PA X es (liftL W E tl)) : PE X (.Tuple es x1 pos) (lift W E (dTupF tl)) :=
  pe_lift (pe_tupF h) fun σ H Q ⟨m, st, env, P, Ex, r, q, k, x⟩ => ⟨m, st, env, _, Ex, r, q, fun ds st1 m1 H1 vs ⟨hz, q1⟩ S1 O1 h1 => ⟨by rw [← h1.length]; exact hz, fun p o hp hd => by
    obtain ⟨n1, n2, n3⟩ := tpk_new O1 hp hd h1
    exact k _ st1 m1 _ _ q1 (S1.trans n1) n2 n3⟩, x⟩
/-- t + u, both not empty -/
def rCatF : R2 := fun x y H Q => ∃ a b o xs ys, x = .ref a ∧ y = .ref b ∧ H a = some (.frz o (.tup xs)) ∧ Rd H b (.tup ys) ∧ xs ≠ [] ∧ ys ≠ [] ∧ xs.length + ys.length ≤ sizeLine ∧ ∀ p o, H p = none → o.dict = none → Q (.ref p) (upd H p (.frz o (.tup (xs ++ ys))))
theorem op_catF : OpR X (binaryOp .Add) rCatF := by
  intro pins s σ H x y v u Q I rx ry h
  obtain ⟨a, b, o, xs, ys, rfl, rfl, ha, hb, nx, ny, hz, q2⟩ := h
  cases rx
  cases ry
  obtain ⟨its, r1, p1, _⟩ := I.tuple (xs := xs) (.inl (.inr ⟨o, ha⟩))
  obtain ⟨its2, r2, p2, _⟩ := I.tuple (xs := ys) (.inl hb)
  refine HT.cat_tup p1 p2 (fun z => nx (r1.nil_iff.mp z)) (fun z => absurd (r2.nil_iff.mp z) ny) (fun z => ?_) (by rw [← r1.length, ← r2.length]; exact hz)
  exact ⟨.ref s.heap.objs.size, _, I.laid (t' := s.toks) (o := .frz _ (.tup (xs ++ ys))) (fun b ob q => Heap.get?_push_of_some _ q) (Nat.le_refl _) ⟨Heap.get?_push_size _ rfl, by rw [List.length_append]; exact hz, _, r1.append r2, IsTup.new _ _⟩, rfl, q2 _ _ (I.hok.fresh (Nat.le_refl _)) rfl⟩
def fAddF : F2 := fun st x y P => ∃ l l', x = .tpk l ∧ y = .tpk l' ∧ l ≠ [] ∧ l' ≠ [] ∧ l.length + l'.length ≤ sizeLine ∧ P (.tpk (l ++ l')) st
theorem rl_addF : Rl2 W rCatF fAddF := fun m H st x y v w P Q O hx hy ⟨l, l', ex, ey, h1, h2, hz, q⟩ k => by
  subst ex ey
  obtain ⟨a, vs, oa, e1, ⟨g1, _⟩, i1⟩ := hx
  obtain ⟨b, ws, ob, e2, ⟨g2, _⟩, i2⟩ := hy
  refine ⟨a, b, oa, vs, ws, e1, e2, g1, .inr ⟨ob, g2⟩, fun z => h1 ?_, fun z => h2 ?_, by rw [← i1.length, ← i2.length]; exact hz, fun p o hp hd => ?_⟩
  · have := i1.length
    rw [z] at this
    exact List.eq_nil_of_length_eq_zero this
  · have := i2.length
    rw [z] at this
    exact List.eq_nil_of_length_eq_zero this
  · obtain ⟨n1, n2, n3⟩ := tpk_new O hp hd (IsL.append i1 i2)
    exact k _ st m _ _ q n1 n2 n3
/-- t[lo:hi] -/
def rSlF : V → Option Int → Option Int → Hp → VK → Prop := fun x lo hi H Q => ∃ a o xs, x = .ref a ∧ H a = some (.frz o (.tup xs)) ∧
  (HT.sIx xs.length 0 lo = 0 ∧ HT.sIx xs.length xs.length hi = xs.length → Q (.ref a) H) ∧ (¬ (HT.sIx xs.length 0 lo = 0 ∧ HT.sIx xs.length xs.length hi = xs.length) → ∀ p o, H p = none → o.dict = none → Q (.ref p) (upd H p (.frz o (.tup (cutV xs lo hi)))))
theorem sl_tupF : SlR X rSlF := by
  intro pins s σ H x v vl vu lo hi sl Q I rx hs pl pu h
  obtain ⟨a, o, xs, rfl, hx, q1, q2⟩ := h
  cases rx
  obtain ⟨its, r, ht, hz⟩ := I.tuple (xs := xs) (.inl (.inr ⟨o, hx⟩))
  have hlen : its.toArray.size = xs.length := by rw [List.size_toArray]; exact r.length.symm
  refine ⟨"tuple", _, PyProof.Rows.slot_tuple_getitem.lookup, ht.typeIs, ?_⟩
  by_cases hw : HT.sIx xs.length 0 lo = 0 ∧ HT.sIx xs.length xs.length hi = xs.length
  · exact getItem_tuple_whole ht hs pl pu (by rw [hlen]; exact hw) ⟨.ref a, H, I, rfl, q1 hw⟩
  · refine HT.getItem_tuple_cut ht hs pl pu (by rw [hlen]; exact hw) ?_ (by rw [hlen]; exact hz)
    rw [hlen]
    exact ⟨.ref s.heap.objs.size, _, I.laid (t' := s.toks) (o := .frz _ (.tup (cutV xs lo hi))) (fun b ob q => Heap.get?_push_of_some _ q) (Nat.le_refl _)
      ⟨Heap.get?_push_size _ rfl, Nat.le_trans (cutV_length xs lo hi) hz, _, (r.drop (HT.sIx xs.length 0 lo)).take (HT.sIx xs.length xs.length hi - HT.sIx xs.length 0 lo), IsTup.new _ _⟩, rfl, q2 hw _ _ (I.hok.fresh (Nat.le_refl _)) rfl⟩
def dSlF (te : TD) (tl th : TDO) : TD := fun env st P Ex => te env st (fun x st1 => tl env st1 (fun lo st2 => th env st2 (fun hi st3 => ∃ l, x = .tpk l ∧ P (.tpk (cutD l lo hi)) st3) Ex) Ex) Ex
theorem d_sliceF {lo hi : Option Expr} {p2 : Pos} {t1 t2 : TDO} (he : PE X e (lift W E ta)) (hl : PO X lo (liftO W E t1)) (hh : PO X hi (liftO W E t2)) : PE X (.Subscript e (.Slice lo hi none p2) pos) (lift W E (dSlF ta t1 t2)) :=
  pe_lift (pe_slice sl_tupF he hl hh) fun σ H Q ⟨m, st, env, P, Ex, r, q, k, x⟩ => ⟨m, st, env, _, Ex, r, q, fun d st1 m1 H1 v q1 S1 O1 h1 => ⟨m1, st1, env, _, Ex, r.go S1 O1, q1, fun lo st2 m2 H2 q2 S2 O2 => ⟨m2, st2, env, _, Ex, (r.go S1 O1).go S2 O2, q2, fun hi st3 m3 H3 ⟨l, ed, q3⟩ S3 O3 => by
    subst ed
    have S23 := S2.trans S3
    have S13 := S1.trans S23
    obtain ⟨a, vs, o, ev, ⟨hq, ho⟩, hi'⟩ := Is.mono S23 O1.mut _ v h1
    refine ⟨a, o, vs, ev, hq, fun z => ?_, fun z p o hp hd => ?_⟩
    · refine k _ st3 m3 H3 _ q3 S13 O3 ⟨a, vs, o, rfl, ⟨hq, ho⟩, ?_⟩
      rw [← hi'.length] at z
      rw [cutD_all z]
      exact hi'
    · obtain ⟨n1, n2, n3⟩ := tpk_new O3 hp hd (isL_cut hi' lo hi)
      exact k _ st3 m3 _ _ q3 (S13.trans n1) n2 n3, (x.go S1).go S2⟩, x.go S1⟩, x⟩
end
end FL
/-! FN: x in d.values(), tuple.index, dict comprehensions, list(d.items()), dicts compared. -/
namespace FL
open PySem PySem.Spec PyProof.Rows L2

/-! ### x in d.values() -/
theorem nocont_values : typeLookup (.type "dict_values") "__contains__" = pure none := by rw [typeLookup_type, builtinLookup_eq_fast]; kernel_rfl
theorem plain_cont : plainId "proto.contains_iter" = true := by decide +kernel
theorem entry_cont : entryFor table "proto.contains_iter" = some Builtin.«proto.contains_iter» := entryFor_of_fast (by kernel_rfl)
section
variable {prog : Program} {w : World} {A : Around} {E : Value → Shared → Prop} {s : Shared} {R : Result → Shared → Prop}
theorem cont_turns {I : Addr} {fp wr : List Addr} {n : Nat} {Pv : Nat → Value → Prop} {St : Nat → Heap → Prop} {x : Value} (T : Walks prog w A.in1 I fp wr n Pv St) (tr : Nat → Bool) (heq : ∀ i v (s : Shared), Pv i v → SeqAt.EqAt A.in1 s v x (tr i)) : ∀ (k i : Nat) (s : Shared), n - i = k → i ≤ n → St i s.heap →
    (∀ h' tk, (∀ b o, b ∉ wr → s.heap.get? b = some o → h'.get? b = some o) → R (.ok (.ret (.bool (((List.range n).drop i).any tr)))) { s with heap := h', toks := tk }) →
    codeAny (model prog w) A (.builtin "proto.contains_iter" ⟨[.ref I, x], []⟩) R s := by
  intro k
  induction k with
  | zero =>
    intro i s hk hi hst hR
    have hin : i = n := by omega
    subst hin
    refine codeAny_builtin entry_cont ?_
    rw [Around.under_plainId plain_cont _]
    show wpAny _ A.in1 (pyNext (.ref I) >>= _) _ _ s
    refine wpAny_bind (T.done s _ _ hst fun h' tk hk' => ?_)
    refine wpAny_bind (wpAny_rule (wpAny_pure ?_))
    have := hR h' tk hk'
    rw [List.drop_of_length_le (by simp)] at this
    exact this
  | succ k ih =>
    intro i s hk hi hst hR
    have hlt : i < n := by omega
    have hd : (List.range n).drop i = i :: (List.range n).drop (i + 1) := by
      rw [List.drop_eq_getElem_cons (by simpa using hlt)]; simp
    refine codeAny_builtin entry_cont ?_
    rw [Around.under_plainId plain_cont _]
    show wpAny _ A.in1 (pyNext (.ref I) >>= _) _ _ s
    refine wpAny_bind (T.item i s _ _ hlt hst fun v h' tk hP hst' hk' => ?_)
    refine wpAny_bind (heq i v _ hP prog w _ _ ?_)
    cases hb : tr i with
    | false =>
      simp only [Bool.false_eq_true, if_false]
      refine wpAny_pure ⟨plainId_quiet plain_cont _, ih (i + 1) _ (by omega) hlt hst' fun h'' tk'' hk'' => ?_⟩
      have := hR h'' tk'' fun b o hbw e => hk'' b o hbw (hk' b o hbw e)
      rw [hd, List.any_cons, hb, Bool.false_or] at this
      exact this
    | true =>
      simp only [if_true]
      refine wpAny_bind (wpAny_rule (wpAny_pure ?_))
      have := hR h' tk hk'
      rw [hd, List.any_cons, hb, Bool.true_or] at this
      exact this
/-- contains(view, x) -/
theorem contains_view {v x : Value} {Q : Bool → Shared → Prop} (hT : s.TypeIs v "dict_values")
    (h : wpAny (model prog w) A (pyIter v) (fun it s₂ => ∃ I fp wr n Pv St tr, it = .ref I ∧ Walks prog w A.in1 I fp wr n Pv St ∧ St 0 s₂.heap ∧ (∀ i v (s : Shared), Pv i v → SeqAt.EqAt A.in1 s v x (tr i)) ∧
      ∀ h' tk, (∀ b o, b ∉ wr → s₂.heap.get? b = some o → h'.get? b = some o) → Q ((List.range n).any tr) { s₂ with heap := h', toks := tk }) (fun _ _ => False) s) : wpAny (model prog w) A (contains v x) Q E s := by
  unfold contains
  refine wpAny_holding ?_
  rw [stdlibNamesSay?_of_typeIs hT]
  refine wpAny_bind (wpAny_specialOf hT nocont_values ?_)
  show wpAny _ A (if (none == some Value.none) = true then _ else _) Q E s
  rw [if_neg (by decide)]
  refine wpAny_bind ?_
  unfold callSpecialUnlessNone?
  refine wpAny_bind (wpAny_specialOf hT nocont_values (wpAny_pure ?_))
  refine wpAny_bind (wpAny_rule ?_)
  refine wpAny_bind (wpAny_tryCatch (wpAny_mono h (fun it s2 h2 => ?_) fun _ _ e => e.elim))
  obtain ⟨I, fp, wr, n, Pv, St, tr, rfl, T, hst, heq, hQ⟩ := h2
  refine wpAny_bind (wpAny_runValue ?_)
  refine cont_turns T tr heq n 0 s2 (by omega) (Nat.zero_le _) hst fun h' tk hk => ?_
  have := hQ h' tk hk
  rw [List.drop_zero]
  exact wpAny_pure this
end
section
variable {X : Cx} {pos apos cpos : Pos} {a e : Expr} {ta te : TE}
/-- x in d.values(), of flat values -/
def tInVals (neg : Bool) (ta te : TE) : TE := fun σ H Q => ta σ H fun x H1 => te σ H1 fun y H2 => ∃ d kvs, y = .ref d ∧ Rd H2 d (.dK kvs) ∧ flatV x = true ∧ (kvs.map (·.2)).all flatV = true ∧ Q (.bl (inV x (kvs.map (·.2)) != neg)) H2
theorem kv_vals : ∀ {kvs : List (Key × V)} {vs : List (Key × Value)}, KV kvs vs → Vals (kvs.map (·.2)) (vs.map (·.2))
  | _, _, .nil => .nil
  | _, _, .cons h t => .cons h.2 (kv_vals t)
theorem range_any (f : Nat → Bool) {α : Type} (g : α → Bool) : ∀ (l : List α), (∀ i x, l[i]? = some x → f i = g x) → (List.range l.length).any f = l.any g := by
  intro l
  induction l generalizing f with
  | nil => intro _; rfl
  | cons x l ih =>
    intro h
    rw [List.length_cons, List.range_succ_eq_map, List.any_cons, List.any_cons, h 0 x rfl, List.any_map]
    congr 1
    exact ih (f ∘ Nat.succ) fun i y e => h (i + 1) y (by simpa using e)
theorem in_vals_core {op : CmpOp} {neg : Bool} (ha : PE X a ta) (he : PE X e te) (hc : X.calm = true)
    (hop : ∀ (v u : Value) (s : Shared) (Q : Value → Shared → Prop), wpAny (model X.prog X.w) X.A (contains u v) (fun b s' => Q (.bool (b != neg)) s') X.xe s → wpAny (model X.prog X.w) X.A (compareOp op v u) Q X.xe s)
    (hbase : attributeBase e "values" X.env (eval e X.env) = eval e X.env := by rfl) (hline : (apos.endLine == cpos.line) = true := by rfl) : PC X op a (.Call (.Attribute e "values" apos) [] [] cpos) (tInVals neg ta te) := by
  refine ⟨fun pins s σ H Q I h => thn (ha.run pins s σ H _ I h) fun v s0 ⟨x, H0, I0, rx, q0⟩ => ?_⟩
  refine wpAny_Call_method (T := "dict") (id := "dict.values") hbase rfl hline F.plainAttrs_dict F.slot_dict_values F.type_dict_values (thn (he.run pins s0 σ H0 _ I0 q0) fun u s1 ⟨y, H1, I1, ry, d, kvs, ey, hd, fx, fk, q⟩ => ?_)
  subst ey
  obtain rfl : u = Value.ref d := ry
  obtain ⟨z, lo, vs, rel, dd⟩ := dk_rd I1.hok hd
  obtain ⟨ep, hat⟩ := dd.dictAt
  refine ⟨dd.typeIs, dd.mapOf.noDict, ?_⟩
  have I2 : Inv X pins σ H1 { s1 with heap := s1.heap.push { cls := .type "dict_values", data := .fields #[.ref d] } } := I1.kept (t' := s1.toks) fun b ob q => Heap.get?_push_of_some _ q
  have hview : (s1.heap.push { cls := .type "dict_values", data := .fields #[.ref d] }).IsValuesView s1.heap.objs.size d := ⟨_, Heap.get?_push_size _ rfl, rfl, rfl⟩
  have fin : wpAny (model X.prog X.w) X.A (compareOp op v (.ref s1.heap.objs.size)) (EP X pins σ Q) X.xe { s1 with heap := s1.heap.push { cls := .type "dict_values", data := .fields #[.ref d] } } := by
    refine hop _ _ _ _ (contains_view hview.typeIs ?_)
    refine wpAny_pyIter_values (d := d) (knd := mixKind X.prog X.w) hview (hat.push _) ?_
    have hlt : d < (s1.heap.push { cls := .type "dict_values", data := .fields #[.ref d] }).objs.size := by
      rw [Heap.size_push]
      exact Nat.lt_succ_of_lt hat.lt_size
    refine ⟨_, _, _, _, _, _, fun i => inV x (((kvs.map (·.2))[i]?).toList), rfl, Walks.dictValues (A := X.A.in1) (knd := mixKind X.prog X.w) (show X.A.in1.handled = none from I1.ok.hd hc) _ d (Nat.ne_of_lt hlt) vs ep, ⟨⟨_, Heap.get?_push_size _ rfl, rfl, rfl⟩, (hat.push _).push _⟩, fun i w s' ⟨k, hk⟩ => ?_, fun h' tk hk => ?_⟩
    · have hlen : i < (kvs.map (·.2)).length := by
        have h1 : i < vs.length := (List.getElem?_eq_some_iff.mp hk).1
        have h2 : kvs.length = vs.length := Paired.length rel
        rw [List.length_map, h2]
        exact h1
      have e1 := List.getElem?_eq_getElem hlen
      generalize (kvs.map (·.2))[i] = w' at e1
      obtain ⟨w2, e2, r1⟩ := (kv_vals rel).get e1
      rw [List.getElem?_map, hk] at e2
      cases e2
      have f1 : flatV w' = true := List.all_eq_true.mp fk _ (List.mem_of_getElem? e1)
      show SeqAt.EqAt _ _ w v (inV x ((kvs.map (·.2))[i]?).toList)
      rw [e1]
      have : inV x (some w').toList = eqV w' x := by simp [inV]
      rw [this]
      exact eqAt_V r1 rx f1 fx
    · have hany : (List.range vs.length).any (fun i => inV x (((kvs.map (·.2))[i]?).toList)) = inV x (kvs.map (·.2)) := by
        have hl : vs.length = (kvs.map (·.2)).length := by rw [List.length_map]; exact (Paired.length rel).symm
        rw [hl]
        exact range_any _ (fun y => eqV y x) _ fun i y ey => by
          show inV x (((kvs.map (·.2))[i]?).toList) = eqV y x
          rw [ey]
          simp [inV]
      rw [hany]
      refine ⟨.bl _, H1, I2.kept (t' := tk) fun b ob eb => hk b ob (fun hm => ?_) (Heap.get?_push_of_some _ eb), rfl, q⟩
      have hb : b = _ := List.mem_singleton.mp hm
      have := Heap.lt_size eb
      rw [hb] at this
      exact absurd this (Nat.lt_irrefl _)
  show wpAny _ _ (callWith cpos (.builtin "dict.values") [.ref d] [] []) _ X.xe s1
  exact method_meetsIn F.slot_dict_values F.entry_dict_values rfl (PySem.evalArgs_none ⟨rfl, dd.typeIs, F.args_dict_values_1 _, _, meets_dict_values (mixKind X.prog X.w) d lo, ⟨vs, dd⟩, fin⟩)
end
end FL
/-! FO: x in d.values(), tuple.index, dict comprehensions, list(d.items()), dicts compared, on data. -/
namespace FL
open PySem PySem.Spec PyProof.Rows L2

section
variable {X : Cx} {W : Wd} {E : XK} {pos : Pos} {a b c e o i : Expr} {es : List Expr} {ta tb tc tv : TD} {tl : TDL} {apos cpos : Pos}
def fInVals (neg : Bool) : F2 := fun st x y P => ∃ j l, y = .ref j ∧ dctD st j = some l ∧ atomD x = true ∧ (l.map (·.2)).all atomD = true ∧ ∀ r : Bool, (r = true ↔ x ∈ l.map (·.2)) → P (.bl (r != neg)) st
theorem isK_vals {m : List Addr} {H : Hp} : ∀ {l : List (Key × FL.D)} {kvs : List (Key × V)}, IsK W m H l kvs → IsL W m H (l.map (·.2)) (kvs.map (·.2))
  | [], _, h => by
    have h : _ = [] := h
    subst h
    rfl
  | (k, d) :: l, _, ⟨v, r, e, h0, ht⟩ => by
    subst e
    exact ⟨v, _, rfl, h0, isK_vals ht⟩
theorem inVals_core {neg : Bool} {σ : L2.St} {H : Hp} {Q : VK} (h : lift W E (dOp (fInVals neg) ta tb) σ H Q) : tInVals neg (lift W E ta) (lift W E tb) σ H Q :=
  op_core (r := fun x y H Q => ∃ d kvs, y = .ref d ∧ Rd H d (.dK kvs) ∧ flatV x = true ∧ (kvs.map (·.2)).all flatV = true ∧ Q (.bl (inV x (kvs.map (·.2)) != neg)) H) (fun m H st x y v w P Q O hx hy ⟨j, l, ey, el, g1, g2, q⟩ kk => by
    subst ey
    obtain ⟨a, em, ev⟩ := hy
    obtain ⟨kvs, hr, hk⟩ := dct_at O em el
    obtain ⟨i1, i2⟩ := atom_in hx g1 (isK_vals hk) g2
    exact ⟨a, kvs, ev, hr, atom_is hx g1, i1, kk _ st m H _ (q _ i2) (.refl _ _) O rfl⟩) h
theorem dc_inVals (hc : X.calm = true) (ha : PE X a (lift W E ta)) (he : PE X e (lift W E tb)) (hbase : attributeBase e "values" X.env (eval e X.env) = eval e X.env := by rfl) (hline : (apos.endLine == cpos.line) = true := by rfl) :
    PC X .In a (.Call (.Attribute e "values" apos) [] [] cpos) (lift W E (dOp (fInVals false) ta tb)) :=
  pc_lift (in_vals_core (neg := false) ha he hc (fun v u s Q h => wpAny_bind (thn h fun b s' hb => wpAny_pure (by simpa using hb))) hbase hline) fun σ H Q h => inVals_core h
theorem dc_notinVals (hc : X.calm = true) (ha : PE X a (lift W E ta)) (he : PE X e (lift W E tb)) (hbase : attributeBase e "values" X.env (eval e X.env) = eval e X.env := by rfl) (hline : (apos.endLine == cpos.line) = true := by rfl) :
    PC X .NotIn a (.Call (.Attribute e "values" apos) [] [] cpos) (lift W E (dOp (fInVals true) ta tb)) :=
  pc_lift (in_vals_core (neg := true) ha he hc (fun v u s Q h => wpAny_bind (thn h fun b s' hb => wpAny_pure (by
    have e : (b != true) = !b := by cases b <;> rfl
    rw [e] at hb
    exact hb))) hbase hline) fun σ H Q h => inVals_core h
/-! ### tuple.index -/
def tIdxT (K : PySem.W.Frag) (to te : TE) : TE := fun σ H Q => to σ H fun x H1 => (∃ a o xs, x = .ref a ∧ H1 a = some (.frz o (.tup xs)) ∧ o.dict = none) ∧ te σ H1 fun y H2 => ∃ (a : Addr) (ns : List Int) (k : Int), x = .ref a ∧ SqT K H2 a (ns.map V.int) ∧ y = .int k ∧ k ∈ ns ∧ Q (.int (ns.idxOf k : Nat)) H2
theorem pe_idxT {to te : TE} (ho : PE X o to) (he : PE X e te) (M : M1 X o "index" apos e cpos) : PE X (.Call (.Attribute o "index" apos) [e] [] cpos) (tIdxT X.K to te) := by
  refine ⟨fun pins s σ H Q I h => ?_⟩
  refine wpAny_Call_method M.base M.few M.line F.plainAttrs_tuple F.slot_tuple_index F.type_tuple_index (thn (ho.run pins s σ H _ I h) fun v s1 h1 => ?_)
  obtain ⟨x, H1, I1, r1, ⟨a, ob, xs, ex, hx, hd⟩, q1⟩ := h1
  subst ex
  obtain rfl : v = Value.ref a := r1
  obtain ⟨g1, _⟩ := I1.hok a _ hx
  obtain ⟨its, _, p1, _⟩ := I1.tuple (xs := xs) (.inl (.inr ⟨ob, hx⟩))
  refine ⟨p1.typeIs, fun b eb => ?_, ?_⟩
  · cases eb
    exact ⟨ob, g1, hd⟩
  · rw [M.trees]
    refine Calls.callWith_builtin rfl (Calls.evalArgs_plain (Calls.spliced_cons (thn (he.run pins s1 σ H1 _ I1 q1) fun u s2 h2 => Calls.spliced_nil ?_)))
    obtain ⟨y, H2, I2, r2, b, ns, k, ea, hq, ek, hm, q2⟩ := h2
    cases ea
    subst ek
    obtain ⟨t, rfl⟩ := r2
    obtain ⟨its2, r, p2, _⟩ := I2.tuple hq
    exact SeqAt.tuple_index_ints p2 (intsAre_of r) hm ⟨.int _, H2, I2.tok _, ⟨_, rfl⟩, q2⟩
def dIndexT (to te : TD) : TD := fun env st P Ex => to env st (fun x st1 => ∃ l, x = .tpk l ∧ te env st1 (fun d st2 => ∃ (ns : List Int) (k : Int), l = ns.map FL.D.int ∧ d = .int k ∧ k ∈ ns ∧ P (.int (ns.idxOf k : Nat)) st2) Ex) Ex
theorem isL_ints {m : List Addr} {H : Hp} : ∀ {ns : List Int} {vs : List V}, IsL W m H (ns.map FL.D.int) vs → vs = ns.map V.int
  | [], _, h => h
  | y :: ys, _, ⟨v, r, e, h0, ht⟩ => by
    have h0 : v = .int y := h0
    subst e h0
    rw [isL_ints ht]
    rfl
theorem d_indexT (hK : X.K = W.K) (ho : PE X o (lift W E ta)) (he : PE X e (lift W E tb)) (M : M1 X o "index" apos e cpos) : PE X (.Call (.Attribute o "index" apos) [e] [] cpos) (lift W E (dIndexT ta tb)) :=
  pe_lift (pe_idxT ho he M) fun σ H Q ⟨m, st, env, P, Ex, r, q, k, x⟩ => ⟨m, st, env, _, Ex, r, q, fun d st1 m1 H1 v ⟨l, ed, q1⟩ S1 O1 h1 => by
    subst ed
    have h1' := h1
    obtain ⟨a, vs, o, ev, ⟨hq, hd⟩, hi⟩ := h1
    refine ⟨⟨a, o, vs, ev, hq, hd⟩, m1, st1, env, _, Ex, r.go S1 O1, q1, fun d2 st2 m2 H2 w ⟨ns, n, el, ed, hm, q2⟩ S2 O2 hw => ?_, x.go S1⟩
    subst ed
    obtain ⟨a2, vs2, o2, ev2, ⟨hq2, _⟩, hi2⟩ := Is.mono S2 O1.mut _ v h1'
    rw [el] at hi2
    have hi2 := isL_ints hi2
    subst hi2
    exact ⟨a2, ns, n, ev2, .inl (.inr ⟨o2, hq2⟩), hw, hm, k _ st2 m2 H2 _ q2 (S1.trans S2) O2 rfl⟩, x⟩
/-! ### {k: v for ..} -/
def dDcT (G : SD → Prop) (g : TDG) (tt : TDB) (tk tv : TD) (env0 : DV) (j : Nat) (fin : SD → Prop) : List FL.D → SD → Prop
  | [], st => G st ∧ fin st
  | x :: r, st => G st ∧ g x env0 st fun env1 st1 => tt env1 st1 (fun b st2 => if b = true then tk env1 st2 (fun y st3 => tv env1 st3 (fun z st4 => ∃ l k, st4[j]? = some (.dct l) ∧ keyOf y = some k ∧ l.length < sizeLine ∧ dDcT G g tt tk tv env0 j fin r (st4.set j (.dct (putKD l k z)))) noX) noX else dDcT G g tt tk tv env0 j fin r st2) noX
theorem dDcT_guard {G : SD → Prop} {g : TDG} {tt : TDB} {tk tv : TD} {env0 : DV} {j : Nat} {fin : SD → Prop} : ∀ {xs : List FL.D} {st : SD}, dDcT G g tt tk tv env0 j fin xs st → G st
  | [], _, h => h.1
  | _ :: _, _, h => h.1
def dDc (ti : TDI) (g : TDG) (tt : TDB) (tk tv : TD) (vs : List Nat) : TD := fun env st P Ex => ti env st (fun xs G st1 => dDcT G g tt tk tv (dwipe env vs) st1.length (fun st2 => P (.ref st1.length) st2) xs (st1 ++ [.dct []])) Ex
theorem dc_lift {ti : TDI} {g : TG} {gd : TDG} {tt : TDB} {tk tv : TD} {vs : List Nat} (hg : TgOk W vs g gd) {σ : L2.St} {H : Hp} {Q : VK} (h : lift W E (dDc ti gd tt tk tv vs) σ H Q) :
    tDc (liftI W E ti) g (liftB W noXK tt) (lift W noXK tk) (lift W noXK tv) vs σ H Q := by
  obtain ⟨m, st, env, P, Ex, r, q, k, x⟩ := h
  refine ⟨m, st, env, _, Ex, r, q, fun xs G st1 m1 H1 J q1 S1 O1 y => fun Dn hDn => ?_, x⟩
  obtain ⟨n1, n2, n3⟩ := obj_new O1 (ob := .dct []) (ho := .dK []) hDn fun H' m' S e => ⟨[], e, rfl⟩
  have y' := y.mono n1
  have s0 := (r.go S1 O1).go n1 n2
  have eD : (m1 ++ [Dn])[st1.length]? = some Dn := by rw [← O1.len]; simp
  refine ⟨fun i n H' => n = xs.length - i ∧ i ≤ xs.length ∧ ∃ m' st', Stp (m1 ++ [Dn]) (upd H1 Dn (.dK [])) m' H' ∧ StOk W m' H' st' ∧ dDcT G gd tt tk tv (dwipe env vs) st1.length (fun st2 => P (.ref st1.length) st2) (xs.drop i) st', ⟨xs.length, by simp, Nat.zero_le _, _, _, .refl _ _, n2, by simpa using q1⟩, ?_⟩
  rintro i n H' ⟨rfl, hi, m', st', S', O', q'⟩
  have hG := dDcT_guard q'
  have s' := s0.go S' O'
  by_cases hlt : i < xs.length
  · refine .inr ⟨y'.go i m' H' st' S' O' hG hlt, fun H2 => i < xs.length ∧ ∃ m2 st2, Stp (m1 ++ [Dn]) (upd H1 Dn (.dK [])) m2 H2 ∧ StOk W m2 H2 st2 ∧ dDcT G gd tt tk tv (dwipe env vs) st1.length (fun st2 => P (.ref st1.length) st2) (xs.drop (i + 1)) st2, fun H2 ⟨_, p⟩ => ⟨xs.length - (i + 1), by omega, rfl, hlt, p⟩, fun v H2 hy => ?_⟩
    obtain ⟨d, ed, T2, O2, hd⟩ := y'.yld i m' H' st' v H2 S' O' hG hlt hy
    obtain ⟨_, ed'⟩ := List.getElem?_eq_some_iff.mp ed
    rw [List.drop_eq_getElem_cons hlt, ed'] at q'
    obtain ⟨_, q'⟩ := q'
    have s2 := (s'.go T2 O2).wipe vs
    have ST2 := S'.trans T2
    refine hg v (L2.wipe σ vs) H2 _ m' st' (dwipe env vs) d _ s2 hd q' fun env3 st3 m3 H3 σ3 q3 S3 s3 w3 => ?_
    have ww : L2.wipe (L2.wipe σ vs) vs = L2.wipe σ vs := wipe_twice σ vs
    refine ⟨w3.trans ww, m3, st3, env3, _, noX, s3, q3, fun b st4 m4 H4 q4 S4 O4 => ?_, exn_no⟩
    have S04 := (ST2.trans S3).trans S4
    cases b with
    | false =>
      simp only [Bool.false_eq_true, if_false] at q4 ⊢
      exact ⟨hlt, m4, st4, S04, O4, q4⟩
    | true =>
      simp only [if_true] at q4 ⊢
      refine ⟨m4, st4, env3, _, noX, s3.go S4 O4, q4, fun kd st5 m5 H5 z5 q5 S5 O5 h5 => ?_, exn_no⟩
      refine ⟨m5, st5, env3, _, noX, (s3.go S4 O4).go S5 O5, q5, fun vd st6 m6 H6 z6 ⟨l, kk, el, ek, hl, q6⟩ S6 O6 h6 => ?_, exn_no⟩
      have S06 := (S04.trans S5).trans S6
      obtain ⟨kvs, h4, hlen, S7, O7⟩ := dput_core O6 (k := kk) (S06.at eD) el h6
      exact ⟨kvs, kk, key_is h5 ek, h4, by omega, hlt, m6, _, S06.trans S7, O7, q6⟩
  · have e : i = xs.length := by omega
    subst e
    rw [List.drop_length] at q'
    exact .inl ⟨y'.stop m' H' st' S' O' hG, k _ st' m' H' _ q'.2 ((S1.trans n1).trans S') O' ⟨Dn, S'.at eD, rfl⟩⟩
theorem d_dc {kx vx tg iter : Expr} {ifs : List Expr} {scope : Scope} {own : List (Str × Nat)} {ti : TDI} {g : TG} {gd : TDG} {tt : TDB} {tk tv : TD} (hc : X.calm = true) (hN : X.N.Nodup) (hi : PI X tg iter (liftI W E ti)) (ok : BlkOk X.N X.env.scope scope own) (hgd : TgOk W (own.map (·.2)) g gd)
    (hg : ∀ (s : Shared) (H : Hp) (C : Addr) (cl : List (Str × Addr)) (fp : List Addr), PG (X.blk s H scope (compEnvC scope cl C X.env) fp) tg g)
    (ht : ∀ (s : Shared) (H : Hp) (C : Addr) (cl : List (Str × Addr)) (fp : List Addr), PTs (X.blk s H scope (compEnvC scope cl C X.env) fp) ifs (liftB W noXK tt))
    (hk : ∀ (s : Shared) (H : Hp) (C : Addr) (cl : List (Str × Addr)) (fp : List Addr), PE (X.blk s H scope (compEnvC scope cl C X.env) fp) kx (lift W noXK tk))
    (he : ∀ (s : Shared) (H : Hp) (C : Addr) (cl : List (Str × Addr)) (fp : List Addr), PE (X.blk s H scope (compEnvC scope cl C X.env) fp) vx (lift W noXK tv))
    (hs : ∀ x, foldedSetIterable iter X.env x = pure x := by intro _; rfl) : PE X (.DictComp kx vx [⟨tg, iter, ifs, 0⟩] scope pos) (lift W E (dDc ti gd tt tk tv (own.map (·.2)))) :=
  pe_lift (pe_dc hc hN hi ok hg ht hk he hs) fun σ H Q h => dc_lift hgd h
theorem ps_setDc {i : Nat} {y : Str} {py : Pos} {kx vx tg iter : Expr} {ifs : List Expr} {scope : Scope} {own : List (Str × Nat)} {pos spos : Pos} {wi : TI} {g : TG} {tt : TT} {tk tv : TE} (hc : X.calm = true) (hN : X.N.Nodup) (hy : X.N[i]? = some y) (hyl : X.env.scope.names.lookup y = some .local)
    (hsw : swapsWith (.DictComp kx vx [⟨tg, iter, ifs, 0⟩] scope pos) (some (.Name y py)) spos.line X.env = pure true) (hi : PI X tg iter wi) (ok : BlkOk X.N X.env.scope scope own)
    (hg : ∀ (s : Shared) (H : Hp) (C : Addr) (cl : List (Str × Addr)) (fp : List Addr), PG (X.blk s H scope (compEnvC scope cl C X.env) fp) tg g) (ht : ∀ (s : Shared) (H : Hp) (C : Addr) (cl : List (Str × Addr)) (fp : List Addr), PTs (X.blk s H scope (compEnvC scope cl C X.env) fp) ifs tt)
    (hk : ∀ (s : Shared) (H : Hp) (C : Addr) (cl : List (Str × Addr)) (fp : List Addr), PE (X.blk s H scope (compEnvC scope cl C X.env) fp) kx tk)
    (he : ∀ (s : Shared) (H : Hp) (C : Addr) (cl : List (Str × Addr)) (fp : List Addr), PE (X.blk s H scope (compEnvC scope cl C X.env) fp) vx tv)
    (hs : ∀ x, foldedSetIterable iter X.env x = pure x := by intro _; rfl) :
    PS X (.Assign [.Name y py] (.DictComp kx vx [⟨tg, iter, ifs, 0⟩] scope pos) spos) (tAsg (tDc wi g tt tk tv (own.map (·.2))) (gName i)) := by
  refine ⟨fun pins s σ H D I h => ?_⟩
  rw [exec_Assign_Name_used _ _ _ _ hsw]
  refine wpAny_bind (wpAny_standAt (wpAny_bind ?_))
  show wpAny _ X.A (do let _ ← comprehension (.DictComp kx vx [⟨tg, iter, ifs, 0⟩] scope pos) scope X.env (firstIterPos [⟨tg, iter, ifs, 0⟩] pos) newDict false (eval iter X.env) (some (assign (.Name y py) X.env))) _ _ s
  have h : tDc wi g tt tk tv (own.map (·.2)) σ H (fun x H1 => gName i x σ H1 D.nx) := h
  refine wpAny_bind (thn (dc_core (Qf := fun _ s' => SP X pins D .next s') hc hN I hi ok hg ht hk he hs h fun L C s' m H' I' q hn f => ?_) fun _ s' hq => wpAny_pure (wpAny_pure hq))
  show wpAny _ _ (assign (.Name y py) X.env (.ref L)) _ _ _
  refine wpAny_assign_Name (store_ok2 (v := V.ref L) I' hN hy (.inl hyl) rfl (fun s2 I2 ⟨a, sb, ha⟩ => ?_) (.inr hyl))
  obtain ⟨f0, f1, f2, f3, f4, f5⟩ := f
  have haC : C ≠ a := by
    rcases ha with z | z
    · rw [z]; exact f1
    · exact fun e => f4 y a z e.symm
  refine ⟨m, hn.sameBut sb haC, fun h3 sb3 => ?_⟩
  exact ⟨_, H', I2.turned (t' := s2.toks) (fun b o hb e => (sb3.2 b hb).trans e) f0 f1 f3 f4 f5, q⟩
theorem ds_setDc {i : Nat} {y : Str} {py : Pos} {kx vx tg iter : Expr} {ifs : List Expr} {scope : Scope} {own : List (Str × Nat)} {spos : Pos} {ti : TDI} {g : TG} {gd : TDG} {tt : TDB} {tk tv : TD} (hc : X.calm = true) (hN : X.N.Nodup) (hy : X.N[i]? = some y) (hyl : X.env.scope.names.lookup y = some .local)
    (hsw : swapsWith (.DictComp kx vx [⟨tg, iter, ifs, 0⟩] scope pos) (some (.Name y py)) spos.line X.env = pure true) (hi : PI X tg iter (liftI W E ti)) (ok : BlkOk X.N X.env.scope scope own) (hgd : TgOk W (own.map (·.2)) g gd)
    (hg : ∀ (s : Shared) (H : Hp) (C : Addr) (cl : List (Str × Addr)) (fp : List Addr), PG (X.blk s H scope (compEnvC scope cl C X.env) fp) tg g)
    (ht : ∀ (s : Shared) (H : Hp) (C : Addr) (cl : List (Str × Addr)) (fp : List Addr), PTs (X.blk s H scope (compEnvC scope cl C X.env) fp) ifs (liftB W noXK tt))
    (hk : ∀ (s : Shared) (H : Hp) (C : Addr) (cl : List (Str × Addr)) (fp : List Addr), PE (X.blk s H scope (compEnvC scope cl C X.env) fp) kx (lift W noXK tk))
    (he : ∀ (s : Shared) (H : Hp) (C : Addr) (cl : List (Str × Addr)) (fp : List Addr), PE (X.blk s H scope (compEnvC scope cl C X.env) fp) vx (lift W noXK tv))
    (hs : ∀ x, foldedSetIterable iter X.env x = pure x := by intro _; rfl) : PS X (.Assign [.Name y py] (.DictComp kx vx [⟨tg, iter, ifs, 0⟩] scope pos) spos) (liftS W E (dAsg (dDc ti gd tt tk tv (own.map (·.2))) (dgName i))) :=
  ps_lift (ps_setDc hc hN hy hyl hsw hi ok hg ht hk he hs) fun D σ H ⟨m, st, env, Dd, Ex, r, q, k1, k2, k3, k4, x⟩ =>
    dc_lift hgd ⟨m, st, env, _, Ex, r, q, fun d st1 m1 H1 v q1 S1 O1 h1 => k1 _ st1 m1 H1 _ q1 S1 ((r.go S1 O1).set h1 i), x⟩
end
end FL
/-! FP: dicts compared; tuples compared whose parts are dicts, lists, tuples. -/
namespace FL
open PySem PySem.Spec PyProof.Rows L2
open AutoSeq1 (wpAny_loadPart')
open SeqAt (EqP EqAt)

section
variable {prog : Program} {w : World}
theorem tuple_neIn (l b : Addr) (items items2 : Array Value) (n n2 : Nat) (dd dd2 : Option Addr) (sl sl2 : Array (Option Value)) (e : Nat → Bool) :
    MeetsIn prog w (Builtin.«tuple.__ne__» ⟨[.ref l, .ref b], []⟩)
      (fun A R s => s.heap.get? l = some { cls := .type "tuple", dict := dd, data := .seq items n, slots := sl } ∧ s.heap.get? b = some { cls := .type "tuple", dict := dd2, data := .seq items2 n2, slots := sl2 } ∧
        (∀ j (h1 : j < items.size) (h2 : j < items2.size), EqP prog w A.in1 s items[j] items2[j] (e j)) ∧
        R (.ok (.ret (.bool (!((List.range (min items.size items2.size)).all e && items.size == items2.size))))) s) := by
    intro A R s h
    obtain ⟨hp, g, d, tk, os⟩ := s; obtain ⟨hl, hb, he, h⟩ := h
    have f2 := AutoSeq1.sub_tuple_tuple
    have hZ : (items.toList.zip items2.toList).length = min items.size items2.size := by simp
    wp_walk using wpAny_loadPart' hl, wpAny_loadPart' hb, wpAny_forIn_list _ (fun rest b s' => b.1 = none ∧ s' = ⟨hp, g, d, tk, os⟩ ∧ ∃ i, rest = (items.toList.zip items2.toList).drop i ∧
      R (.ok (.ret (.bool (!(((List.range (min items.size items2.size)).drop i).all e && items.size == items2.size))))) ⟨hp, g, d, tk, os⟩) _
    case turn =>
      rintro ⟨y, x⟩ rest b s' ⟨hb', rfl, i, hz, hR⟩
      have hlt : i < (items.toList.zip items2.toList).length := by
        rcases Nat.lt_or_ge i (items.toList.zip items2.toList).length with h' | h'
        · exact h'
        · rw [List.drop_of_length_le h'] at hz; cases hz
      have hm : i < min items.size items2.size := hZ ▸ hlt
      have h1 : i < items.size := Nat.lt_of_lt_of_le hm (Nat.min_le_left _ _)
      have h2 : i < items2.size := Nat.lt_of_lt_of_le hm (Nat.min_le_right _ _)
      rw [List.drop_eq_getElem_cons hlt] at hz
      injection hz with hyx hrest
      have hy : y = items[i] := by have := congrArg Prod.fst hyx; simpa using this
      have hx : x = items2[i] := by have := congrArg Prod.snd hyx; simpa using this
      subst hy hx
      have hd : (List.range (min items.size items2.size)).drop i = i :: (List.range (min items.size items2.size)).drop (i + 1) := by simp [List.drop_eq_getElem_cons, hm]
      rw [hd, List.all_cons] at hR
      refine wpAny_bind (he i h1 h2 _ _ ?_)
      cases hy : e i with
      | true =>
        rw [hy] at hR
        wp_walk
        exact ⟨rfl, rfl, i + 1, hrest, by simpa using hR⟩
      | false =>
        rw [hy] at hR
        wp_walk
        simpa using hR
    case fin =>
      rintro ⟨b1, b2⟩ s' ⟨hb', rfl, i, hz, hR⟩
      simp only at hb'
      subst hb'
      have hge : min items.size items2.size ≤ i := by
        rcases Nat.lt_or_ge i (items.toList.zip items2.toList).length with h' | h'
        · rw [List.drop_eq_getElem_cons h'] at hz; cases hz
        · exact hZ ▸ h'
      rw [List.drop_of_length_le (by simpa using hge)] at hR
      wp_walk
      simpa [Builtin.Tuple.tupleCompareSizes, bne] using hR
    case h =>
      exact ⟨rfl, rfl, 0, rfl, by simpa using h⟩
theorem ne_tuplesP {A : Around} {E : Value → Shared → Prop} {s : Shared} {l b : Addr} {items items2 : Array Value} {e : Nat → Bool} (hl : IsTup s.heap l items) (hb : IsTup s.heap b items2) (hu : A.units < cLine)
    (he : ∀ j (h1 : j < items.size) (h2 : j < items2.size), EqP prog w A.in1 s items[j] items2[j] (e j)) {Q : Value → Shared → Prop} (h : Q (.bool (!((List.range (min items.size items2.size)).all e && items.size == items2.size))) s) : wpAny (model prog w) A (compareOp .NotEq (.ref l) (.ref b)) Q E s := by
  obtain ⟨⟨cls, dd, data, sl⟩, ho, hc, n, hd⟩ := id hl
  obtain ⟨⟨cls2, dd2, data2, sl2⟩, ho2, hc2, n2, hd2⟩ := id hb
  simp only at hc hd hc2 hd2
  subst hc hd hc2 hd2
  have tya : s.TypeIs (.ref l) "tuple" := ⟨_, ho, rfl⟩
  have tyb : s.TypeIs (.ref b) "tuple" := ⟨_, ho2, rfl⟩
  exact wpAny_richCompare_same_room (op := .NotEq) tya tyb F.slot_tuple_ne (call_meetsIn F.slot_tuple_ne tya F.entry_tuple_ne (F.args_tuple_ne_2 _ _) (tuple_neIn l b items items2 n n2 dd dd2 sl sl2 e)
    ⟨ho, ho2, he, show Value.bool (!((List.range (min items.size items2.size)).all e && items.size == items2.size)) ≠ Value.notImplemented ∧ Q (.bool (!((List.range (min items.size items2.size)).all e && items.size == items2.size))) s from ⟨(fun x => nomatch x), h⟩⟩) hu
end
/-! ### dicts -/
def hitB (ls : List (Key × V)) (p : Key × V) : Bool := match valV ls p.1 with
  | some y => eqV p.2 y
  | none => false
theorem hits_b {A : Around} {s : Shared} {ls : List (Key × V)} {vb : List (Key × Value)} (rb : KV ls vb) (hl : (ls.map (·.2)).all flatV = true) : ∀ {ks : List (Key × V)} {va : List (Key × Value)}, KV ks va → (ks.map (·.2)).all flatV = true → PySem.W.KeqHits A s vb va (ks.all (hitB ls))
  | _, _, .nil, _ => .nil
  | _, _, .cons (a := p) (b := q) h t, hf => by
    simp only [List.map_cons, List.all_cons, Bool.and_eq_true] at hf
    obtain ⟨k, v⟩ := q
    obtain ⟨h1, h2⟩ := h
    have h1 : p.1 = k := h1
    have hv := rb.val p.1
    rw [List.all_cons]
    cases e : valV ls p.1 with
    | none =>
      rw [e] at hv
      have hn : valueAt vb k = none := by
        rw [← h1]
        cases q : valueAt vb p.1 with
        | none => rfl
        | some y => rw [q] at hv; exact hv.elim
      have : hitB ls p = false := by unfold hitB; rw [e]
      rw [this, Bool.false_and]
      exact .miss hn
    | some y =>
      rw [e] at hv
      obtain ⟨u, eu, ru⟩ := hv.some_of
      rw [h1] at eu
      have : hitB ls p = eqV p.2 y := by unfold hitB; rw [e]
      rw [this]
      have fy : flatV y = true := by
        have hm : y ∈ ls.map (·.2) := by
          unfold valV at e
          cases q : ls.find? fun kv => decide (kv.1 = p.1) with
          | none => rw [q] at e; cases e
          | some r =>
            rw [q] at e
            cases e
            exact List.mem_map.mpr ⟨r, List.mem_of_find?_eq_some q, rfl⟩
        exact List.all_eq_true.mp hl _ hm
      exact .hit eu (eqAt_V h2 ru hf.1 fy) (hits_b rb hl t hf.2)
theorem hitsP_of {prog : Program} {w : World} {A : Around} {s : Shared} {kb : List (Key × Value)} {ka : List (Key × Value)} {r : Bool} (h : PySem.W.KeqHits A s kb ka r) : PySem.W.KeqHitsP prog w A s kb ka r := by
  induction h with
  | nil => exact .nil
  | miss h => exact .miss h
  | hit h e _ ih => exact .hit h e.eqP ih
section
variable {X : Cx}
def rDctB (neg : Bool) : R2 := fun x y H Q => ∃ a b ks ls, x = .ref a ∧ y = .ref b ∧ Rd H a (.dK ks) ∧ Rd H b (.dK ls) ∧ (ks.map (·.2)).all flatV = true ∧ (ls.map (·.2)).all flatV = true ∧ Q (.bl ((ks.length == ls.length && ks.all (hitB ls)) != neg)) H
theorem op_eq_dctB (hu : X.A.units < cLine) : OpR X (compareOp .Eq) (rDctB false) := by
  intro pins s σ H x y v u Q I rx ry h
  obtain ⟨a, b, ks, ls, rfl, rfl, ea, eb, fa, fb, q⟩ := h
  obtain rfl : v = Value.ref a := rx
  obtain rfl : u = Value.ref b := ry
  obtain ⟨_, ya, va, ra, da⟩ := dk_rd I.hok ea
  obtain ⟨_, yb, vb, rb, db⟩ := dk_rd I.hok eb
  refine PySem.W.keq_eq (knd := mixKind X.prog X.w) (r := ks.all (hitB ls)) ya yb da db hu (fun _ => hits_b rb fb ra fa) ⟨.bl _, H, I, ?_, q⟩
  show _ = Value.bool _
  rw [show va.length = ks.length from ra.length.symm, show vb.length = ls.length from rb.length.symm]
  simp
theorem op_ne_dctB (hu : X.A.units < cLine) : OpR X (compareOp .NotEq) (rDctB true) := by
  intro pins s σ H x y v u Q I rx ry h
  obtain ⟨a, b, ks, ls, rfl, rfl, ea, eb, fa, fb, q⟩ := h
  obtain rfl : v = Value.ref a := rx
  obtain rfl : u = Value.ref b := ry
  obtain ⟨_, ya, va, ra, da⟩ := dk_rd I.hok ea
  obtain ⟨_, yb, vb, rb, db⟩ := dk_rd I.hok eb
  refine PySem.W.keq_ne (knd := mixKind X.prog X.w) (r := ks.all (hitB ls)) ya yb da db hu (fun _ => hits_b rb fb ra fa) ⟨.bl _, H, I, ?_, q⟩
  show _ = Value.bool _
  rw [show va.length = ks.length from ra.length.symm, show vb.length = ls.length from rb.length.symm]
  simp
/-- parts that are equal: data, or dicts of flat values -/
def PartEq (K : PySem.W.Frag) (H : Hp) (x y : V) : Prop := (∃ d e, Dp K H x d ∧ Dp K H y e ∧ SeqAt.shaped d = true ∧ SeqAt.shaped e = true ∧ PyData.eqv d e = true) ∨
  ∃ a b ks ls, x = .ref a ∧ y = .ref b ∧ a ≠ b ∧ Rd H a (.dK ks) ∧ Rd H b (.dK ls) ∧ (ks.map (·.2)).all flatV = true ∧ (ls.map (·.2)).all flatV = true ∧ (ks.length == ls.length && ks.all (hitB ls)) = true
theorem part_eq {pins : List (Addr × Obj)} {σ : L2.St} {H : Hp} {s : Shared} (I : Inv X pins σ H s) {A : Around} (hu : A.units + 65 < cLine) {x y : V} {v u : Value} (rx : RelV x v) (ry : RelV y u) (h : PartEq X.K H x y) : EqP X.prog X.w A s v u true := by
  rcases h with ⟨d, e, hd, he, sd, se, q⟩ | ⟨a, b, ks, ls, rfl, rfl, ne, ea, eb, fa, fb, q⟩
  · obtain ⟨as, r1⟩ := Dp.reads I d x v hd rx
    obtain ⟨bs, r2⟩ := Dp.reads I e y u he ry
    have := SeqAt.eqAt_reads d e A s v u as bs r1 r2 (SeqAt.canLay_of_shaped sd) (SeqAt.canLay_of_shaped se) (SeqAt.room_of_shaped sd (by omega))
    rw [q] at this
    exact this.eqP
  · obtain rfl : v = Value.ref a := rx
    obtain rfl : u = Value.ref b := ry
    obtain ⟨_, ya, va, ra, da⟩ := dk_rd I.hok ea
    obtain ⟨_, yb, vb, rb, db⟩ := dk_rd I.hok eb
    refine SeqAt.eqP_refs ne fun E Q hq => PySem.W.rcP_dicts (knd := mixKind X.prog X.w) (r := ks.all (hitB ls)) ya yb da db (by omega) (fun _ => ?_) E Q ?_
    · exact hitsP_of (hits_b rb fb ra fa)
    · rw [show va.length = ks.length from ra.length.symm, show vb.length = ls.length from rb.length.symm, q]
      exact hq
/-- tuples whose parts are equal -/
def rNeParts (K : PySem.W.Frag) : R2 := fun x y H Q => ∃ a b xs ys, x = .ref a ∧ y = .ref b ∧ SqT K H a xs ∧ SqT K H b ys ∧ Paired (PartEq K H) xs ys ∧ Q (.bl false) H
theorem parts_eq {pins : List (Addr × Obj)} {σ : L2.St} {H : Hp} {s : Shared} (I : Inv X pins σ H s) {A : Around} (hu : A.units + 65 < cLine) : ∀ {xs ys : List V} {us ws : List Value}, Paired (PartEq X.K H) xs ys → Vals xs us → Vals ys ws → us.length = ws.length ∧ ∀ j (h1 : j < us.length) (h2 : j < ws.length), EqP X.prog X.w A s us[j] ws[j] true
  | _, _, _, _, .nil, .nil, .nil => ⟨rfl, fun j h => absurd h (Nat.not_lt_zero _)⟩
  | _, _, _, _, .cons h t, .cons r1 t1, .cons r2 t2 => by
    obtain ⟨e, f⟩ := parts_eq I hu t t1 t2
    refine ⟨by simp [e], fun j h1 h2 => ?_⟩
    cases j with
    | zero => exact part_eq I hu r1 r2 h
    | succ j => exact f j (by simpa using h1) (by simpa using h2)
theorem op_ne_parts (hu : X.A.units + 70 < cLine) : OpR X (compareOp .NotEq) (rNeParts X.K) := by
  intro pins s σ H x y v u Q I rx ry h
  obtain ⟨a, b, xs, ys, rfl, rfl, ha, hb, hp, q⟩ := h
  obtain rfl : v = Value.ref a := rx
  obtain rfl : u = Value.ref b := ry
  obtain ⟨us, r1, p1, _⟩ := I.tuple ha
  obtain ⟨ws, r2, p2, _⟩ := I.tuple hb
  obtain ⟨e, f⟩ := parts_eq I (A := X.A.in1) (by show X.A.units + 1 + 65 < cLine; omega) hp r1 r2
  refine ne_tuplesP p1 p2 (by omega) (e := fun _ => true) (fun j h1 h2 => ?_) ⟨.bl false, H, I, ?_, q⟩
  · exact f j (by simpa using h1) (by simpa using h2)
  · show _ = Value.bool _
    have hz : us.toArray.size = ws.toArray.size := by simp [e]
    rw [hz]
    simp
end
section
variable {W : Wd}
/-- two dicts of the store, of atoms -/
def dctEq (l l' : List (Key × FL.D)) : Prop := l.length = l'.length ∧ ∀ p ∈ l, getKD l' p.1 = some p.2
def fDctEq (neg : Bool) : F2 := fun st x y P => ∃ i j l l', x = .ref i ∧ y = .ref j ∧ dctD st i = some l ∧ dctD st j = some l' ∧ (l.map (·.2)).all atomD = true ∧ (l'.map (·.2)).all atomD = true ∧ ∀ r : Bool, (r = true ↔ dctEq l l') → P (.bl (r != neg)) st
theorem hit_is {m : List Addr} {H : Hp} {l' : List (Key × FL.D)} {ls : List (Key × V)} (h' : IsK W m H l' ls) (f' : (l'.map (·.2)).all atomD = true) : ∀ {l : List (Key × FL.D)} {ks : List (Key × V)}, IsK W m H l ks → (l.map (·.2)).all atomD = true → (ks.all (hitB ls) = true ↔ ∀ p ∈ l, getKD l' p.1 = some p.2)
  | [], _, h, _ => by
    have h : _ = [] := h
    subst h
    simp
  | (k, d) :: l, _, ⟨v, r, e, h0, ht⟩, hf => by
    subst e
    simp only [List.map_cons, List.all_cons, Bool.and_eq_true] at hf
    have ih := hit_is h' f' ht hf.2
    obtain ⟨g1, g2⟩ := isK_get (k := k) h'
    have h1 : hitB ls (k, v) = true ↔ getKD l' k = some d := by
      unfold hitB
      cases q : getKD l' k with
      | none => simp [g1 q]
      | some d' =>
        obtain ⟨y, ey, hy⟩ := g2 d' q
        have fd : atomD d' = true := by
          unfold getKD at q
          cases q2 : l'.find? fun p => decide (p.1 = k) with
          | none => rw [q2] at q; cases q
          | some p =>
            rw [q2] at q
            cases q
            exact List.all_eq_true.mp f' _ (List.mem_map.mpr ⟨p, List.mem_of_find?_eq_some q2, rfl⟩)
        simp only [ey, Option.some.injEq]
        rw [atom_eq h0 hy hf.1 fd]
        exact eq_comm
    rw [List.all_cons, Bool.and_eq_true, h1, ih]
    simp
theorem rl_dctEq (neg : Bool) : Rl2 W (rDctB neg) (fDctEq neg) := fun m H st x y v w P Q O hx hy ⟨i, j, l, l', ex, ey, el, el', f1, f2, q⟩ k => by
  subst ex ey
  obtain ⟨a, em, ev⟩ := hx
  obtain ⟨b, em', ew⟩ := hy
  obtain ⟨ks, h1, h2⟩ := dct_at O em el
  obtain ⟨ls, h3, h4⟩ := dct_at O em' el'
  refine ⟨a, b, ks, ls, ev, ew, h1, h3, atom_all (isK_vals h2) f1, atom_all (isK_vals h4) f2, k _ st m H _ (q _ ?_) (.refl _ _) O rfl⟩
  rw [Bool.and_eq_true, hit_is h4 f2 h2 f1]
  unfold dctEq
  rw [h2.length, h4.length]
  simp
end
end FL
/-! FQ: dict displays, list(d.items()), len(dict(pairs with tuples as keys)), == of dicts and parts on data. -/
namespace FL
open PySem PySem.Spec PyProof.Rows L2

section
variable {X : Cx} {W : Wd} {E : XK} {pos : Pos} {a b c e o i : Expr} {es : List Expr} {ta tb tc tv : TD} {tl : TDL} {apos cpos : Pos}
/-! ### {k: v, ..} -/
def dPairs : List (TD × TD) → DV → SD → (List (FL.D × FL.D) → SD → Prop) → DX → Prop
  | [], _, st, P, _ => P [] st
  | (tk, tv) :: r, env, st, P, Ex => tk env st (fun x st1 => tv env st1 (fun y st2 => dPairs r env st2 (fun ps st3 => P ((x, y) :: ps) st3) Ex) Ex) Ex
def IsP (W : Wd) (m : List Addr) (H : Hp) : List (FL.D × FL.D) → List (V × V) → Prop
  | [], vs => vs = []
  | (x, y) :: l, vs => ∃ v w r, vs = (v, w) :: r ∧ Is W m H x v ∧ Is W m H y w ∧ IsP W m H l r
inductive PPD (X : Cx) (W : Wd) (E : XK) (pos : Pos) : List (Option Expr) → List Expr → List (TD × TD) → Prop where
  | nil : PPD X W E pos [] [] []
  | cons {k v : Expr} {tk tv : TD} {ks : List (Option Expr)} {vs : List Expr} {ts : List (TD × TD)} (hk : PE X k (lift W E tk)) (hv : PE X v (lift W E tv)) (r : PPD X W E pos ks vs ts) : PPD X W E pos (some k :: ks) (v :: vs) ((tk, tv) :: ts)
def liftP (W : Wd) (E : XK) (p : TD × TD) : TE × TE := (lift W E p.1, lift W E p.2)
theorem PPD.pps {ks : List (Option Expr)} {vs : List Expr} {ts : List (TD × TD)} (h : PPD X W E pos ks vs ts) : PPs X pos ks vs (ts.map (liftP W E)) := by
  induction h with
  | nil => exact pps_nil
  | cons hk hv _ ih => exact pps_cons hk hv ih
theorem pairs_core : ∀ {ts : List (TD × TD)} {m : List Addr} {H : Hp} {st : SD} {env : DV} {σ : L2.St} {P : List (FL.D × FL.D) → SD → Prop} {Q : List (V × V) → Hp → Prop} {Ex : DX}, Sim W m H st env σ → dPairs ts env st P Ex → (∀ ps st' m' H' vs, P ps st' → Stp m H m' H' → StOk W m' H' st' → IsP W m' H' ps vs → Q vs H') → Exn W m H Ex E → tPairs (ts.map (liftP W E)) σ H Q
  | [], m, H, st, env, σ, P, Q, Ex, r, q, k, x => k [] st m H [] q (.refl _ _) r.ok rfl
  | (tk, tv) :: ts, m, H, st, env, σ, P, Q, Ex, r, q, k, x => ⟨m, st, env, _, Ex, r, q, fun d st1 m1 H1 v q1 S1 O1 h1 => ⟨m1, st1, env, _, Ex, r.go S1 O1, q1, fun d2 st2 m2 H2 w q2 S2 O2 h2 =>
    pairs_core ((r.go S1 O1).go S2 O2) q2 (fun ps st' m' H' vs p S O hp => k _ st' m' H' _ p ((S1.trans S2).trans S) O ⟨v, w, vs, rfl, Is.mono (S2.trans S) O1.mut d v h1, Is.mono S O2.mut d2 w h2, hp⟩) ((x.go S1).go S2), x.go S1⟩, x⟩
def keysP : List (FL.D × FL.D) → List (Key × FL.D) → Prop
  | [], l => l = []
  | (x, y) :: r, l => ∃ k l', l = (k, y) :: l' ∧ keyOf x = some k ∧ keysP r l'
theorem keysP_is {m : List Addr} {H : Hp} : ∀ {ps : List (FL.D × FL.D)} {vs : List (V × V)} {l : List (Key × FL.D)}, IsP W m H ps vs → keysP ps l → ∃ kvs, vs = kvs.map (fun kv => (kV kv.1, kv.2)) ∧ IsK W m H l kvs
  | [], _, _, h, h' => by
    have h : _ = [] := h
    have h' : _ = [] := h'
    subst h h'
    exact ⟨[], rfl, rfl⟩
  | (x, y) :: ps, _, _, ⟨v, w, r, e, hx, hy, t⟩, ⟨k, l', e', ek, t'⟩ => by
    subst e e'
    obtain ⟨kvs, e1, e2⟩ := keysP_is t t'
    have := key_is hx ek
    subst this
    exact ⟨(k, w) :: kvs, by rw [e1]; rfl, w, kvs, rfl, hy, e2⟩
def dDisp (ts : List (TD × TD)) : TD := fun env st P Ex => dPairs ts env (st ++ [.dct []]) (fun ps st2 => st2[st.length]? = some (.dct []) ∧ ∃ l, keysP ps l ∧ l.length ≤ 15 ∧ P (.ref st.length) (st2.set st.length (.dct (mergeKD [] l)))) Ex
theorem d_disp {keys : List (Option Expr)} {values : List Expr} {ts : List (TD × TD)} (h : PPD X W E pos keys values ts) (hall : keys.all (·.isSome) = true) (hl : keys.length = values.length) (h0 : keys ≠ []) (h15 : keys.length ≤ 15) : PE X (.Dict keys values pos) (lift W E (dDisp ts)) :=
  pe_lift (pe_disp h.pps hall hl h0 h15) fun σ H Q ⟨m, st, env, P, Ex, r, q, k, x⟩ p hp => by
    obtain ⟨n1, n2, n3⟩ := obj_new r.ok (ob := .dct []) (ho := .dK []) hp fun H' m' S e => ⟨[], e, rfl⟩
    have ep : (m ++ [p])[st.length]? = some p := by rw [← r.ok.len]; simp
    refine pairs_core (r.go n1 n2) q (fun ps st' m' H' vs ⟨es, l, hk, hz, q'⟩ S O hp' => ?_) (x.go n1)
    obtain ⟨kvs, e1, e2⟩ := keysP_is hp' hk
    obtain ⟨a', e', kvs0, h1, h2⟩ := O.at es
    rw [S.at ep] at e'
    cases e'
    have h2 : kvs0 = [] := h2
    subst h2
    have hf : ∀ o u, H' p ≠ some (.frz o u) := fun o u z => by rw [h1] at z; cases z
    have S2 : Stp m' H' m' (upd H' p (.dK (mergeK [] kvs))) := Stp.set (S.at ep) hf
    have O2 := O.set (ob := .dct (mergeKD [] l)) (S.at ep) hf ⟨_, upd_same, IsK.mono S2 O.mut _ _ (isK_merge e2 rfl)⟩
    exact ⟨h1, kvs, e1, by rw [← e2.length]; exact hz, k _ _ m' _ _ q' ((n1.trans S).trans S2) O2 ⟨p, S.at ep, rfl⟩⟩
/-! ### list(d.items()) -/
theorem grow {m : List Addr} {H H' : Hp} {st : SD} (O : StOk W m H st) (k : ∀ b o, H b = some o → H' b = some o) : Stp m H m H' ∧ StOk W m H' st := by
  have S : Stp m H m H' := ⟨⟨[], by simp, by simp⟩, fun a o e _ _ => k a o e, fun a o u e => k a _ e, fun a e => by
    cases q : H a with
    | none => rfl
    | some o => rw [k a o q] at e; cases e⟩
  have t := O.tab S fun a ps e => k a _ e
  refine ⟨S, O.len, O.nd, fun i ob a e1 e2 => (O.obj i ob a e1 e2).mono S O.mut ?_, t.1, t.2.1, t.2.2⟩
  have mu := O.mut a (List.mem_of_getElem? e2)
  cases q : H a with
  | none => rw [q] at mu; exact mu.elim
  | some o => exact k a o q
def fItemsL : F1 := fun st x P => ∃ j l, x = .ref j ∧ st[j]? = some (.dct l) ∧ P (.lst (l.map fun p => .tup [keyD p.1, p.2])) st
theorem items_is {m : List Addr} {H' : Hp} : ∀ {l : List (Key × FL.D)} {kvs : List (Key × V)} {ts : List Addr}, IsK W m H' l kvs → Paired (fun (t : Addr) (q : Key × V) => H' t = some (.tup [kV q.1, q.2])) ts kvs → IsL W m H' (l.map fun p => .tup [keyD p.1, p.2]) (ts.map V.ref)
  | [], _, ts, h, hp => by
    have h : _ = [] := h
    subst h
    cases hp
    rfl
  | (k, d) :: l, _, _, ⟨v, r, e, h0, ht⟩, hp => by
    subst e
    cases hp with
    | cons h t =>
      refine ⟨_, _, rfl, ⟨_, _, rfl, .inl (.inl h), kV k, [v], rfl, is_key k, v, [], rfl, h0, rfl⟩, items_is ht t⟩
theorem d_itemsL {p : Pos} (hc : X.calm = true) (he : PE X e (lift W E ta)) (hg : Gl X "list") (hm : X.mg "list" = none) (hv : bootBuiltins "list" = some (.type "list")) (hbase : attributeBase e "items" X.env (eval e X.env) = eval e X.env := by rfl) (hline : (apos.endLine == cpos.line) = true := by rfl)
    (hs : starEach [.Call (.Attribute e "items" apos) [] [] cpos] X.env = (false, eval (.Call (.Attribute e "items" apos) [] [] cpos) X.env) :: starEach [] X.env := by rfl) :
    PE X (.Call (.Name "list" p) [.Call (.Attribute e "items" apos) [] [] cpos] [] pos) (lift W E (dUn fItemsL ta)) :=
  pe_lift (LiI.pe_listItems hc he hg hm hv hbase hline hs) fun σ H Q h => un_core (r := LiI.rItemsL) (fun m H st x v P Q O hx ⟨j, l, ex, el, q⟩ k => by
    subst ex
    obtain ⟨a, em, ev⟩ := hx
    obtain ⟨a', em', kvs, h1, h2⟩ := O.at el
    rw [em] at em'
    cases em'
    refine ⟨a, kvs, ev, h1, fun H' p ts hk hp hts hnp hl hpair => ?_⟩
    obtain ⟨S, O'⟩ := grow O hk
    have hpm := O.notMem hp
    exact k _ st m H' _ q S O' ⟨p, _, rfl, hl, hpm, items_is (IsK.mono S O.mut l kvs h2) hpair⟩) h
/-! ### == of dicts, of tuples whose parts are dicts -/
def partEq (st : SD) (x y : FL.D) : Prop := (∃ a, flatD st x = some a ∧ flatD st y = some a ∧ plainD 50 a = true) ∨ ∃ i j l l', x = .ref i ∧ y = .ref j ∧ i ≠ j ∧ dctD st i = some l ∧ dctD st j = some l' ∧ (l.map (·.2)).all atomD = true ∧ (l'.map (·.2)).all atomD = true ∧ dctEq l l'
def partsEq (st : SD) : List FL.D → List FL.D → Prop
  | [], ys => ys = []
  | x :: xs, ys => ∃ y r, ys = y :: r ∧ partEq st x y ∧ partsEq st xs r
/-- x != y, of parts that are equal -/
def fNeParts : F2 := fun st x y P => ∃ xs ys, x = .tup xs ∧ y = .tup ys ∧ partsEq st xs ys ∧ P (.bl false) st
theorem part_is {m : List Addr} {H : Hp} {st : SD} (O : StOk W m H st) {x y : FL.D} {v w : V} (hx : Is W m H x v) (hy : Is W m H y w) (h : partEq st x y) : PartEq W.K H v w := by
  rcases h with ⟨a, e1, e2, hp⟩ | ⟨i, j, l, l', ex, ey, ne, el, el', f1, f2, q⟩
  · exact .inl ⟨py a, py a, dp_flat O hx e1 hp, dp_flat O hy e2 hp, py_shaped hp (by decide), py_shaped hp (by decide), (py_eqv 50 a a hp hp).mpr rfl⟩
  · subst ex ey
    obtain ⟨a, em, ev⟩ := hx
    obtain ⟨b, em', ew⟩ := hy
    obtain ⟨ks, h1, h2⟩ := dct_at O em el
    obtain ⟨ls, h3, h4⟩ := dct_at O em' el'
    refine .inr ⟨a, b, ks, ls, ev, ew, fun z => ne ?_, h1, h3, atom_all (isK_vals h2) f1, atom_all (isK_vals h4) f2, ?_⟩
    · subst z
      obtain ⟨h1, q1⟩ := List.getElem?_eq_some_iff.mp em
      obtain ⟨h2, q2⟩ := List.getElem?_eq_some_iff.mp em'
      exact (List.getElem_inj O.nd).mp (q1.trans q2.symm)
    · rw [Bool.and_eq_true, hit_is h4 f2 h2 f1]
      unfold dctEq at q
      rw [h2.length, h4.length] at q
      exact ⟨beq_iff_eq.mpr q.1, q.2⟩
theorem parts_is {m : List Addr} {H : Hp} {st : SD} (O : StOk W m H st) : ∀ {xs ys : List FL.D} {vs ws : List V}, IsL W m H xs vs → IsL W m H ys ws → partsEq st xs ys → Paired (PartEq W.K H) vs ws
  | [], _, _, _, h, h', e => by
    have h : _ = [] := h
    have e : _ = [] := e
    subst h e
    have h' : _ = [] := h'
    subst h'
    exact .nil
  | x :: xs, _, _, _, ⟨v, r, ev, h0, ht⟩, h', ⟨y, r2, ey, hp, hps⟩ => by
    subst ev ey
    obtain ⟨w, r3, ew, h0', ht'⟩ := h'
    subst ew
    exact .cons (part_is O h0 h0' hp) (parts_is O ht ht' hps)
theorem rl_neParts {K : PySem.W.Frag} (hK : K = W.K) : Rl2 W (rNeParts K) fNeParts := fun m H st x y v w P Q O hx hy ⟨xs, ys, ex, ey, hp, q⟩ k => by
  subst ex ey hK
  obtain ⟨a, vs, ev, hq, hi⟩ := hx
  obtain ⟨b, ws, ew, hq', hi'⟩ := hy
  exact ⟨a, b, vs, ws, ev, ew, hq, hq', parts_is O hi hi' hp, k _ st m H _ q (.refl _ _) O rfl⟩
end
end FL
/-! FR: len(dict(pairs)), keys tuples. -/
namespace FL
open PySem PySem.Spec PyProof.Rows L2

/-- an exact dict of n entries -/
def rawN (p : Addr) (n : Nat) : HO := .ext fun h => (n ≤ sizeLine ∧ (p == sysModules) = false) ∧ ∃ o es ep, h.get? p = some o ∧ o.ExactDict ∧ o.data = .dict es ep ∧ es.size = n
/-- the keys, each once -/
def distinct {α : Type} [DecidableEq α] (l : List α) : List α := l.foldl (fun acc k => if k ∈ acc then acc else acc ++ [k]) []
section
variable {K : Type} [DecidableEq K]
theorem atKey_some (xs : List (K × Addr × Value)) (k : K) : (atKey xs k).isSome = decide (k ∈ xs.map (·.1)) := by
  unfold atKey
  rw [Option.isSome_map]
  induction xs with
  | nil => rfl
  | cons x xs ih =>
    rw [List.find?_cons]
    by_cases h : x.1 = k
    · simp [h]
    · simp only [h, decide_false]
      rw [ih]
      simp [Ne.symm h]
theorem storedH_keys' (xs : List (K × Addr × Value)) (k : K) (a : Addr) (v : Value) : (storedH xs k a v).map (·.1) = if k ∈ xs.map (·.1) then xs.map (·.1) else xs.map (·.1) ++ [k] := by
  unfold storedH
  rw [atKey_some]
  by_cases h : k ∈ xs.map (·.1)
  · simp only [h, decide_true, if_true]
    rw [List.map_map]
    refine List.map_congr_left fun x _ => ?_
    show (putAt k v x).1 = x.1
    unfold putAt
    split <;> rfl
  · simp only [h, decide_false, if_false, Bool.false_eq_true]
    rw [List.map_append]
    rfl
theorem storedAllH_keys' : ∀ (ps xs : List (K × Addr × Value)), (storedAllH xs ps).map (·.1) = (ps.map (·.1)).foldl (fun acc k => if k ∈ acc then acc else acc ++ [k]) (xs.map (·.1))
  | [], _ => rfl
  | p :: ps, xs => by
    show (storedAllH (storedH xs p.1 p.2.1 p.2.2) ps).map (·.1) = _
    rw [storedAllH_keys' ps, storedH_keys', List.map_cons, List.foldl_cons]
theorem storedAllH_len (ps : List (K × Addr × Value)) : (storedAllH [] ps).length = (distinct (ps.map (·.1))).length := by
  have := congrArg List.length (storedAllH_keys' ps [])
  rw [List.length_map] at this
  exact this
end
section
variable {X : Cx}
abbrev RowN := List Key × Addr × V
def rDictN (K : PySem.W.Frag) : List V → Hp → VK → Prop := fun xs H Q => ∃ (a : Addr) (ps : List Addr) (rows : List RowN), xs = [.ref a] ∧ SqL K H a (ps.map V.ref) ∧ Paired (fun p (q : RowN) => SqT K H p [.ref q.2.1, q.2.2] ∧ SqT K H q.2.1 (q.1.map kV)) ps rows ∧
  ∀ p, H p = none → Q (.ref p) (upd H p (rawN p (distinct (rows.map (·.1))).length))
theorem rows_of {pins : List (Addr × Obj)} {σ : L2.St} {H : Hp} {s : Shared} (I : Inv X pins σ H s) : ∀ {ps : List Addr} {rows : List RowN}, Paired (fun p (q : RowN) => SqT X.K H p [.ref q.2.1, q.2.2] ∧ SqT X.K H q.2.1 (q.1.map kV)) ps rows →
    ∃ qs : List (List Key × Addr × Value), qs.map (·.1) = rows.map (·.1) ∧ qs.length = ps.length ∧ ∀ (j : Nat) (q : List Key × Addr × Value), qs[j]? = some q → (∃ p, ps[j]? = some p ∧ IsTup s.heap p #[.ref q.2.1, q.2.2]) ∧ (tupleKind (mixKind X.prog X.w)).is s.heap q.1 q.2.1
  | _, _, .nil => ⟨[], rfl, rfl, fun j q e => by simp at e⟩
  | _, _, .cons (a := p) (b := kv) h t => by
    obtain ⟨qs, r, hl, hp⟩ := rows_of I t
    obtain ⟨its, rv, ht, _⟩ := I.tuple h.1
    obtain ⟨its2, rv2, ht2, _⟩ := I.tuple h.2
    obtain ⟨u, y, ei, ru, ry⟩ := vals2 rv
    subst ei
    obtain rfl : u = .ref kv.2.1 := ru
    obtain ⟨o, h1, h2, n, h3⟩ := ht2
    refine ⟨(kv.1, kv.2.1, y) :: qs, by rw [List.map_cons, List.map_cons, r], by rw [List.length_cons, List.length_cons, hl], fun j q e => ?_⟩
    cases j with
    | zero =>
      have e' : (kv.1, kv.2.1, y) = q := Option.some.inj e
      subst e'
      exact ⟨⟨p, rfl, ht⟩, o, its2.toArray, n, h1, h2, h3, by simpa using items_are rv2⟩
    | succ j =>
      obtain ⟨⟨b, e1, e2⟩, e3⟩ := hp j q (by simpa using e)
      exact ⟨⟨b, by simpa using e1, e2⟩, e3⟩
theorem call_dictN (hcalm : X.calm = true) (hu : X.A.units + 2 < cLine) : CallR X (.type "dict") (rDictN X.K) := by
  intro pins s σ H xs us Q I r q
  obtain ⟨a, ps, rows, ex, hq, hp, q⟩ := q
  subst ex
  obtain ⟨u, eu, rx⟩ := vals1 r
  subst eu
  cases rx
  obtain ⟨its, rv, pl, hz⟩ := I.list hq
  have ei := refs_at rv
  subst ei
  rw [List.length_map] at hz
  obtain ⟨qs, ek, hl, hpr⟩ := rows_of I hp
  obtain ⟨o, n, ho, hc, hd, hdat⟩ := pl
  have P := PairArg.list (prog := X.prog) (w := X.w) a (ps.map Value.ref).toArray (fun j => (ps[j]?).getD 0) (qs.map fun q => (Value.ref q.2.1, q.2.2))
  have hnn : (qs.map fun q => (Value.ref q.2.1, q.2.2)).length = ps.length := by rw [List.length_map, hl]
  refine PySem.call_dict_pairsH (knd := tupleKind (mixKind X.prog X.w)) (ps := qs) P (I.ok.hd hcalm) (show X.A.in1.in1.units < cLine from hu) ⟨⟨o, n, ho, hc, hd, hdat⟩, ?_, ?_⟩ ⟨by rw [hnn, hl], fun i key v e => ?_⟩ (fun h' hk x hx => ?_) (by rw [hnn]; exact hz) fun h' tk hd' hk => ?_
  · rw [List.size_toArray, List.length_map, hnn]
  · intro j k v e
    rw [List.getElem?_map] at e
    cases e2 : qs[j]? with
    | none => rw [e2] at e; cases e
    | some q' =>
      rw [e2] at e
      cases e
      obtain ⟨⟨p, e3, e4⟩, _⟩ := hpr j q' e2
      refine ⟨by simp [e3], .inl ?_⟩
      show s.heap.IsTuple ((ps[j]?).getD 0) _
      rw [e3]
      exact e4
  · have e : (qs.map fun q => (Value.ref q.2.1, q.2.2))[i]? = some (key, v) := e
    rw [List.getElem?_map] at e
    cases e2 : qs[i]? with
    | none => rw [e2] at e; cases e
    | some q' =>
      rw [e2] at e
      cases e
      exact ⟨q'.1, q'.2.1, rfl, rfl⟩
  · obtain ⟨j, hj⟩ := List.mem_iff_getElem?.mp hx
    obtain ⟨_, o2, it2, n2, g1, g2, g3, g4⟩ := hpr j x hj
    exact ⟨o2, it2, n2, hk _ _ (Nat.ne_of_lt (Heap.lt_size g1)) (by simp) g1, g2, g3, g4⟩
  · have hlen := storedAllH_len qs
    rw [ek] at hlen
    obtain ⟨od, es, ep, g1, g2, g3, g4, _⟩ := hd'
    have hsize : es.size = (distinct (rows.map (·.1))).length := by
      rw [← hlen, ← Array.length_toList, g4, List.length_map]
    have hmod : (s.heap.objs.size == sysModules) = false := beq_eq_false_iff_ne.mpr (Nat.ne_of_gt I.big)
    have hle : (distinct (rows.map (·.1))).length ≤ sizeLine := by
      rw [← hlen]
      have := storedAllH_length qs []
      rw [List.length_nil, Nat.zero_add, hl] at this
      exact Nat.le_trans this hz
    exact ⟨.ref s.heap.objs.size, upd H s.heap.objs.size (rawN s.heap.objs.size _), I.laid (t' := tk) (fun b o e => hk b o (by simp) e) (Nat.le_refl _) ⟨⟨⟨hle, hmod⟩, od, es, ep, g1, g2, g3, hsize⟩, ⟨od, g1⟩, fun h1 h2 ⟨z, o, es, ep, y1, y2⟩ k => ⟨z, o, es, ep, k o y1, y2⟩⟩, rfl, q _ (I.hok.fresh (Nat.le_refl _))⟩
section
variable {prog : Program} {w : World} {A : Around} {E : Value → Shared → Prop} {s : Shared}
abbrev RawD (h : Heap) (d : Addr) (n : Nat) : Prop := ∃ o es ep, h.get? d = some o ∧ o.ExactDict ∧ o.data = .dict es ep ∧ es.size = n
theorem meets_lenN (d : Addr) (n : Nat) (hd : (d == sysModules) = false) :
    MeetsIn prog w (Builtin.«dict.__len__» ⟨[.ref d], []⟩) (fun _ R s => RawD s.heap d n ∧ R (.ok (.ret (.int n s.toks))) { s with toks := s.toks + 1 }) :=
  .of_wp fun A R s ⟨⟨o, es, ep, ho, hc, hdat, he⟩, h⟩ => by
    show wpAny _ _ (dictSize d >>= _) _ _ s
    unfold dictSize
    refine wpAny_bind (wpAny_bind (wpAny_dictEntries ho hdat (wpAny_pure ?_)))
    show wpAny _ _ (Builtin.Dict.pendingCount d >>= _) _ _ s
    refine wpAny_bind (wpAny_pendingCount_other hd ?_)
    refine wpAny_ret_mkInt ?_
    rw [Nat.add_zero, he]; exact h
theorem len_bodyN {d : Addr} {n : Nat} {Q : Value → Shared → Prop} (hd : (d == sysModules) = false) (hm : RawD s.heap d n) (hfit : (n : Int) < 2 ^ 63)
    (h : Q (.int n (s.toks + 1)) { s with toks := s.toks + 1 + 1 }) : wpAny (model prog w) A (Builtin.«len» ⟨[.ref d], []⟩) (fun fin s' => ∃ r, fin = .done (.ret r) ∧ Q r s') E s := by
  have ty : s.TypeIs (.ref d) "dict" := let ⟨o, _, _, ho, hc, _⟩ := hm; ⟨o, ho, hc.1⟩
  unfold Builtin.«len»
  refine wpAny_bind (m := oneArg "len" _) (wpAny_pure ?_)
  refine wpAny_bind (m := callSpecial? (.ref d) (Str.ofString "__len__")) (wpAny_callSpecial?_slot (name := Str.ofString "__len__") ty F.slot_dict_len
    (call_meetsIn F.slot_dict_len ty F.entry_dict_len (F.args_dict_len_1 _) (meets_lenN d n hd) ⟨hm, ?_⟩))
  show wpAny _ _ _ _ _ { s with toks := s.toks + 1 }
  refine wpAny_bind (wpAny_holding (wpAny_pure ?_))
  refine wpAny_bind (wpAny_letGo ?_)
  show wpAny _ _ (if ((n : Nat) : Int) < 0 then _ else _) _ _ _
  rw [if_neg (by omega)]
  show wpAny _ _ (if ((n : Nat) : Int) ≥ 2 ^ 63 then _ else _) _ _ _
  rw [if_neg (by omega)]
  exact wpAny_bind (wpAny_mkInt (wpAny_pure ⟨_, rfl, h⟩))
end
def rLenN : List V → Hp → VK → Prop := fun xs H Q => ∃ (p : Addr) (n : Nat), xs = [.ref p] ∧ H p = some (rawN p n) ∧ Q (.int ((n : Nat) : Int)) H
theorem call_lenN : CallR X (.builtin "len") rLenN := by
  intro pins s σ H xs us Q I r h
  obtain ⟨p, n, rfl, hp, q⟩ := h
  obtain ⟨u, rfl, rx⟩ := vals1 r
  obtain rfl : u = .ref p := rx
  obtain ⟨⟨⟨z, hd⟩, dd⟩, _⟩ := I.hok p _ hp
  refine Calls.call_function_entry kind_len plain_len entry_len (args_len1 _) (len_bodyN hd dd (by rw [sizeLine_eq] at z; omega) ?_)
  exact ⟨.int ((n : Nat) : Int), H, I.tok _, ⟨_, rfl⟩, q⟩
end
section
variable {X : Cx} {W : Wd} {E : XK} {pos : Pos} {e : Expr} {ta : TD}
def rowN : FL.D → Option (List Key)
  | .tup [.tup l, _] => l.mapM keyOf
  | _ => none
def fLenDict : F1 := fun st x P => ∃ l ks, lstD st x = some l ∧ l.map rowN = ks.map some ∧ P (.int ((distinct ks).length : Nat)) st
theorem keys_is {m : List Addr} {H : Hp} : ∀ {l : List FL.D} {vs : List V} {k : List Key}, IsL W m H l vs → l.mapM keyOf = some k → vs = k.map kV
  | [], _, k, h, e => by
    have h : _ = [] := h
    subst h
    have : k = [] := by simpa using e.symm
    subst this
    rfl
  | d :: l, _, k, ⟨v, r, ev, h0, ht⟩, e => by
    subst ev
    rw [List.mapM_cons] at e
    cases e1 : keyOf d with
    | none => rw [e1] at e; cases e
    | some k1 =>
      rw [e1] at e
      cases e2 : l.mapM keyOf with
      | none => rw [e2] at e; cases e
      | some k2 =>
        rw [e2] at e
        cases e
        have h1 := key_is h0 e1
        have h2 := keys_is ht e2
        subst h1 h2
        rfl
theorem rows_is {m : List Addr} {H : Hp} : ∀ {l : List FL.D} {vs : List V} {ks : List (List Key)}, IsL W m H l vs → l.map rowN = ks.map some → ∃ (ps : List Addr) (rows : List RowN), vs = ps.map V.ref ∧ rows.map (·.1) = ks ∧ Paired (fun p (q : RowN) => SqT W.K H p [.ref q.2.1, q.2.2] ∧ SqT W.K H q.2.1 (q.1.map kV)) ps rows
  | [], _, ks, h, e => by
    have h : _ = [] := h
    subst h
    have : ks = [] := by
      cases ks with
      | nil => rfl
      | cons a b => simp at e
    subst this
    exact ⟨[], [], rfl, rfl, .nil⟩
  | d :: l, _, [], _, e => by simp at e
  | d :: l, _, k :: ks, ⟨v, r, ev, h0, ht⟩, e => by
    subst ev
    simp only [List.map_cons, List.cons.injEq] at e
    obtain ⟨ps, rows, e1, e2, e3⟩ := rows_is ht e.2
    have e0 := e.1
    unfold rowN at e0
    split at e0
    · rename_i kl d2
      obtain ⟨p, vs2, ep, hq, hi⟩ := h0
      obtain ⟨u, w, ew, hu, hw⟩ := isL2 hi
      obtain ⟨b, kvs, eb, hb, hk⟩ := hu
      have := keys_is hk e0
      subst ew ep eb this
      exact ⟨p :: ps, (k, b, w) :: rows, by rw [e1]; rfl, by rw [List.map_cons, e2], .cons ⟨hq, hb⟩ e3⟩
    · cases e0
/-- len(dict(e)), keys tuples -/
theorem d_lenDict {x y : Str} {p1 p2 p3 : Pos} (hK : X.K = W.K) (hc : X.calm = true) (hu : X.A.units + 2 < cLine) (hg1 : Gl X x) (hm1 : X.mg x = none) (hv1 : bootBuiltins x = some (.builtin "len")) (hg2 : Gl X y) (hm2 : X.mg y = none) (hv2 : bootBuiltins y = some (.type "dict")) (he : PE X e (lift W E ta))
    (hn1 : x ≠ "__name__" := by decide) (hd1 : (x == ("__debug__" : Str)) = false := by decide) (hn2 : y ≠ "__name__" := by decide) (hd2 : (y == ("__debug__" : Str)) = false := by decide)
    (hs1 : starEach [e] X.env = (false, eval e X.env) :: starEach [] X.env := by rfl) (hp1 : (backTo p3 (starEach [] X.env)).any (·.1) = false := by rfl)
    (hs2 : starEach [.Call (.Name y p2) [e] [] p3] X.env = (false, eval (.Call (.Name y p2) [e] [] p3) X.env) :: starEach [] X.env := by rfl) (hp2 : (backTo pos (starEach [] X.env)).any (·.1) = false := by rfl) :
    PE X (.Call (.Name x p1) [.Call (.Name y p2) [e] [] p3] [] pos) (lift W E (dUn fLenDict ta)) :=
  pe_lift (pe_callB call_lenN hg1 hm1 hv1 (pa_cons (pe_callTy (call_dictN hc hu) hg2 hm2 hv2 (pa_cons he pa_nil hs1) hn2 hd2 hs1 hp1) pa_nil hs2) hn1 hd1 hs2 hp2) fun σ H Q ⟨m, st, env, P, Ex, r, q, k, z⟩ => ⟨m, st, env, _, Ex, r, q, fun d st1 m1 H1 v ⟨l, ks, el, ek, q1⟩ S1 O1 h1 => by
    obtain ⟨a, vs, ev, hq, hi⟩ := lst_is O1 h1 el
    obtain ⟨ps, rows, e1, e2, e3⟩ := rows_is hi ek
    subst e1 e2 ev
    rw [← hK] at e3
    refine ⟨a, ps, rows, rfl, .inl (.inl hq), e3, fun p hp => ⟨p, _, rfl, upd_same, ?_⟩⟩
    have n1 : Stp m1 H1 m1 (upd H1 p (rawN p (distinct (rows.map (·.1))).length)) := Stp.new hp
    exact k _ st1 m1 _ _ q1 (S1.trans n1) (O1.new hp) rfl, z⟩
end
end FL
/-! FS: an instance compared with a text. -/
namespace FL
open PySem PySem.Spec PyProof.Rows L2
open AutoSeq1 (wpAny_loadPart')
section
variable {prog : Program} {w : World} {A : Around} {E : Value → Shared → Prop} {s : Shared} {K : PySem.W.Frag} {C a : Addr} {ob : Obj}
/-- a class without an own == -/
structure NoEq (K : PySem.W.Frag) (C : Addr) : Prop where
  eq : PySem.W.findIn K (.ref C) "__eq__" = some (some (.builtin "object.__eq__"))
  ob : PySem.W.mroIn K C (.type "object") = some true
  sub : PySem.W.subIn K (.type "str") (.ref C) = some false
theorem obj_eq_str {z : Str} {t : Tok} {Q : Fin → Shared → Prop} (hq : Q (.done (.ret .notImplemented)) s) : wpAny (model prog w) A (Builtin.«object.__eq__» ⟨[.ref a, .str z t], []⟩) Q E s := by
  unfold Builtin.«object.__eq__»
  repeat (first | wp_step)
  exact hq
theorem str_eq_ins (b : Str) (u : Tok) (l : Addr) (o : Obj) (hd : ∀ z t, o.data ≠ .prim (.str z t)) :
    Meets (Builtin.«str.__eq__» ⟨[.str b u, .ref l], []⟩) (fun _ R s => s.heap.get? l = some o ∧ R (.ok (.ret .notImplemented)) s) :=
  .of_wp fun prog w A R s h => by
    obtain ⟨hp, g, d, tk, os⟩ := s; obtain ⟨hl, h⟩ := h
    wp_walk using wpAny_loadPart' hl, wpAny_load hl
    split
    · rename_i z t e
      exact absurd e (hd z t)
    · wp_walk
      exact ⟨_, rfl, h⟩
theorem ins_eq_str {z : Str} {t : Tok} (X : K.In s.heap) (n : NoEq K C) (ho : s.heap.get? a = some ob) (hc : ob.cls = .ref C) (hd : ∀ z t, ob.data ≠ .prim (.str z t)) (hu : A.units < cLine) {Q : Value → Shared → Prop} (hq : Q (.bool false) s) : wpAny (model prog w) A (richCompare .Eq (.ref a) (.str z t)) Q E s := by
  have L1 : PySem.W.Looks (model prog w) s.heap (typeOf (.ref a)) (.ref C) := (PySem.W.Looks.ld ho).andThen (by rw [hc]; exact .now)
  have L2 : PySem.W.Looks (model prog w) s.heap (specialOf (.ref a) "__eq__") (some (.builtin "object.__eq__")) := L1.andThen (PySem.W.looks_findIn X n.eq)
  have L3 : PySem.W.Looks (model prog w) s.heap (isInstance (.ref a) (.type "object")) true := L1.andThen (PySem.W.looks_mroIn X n.ob)
  have L4 : PySem.W.Looks (model prog w) s.heap (isSubtype (.type "str") (.ref C)) false := PySem.W.looks_subIn X n.sub
  have one : wpAny (model prog w) A (tryCompare (.ref a) "__eq__" (.str z t)) (fun r s' => r = none ∧ s' = s) E s := by
    simp only [tryCompare]
    refine wpAny_bind (NtL.csib (E := E) L2 (PySem.F.cmp_object.eq.bind _) ?_)
    refine wpAny_call (codeAny_call_builtin PySem.F.cmp_object.eq.plain PySem.F.cmpEntry_eq (@PySem.W.check_slot (model prog w) _ _ _ "object.__eq__" "object" "__eq__" (.ref a) [.str z t] [] _ PySem.F.cmpKind_eq PySem.F.cmpSplit_eq L3 (PySem.F.cmpArgs_eq _ _) (obj_eq_str ?_)))
    exact wpAny_pure ⟨rfl, rfl⟩
  have two : wpAny (model prog w) A (tryCompare (.str z t) "__eq__" (.ref a)) (fun r s' => r = none ∧ s' = s) E s := by
    simp only [tryCompare]
    refine wpAny_bind (wpAny_callSpecialIfBound?_slot (typeIs_str s z t) PySem.F.slot_str_eq (call_meets PySem.F.slot_str_eq (typeIs_str s z t) PySem.F.entry_str_eq (PySem.F.args_str_eq_2 _ _) (str_eq_ins z t a ob hd) ⟨ho, ?_⟩))
    exact wpAny_pure ⟨rfl, rfl⟩
  simp only [richCompare, cmpInfo_Eq]
  refine wpAny_holding ?_
  refine wpAny_bind (wpAny_cRoomFor hu ?_)
  show wpAny (model prog w) A (typeOf (.ref a) >>= _) Q E s
  refine wpAny_bind (L1.here ?_)
  refine wpAny_bind (wpAny_typeOf (typeIs_str s z t) ?_)
  have hne : (Value.ref C != Value.type "str") = true := by rfl
  rw [if_pos hne]
  refine wpAny_bind (L4.here ?_)
  rw [if_neg Bool.false_ne_true]
  refine wpAny_bind (wpAny_mono one (fun r s' h1 => ?_) fun _ _ e => e)
  cases h1.1
  rw [h1.2]
  refine wpAny_ite_true (by rfl) ?_
  refine wpAny_bind (wpAny_mono two (fun r s' h1 => ?_) fun _ _ e => e)
  cases h1.1
  rw [h1.2]
  refine wpAny_bind (wpAny_rule ?_)
  refine wpAny_bind ?_
  show wpAny (model prog w) A (isSame (.ref a) (.str z t)) _ E s
  exact wpAny_pure (wpAny_pure hq)
end
section
variable {X : Cx} {W : Wd}
/-- an instance without an own ==, and a text -/
def rInsStr (K : PySem.W.Frag) : R2 := fun x y H Q => ∃ a C dx fs z, x = .ref a ∧ y = .str z ∧ H a = some (.ins C dx fs) ∧ NoEq K C ∧ Q (.bl false) H
theorem op_insStr (hu : X.A.units < cLine) : OpR X (compareOp .Eq) (rInsStr X.K) := by
  intro pins s σ H x y v u Q I rx ry h
  obtain ⟨a, C, dx, fs, z, rfl, rfl, ha, n, q⟩ := h
  obtain rfl : v = Value.ref a := rx
  obtain ⟨t, rfl⟩ := ry
  obtain ⟨_, _, _, ho, _⟩ := I.hok a _ ha
  exact ins_eq_str I.kIn n ho rfl (fun _ _ e => nomatch e) hu ⟨.bl false, H, I, rfl, q⟩
def fInsStr (K : PySem.W.Frag) : F2 := fun st x y P => ∃ j C fs z, x = .ref j ∧ y = .str z ∧ st[j]? = some (.ins C fs) ∧ NoEq K C ∧ P (.bl false) st
theorem rl_insStr {K : PySem.W.Frag} : Rl2 W (rInsStr K) (fInsStr K) := fun m H st x y v w P Q O hx hy ⟨j, C, fs, z, ex, ey, es, n, q⟩ k => by
  subst ex ey
  obtain ⟨a, em, ev⟩ := hx
  obtain ⟨dx, fvs, h1, _⟩ := ins_at O em es
  exact ⟨a, C, dx, fvs, z, ev, hy, h1, n, k _ st m H _ q (.refl _ _) O rfl⟩
end
end FL
/-! FT: lambdas that are kept; a def that tells of one. -/
namespace FL
open PySem PySem.Spec PyProof.Rows L2 LamX

/-- the object at f is o -/
def FnAt (f : Addr) (o : Obj) : HO := .ext fun h => h.get? f = some o
section
variable {X : Cx} {pins : List (Addr × Obj)} {σ : L2.St} {H : Hp} {s : Shared}
theorem FnAt.ok {P : Program} {w : World} {H : Hp} {h : Heap} {f : Addr} {o : Obj} (e : h.get? f = some o) : ObjOk P w H h f (FnAt f o) := ⟨e, ⟨o, e⟩, fun _ _ y k => k o y⟩
/-- what the making of a lambda changes: the table at P; all else stays -/
def TabX (P : Addr) (H H' : Hp) : Prop := (∀ b o, b ≠ P → H b = some o → H' b = some o) ∧ (∀ b, H' b = none → H b = none)
abbrev lamObj (X : Cx) (params : Arguments) (body : Expr) (scope : Scope) (pm : Value) (c' : Addr) (ctv : Value) : Obj := PySem.W.kla_obj "<lambda>" (X.env.qual ++ "<lambda>") params body scope (cloFrom X.env.cells scope.names []) pm c' ctv
/-- the lambda is made, and known from now on -/
theorem lam_make3 {T : List (Addr × Str)} {G : List Addr} {c P : Addr} {params : Arguments} {body : Expr} {scope : Scope} {pos : Pos} {E : Value → Shared → Prop} {Q : Value → Shared → Prop} (I : Inv X pins σ H s) (TB : LamX.TabB X.base X.mg c P) (hcode : X.env.code = .ref c)
    (hm : (P, X.env.qual ++ "<lambda>") ∈ T) (hu : ∀ p ∈ T, p.1 = P → p.2 = X.env.qual ++ "<lambda>") (hT : Tabs T H) (hG : ∀ P ∈ G, GxR.TabG H P) (hdef : defaultsOf params X.env = ([], [])) (hfree : ∀ y ∈ scope.names, y.2 = .free → ∃ c, X.env.cells.lookup y.1 = some c)
    (h : ∀ (f c' : Addr) (pm ctv : Value) (H1 : Hp) (s' : Shared), Inv X pins σ H1 s' → TabX P H H1 → Tabs T H1 → (∀ P ∈ G, GxR.TabG H1 P) → H1 f = some (FnAt f (lamObj X params body scope pm c' ctv)) → H1 c' = some (CodeO c' (X.env.qual ++ "<lambda>")) → Q (.ref f) s') :
    wpAny (model X.prog X.w) X.A (eval (.Lambda params body scope pos) X.env) Q E s := by
  obtain ⟨ps, hP, ht, ha⟩ := hT _ hm
  refine PySem.W.kla_eval hdef ?_
  have bP : s.heap.BuiltinsAt X.mg P := TB.bm.keeps I.bk
  have hP' : s.heap.get? P = some { cls := .none, data := .fields ps } := I.hok P _ hP
  cases hc : codeAmong pos ps.toList with
  | none =>
    refine PySem.W.kla_makeFunction (mg := X.mg) (c := c) (P := P) (ps := ps) (closure_ok hfree) I.ok.glob (I.mod.glob.keeps I.bk) hcode (TB.code.keeps I.bk) hP' ht hc TB.gP bP fun c' ctv h' tk hx hge hlt hrec htb => ?_
    obtain ⟨c2, oc, vs, t, e2, hoc, hd, hv⟩ := hrec
    cases e2
    have hsz : s.heap.objs.size ≤ h'.objs.size := Nat.le_trans hge (Nat.le_of_lt hlt)
    have nC : H c' = none := I.hok.fresh hge
    have nF : H h'.objs.size = none := I.hok.fresh hsz
    have nPC : P ≠ c' := ne_of_none hP nC
    have I1 := inv_table (q := X.env.qual ++ "<lambda>") (t' := tk) (more := #[rawInt pos.line, rawInt pos.col, .ref c']) (h' := h') I hP hx htb hge ⟨oc, vs, t, hoc, hd, hv⟩
    have eL : (ps ++ #[rawInt pos.line, rawInt pos.col, .ref c']).toList = ps.toList ++ [rawInt pos.line, rawInt pos.col, .ref c'] := by simp
    have h1P : upd (upd H P (.tbl (ps ++ #[rawInt pos.line, rawInt pos.col, .ref c']))) c' (CodeO c' (X.env.qual ++ "<lambda>")) P = some (.tbl (ps ++ #[rawInt pos.line, rawInt pos.col, .ref c'])) := by rw [upd_ne nPC, upd_same]
    have h1b : ∀ b o, b ≠ P → H b = some o → upd (upd H P (.tbl (ps ++ #[rawInt pos.line, rawInt pos.col, .ref c']))) c' (CodeO c' (X.env.qual ++ "<lambda>")) b = some o := fun b o n e => by
      rw [upd_ne (ne_of_none e nC), upd_ne n]
      exact e
    have h1n : ∀ b, upd (upd H P (.tbl (ps ++ #[rawInt pos.line, rawInt pos.col, .ref c']))) c' (CodeO c' (X.env.qual ++ "<lambda>")) b = none → H b = none := fun b e => by
      by_cases z : b = c'
      · rw [z, upd_same] at e; cases e
      · by_cases z2 : b = P
        · rw [z2, h1P] at e; cases e
        · rw [upd_ne z, upd_ne z2] at e; exact e
    have hT1 : Tabs T (upd (upd H P (.tbl (ps ++ #[rawInt pos.line, rawInt pos.col, .ref c']))) c' (CodeO c' (X.env.qual ++ "<lambda>"))) := fun p hp => by
      by_cases hb : p.1 = P
      · rw [hu p hp hb, hb]
        refine ⟨_, h1P, by rw [eL]; exact PySem.TriplesOk_snoc _ _ _ _ ht, fun p' cv hcv => ?_⟩
        rw [eL] at hcv
        rcases among_app _ ht hcv with z | z
        · obtain ⟨c0, e1, e2⟩ := ha p' cv z
          exact ⟨c0, e1, h1b _ _ (fun z => by rw [z, hP] at e2; cases e2) e2⟩
        · exact ⟨c', z, upd_same⟩
      · obtain ⟨ps', a1, a2, a3⟩ := hT p hp
        refine ⟨ps', h1b _ _ hb a1, a2, fun p' cv hcv => ?_⟩
        obtain ⟨c0, e1, e2⟩ := a3 p' cv hcv
        exact ⟨c0, e1, h1b _ _ (fun z => by rw [z, hP] at e2; cases e2) e2⟩
    have hG1 : ∀ P' ∈ G, GxR.TabG (upd (upd H P (.tbl (ps ++ #[rawInt pos.line, rawInt pos.col, .ref c']))) c' (CodeO c' (X.env.qual ++ "<lambda>"))) P' := fun P' hP2 => by
      obtain ⟨qs, g1, g2⟩ := hG P' hP2
      by_cases z : P' = P
      · subst z
        exact ⟨_, h1P, by rw [eL]; exact PySem.TriplesOk_snoc _ _ _ _ ht⟩
      · exact ⟨qs, h1b _ _ z g1, g2⟩
    have hCC : upd (upd H P (.tbl (ps ++ #[rawInt pos.line, rawInt pos.col, .ref c']))) c' (CodeO c' (X.env.qual ++ "<lambda>")) c' = some (CodeO c' (X.env.qual ++ "<lambda>")) := upd_same
    generalize upd (upd H P (.tbl (ps ++ #[rawInt pos.line, rawInt pos.col, .ref c']))) c' (CodeO c' (X.env.qual ++ "<lambda>")) = HH at I1 h1P h1b h1n hT1 hG1 hCC
    have hFF : HH h'.objs.size = none := I1.hok.fresh (Nat.le_refl _)
    have h2 : ∀ b o, HH b = some o → upd HH h'.objs.size (FnAt h'.objs.size (lamObj X params body scope ((X.mg "__name__").getD .none) c' ctv)) b = some o := fun b o e => by
      rw [upd_ne (ne_of_none e hFF)]
      exact e
    have I2 := I1.laid (a := h'.objs.size) (o := FnAt h'.objs.size (lamObj X params body scope ((X.mg "__name__").getD .none) c' ctv)) (t' := tk) (h' := h'.push (lamObj X params body scope ((X.mg "__name__").getD .none) c' ctv)) (fun b o e => Heap.get?_push_of_some _ e) (Nat.le_refl _) (FnAt.ok (Heap.get?_push_size _ rfl))
    refine h h'.objs.size c' ((X.mg "__name__").getD .none) ctv _ _ I2 ⟨fun b o n e => h2 _ _ (h1b b o n e), fun b e => ?_⟩ (hT1.ext h2) (fun P' hP2 => ?_) upd_same (h2 _ _ hCC)
    · by_cases z : b = h'.objs.size
      · rw [z, upd_same] at e; cases e
      · rw [upd_ne z] at e; exact h1n b e
    · obtain ⟨qs, g1, g2⟩ := hG1 P' hP2
      exact ⟨qs, h2 _ _ g1, g2⟩
  | some cv =>
    obtain ⟨c', e, hco⟩ := ha pos cv hc
    subst e
    refine PySem.W.kla_makeFunctionHit (mg := X.mg) (c := c) (P := P) (ps := ps) (closure_ok hfree) I.ok.glob (I.mod.glob.keeps I.bk) hcode (TB.code.keeps I.bk) hP' ht hc bP fun ctv h' tk hx hsz => ?_
    have hFF : H h'.objs.size = none := I.hok.fresh hsz
    have h2 : ∀ b o, H b = some o → upd H h'.objs.size (FnAt h'.objs.size (lamObj X params body scope ((X.mg "__name__").getD .none) c' ctv)) b = some o := fun b o e => by
      rw [upd_ne (ne_of_none e hFF)]
      exact e
    have I2 := I.laid (a := h'.objs.size) (o := FnAt h'.objs.size (lamObj X params body scope ((X.mg "__name__").getD .none) c' ctv)) (t' := tk) (h' := h'.push (lamObj X params body scope ((X.mg "__name__").getD .none) c' ctv)) (fun b o e => Heap.get?_push_of_some _ (hx b o e)) hsz (FnAt.ok (Heap.get?_push_size _ rfl))
    refine h h'.objs.size c' ((X.mg "__name__").getD .none) ctv _ _ I2 ⟨fun b o n e => h2 _ _ e, fun b e => ?_⟩ (hT.ext h2) (fun P' hP2 => ?_) upd_same (h2 _ _ hco)
    · by_cases z : b = h'.objs.size
      · rw [z, upd_same] at e; cases e
      · rw [upd_ne z] at e; exact e
    · obtain ⟨qs, g1, g2⟩ := hG P' hP2
      exact ⟨qs, h2 _ _ g1, g2⟩
/-- what a kept lambda is, of the maker X -/
structure Lam where
  params : Arguments
  body : Expr
  scope : Scope
def fnpOf (X : Cx) (L : List Lam) : Nat → V → Hp → Prop := fun k v H => ∃ lam f c' pm ctv, L[k]? = some lam ∧ v = .ref f ∧ H f = some (FnAt f (lamObj X lam.params lam.body lam.scope pm c' ctv)) ∧ H c' = some (CodeO c' (X.env.qual ++ "<lambda>"))
theorem fnpOf_mono (X : Cx) (L : List Lam) : ∀ k v (H H' : Hp), (∀ a φ, H a = some (.ext φ) → H' a = some (.ext φ)) → fnpOf X L k v H → fnpOf X L k v H' := fun k v H H' hk ⟨lam, f, c', pm, ctv, e1, e2, e3, e4⟩ => ⟨lam, f, c', pm, ctv, e1, e2, hk _ _ e3, hk _ _ e4⟩
end
section
variable {X : Cx} {W : Wd} {E : XK}
theorem StOk.tabX {W : Wd} {m : List Addr} {H H' : Hp} {st : SD} (O : StOk W m H st) {P : Addr} (hP : ∃ ps, H P = some (.tbl ps)) (T : TabX P H H') (ht : Tabs W.tl H') (hg : ∀ P ∈ W.tg, GxR.TabG H' P) : Stp m H m H' ∧ StOk W m H' st := by
  obtain ⟨ps, hps⟩ := hP
  have nt : ∀ a o, H a = some o → (∀ qs, o ≠ .tbl qs) → H' a = some o := fun a o e n => T.1 a o (fun z => by rw [z, hps] at e; cases e; exact n _ rfl) e
  have S : Stp m H m H' := ⟨⟨[], by simp, by simp⟩, fun a o e _ n => nt a o e n, fun a o u e => nt a _ e (fun _ z => by cases z), T.2⟩
  refine ⟨S, O.len, O.nd, fun i o a e1 e2 => (O.obj i o a e1 e2).mono S O.mut ?_, hg, ht, fun i hi => (O.lk i hi).mono S⟩
  have mu := O.mut a (List.mem_of_getElem? e2)
  cases q : H a with
  | none => rw [q] at mu; exact mu.elim
  | some o => exact nt a o q fun qs z => by rw [q, z] at mu; exact mu
/-- lambda: .. as a value -/
def dLam (k : Nat) : TD := fun _ st P _ => P (.fn k) st
theorem d_lam {k : Nat} {L : List Lam} {c P : Addr} {params : Arguments} {body : Expr} {scope : Scope} {pos : Pos} (hW : W.fnp = fun k v _ H => fnpOf X L k v H) (hk : L[k]? = some ⟨params, body, scope⟩) (TB : LamX.TabB X.base X.mg c P) (hcode : X.env.code = .ref c)
    (hm : (P, X.env.qual ++ "<lambda>") ∈ W.tl) (hu : ∀ p ∈ W.tl, p.1 = P → p.2 = X.env.qual ++ "<lambda>") (LS : LamS X.env.scope scope) (hdef : defaultsOf params X.env = ([], [])) : PE X (.Lambda params body scope pos) (lift W E (dLam k)) :=
  ⟨fun pins s σ H Q I ⟨m, st, env, Pp, Ex, r, q, kk, x⟩ => lam_make3 I TB hcode hm hu r.ok.tl r.ok.tg hdef (LS.has I.ok) fun f c' pm ctv H1 s' I1 hX hT hG hf hc => by
    obtain ⟨ps, hps, _⟩ := r.ok.tl _ hm
    obtain ⟨S, O⟩ := r.ok.tabX ⟨ps, hps⟩ hX hT hG
    refine ⟨.ref f, H1, I1, rfl, kk (.fn k) st m H1 _ q S O ?_⟩
    show W.fnp k (.ref f) m H1
    rw [hW]
    exact ⟨_, f, c', pm, ctv, hk, rfl, hf, hc⟩⟩
end
end FL
/-! FU: a def that calls the lambda it gets. -/
namespace FL
open PySem PySem.Spec PyProof.Rows L2 LamX

section
variable {X : Cx} {pins : List (Addr × Obj)} {σ : L2.St} {H HZ : Hp} {s s1 : Shared}
/-- x(), in the def that got the lambda -/
theorem pe_act2 {CXg : CXT} {Eg : XK} {Ng : List Str} {qg : Str} {sg : Scope} {g f c' : Addr} {cdg pm ctv : Value} {params : Arguments} {body : Expr} {scope : Scope} {k i : Nat} {a : Str} {pn : List (Addr × Obj)} {xe : Value → Shared → Prop} {Wx : WX} {E : XK} {tb : TE} {p1 p2 : Pos}
    (I : Inv X pins σ H s) (LS : LamS X.env.scope scope)
    (hbind : bindArgs (PySem.W.kla_fn "<lambda>" (X.env.qual ++ "<lambda>") params body scope (cloFrom X.env.cells scope.names []) pm (.ref c') ctv) ⟨[], []⟩ = pure [])
    (tk : Takes ((cxOf CXg X.prog X.w X.K X.mg X.base Ng qg sg g cdg X.A X.stack s H Eg).tr pn xe) Wx) (hW : ∀ cls d σ' H', E cls d H' → Wx cls d σ' H') (hr : Room (k + 1) (X.A.deeper (envOfC qg sg s.heap.objs.size g cdg)))
    (hbody : ∀ (A : Around) (outer : List Env) (s : Shared) (H : Hp), Room k (A.deeper (lamEnv X scope s.heap.objs.size f c')) → PE (lamCx X A outer s H E scope f c') body tb)
    (hN : Ng[i]? = some a) (hv : Vis sg a) (hd : (a == ("__debug__" : Str)) = false := by decide) (hcd : (a == ("__classdict__" : Str)) = false := by decide) :
    PE ((cxOf CXg X.prog X.w X.K X.mg X.base Ng qg sg g cdg X.A X.stack s H Eg).tr pn xe) (.Call (.Name a p1) [] [] p2)
      (fun σZ HZ Q => σZ[i]? = some (some (.ref f)) ∧ HZ c' = some (CodeO c' (X.env.qual ++ "<lambda>")) ∧ HZ f = some (FnAt f (lamObj X params body scope pm c' ctv)) ∧ tb σ HZ Q) := by
  refine ⟨fun pinsZ sZ σZ HZ Q IZ h => ?_⟩
  obtain ⟨hs, hc, hf, ht⟩ := h
  refine wpAny_Call_Name_kw (thn ((pe_var (pos := p1) (i := i) hN hv hd hcd).run pinsZ sZ σZ HZ (fun v H1 => v = .ref f ∧ H1 = HZ) IZ ⟨.ref f, hs, rfl, rfl⟩) fun u s1 ⟨v, H1, I1, r1, q1⟩ => ?_)
  obtain ⟨ev, eH⟩ := q1
  subst ev
  rw [eH] at I1
  obtain rfl : u = Value.ref f := r1
  have of1 : s1.heap.get? f = some (lamObj X params body scope pm c' ctv) := (I1.hok f _ hf).1
  refine PySem.W.callWith_F0 ⟨_, _, _, _, of1⟩ ?_
  have un : Un (frs X.stack) [] H HZ s.heap s1.heap := I1.base
  obtain ⟨⟨oc, vs, t, hoc, hdc, hvc⟩, _, _⟩ := I1.hok c' _ hc
  have rc : codeAny (model X.prog X.w) (X.A.deeper (envOfC qg sg s.heap.objs.size g cdg)) (.call (.ref f) ⟨[], []⟩) (CR (L2.CX X.prog X.w) (envOfC qg sg s.heap.objs.size g cdg :: X.stack) X.prog X.w HZ s1 Q E) s1 := by
    refine PySem.W.kla_callFunE hr.depth of1 rfl LS.co LS.gen rfl ⟨c', oc, vs, t, rfl, hoc, hdc, hvc⟩ ?_
    rw [hbind]
    refine wpAny_pure (wpAny_newFunctionEnv (fun y hy => (LS.own y hy).2) (fun y hy => absurd hy (by simp)) (fun h₁ hns hsb => ⟨I1.nolimit.fresh _ hsb, ?_⟩) LS.kind)
    show codeAny _ _ (.expr body (lamEnv X scope s1.heap.objs.size f c')) _ _
    have kp : ∀ b o, s1.heap.get? b = some o → h₁.get? b = some o := fun b o e => hsb.extBut b o (Nat.ne_of_lt (Heap.lt_size e)) (Heap.get?_push_of_some _ e)
    have J : Inv (lamCx X (X.A.deeper (envOfC qg sg s.heap.objs.size g cdg)) (envOfC qg sg s.heap.objs.size g cdg :: X.stack) s1 HZ E scope f c') [] σ HZ { s1 with heap := h₁, toks := s1.toks + ([] : List (Str × Value)).length } :=
      lam_start2 I LS I1.env0 hr.hd un hns kp
    refine PySem.W.kla_codeExpr (wpAny_mono ((hbody _ _ s1 HZ (hr.deeper _)).run [] _ _ HZ Q J ht) (fun v s' hq => ?_) fun e s' hq => hq)
    obtain ⟨w', H', J', rv, q⟩ := hq
    exact ⟨w', H', J'.os, J'.bare, J'.base, J'.hok, rv, q⟩
  have hx : Passes (L2.CX X.prog X.w) ((cxOf CXg X.prog X.w X.K X.mg X.base Ng qg sg g cdg X.A X.stack s H Eg).tr pn xe) E := L2.passes_call tk hW
  refine wpAny_call (codeAny_mono rc fun r s' hq => ?_)
  cases r with
  | error e => exact hx pinsZ σZ HZ s1 e s' I1 hq
  | ok fl =>
    cases fl with
    | ret u => exact I1.after hq
    | next => exact False.elim hq
    | brk => exact False.elim hq
    | cont => exact False.elim hq
/-- what is known of the def «told» at g, which calls what it gets -/
structure ToldAt (X : Cx) (x a ret : Str) (g CS : Addr) (T : (XK → Hp → VK → Prop) → Hp → VK → Prop) : Prop where
  keep : PySem.W.keepIn X.K (.ref g) = true
  run : ∀ {k : Nat} {pins : List (Addr × Obj)} {σ : L2.St} {H : Hp} {s : Shared} {f c' : Addr} {pm ctv : Value} {params : Arguments} {body : Expr} {scope : Scope} {tb : XK → TE} {Q : VK}, Inv X pins σ H s → LamS X.env.scope scope → Room (k + 2) X.A →
    (∀ (q : Str) (cl : List (Str × Addr)) (pm cv ctv : Value), bindArgs (PySem.W.kla_fn "<lambda>" q params body scope cl pm cv ctv) ⟨[], []⟩ = pure []) →
    (∀ (A : Around) (outer : List Env) (s : Shared) (H : Hp) (E : XK), Room k (A.deeper (lamEnv X scope s.heap.objs.size f c')) → PE (lamCx X A outer s H E scope f c') body (tb E)) →
    H f = some (FnAt f (lamObj X params body scope pm c' ctv)) → H c' = some (CodeO c' (X.env.qual ++ "<lambda>")) → T (fun E H' Q' => H' f = some (FnAt f (lamObj X params body scope pm c' ctv)) ∧ tb E σ H' Q') H Q →
    codeAny (model X.prog X.w) X.A (.call (.ref g) ⟨[.ref f], []⟩) (CR C8.CX0 X.stack X.prog X.w H s Q C8.E0) s
theorem toldAt {x a ret : Str} {g CS : Addr} {T : (XK → Hp → VK → Prop) → Hp → VK → Prop} {pg : Arguments} {bg : List Stmt} {sg : Scope} {dV kV doc pm cdv ct oc : Value} {an od : Option Addr} {osl : Array (Option Value)} {Ng : List Str}
    (hk : PySem.W.keepIn X.K (.ref g) = true) (lk : X.K.lookup g = some ⟨oc, od, .func (PySem.W.fnOf x x pg bg sg dV kV doc pm an cdv ct), osl⟩) (hcg : PySem.W.codeIn X.K cdv x = true) (hb : L2.Binds X.K (PySem.W.fnOf x x pg bg sg dV kV doc pm an cdv ct) [a] []) (Sg : FnScope Ng [a] sg) (hNg : Ng[0]? = some a) (hva : Vis sg a)
    (hG : GivesTo X Ng x sg g cdv bg a (X.env.qual ++ "<lambda>") T) (hd : (a == ("__debug__" : Str)) = false := by decide) (hcd : (a == ("__classdict__" : Str)) = false := by decide) : ToldAt X x a ret g CS T := by
  refine ⟨hk, ?_⟩
  intro k pins σ H s f c' pm' ctv params body scope tb Q I LS hr hbind hbody hf hc h
  refine run_ofS (N := Ng) (ps := [a]) (us := [.ref f]) (vs := [.ref f]) lk hcg Sg hr I.env0 (hb s [.ref f] I.kIn rfl) (.cons rfl .nil) rfl fun hr' => ?_
  obtain ⟨t', ht', hq'⟩ := hG f c' s H Q (fun E H' Q' => H' f = some (FnAt f (lamObj X params body scope pm' c' ctv)) ∧ tb E σ H' Q') (fun Wx pn xe E p1 p2 tk hW => ⟨fun pinsZ sZ σZ HZ QZ IZ ⟨z1, z2, z3, z4⟩ => (pe_act2 (i := 0) (tb := tb E) I LS (hbind _ _ _ _ _) tk hW hr' (fun A outer s H hr2 => hbody A outer s H E hr2) hNg hva hd hcd).run pinsZ sZ σZ HZ QZ IZ ⟨z1, z2, z3, z4⟩⟩) hc h
  exact ⟨t', ht'.nox, hq'⟩
end
end FL
/-! FV: lambdas told of, on data. -/
namespace FL
open PySem PySem.Spec PyProof.Rows L2 LamX

section
variable {X : Cx} {W : Wd} {E : XK}
/-- what told(lambda: ..) comes to: what the lambda does, or the text when C is raised -/
def dTold (CS : Addr) (ret : Str) (t : TD) : TD := fun env st P _ => t env st P (fun C st' => C = CS ∧ P (.str ret) st')
abbrev HBind (params : Arguments) (body : Expr) (scope : Scope) : Prop := ∀ (q : Str) (cl : List (Str × Addr)) (pm cv ctv : Value), bindArgs (PySem.W.kla_fn "<lambda>" q params body scope cl pm cv ctv) ⟨[], []⟩ = pure []
/-- the lambda's body, with this reading -/
abbrev LBody (X : Cx) (W : Wd) (k : Nat) (body : Expr) (scope : Scope) (t : TD) : Prop := ∀ (A : Around) (outer : List Env) (s : Shared) (H : Hp) (E : XK) (f c' : Addr), Room k (A.deeper (lamEnv X scope s.heap.objs.size f c')) → PE (lamCx X A outer s H E scope f c') body (lift W E t)
theorem passes_lam {A : Around} {outer : List Env} {s : Shared} {H : Hp} {E : XK} {scope : Scope} {f c' : Addr} : Passes (L2.CX X.prog X.w) (lamCx X A outer s H E scope f c') E := L2.passes_call (takes_of rfl rfl rfl rfl) fun _ _ _ _ h => h
theorem told_core {CS : Addr} {ret : Str} {t : TD} {σ : L2.St} {H : Hp} {Q : VK} {F : Prop} (hex : PySem.W.exmOne X.K (.ref CS) (.ref CS) = some true) {m : List Addr} {st : SD} {env : DV} {P : DP} (s : Sim W m H st env σ) (q : t env st P (fun C st' => C = CS ∧ P (.str ret) st')) (k : Nrm W m H P Q) (hf : F) :
    TTold X.K CS ret (fun E H' Q' => F ∧ lift W E t σ H' Q') H Q :=
  ⟨hf, m, st, env, P, _, s, q, k, fun C x st' m' H' ⟨eC, p⟩ S O => ⟨true, by rw [eC]; exact hex, fun _ => k (.str ret) st' m' H' _ p S O rfl, fun z => nomatch z⟩⟩
theorem d_told {k : Nat} {x a ret : Str} {g CS c P : Addr} {params : Arguments} {body : Expr} {scope : Scope} {t : TD} {p lpos pos : Pos} (hg : Gl X x) (hm : X.mg x = some (.ref g)) (TA : ToldAt X x a ret g CS (TTold X.K CS ret)) (hex : PySem.W.exmOne X.K (.ref CS) (.ref CS) = some true)
    (TB : LamX.TabB X.base X.mg c P) (hcode : X.env.code = .ref c) (hmT : (P, X.env.qual ++ "<lambda>") ∈ W.tl) (hu : ∀ p ∈ W.tl, p.1 = P → p.2 = X.env.qual ++ "<lambda>") (hr : Room (k + 2) X.A) (LS : LamS X.env.scope scope) (hdef : defaultsOf params X.env = ([], [])) (hbind : HBind params body scope) (hbody : LBody X W k body scope t)
    (hdb : (x == ("__debug__" : Str)) = false := by decide) : PE X (.Call (.Name x p) [.Lambda params body scope lpos] [] pos) (lift W E (dTold CS ret t)) := by
  refine ⟨fun pins s σ H Q I ⟨m, st, env, Pp, Ex, r, q, kk, _⟩ => ?_⟩
  refine wpAny_Call_Name_kw (ld_glob I hg hm ?_ hdb)
  refine PySem.W.callWith_K (h₀ := X.base) I.ok.mod.kin TA.keep ?_ (by rfl) (by rfl)
  show wpAny _ _ (spliced ((false, eval (.Lambda params body scope lpos) X.env) :: backTo pos (starEach [] X.env))) _ _ s
  refine Calls.spliced_cons (lam_make3 I TB hcode hmT hu r.ok.tl r.ok.tg hdef (LS.has I.ok) fun f c' pm' ctv H1 s' I1 hX T1 G1 hf hco => ?_)
  refine Calls.spliced_nil ⟨I1.kIn, ?_⟩
  obtain ⟨ps, hps, _⟩ := r.ok.tl _ hmT
  obtain ⟨S, O⟩ := r.ok.tabX ⟨ps, hps⟩ hX T1 G1
  have rc := TA.run (tb := fun E => lift W E t) I1 LS hr hbind (fun A outer s H E hr2 => hbody A outer s H E f c' hr2) hf hco (told_core hex (r.go S O) q (kk.go S) hf)
  refine wpAny_call (codeAny_mono rc fun r s2 hq => ?_)
  cases r with
  | error e => exact (show False from hq).elim
  | ok fl =>
    cases fl with
    | ret u => exact I1.after hq
    | next => exact False.elim hq
    | brk => exact False.elim hq
    | cont => exact False.elim hq
/-! ### a list of lambdas -/
inductive LamsOk (X : Cx) (W : Wd) (k : Nat) : List Lam → List TD → Prop where
  | nil : LamsOk X W k [] []
  | cons {params : Arguments} {body : Expr} {scope : Scope} {t : TD} {L : List Lam} {ts : List TD} (ls : LamS X.env.scope scope) (hbind : HBind params body scope) (hbody : LBody X W k body scope t) (r : LamsOk X W k L ts) : LamsOk X W k (⟨params, body, scope⟩ :: L) (t :: ts)
theorem LamsOk.get {k : Nat} : ∀ {L : List Lam} {ts : List TD} {i : Nat} {lam : Lam} {t : TD}, LamsOk X W k L ts → L[i]? = some lam → ts[i]? = some t → LamS X.env.scope lam.scope ∧ HBind lam.params lam.body lam.scope ∧ LBody X W k lam.body lam.scope t
  | _, _, _, _, _, .nil, e, _ => by simp at e
  | _, _, 0, _, _, .cons a b c _, e, e' => by
    simp at e e'
    subst e e'
    exact ⟨a, b, c⟩
  | _, _, i + 1, _, _, .cons _ _ _ r, e, e' => LamsOk.get (i := i) r (by simpa using e) (by simpa using e')
/-- the reading of told(f) in a block of X, f a kept lambda in slot i -/
def tToldB (X : Cx) (W : Wd) (L : List Lam) (ts : List TD) (CS : Addr) (ret : Str) (i : Nat) (σ : L2.St) : TE := fun σ2 H Q => ∃ v n t m st env P, σ2[i]? = some (some v) ∧ fnpOf X L n v H ∧ ts[n]? = some t ∧ Sim W m H st env σ ∧ t env st P (fun C st' => C = CS ∧ P (.str ret) st') ∧ Nrm W m H P Q
theorem pe_toldB {k : Nat} {x a ret y : Str} {g CS : Addr} {L : List Lam} {ts : List TD} {p p2 pos : Pos} {i : Nat} {pins : List (Addr × Obj)} {σ : L2.St} {s : Shared} {H : Hp} {bs : Scope} {ce : Env} {fp : List Addr} (IM : Inv X pins σ H s) (hfp : ∀ b ∈ fp, FpOk X pins H b ∧ b < s.heap.objs.size)
    (hg : Gl (X.blk s H bs ce fp) x) (hm : X.mg x = some (.ref g)) (TA : ToldAt X x a ret g CS (TTold X.K CS ret)) (hex : PySem.W.exmOne X.K (.ref CS) (.ref CS) = some true) (LO : LamsOk X W k L ts) (hr : Room (k + 2) X.A)
    (hN : X.N[i]? = some y) (hv : Vis ce.scope y) (hdb : (x == ("__debug__" : Str)) = false := by decide) (hd : (y == ("__debug__" : Str)) = false := by decide) (hcd : (y == ("__classdict__" : Str)) = false := by decide) :
    PE (X.blk s H bs ce fp) (.Call (.Name x p) [.Name y p2] [] pos) (tToldB X W L ts CS ret i σ) := by
  refine ⟨fun pinsB s5 σ2 H5 Q IB h => ?_⟩
  obtain ⟨v, n, t, m, st, env, P, hs, ⟨lam, f, c', pm, ctv, e1, e2, hf, hco⟩, e3, sm, q, kk⟩ := h
  subst e2
  refine wpAny_Call_Name_kw (ld_glob IB hg hm ?_ hdb)
  refine PySem.W.callWith_K (h₀ := X.base) IB.ok.mod.kin TA.keep ?_ (by rfl) (by rfl)
  show wpAny _ _ (spliced ((false, eval (.Name y p2) ce) :: backTo pos (starEach [] ce))) _ _ s5
  refine Calls.spliced_cons (thn ((pe_var (X := X.blk s H bs ce fp) (pos := p2) (i := i) hN hv hd hcd).run pinsB s5 σ2 H5 (fun v H1 => v = .ref f ∧ H1 = H5) IB ⟨.ref f, hs, rfl, rfl⟩) fun u s6 ⟨v, H6, I6, r6, ev, eH⟩ => ?_)
  subst ev eH
  obtain rfl : u = Value.ref f := r6
  refine Calls.spliced_nil ⟨I6.kIn, ?_⟩
  have IX : Inv X pins σ H6 s6 := IM.call' (ch := fp) I6.os I6.base I6.hok I6.bare fun b hb => ⟨(hfp b hb).1.2.2.2.1, (hfp b hb).1.2.1, (hfp b hb).1.2.2.2.2.1, (hfp b hb).1.2.2.2.2.2⟩
  obtain ⟨ls, hbind, hbody⟩ := LO.get e1 e3
  have rc := TA.run (tb := fun E => lift W E t) IX ls hr hbind (fun A outer s H E hr2 => hbody A outer s H E f c' hr2) hf hco (told_core hex sm q kk hf)
  refine wpAny_call (codeAny_mono rc fun r s2 hq => ?_)
  cases r with
  | error e => exact (show False from hq).elim
  | ok fl =>
    cases fl with
    | ret u => exact I6.after hq
    | next => exact False.elim hq
    | brk => exact False.elim hq
    | cont => exact False.elim hq
/-! ### [.. for f in the lambdas if told(f) != text], all of which raise C -/
def dBadT (G : SD → Prop) (ts : List TD) (CS : Addr) (ret : Str) (envM : DV) (fin : SD → Prop) : List FL.D → SD → Prop
  | [], st => G st ∧ fin st
  | x :: r, st => G st ∧ ∃ n t, x = .fn n ∧ ts[n]? = some t ∧ t envM st (fun d st' => d = .str ret ∧ dBadT G ts CS ret envM fin r st') (fun C st' => C = CS ∧ FL.D.str ret = .str ret ∧ dBadT G ts CS ret envM fin r st')
theorem dBadT_guard {G : SD → Prop} {ts : List TD} {CS : Addr} {ret : Str} {envM : DV} {fin : SD → Prop} : ∀ {xs : List FL.D} {st : SD}, dBadT G ts CS ret envM fin xs st → G st
  | [], _, h => h.1
  | _ :: _, _, h => h.1
def dBad (ti : TDI) (ts : List TD) (CS : Addr) (ret : Str) (i : Nat) : TD := fun env st P Ex => i < env.length ∧ ti env st (fun xs G st1 => dBadT G ts CS ret env (fun st2 => P (.lst []) st2) xs st1) Ex
theorem d_bad {k : Nat} {x a ret y : Str} {g CS : Addr} {L : List Lam} {ts : List TD} {elt iter : Expr} {scope : Scope} {own : List (Str × Nat)} {i j : Nat} {p p2 p3 p4 p5 p6 pos : Pos} {ti : TDI} {te : TE} (hW : W.fnp = fun k v _ H => fnpOf X L k v H) (hc : X.calm = true) (hNd : X.N.Nodup) (hi : PI X (.Name y p6) iter (liftI W E ti)) (ok : BlkOk X.N X.env.scope scope own) (hio : i ∈ own.map (·.2))
    (hgn : ∀ (s : Shared) (H : Hp) (C : Addr) (cl : List (Str × Addr)) (fp : List Addr), PG (X.blk s H scope (compEnvC scope cl C X.env) fp) (.Name y p6) (gName i))
    (hgl : ∀ (s : Shared) (H : Hp) (C : Addr) (cl : List (Str × Addr)) (fp : List Addr), Gl (X.blk s H scope (compEnvC scope cl C X.env) fp) x) (hm : X.mg x = some (.ref g)) (TA : ToldAt X x a ret g CS (TTold X.K CS ret)) (hex : PySem.W.exmOne X.K (.ref CS) (.ref CS) = some true) (LO : LamsOk X W k L ts) (hr : Room (k + 2) X.A)
    (hN : X.N[i]? = some y) (hv : ∀ (C : Addr) (cl : List (Str × Addr)), Vis (compEnvC scope cl C X.env).scope y) (he : ∀ (s : Shared) (H : Hp) (C : Addr) (cl : List (Str × Addr)) (fp : List Addr), PE (X.blk s H scope (compEnvC scope cl C X.env) fp) elt te)
    (hdb : (x == ("__debug__" : Str)) = false := by decide) (hd : (y == ("__debug__" : Str)) = false := by decide) (hcd : (y == ("__classdict__" : Str)) = false := by decide)
    (hs : ∀ x, foldedSetIterable iter X.env x = pure x := by intro _; rfl) :
    PE X (.ListComp elt [⟨.Name y p6, iter, [.Compare (.Call (.Name x p) [.Name y p2] [] p3) [.NotEq] [.Constant (.str ret) j p4] p5], 0⟩] scope pos) (lift W E (dBad ti ts CS ret i)) := by
  refine pe_lift (pe_lc2 (tt := fun σ => tTest (tOp rNe (tToldB X W L ts CS ret i σ) (tC (.str ret)))) (te := fun _ => te) hc hNd hi ok hgn (fun pins σ s H C cl fp IM hfp => pts_one (pt_cmpR op_ne (pe_toldB IM hfp (hgl s H C cl fp) hm TA hex LO hr hN (hv C cl) hdb hd hcd) pe_str rfl)) (fun _ _ s H C cl fp _ _ => he s H C cl fp) hs) ?_
  rintro σ H Q ⟨m, st, env, P, Ex, r, ⟨hil, q⟩, kk, x⟩
  refine ⟨m, st, env, _, Ex, r, q, fun xs G st1 m1 H1 J q1 S1 O1 y => ?_, x⟩
  have s1 := r.go S1 O1
  refine ⟨fun n c us H' => c = xs.length - n ∧ n ≤ xs.length ∧ us = [] ∧ ∃ m' st', Stp m1 H1 m' H' ∧ StOk W m' H' st' ∧ dBadT G ts CS ret env (fun st2 => P (.lst []) st2) (xs.drop n) st', ⟨xs.length, by simp, Nat.zero_le _, rfl, m1, st1, .refl _ _, O1, by simpa using q1⟩, ?_⟩
  rintro n c us H' ⟨rfl, hle, rfl, m', st', S', O', q'⟩
  have hG := dBadT_guard q'
  by_cases hlt : n < xs.length
  · refine .inr ⟨y.go n m' H' st' S' O' hG hlt, fun us2 H2 => n < xs.length ∧ us2 = [] ∧ ∃ m2 st2, Stp m1 H1 m2 H2 ∧ StOk W m2 H2 st2 ∧ dBadT G ts CS ret env (fun st2 => P (.lst []) st2) (xs.drop (n + 1)) st2, fun us2 H2 ⟨_, p⟩ => ⟨xs.length - (n + 1), by omega, rfl, hlt, p⟩, fun v H2 hy => ?_⟩
    obtain ⟨d, ed, T2, O2, hd'⟩ := y.yld n m' H' st' v H2 S' O' hG hlt hy
    obtain ⟨_, ed'⟩ := List.getElem?_eq_some_iff.mp ed
    rw [List.drop_eq_getElem_cons hlt, ed'] at q'
    obtain ⟨_, nn, t, en, et, q'⟩ := q'
    subst en
    have ST2 := S'.trans T2
    have hfn : fnpOf X L nn v H2 := by
      have z : W.fnp nn v _ H2 := hd'
      rw [hW] at z
      exact z
    have hlen : i < (L2.wipe σ (own.map (·.2))).length := by
      rw [wipe_length]
      have := r.len
      omega
    refine ⟨by rw [wipe_set, if_pos hio, wipe_twice], v, nn, t, m', st', env, _, by rw [List.getElem?_set_self hlen], hfn, et, s1.go ST2 O2, q', fun d' st2 m2 H3 w ⟨ed', q2⟩ S3 O3 hw => ?_⟩
    subst ed'
    have hw : w = .str ret := hw
    subst hw
    exact ⟨rfl, false, by simp, hlt, rfl, m2, st2, ST2.trans S3, O3, q2⟩
  · have e : n = xs.length := by omega
    subst e
    rw [List.drop_length] at q'
    refine .inl ⟨y.stop m' H' st' S' O' hG, Nat.zero_le _, fun pp hp => ?_⟩
    obtain ⟨n1, n2, n3⟩ := lst_new O' hp (ys := []) (us := []) rfl
    exact kk (.lst []) st' m' _ _ q'.2 ((S1.trans S').trans n1) n2 n3
end
end FL
/-! FW: what the program's text is; what the head must tell of it. -/
namespace FL
open PySem PySem.Spec PyProof.Rows L2

/-! ### the text -/
def top (i : Nat) : Stmt := PySem.Challenge.pw_parsestack_k12_scopes_of_names.main.body.getD i (.Pass ⟨0, 0, 0, 0⟩)
/-- a def, its code object known -/
structure FunC (K : PySem.W.Frag) (x qual : Str) (st : Stmt) (f : Addr) (fd : FuncData) (c : Addr) : Prop where
  ex : ∃ (oc : Value) (od : Option Addr) (kV doc pm : Value) (an : Option Addr) (ct : Value) (osl : Array (Option Value)),
    fd = PySem.W.fnOf x qual (defArgs st) (defBody st) (defScope st) .none kV doc pm an (.ref c) ct ∧ K.lookup f = some ⟨oc, od, .func fd, osl⟩ ∧ PySem.W.codeIn K (.ref c) qual = true
  kp : PySem.W.keepIn K (.ref f) = true
section
variable {P : Program} {w : World} {K : PySem.W.Frag} {mg : Str → Option Value} {base : Heap}
theorem FunC.fn {x qual : Str} {st : Stmt} {f c : Addr} {fd : FuncData} (F : FunC K x qual st f fd c) : Fun K x qual st f fd := by
  obtain ⟨oc, od, kV, doc, pm, an, ct, osl, e1, e2, e3⟩ := F.ex
  exact ⟨⟨oc, od, kV, doc, pm, an, _, ct, osl, e1, e2, e3⟩, F.kp⟩
/-- THE RULE for a def on data: its body's derivation -/
theorem FunC.ok {W : Wd} {x qual : Str} {st : Stmt} {f c : Addr} {fd : FuncData} {N ps : List Str} {k : Nat} {tb : TDS} (F : FunC K x qual st f fd c) (S : FnScope N ps (defScope st))
    (hb : ∀ (A : Around) (outer : List Env) (s : Shared) (H : Hp) (E : XK), Room k (A.deeper (envOfC qual (defScope st) s.heap.objs.size f (.ref c))) → PSs (cxOf (L2.CX P w) P w K mg base N qual (defScope st) f (.ref c) A outer s H E) (defBody st) (liftS W E tb)) :
    FnOk P w K mg base (L2.CX P w) (k + 1) f fd ps (spOf W ps.length (fdOf N.length ps.length tb)) := by
  obtain ⟨oc, od, kV, doc, pm, an, ct, osl, rfl, lk, hcd⟩ := F.ex
  exact fn_of lk hcd S (fun vs H Q E h => h.1) fun A outer s H vs Q E hr hsp => fn_body (hb A outer s H E hr) hsp
end
theorem fd_len {n p : Nat} {tb : TDS} : ∀ ds st P Ex, fdOf n p tb ds st P Ex → ds.length = p := fun _ _ _ _ h => h.1
section
variable {X : Cx} {W : Wd} {E : XK} {pos : Pos}
/-- a name of the module that stands for data -/
theorem d_glob {x : Str} {d : FL.D} {v : V} {u : Value} (hg : Gl X x) (hm : X.mg x = some u) (r : RelV v u) (hi : ∀ m H, Is W m H d v) (hd : (x == ("__debug__" : Str)) = false := by decide) : PE X (.Name x pos) (lift W E (dC d)) := d_const (pe_glob hg hm r hd) hi
theorem dv (i : Nat) {x : Str} (hN : X.N[i]? = some x := by rfl) (hv : Vis X.env.scope x := by first | exact Or.inl rfl | exact Or.inr (Or.inl rfl) | exact Or.inr (Or.inr rfl)) (hd : (x == ("__debug__" : Str)) = false := by decide) (hcd : (x == ("__classdict__" : Str)) = false := by decide) : PE X (.Name x pos) (lift W E (dVar i)) := d_var hN hv hd hcd
theorem gn (i : Nat) {x : Str} (hN : X.N.Nodup) (hi : X.N[i]? = some x := by rfl) (hx : Loc X.env.scope x := by first | exact Or.inl rfl | exact Or.inr rfl) (hf : X.fn x = true ∨ X.env.scope.names.lookup x = some .local := by first | exact .inl rfl | exact .inr rfl) : PG X (.Name x pos) (gName i) := pg_name hN hi hx hf
theorem gd (i : Nat) {x : Str} (hN : X.N.Nodup) (hi : X.N[i]? = some x := by rfl) (hx : Loc X.env.scope x := by first | exact Or.inl rfl | exact Or.inr rfl) (hf : X.fn x = true ∨ X.env.scope.names.lookup x = some .local := by first | exact .inl rfl | exact .inr rfl) : PG X (.Name x pos) (liftG W (dgName i)) := dg_name hN hi hx hf
theorem dset (i : Nat) {x : Str} {e : Expr} {t : TD} {pos' : Pos} (hN : X.N.Nodup) (he : PE X e (lift W E t)) (hi : X.N[i]? = some x := by rfl) (hx : Loc X.env.scope x := by first | exact Or.inl rfl | exact Or.inr rfl) (hs : swapsWith e (some (.Name x pos')) pos.line X.env = pure false := by rfl) (hf : X.fn x = true ∨ X.env.scope.names.lookup x = some .local := by first | exact .inl rfl | exact .inr rfl) :
    PS X (.Assign [.Name x pos'] e pos) (liftS W E (dAsg t (dgName i))) := ds_set hN hi hx he hs hf
/-- dicts of the store are only read from now on -/
inductive Pub : SD → SD → Prop where
  | refl (st : SD) : Pub st st
  | step {st st' : SD} {i : Nat} {l : List (Key × FL.D)} (h : Pub st st') (e : st'[i]? = some (.dct l)) : Pub st (st'.set i (.dctR l))
theorem Pub.ok {m : List Addr} {H : Hp} {st st' : SD} (p : Pub st st') (O : StOk W m H st) : StOk W m H st' := by
  induction p with
  | refl => exact O
  | step _ e ih => exact ih.lockR e
def dPub (t : TD) : TD := fun env st P Ex => t env st (fun d st1 => ∃ st2, Pub st1 st2 ∧ P d st2) Ex
theorem d_pub {e : Expr} {t : TD} (h : PE X e (lift W E t)) : PE X e (lift W E (dPub t)) :=
  pe_lift h fun σ H Q ⟨m, st, env, P, Ex, r, q, k, x⟩ => ⟨m, st, env, _, Ex, r, q, fun d st1 m1 H1 v ⟨st2, p, q2⟩ S1 O1 h1 => k d st2 m1 H1 v q2 S1 (p.ok O1) h1, x⟩
/-! ### comparisons that are no values' rule -/
variable {a b : Expr} {ta tb : TD}
theorem dt_pc {op : CmpOp} {t : TD} (h : PC X op a b (lift W E t)) (h1 : behindInMarks op b = false := by first | exact nobehind _ (by decide) (by decide) | rfl) : PT X (.Compare a [op] [b] pos) (liftB W E (dTest t)) :=
  pt_lift (pt_cmp h h1) fun σ H Q ⟨m, st, env, P, Ex, r, q, k, x⟩ => ⟨m, st, env, _, Ex, r, q, fun d st1 m1 H1 v ⟨b, e, p⟩ S1 O1 h1 => ⟨b, by subst e; exact h1, k b st1 m1 H1 p S1 O1⟩, x⟩
theorem d_pc {op : CmpOp} {t : TD} (h : PC X op a b (lift W E t)) (h1 : behindInMarks op b = false := by first | exact nobehind _ (by decide) (by decide) | rfl) : PE X (.Compare a [op] [b] pos) (lift W E t) := pe_cmp h h1
/-! ### room, what is let out -/
theorem u0 {k : Nat} {A : Around} (r : Room k A) : A.units < cLine := by have := r.un; omega
theorem u1 {k : Nat} {A : Around} (r : Room k A) : A.units + 1 < cLine := by have := r.un; omega
theorem u2 {k : Nat} {A : Around} (r : Room k A) : A.units + 2 < cLine := by have := r.un; omega
theorem u64 {k : Nat} {A : Around} (r : Room k A) : A.units + 64 < cLine := by have := r.un; omega
theorem u70 {k : Nat} {A : Around} (r : Room k A) : A.units + 70 < cLine := by have := r.un; omega
theorem passN : Passes (L2.CX X.prog X.w) X noXK := L2.passes_call LamX.takes0 fun _ _ _ _ h => h
/-! ### l[i] = v of a list of the store -/
variable {o i e : Expr} {ti : TD}
def dgSub (to ti : TD) : TDG := fun d env st P => to env st (fun x st1 => ti env st1 (fun y st2 => ∃ j l k n, x = .ref j ∧ st2[j]? = some (.lst l) ∧ y = .int k ∧ ixN l.length k = some n ∧ P env (st2.set j (.lst (l.set n d)))) noX) noX
theorem dg_sub (ho : PE X o (lift W noXK ta)) (hi : PE X i (lift W noXK ti))
    (ha : ∀ v, assign (.Subscript o i pos) X.env v = (do
      let ov ← holding [v] (eval o X.env)
      let iv ← holding [v, ov] (eval i X.env)
      standAt pos
      holding [v, ov, iv] (setItem ov iv v)
      release [v, ov, iv] []) := by intro _; rfl) : PG X (.Subscript o i pos) (liftG W (dgSub ta ti)) :=
  pg_lift (pg_sub ho hi set_list ha) fun v σ H Q ⟨m, st, env, d, P, s, h, q, k⟩ => ⟨m, st, env, _, noX, s, q, fun x st1 m1 H1 w q1 S1 O1 h1 => ⟨m1, st1, env, _, noX, s.go S1 O1, q1, fun y st2 m2 H2 u ⟨j, l, n, nn, ex, el, ey, en, q2⟩ S2 O2 h2 => by
    subst ex ey
    obtain ⟨a, em, ev⟩ := Is.mono S2 O1.mut _ w h1
    obtain ⟨vs, hq, hi⟩ := lst_at O2 em el
    have S12 := S1.trans S2
    obtain ⟨n1, n2⟩ := lset O2 em hq (IsL.set (i := nn) hi (Is.mono S12 s.ok.mut d v h))
    exact ⟨a, vs, n, nn, ev, h2, hq, by rw [← hi.length]; exact en, k env _ m2 _ σ q2 (S12.trans n1) (((s.go S1 O1).go S2 O2).go n1 n2)⟩, exn_no⟩, exn_no⟩
/-! ### script[:n] -/
def dSlFn (ns : List Int) (te : TD) (tl th : TDO) : TD := fun env st P Ex => te env st (fun x st1 => tl env st1 (fun lo st2 => th env st2 (fun hi st3 => x = .fn 0 ∧ P (.lst (cutD (ns.map FL.D.int) lo hi)) st3) Ex) Ex) Ex
/-- what is kept of the script -/
def scrP (K : PySem.W.Frag) (ns : List Int) : V → List Addr → Hp → Prop := fun v m H => ∃ a, v = .ref a ∧ ((H a = some (.lst (ns.map V.int)) ∧ a ∉ m) ∨ (∃ o, H a = some (.frz o (.lst (ns.map V.int)))) ∨ SqL K (fun _ => none) a (ns.map V.int))
theorem is_ints {m : List Addr} {H : Hp} : ∀ ns : List Int, IsL W m H (ns.map FL.D.int) (ns.map V.int)
  | [] => rfl
  | n :: ns => ⟨.int n, _, rfl, rfl, is_ints ns⟩
theorem d_sliceFn {ns : List Int} {lo hi : Option Expr} {p2 : Pos} {t1 t2 : TDO} (hK : X.K = W.K) (hW : ∀ v m H, W.fnp 0 v m H → ∃ a, v = .ref a ∧ SqL W.K H a (ns.map V.int)) (he : PE X e (lift W E ta)) (hl : PO X lo (liftO W E t1)) (hh : PO X hi (liftO W E t2)) : PE X (.Subscript e (.Slice lo hi none p2) pos) (lift W E (dSlFn ns ta t1 t2)) :=
  pe_lift (pe_slice sl_list he hl hh) fun σ H Q ⟨m, st, env, P, Ex, r, q, k, x⟩ => ⟨m, st, env, _, Ex, r, q, fun d st1 m1 H1 v q1 S1 O1 h1 => ⟨m1, st1, env, _, Ex, r.go S1 O1, q1, fun lo st2 m2 H2 q2 S2 O2 => ⟨m2, st2, env, _, Ex, (r.go S1 O1).go S2 O2, q2, fun hi st3 m3 H3 ⟨ed, q3⟩ S3 O3 => by
    subst ed
    have S23 := S2.trans S3
    obtain ⟨a, ev, hq⟩ := hW v m3 H3 (Is.mono S23 O1.mut _ v h1)
    rw [← hK] at hq
    refine ⟨a, _, ev, hq, fun p hp => ?_⟩
    obtain ⟨n1, n2, n3⟩ := lst_new O3 hp (isL_cut (is_ints (W := W) ns) lo hi)
    exact k _ st3 m3 _ _ q3 ((S1.trans S23).trans n1) n2 n3, (x.go S1).go S2⟩, x.go S1⟩, x⟩
end
end FL
/-! FXa: the rules in short, for derivations that a program prints; what the head must tell. -/
namespace FL
open PySem PySem.Spec PyProof.Rows L2

theorem bt_tuple : bootBuiltins "tuple" = some (.type "tuple") := by decide +kernel
theorem bt_list : bootBuiltins "list" = some (.type "list") := by decide +kernel
theorem bt_dict : bootBuiltins "dict" = some (.type "dict") := by decide +kernel
theorem bt_int : bootBuiltins "int" = some (.type "int") := by decide +kernel
theorem bt_str : bootBuiltins "str" = some (.type "str") := by decide +kernel
theorem bt_sorted : bootBuiltins "sorted" = some (.builtin "sorted") := by decide +kernel
theorem bt_abs : bootBuiltins "abs" = some (.builtin "abs") := by decide +kernel
theorem bt_max : bootBuiltins "max" = some (.builtin "max") := by decide +kernel
structure WOk (W : Wd) (K : PySem.W.Frag) (tg : List Addr) (tl : List (Addr × Str)) : Prop where
  k : W.K = K
  tg : W.tg = tg
  tl : W.tl = tl
theorem WOk.lk {W : Wd} {K : PySem.W.Frag} {tg : List Addr} {tl : List (Addr × Str)} (h : WOk W K tg tl) (i : Nat) : WOk (W.lock i) K tg tl := ⟨h.k, h.tg, h.tl⟩
/-- what the head tells of the classes, the built-ins' names, the constants -/
structure Tx (K : PySem.W.Frag) (mg : Str → Option Value) (C CS : Addr) : Prop where
  cl : Cls K C
  na : ∀ g ∈ (["deeds", "meant", "lost", "owners", "scopes"] : List Str), NoAttr K C g
  b : ∀ x ∈ (["len", "tuple", "list", "dict", "sorted", "enumerate", "range", "int", "abs", "max", "str"] : List Str), mg x = none
  mC : mg "Scopes" = some (.ref C)
  mS : mg "ScopeError" = some (.ref CS)
  deep : ∃ t, mg "MOST_DEEP" = some (.int 12 t)
  kinds : ∃ a, mg "KINDS_OF_DEED" = some (.ref a) ∧ ∀ (W : Wd) m H, W.K = K → Is W m H (.tup [.str "put", .str "use", .str "in", .str "out"]) (.ref a)
  neq : NoEq K C
  exm : PySem.W.exmOne K (.ref CS) (.ref CS) = some true
  kS : PySem.W.keepIn K (.ref CS) = true
  excS : PySem.W.excIn K CS [.type "ValueError", .type "Exception", .type "BaseException", .type "object"] "ValueError.__new__" = true
  subS : PySem.W.subIn K (.ref CS) (.type "BaseException") = some true
  tyS : PySem.W.typeIn K (.ref CS) = some (.type "type")
/-- a def that may be called by its name -/
structure CalF (P : Program) (w : World) (K : PySem.W.Frag) (mg : Str → Option Value) (base : Heap) (tg : List Addr) (tl : List (Addr × Str)) (k : Nat) (x : Str) (ps : List Str) (F : FD) : Prop where
  ex : ∃ (f : Addr) (fd : FuncData), (∀ W, WOk W K tg tl → FnOk P w K mg base (L2.CX P w) k f fd ps (spOf W ps.length F)) ∧ mg x = some (.ref f) ∧ PySem.W.keepIn K (.ref f) = true ∧ L2.Binds K fd ps []
  len : ∀ ds st P Ex, F ds st P Ex → ds.length = ps.length
/-- .. as a method of the class at C -/
structure CalM (P : Program) (w : World) (K : PySem.W.Frag) (mg : Str → Option Value) (base : Heap) (tg : List Addr) (tl : List (Addr × Str)) (C : Addr) (k : Nat) (x : Str) (ps : List Str) (F : FD) : Prop where
  ex : ∃ (f : Addr) (fd : FuncData), (∀ W, WOk W K tg tl → FnOk P w K mg base (L2.CX P w) k f fd ps (spOf W ps.length F)) ∧ L2.Meth K C x f ∧ L2.Binds K fd ps []
  len : ∀ ds st P Ex, F ds st P Ex → ds.length = ps.length
structure CalI (P : Program) (w : World) (K : PySem.W.Frag) (mg : Str → Option Value) (base : Heap) (tg : List Addr) (tl : List (Addr × Str)) (C : Addr) (k : Nat) (ps : List Str) (F : FD) : Prop where
  ex : ∃ (f : Addr) (fd : FuncData), (∀ W, WOk W K tg tl → FnOk P w K mg base (L2.CX P w) k f fd ps (spOf W ps.length F)) ∧ L2.Mk K C f ∧ L2.Binds K fd ps []
  len : ∀ ds st P Ex, F ds st P Ex → ds.length = ps.length
section
variable {X : Cx} {W : Wd} {E : XK} {pos : Pos} {a b c e o : Expr} {es : List Expr} {ta tb tc te : TD} {tl' : TDL} {tg : List Addr} {tl : List (Addr × Str)} {C CS : Addr} {k j : Nat} {x : Str} {ps : List Str} {F : FD} {p apos : Pos}
theorem x_call (G : CalF X.prog X.w X.K X.mg X.base tg tl k x ps F) (hW : WOk W X.K tg tl) (hr : Room j X.A) (hx : Passes (L2.CX X.prog X.w) X E) (ha : PA X (e :: es) (liftL W E tl')) (hk : k ≤ j := by decide) (hg : Gl X x := by rfl) (hdb : (x == ("__debug__" : Str)) = false := by decide)
    (he : starEach (e :: es) X.env = (false, eval e X.env) :: starEach es X.env := by rfl) (hpl : (backTo pos (starEach es X.env)).any (·.1) = false := by rfl) : PE X (.Call (.Name x p) (e :: es) [] pos) (lift W E (dFn F tl')) := by
  obtain ⟨f, fd, h1, h2, h3, h4⟩ := G.ex
  exact d_fn (h1 W hW) G.len (hr.mono hk) hg h2 h3 h4 hx ha hdb he hpl
theorem x_call0 (G : CalF X.prog X.w X.K X.mg X.base tg tl k x ps F) (hW : WOk W X.K tg tl) (hr : Room j X.A) (hx : Passes (L2.CX X.prog X.w) X E) (hk : k ≤ j := by decide) (hg : Gl X x := by rfl) (hdb : (x == ("__debug__" : Str)) = false := by decide) : PE X (.Call (.Name x p) [] [] pos) (lift W E (dFn F dNil)) := by
  obtain ⟨f, fd, h1, h2, h3, h4⟩ := G.ex
  exact d_fn0 (h1 W hW) G.len (hr.mono hk) hg h2 h3 h4 hx hdb
theorem x_meth {pl : Sem Bool} (G : CalM X.prog X.w X.K X.mg X.base tg tl C k x ps F) (T : Tx X.K X.mg C CS) (hW : WOk W X.K tg tl) (hr : Room j X.A) (hx : Passes (L2.CX X.prog X.w) X E) (ho : PE X o (lift W E ta)) (ha : PA X (e :: es) (liftL W E tl')) (hk : k ≤ j := by decide)
    (hst : starEach (e :: es) X.env = (false, eval e X.env) :: starEach es X.env := by rfl) (hpl : (backTo pos (starEach es X.env)).any (·.1) = false := by rfl)
    (ht : eval (.Call (.Attribute o x apos) (e :: es) [] pos) X.env = (do
      let ov ← eval o X.env
      standAt apos.atName
      let (f, first) ← holding [ov] (getMethod ov x pl)
      callWith pos f first (backTo pos (starEach (e :: es) X.env)) (backToKw pos (keywordEach [] X.env))) := by rfl) : PE X (.Call (.Attribute o x apos) (e :: es) [] pos) (lift W E (dMeth C x F ta tl')) := by
  obtain ⟨f, fd, h1, h2, h3⟩ := G.ex
  exact d_meth (pl := pl) (h1 W hW) G.len ho T.cl h2 (hr.mono hk) h3 hx ha hst hpl ht
theorem x_meth0 {pl : Sem Bool} (G : CalM X.prog X.w X.K X.mg X.base tg tl C k x ps F) (T : Tx X.K X.mg C CS) (hW : WOk W X.K tg tl) (hr : Room j X.A) (hx : Passes (L2.CX X.prog X.w) X E) (ho : PE X o (lift W E ta)) (hk : k ≤ j := by decide)
    (ht : eval (.Call (.Attribute o x apos) [] [] pos) X.env = (do
      let ov ← eval o X.env
      standAt apos.atName
      let (f, first) ← holding [ov] (getMethod ov x pl)
      callWith pos f first (backTo pos (starEach [] X.env)) (backToKw pos (keywordEach [] X.env))) := by rfl) : PE X (.Call (.Attribute o x apos) [] [] pos) (lift W E (dMeth C x F ta dNil)) := by
  obtain ⟨f, fd, h1, h2, h3⟩ := G.ex
  exact d_meth0 (pl := pl) (h1 W hW) G.len ho T.cl h2 (hr.mono hk) h3 hx ht
theorem x_make (G : CalI X.prog X.w X.K X.mg X.base tg tl C k ps F) (T : Tx X.K X.mg C CS) (hW : WOk W X.K tg tl) (hr : Room j X.A) (hx : Passes (L2.CX X.prog X.w) X E) (ha : PA X (e :: es) (liftL W E tl')) (hk : k + 1 ≤ j := by decide) (hg : Gl X "Scopes" := by rfl)
    (he : starEach (e :: es) X.env = (false, eval e X.env) :: starEach es X.env := by rfl) (hpl : (backTo pos (starEach es X.env)).any (·.1) = false := by rfl) : PE X (.Call (.Name "Scopes" p) (e :: es) [] pos) (lift W E (dPub (dMake C F tl'))) := by
  obtain ⟨f, fd, h1, h2, h3⟩ := G.ex
  exact d_pub (d_make h2 (h1 W hW) G.len (hr.mono hk) hg T.mC h3 hx ha (by decide) he hpl)
theorem x_fld {g : Str} (T : Tx X.K X.mg C CS) (he : PE X e (lift W E ta)) (hg : g ∈ (["deeds", "meant", "lost", "owners", "scopes"] : List Str) := by decide) (hb : attributeBase e g X.env (eval e X.env) = eval e X.env := by rfl) : PE X (.Attribute e g pos) (lift W E (dFld C g ta)) := d_fld T.cl (T.na g hg) he hb
theorem x_sfld {g : Str} {value : Expr} {pos' : Pos} (T : Tx X.K X.mg C CS) (ha : PE X o (lift W E ta)) (hv : PE X value (lift W E tb)) (hg : g ∈ (["deeds", "meant", "lost", "owners", "scopes"] : List Str) := by decide) (hs : swapsWith value (some (.Attribute o g pos')) pos.line X.env = pure false := by rfl) :
    PS X (.Assign [.Attribute o g pos'] value pos) (liftS W E (dSetF C g ta tb)) := ds_fld T.cl (T.na g hg) ha hv hs
/-! comparisons -/
theorem e_eq (hr : Room j X.A) (hW : WOk W X.K tg tl) (ha : PE X a (lift W E ta)) (hb : PE X b (lift W E tb)) (hm : behindInMarks .Eq b = false := by rfl) : PE X (.Compare a [.Eq] [b] pos) (lift W E (dOp fEq ta tb)) := d_cmp (OpR.or op_eq (op_eqD (u64 hr))) (rl_eq hW.k.symm) ha hb hm
theorem t_eq (hr : Room j X.A) (hW : WOk W X.K tg tl) (ha : PE X a (lift W E ta)) (hb : PE X b (lift W E tb)) (hm : behindInMarks .Eq b = false := by rfl) : PT X (.Compare a [.Eq] [b] pos) (liftB W E (dCmpT fEq ta tb)) := dt_cmp (OpR.or op_eq (op_eqD (u64 hr))) (rl_eq hW.k.symm) ha hb hm
theorem e_ne (hr : Room j X.A) (hW : WOk W X.K tg tl) (ha : PE X a (lift W E ta)) (hb : PE X b (lift W E tb)) (hm : behindInMarks .NotEq b = false := by rfl) : PE X (.Compare a [.NotEq] [b] pos) (lift W E (dOp fNe ta tb)) := d_cmp (OpR.or op_ne (op_neD (u64 hr))) (rl_ne hW.k.symm) ha hb hm
theorem t_ne (hr : Room j X.A) (hW : WOk W X.K tg tl) (ha : PE X a (lift W E ta)) (hb : PE X b (lift W E tb)) (hm : behindInMarks .NotEq b = false := by rfl) : PT X (.Compare a [.NotEq] [b] pos) (liftB W E (dCmpT fNe ta tb)) := dt_cmp (OpR.or op_ne (op_neD (u64 hr))) (rl_ne hW.k.symm) ha hb hm
theorem t_lt (ha : PE X a (lift W E ta)) (hb : PE X b (lift W E tb)) (hm : behindInMarks .Lt b = false := by rfl) : PT X (.Compare a [.Lt] [b] pos) (liftB W E (dCmpT fLt ta tb)) := dt_cmp op_lt rl_cmp ha hb hm
theorem t_gt (ha : PE X a (lift W E ta)) (hb : PE X b (lift W E tb)) (hm : behindInMarks .Gt b = false := by rfl) : PT X (.Compare a [.Gt] [b] pos) (liftB W E (dCmpT fGt ta tb)) := dt_cmp op_gt rl_cmp ha hb hm
theorem t_ge (ha : PE X a (lift W E ta)) (hb : PE X b (lift W E tb)) (hm : behindInMarks .GtE b = false := by rfl) : PT X (.Compare a [.GtE] [b] pos) (liftB W E (dCmpT fGe ta tb)) := dt_cmp op_ge rl_cmp ha hb hm
theorem e_lt (ha : PE X a (lift W E ta)) (hb : PE X b (lift W E tb)) (hm : behindInMarks .Lt b = false := by rfl) : PE X (.Compare a [.Lt] [b] pos) (lift W E (dOp fLt ta tb)) := d_cmp op_lt rl_cmp ha hb hm
theorem e_ge (ha : PE X a (lift W E ta)) (hb : PE X b (lift W E tb)) (hm : behindInMarks .GtE b = false := by rfl) : PE X (.Compare a [.GtE] [b] pos) (lift W E (dOp fGe ta tb)) := d_cmp op_ge rl_cmp ha hb hm
theorem e_gt (ha : PE X a (lift W E ta)) (hb : PE X b (lift W E tb)) (hm : behindInMarks .Gt b = false := by rfl) : PE X (.Compare a [.Gt] [b] pos) (lift W E (dOp fGt ta tb)) := d_cmp op_gt rl_cmp ha hb hm
theorem t_in (hW : WOk W X.K tg tl) (ha : PE X a (lift W E ta)) (hb : PE X b (lift W E tb)) (hm : behindInMarks .In b = false := by rfl) : PT X (.Compare a [.In] [b] pos) (liftB W E (dCmpT (fInB false) ta tb)) := dt_cmp op_in_seq (rl_in hW.k.symm false) ha hb hm
theorem t_nin (hW : WOk W X.K tg tl) (ha : PE X a (lift W E ta)) (hb : PE X b (lift W E tb)) (hm : behindInMarks .NotIn b = false := by rfl) : PT X (.Compare a [.NotIn] [b] pos) (liftB W E (dCmpT (fInB true) ta tb)) := dt_cmp op_notIn_seq (rl_in hW.k.symm true) ha hb hm
theorem t_din (hr : Room j X.A) (ha : PE X a (lift W E ta)) (hb : PE X b (lift W E tb)) (h1 : behindInMarks .In b = false := by rfl) : PT X (.Compare a [.In] [b] pos) (liftB W E (dTest (dOp (fDIn false) ta tb))) := dt_pc (dc_in (u1 hr) ha hb) h1
theorem t_dnin (hr : Room j X.A) (ha : PE X a (lift W E ta)) (hb : PE X b (lift W E tb)) (h1 : behindInMarks .NotIn b = false := by rfl) : PT X (.Compare a [.NotIn] [b] pos) (liftB W E (dTest (dOp (fDIn true) ta tb))) := dt_pc (dc_notin (u1 hr) ha hb) h1
theorem t_vin {cpos : Pos} (hc : X.calm = true) (ha : PE X a (lift W E ta)) (hb : PE X b (lift W E tb)) (hbase : attributeBase b "values" X.env (eval b X.env) = eval b X.env := by rfl) (hline : (apos.endLine == cpos.line) = true := by rfl) (h1 : behindInMarks .In (.Call (.Attribute b "values" apos) [] [] cpos) = false := by rfl) :
    PT X (.Compare a [.In] [.Call (.Attribute b "values" apos) [] [] cpos] pos) (liftB W E (dTest (dOp (fInVals false) ta tb))) := dt_pc (dc_inVals hc ha hb hbase hline) h1
theorem t_vnin {cpos : Pos} (hc : X.calm = true) (ha : PE X a (lift W E ta)) (hb : PE X b (lift W E tb)) (hbase : attributeBase b "values" X.env (eval b X.env) = eval b X.env := by rfl) (hline : (apos.endLine == cpos.line) = true := by rfl) (h1 : behindInMarks .NotIn (.Call (.Attribute b "values" apos) [] [] cpos) = false := by rfl) :
    PT X (.Compare a [.NotIn] [.Call (.Attribute b "values" apos) [] [] cpos] pos) (liftB W E (dTest (dOp (fInVals true) ta tb))) := dt_pc (dc_notinVals hc ha hb hbase hline) h1
theorem t_deq (hr : Room j X.A) (ha : PE X a (lift W E ta)) (hb : PE X b (lift W E tb)) (hm : behindInMarks .Eq b = false := by rfl) : PT X (.Compare a [.Eq] [b] pos) (liftB W E (dCmpT (fDctEq false) ta tb)) := dt_cmp (op_eq_dctB (u0 hr)) (rl_dctEq false) ha hb hm
theorem e_deq (hr : Room j X.A) (ha : PE X a (lift W E ta)) (hb : PE X b (lift W E tb)) (hm : behindInMarks .Eq b = false := by rfl) : PE X (.Compare a [.Eq] [b] pos) (lift W E (dOp (fDctEq false) ta tb)) := d_cmp (op_eq_dctB (u0 hr)) (rl_dctEq false) ha hb hm
theorem t_dne (hr : Room j X.A) (ha : PE X a (lift W E ta)) (hb : PE X b (lift W E tb)) (hm : behindInMarks .NotEq b = false := by rfl) : PT X (.Compare a [.NotEq] [b] pos) (liftB W E (dCmpT (fDctEq true) ta tb)) := dt_cmp (op_ne_dctB (u0 hr)) (rl_dctEq true) ha hb hm
theorem t_isN (ha : PE X a (lift W E ta)) (hb : PE X b (lift W E tb)) (hm : behindInMarks .Is b = false := by rfl) : PT X (.Compare a [.Is] [b] pos) (liftB W E (dCmpT fIsN ta tb)) := dt_cmp op_isN rl_isN ha hb hm
theorem t_notN (ha : PE X a (lift W E ta)) (hb : PE X b (lift W E tb)) (hm : behindInMarks .IsNot b = false := by rfl) : PT X (.Compare a [.IsNot] [b] pos) (liftB W E (dCmpT fNotN ta tb)) := dt_cmp op_notN rl_notN ha hb hm
theorem e_isN (ha : PE X a (lift W E ta)) (hb : PE X b (lift W E tb)) (hm : behindInMarks .Is b = false := by rfl) : PE X (.Compare a [.Is] [b] pos) (lift W E (dOp fIsN ta tb)) := d_cmp op_isN rl_isN ha hb hm
theorem e_notN (ha : PE X a (lift W E ta)) (hb : PE X b (lift W E tb)) (hm : behindInMarks .IsNot b = false := by rfl) : PE X (.Compare a [.IsNot] [b] pos) (lift W E (dOp fNotN ta tb)) := d_cmp op_notN rl_notN ha hb hm
/-! built-ins -/
theorem x_len (T : Tx X.K X.mg C CS) (hW : WOk W X.K tg tl) (ha : PE X a (lift W E ta)) (hg : Gl X "len" := by rfl) (he : starEach [a] X.env = (false, eval a X.env) :: starEach [] X.env := by rfl) (hpl : (backTo pos (starEach [] X.env)).any (·.1) = false := by rfl) : PE X (.Call (.Name "len" p) [a] [] pos) (lift W E (dCall fLen (dCons ta dNil))) :=
  d_callB (CallR.or call_len_seq call_lenD) (rl_len hW.k.symm) hg (T.b _ (by decide)) PySem.boot_len (da_cons ha da_nil he) (by decide) (by decide) he hpl
theorem x_tuple (T : Tx X.K X.mg C CS) (hW : WOk W X.K tg tl) (ha : PE X a (lift W E ta)) (hg : Gl X "tuple" := by rfl) (he : starEach [a] X.env = (false, eval a X.env) :: starEach [] X.env := by rfl) (hpl : (backTo pos (starEach [] X.env)).any (·.1) = false := by rfl) : PE X (.Call (.Name "tuple" p) [a] [] pos) (lift W E (dCall fTuple (dCons ta dNil))) :=
  d_callTy call_tuple_of (rl_tuple hW.k.symm) hg (T.b _ (by decide)) bt_tuple (da_cons ha da_nil he) (by decide) (by decide) he hpl
theorem x_list (T : Tx X.K X.mg C CS) (hW : WOk W X.K tg tl) (ha : PE X a (lift W E ta)) (hg : Gl X "list" := by rfl) (he : starEach [a] X.env = (false, eval a X.env) :: starEach [] X.env := by rfl) (hpl : (backTo pos (starEach [] X.env)).any (·.1) = false := by rfl) : PE X (.Call (.Name "list" p) [a] [] pos) (lift W E (dCall fList (dCons ta dNil))) :=
  d_callTy call_list_of (rl_list hW.k.symm) hg (T.b _ (by decide)) bt_list (da_cons ha da_nil he) (by decide) (by decide) he hpl
theorem x_int (T : Tx X.K X.mg C CS) (hW : WOk W X.K tg tl) (ha : PE X a (lift W E ta)) (hg : Gl X "int" := by rfl) (he : starEach [a] X.env = (false, eval a X.env) :: starEach [] X.env := by rfl) (hpl : (backTo pos (starEach [] X.env)).any (·.1) = false := by rfl) : PE X (.Call (.Name "int" p) [a] [] pos) (lift W E (dCall fInt (dCons ta dNil))) :=
  d_callTy call_int1 rl_int hg (T.b _ (by decide)) bt_int (da_cons ha da_nil he) (by decide) (by decide) he hpl
theorem x_str (T : Tx X.K X.mg C CS) (hW : WOk W X.K tg tl) (ha : PE X a (lift W E ta)) (hg : Gl X "str" := by rfl) (he : starEach [a] X.env = (false, eval a X.env) :: starEach [] X.env := by rfl) (hpl : (backTo pos (starEach [] X.env)).any (·.1) = false := by rfl) : PE X (.Call (.Name "str" p) [a] [] pos) (lift W E (dCall fStrI (dCons ta dNil))) :=
  d_callTy call_str_int rl_strI hg (T.b _ (by decide)) bt_str (da_cons ha da_nil he) (by decide) (by decide) he hpl
theorem x_abs (T : Tx X.K X.mg C CS) (hW : WOk W X.K tg tl) (ha : PE X a (lift W E ta)) (hg : Gl X "abs" := by rfl) (he : starEach [a] X.env = (false, eval a X.env) :: starEach [] X.env := by rfl) (hpl : (backTo pos (starEach [] X.env)).any (·.1) = false := by rfl) : PE X (.Call (.Name "abs" p) [a] [] pos) (lift W E (dCall fAbs (dCons ta dNil))) :=
  d_callB call_abs rl_abs hg (T.b _ (by decide)) bt_abs (da_cons ha da_nil he) (by decide) (by decide) he hpl
theorem x_max (T : Tx X.K X.mg C CS) (hW : WOk W X.K tg tl) (hc : X.calm = true) (ha : PE X a (lift W E ta)) (hb : PE X b (lift W E tb)) (hg : Gl X "max" := by rfl) (he : starEach [a, b] X.env = (false, eval a X.env) :: starEach [b] X.env := by rfl) (he2 : starEach [b] X.env = (false, eval b X.env) :: starEach [] X.env := by rfl) (hpl : (backTo pos (starEach [b] X.env)).any (·.1) = false := by rfl) : PE X (.Call (.Name "max" p) [a, b] [] pos) (lift W E (dCall fMax (dCons ta (dCons tb dNil)))) :=
  d_callB (call_max2 hc) rl_max hg (T.b _ (by decide)) bt_max (da_cons ha (da_cons hb da_nil he2) he) (by decide) (by decide) he hpl
theorem x_sorted (T : Tx X.K X.mg C CS) (hW : WOk W X.K tg tl) (hc : X.calm = true) (ha : PE X a (lift W E ta)) (hg : Gl X "sorted" := by rfl) (he : starEach [a] X.env = (false, eval a X.env) :: starEach [] X.env := by rfl) (hpl : (backTo pos (starEach [] X.env)).any (·.1) = false := by rfl) : PE X (.Call (.Name "sorted" p) [a] [] pos) (lift W E (dCall fSortD (dCons ta dNil))) :=
  d_callB (call_sortedD hc) rl_sortD hg (T.b _ (by decide)) bt_sorted (da_cons ha da_nil he) (by decide) (by decide) he hpl
theorem x_dict (T : Tx X.K X.mg C CS) (hW : WOk W X.K tg tl) (hc : X.calm = true) (ha : PE X a (lift W E ta)) (hg : Gl X "dict" := by rfl) (he : starEach [a] X.env = (false, eval a X.env) :: starEach [] X.env := by rfl) (hpl : (backTo pos (starEach [] X.env)).any (·.1) = false := by rfl) : PE X (.Call (.Name "dict" p) [a] [] pos) (lift W E (dPub (dCall fDict (dCons ta dNil)))) :=
  d_pub (d_callTy (call_dictP hc) (rl_dict hW.k.symm) hg (T.b _ (by decide)) bt_dict (da_cons ha da_nil he) (by decide) (by decide) he hpl)
theorem x_dict0 (T : Tx X.K X.mg C CS) (hW : WOk W X.K tg tl) (hc : X.calm = true) (ha : PE X a (lift W E ta)) (hg : Gl X "dict" := by rfl) (he : starEach [a] X.env = (false, eval a X.env) :: starEach [] X.env := by rfl) (hpl : (backTo pos (starEach [] X.env)).any (·.1) = false := by rfl) : PE X (.Call (.Name "dict" p) [a] [] pos) (lift W E (dCall fDict (dCons ta dNil))) :=
  d_callTy (call_dictP hc) (rl_dict hW.k.symm) hg (T.b _ (by decide)) bt_dict (da_cons ha da_nil he) (by decide) (by decide) he hpl
/-! raise ScopeError('..') -/
theorem x_raise {m : Str} {jj : Nat} {p2 p3 : Pos} {Wx : WX} (T : Tx X.K X.mg C CS) (hc : X.calm = true) (tk : Takes X Wx) (hWx : ∀ cls d σ H, E cls d H → Wx cls d σ H) (hg : Gl X "ScopeError" := by rfl) : PS X (.Raise (some (.Call (.Name "ScopeError" p) [.Constant (.str m) jj p2] [] p3)) none pos) (liftS W E (dRaise CS)) :=
  ds_raise hc tk hWx (pmk_own PySem.F.excBase_ValueError T.excS T.mS T.kS (raises_own T.subS T.tyS) hg)
theorem x_deep (T : Tx X.K X.mg C CS) (hg : Gl X "MOST_DEEP" := by rfl) : PE X (.Name "MOST_DEEP" pos) (lift W E (dC (.int 12))) := by
  obtain ⟨t, h⟩ := T.deep
  exact d_glob (v := .int 12) hg h ⟨t, rfl⟩ fun _ _ => rfl
theorem x_kinds (T : Tx X.K X.mg C CS) (hW : WOk W X.K tg tl) (hg : Gl X "KINDS_OF_DEED" := by rfl) : PE X (.Name "KINDS_OF_DEED" pos) (lift W E (dC (.tup [.str "put", .str "use", .str "in", .str "out"]))) := by
  obtain ⟨a, h, hi⟩ := T.kinds
  exact d_glob (v := .ref a) hg h rfl fun m H => hi W m H hW.k
def dNever : TDS := fun _ _ _ _ => False
theorem ds_never {s : Stmt} : PS X s (liftS W E dNever) := ⟨fun _ _ _ _ _ _ ⟨_, _, _, _, _, _, q, _⟩ => q.elim⟩
theorem dss_never {s : List Stmt} : PSs X s (liftS W E dNever) := ⟨fun _ _ _ _ _ _ ⟨_, _, _, _, _, _, q, _⟩ => q.elim⟩
end
end FL
/-! FXb: the law's own: an instance or a text compared with a text; _law_told; a def that keeps lambdas. -/
namespace FL
open PySem PySem.Spec PyProof.Rows L2

section
variable {X : Cx} {W : Wd} {E : XK} {pos : Pos} {a b : Expr} {ta tb : TD} {tg : List Addr} {tl : List (Addr × Str)} {C CS g c : Addr} {j : Nat} {fd : FuncData}
def fEqI (C : Addr) : F2 := fun st x y P => fEq st x y P ∨ ∃ i fs z, x = .ref i ∧ y = .str z ∧ st[i]? = some (.ins C fs) ∧ P (.bl false) st
theorem e_eqi (T : Tx X.K X.mg C CS) (hr : Room j X.A) (hW : WOk W X.K tg tl) (ha : PE X a (lift W E ta)) (hb : PE X b (lift W E tb)) (hm : behindInMarks .Eq b = false := by rfl) : PE X (.Compare a [.Eq] [b] pos) (lift W E (dOp (fEqI C) ta tb)) :=
  d_cmp (OpR.or (OpR.or op_eq (op_eqD (u64 hr))) (op_insStr (u0 hr))) (Rl2.or (rl_eq hW.k.symm) fun m H st x y v w P Q O hx hy ⟨i, fs, z, e1, e2, e3, q⟩ k => rl_insStr m H st x y v w P Q O hx hy ⟨i, C, fs, z, e1, e2, e3, T.neq, q⟩ k) ha hb hm
abbrev s_law_told : Stmt := top 12
theorem sc_law_told : FnScope ["what"] ["what"] (defScope s_law_told) := ⟨rfl, rfl, rfl, by decide +kernel, rfl, by decide +kernel, by decide +kernel⟩
theorem told_ok (FT : FunC X.K "_law_told" "_law_told" s_law_told g fd c) (T : Tx X.K X.mg C CS) : ToldAt X "_law_told" "what" "ScopeError" g CS (LamX.TTold X.K CS "ScopeError") := by
  have hb : L2.Binds X.K fd ["what"] [] := FT.fn.binds (ps := ["what"]) fun _ _ _ _ _ _ us hl => match us, hl with | [_], _ => rfl
  obtain ⟨oc, od, kV, doc, pm, an, ct, osl, rfl, lk, hcd⟩ := FT.ex
  exact toldAt (Ng := ["what"]) (a := "what") (ret := "ScopeError") FT.kp lk hcd hb sc_law_told rfl (.inl rfl) (LamX.told_gives (e := "ScopeError") (ret := "ScopeError") (by rfl) T.mS (by decide) fun f => rfl)
/-! ### a def that is run with a store of its own -/
theorem frame_ok {W W1 : Wd} {m m' : List Addr} {H H' : Hp} {st st' : SD} (hg : W1.tg = W.tg) (hl : W1.tl = W.tl) (O : StOk W m H st) (S : Stp [] H m' H') (O' : StOk W1 m' H' st') : Stp m H m H' ∧ StOk W m H' st := by
  have S2 : Stp m H m H' := ⟨⟨[], by simp, by simp⟩, fun a o e _ n => S.keep a o e (by simp) n, S.frz, S.dom⟩
  refine ⟨S2, O.len, O.nd, fun i o a e1 e2 => (O.obj i o a e1 e2).mono S2 O.mut ?_, fun P hP => O'.tg P (by rw [hg]; exact hP), by rw [← hl]; exact O'.tl, fun i hi => (O.lk i hi).mono S2⟩
  have mu := O.mut a (List.mem_of_getElem? e2)
  cases q : H a with
  | none => rw [q] at mu; exact mu.elim
  | some u =>
    refine S.keep a u q (by simp) fun ps z => ?_
    rw [q, z] at mu
    exact mu
/-- what a def without arguments does that is run with a store of its own, and answers a bool -/
def fdOwn (n : Nat) (tb : TDS) : FD := fun ds st P _ => ds = [] ∧ tb { nx := fun _ _ => False, rt := fun d _ => ∃ b, d = .bl b ∧ P (.bl b) st } noX (dStart n []) []
theorem own_body {W W1 : Wd} {X : Cx} {N : List Str} {body : List Stmt} {tb : TDS} {vs : List V} {H : Hp} {Q : VK} {E : XK} (hg : W1.tg = W.tg) (hl : W1.tl = W.tl) (hk : W1.lk = []) (hb : PSs X body (liftS W1 E tb)) (h : spOf W 0 (fdOwn N.length tb) vs H Q E) :
    ∃ t, PSs X body t ∧ t { nx := fun _ H' => Q .non H', rt := Q } (L2.start N vs) H := by
  obtain ⟨hlen, m, st, ds, P, Ex, O, hi, ⟨hd, q⟩, k, x⟩ := h
  subst hd
  have hi : vs = [] := hi
  subst hi
  have O1 : StOk W1 [] H [] := ⟨rfl, by simp, fun i o a e => by simp at e, fun P hP => O.tg P (by rw [← hg]; exact hP), by rw [hl]; exact O.tl, by rw [hk]; exact fun i hi => absurd hi (by simp)⟩
  refine ⟨_, hb, [], [], dStart N.length [], _, noX, sim_start O1 rfl, q, fun _ _ _ _ _ p => p.elim, fun d st' m' H' v ⟨b, ed, p⟩ S O' hv => ?_, fun _ _ _ _ _ p => p.elim, fun _ _ _ _ _ p => p.elim, exn_no⟩
  subst ed
  obtain ⟨S2, O2⟩ := frame_ok hg hl O S O'
  exact k (.bl b) st m H' v p S2 O2 hv
end
theorem bind0 {body : Expr} {scope : Scope} : HBind { posonlyargs := [], args := [], vararg := none, kwonlyargs := [], kw_defaults := [], kwarg := none, defaults := [] } body scope := fun _ _ _ _ _ => by kernel_rfl
/-- the lambdas of a list that is given to a name -/
def lamsOf : Stmt → List Lam
  | .Assign _ (.List es _) _ => es.filterMap fun e => match e with
    | .Lambda p b s _ => some ⟨p, b, s⟩
    | _ => none
  | _ => []
abbrev ownW (W : Wd) (X : Cx) (L : List Lam) : Wd := { K := W.K, tg := W.tg, tl := W.tl, fnp := fun k v _ H => fnpOf X L k v H, fnm := fun k v _ _ H H' h _ _ => fnpOf_mono X L k v H H' h, lk := [] }
section
variable {P : Program} {w : World} {K : PySem.W.Frag} {mg : Str → Option Value} {base : Heap}
theorem FunC.okOwn {W : Wd} {x qual : Str} {st : Stmt} {f c : Addr} {fd : FuncData} {N : List Str} {k : Nat} {tb : TDS} (F : FunC K x qual st f fd c) (S : FnScope N [] (defScope st)) (L : List Lam)
    (hb : ∀ (A : Around) (outer : List Env) (s : Shared) (H : Hp) (E : XK), Room k (A.deeper (envOfC qual (defScope st) s.heap.objs.size f (.ref c))) → PSs (cxOf (L2.CX P w) P w K mg base N qual (defScope st) f (.ref c) A outer s H E) (defBody st) (liftS (ownW W (cxOf (L2.CX P w) P w K mg base N qual (defScope st) f (.ref c) A outer s H E) L) E tb)) :
    FnOk P w K mg base (L2.CX P w) (k + 1) f fd [] (spOf W 0 (fdOwn N.length tb)) := by
  obtain ⟨oc, od, kV, doc, pm, an, ct, osl, rfl, lk, hcd⟩ := F.ex
  exact fn_of lk hcd S (fun vs H Q E h => h.1) fun A outer s H vs Q E hr hsp => own_body (W := W) (W1 := ownW W (cxOf (L2.CX P w) P w K mg base N qual (defScope st) f (.ref c) A outer s H E) L) rfl rfl rfl (hb A outer s H E hr) hsp
end
theorem fdOwn_len {n : Nat} {tb : TDS} : ∀ ds st P Ex, fdOwn n tb ds st P Ex → ds.length = 0 := fun _ _ _ _ h => by rw [h.1]; rfl
section
variable {X : Cx} {W : Wd} {E : XK} {pos p : Pos} {e : Expr} {es : List Expr} {tl' : TDL} {k j : Nat} {x : Str} {ps : List Str} {F : FD}
theorem x_callW (G : ∃ (f : Addr) (fd : FuncData), FnOk X.prog X.w X.K X.mg X.base (L2.CX X.prog X.w) k f fd ps (spOf W ps.length F) ∧ X.mg x = some (.ref f) ∧ PySem.W.keepIn X.K (.ref f) = true ∧ L2.Binds X.K fd ps []) (hl : ∀ ds st P Ex, F ds st P Ex → ds.length = ps.length) (hr : Room j X.A) (hx : Passes (L2.CX X.prog X.w) X E) (ha : PA X (e :: es) (liftL W E tl')) (hk : k ≤ j := by decide) (hg : Gl X x := by rfl) (hdb : (x == ("__debug__" : Str)) = false := by decide)
    (he : starEach (e :: es) X.env = (false, eval e X.env) :: starEach es X.env := by rfl) (hpl : (backTo pos (starEach es X.env)).any (·.1) = false := by rfl) : PE X (.Call (.Name x p) (e :: es) [] pos) (lift W E (dFn F tl')) := by
  obtain ⟨f, fd, h1, h2, h3, h4⟩ := G
  exact d_fn h1 hl (hr.mono hk) hg h2 h3 h4 hx ha hdb he hpl
end
end FL
/-! printed by gen.py -/
namespace FL
open PySem PySem.Spec PyProof.Rows L2
section
variable {P : Program} {w : World} {K : PySem.W.Frag} {mg : Str → Option Value} {base : Heap} {tg : List Addr} {tl : List (Addr × Str)}
abbrev s_check_deed : Stmt := inClass (top 6) 1
theorem sc_check_deed : FnScope ["self", "deed"] ["self", "deed"] (defScope s_check_deed) := ⟨rfl, rfl, rfl, by decide +kernel, rfl, by decide +kernel, by decide +kernel⟩
def t_check_deed (C CS : Addr) : TDS := (dIfS (dOrT (dCmpT (fInB true) (dOp fIx (dVar 1) (dC (.int 0))) (dC (.tup [.str "put", .str "use", .str "in", .str "out"]))) (dOrT (dCmpT fNe (dCall fLen (dCons (dVar 1) dNil)) (dIf (dCmpT (fInB false) (dOp fIx (dVar 1) (dC (.int 0))) (dTupS (dCons (dC (.str "put")) (dCons (dC (.str "use")) dNil)))) (dC (.int 2)) (dC (.int 1)))) (dCmpT fEq (dOp fIx (dVar 1) (dUn fNeg (dC (.int 1)))) (dC (.str ""))))) (dRaise CS)
    dNext)
def F_check_deed (C CS : Addr) : FD := fdOf 2 2 (t_check_deed C CS)
theorem ok_check_deed {W : Wd} (hW : WOk W K tg tl) {C CS f c : Addr} {fd : FuncData} (T : Tx K mg C CS) (F : FunC K "check_deed" "Scopes.check_deed" s_check_deed f fd c) : FnOk P w K mg base (L2.CX P w) 1 f fd ["self", "deed"] (spOf W 2 (F_check_deed C CS)) := by
  refine F.ok (k := 0) sc_check_deed fun A outer s H E hr => ?_
  exact (dss_one (ds_if (PW.pt (dw_or (t_nin hW (d_ix hW.k.symm (dv 1) d_int) (x_kinds T hW)) (dw_or (t_ne hr hW (x_len T hW (dv 1)) (d_if (t_in hW (d_ix hW.k.symm (dv 1) d_int) (d_tup (da_cons d_str (da_cons d_str da_nil)))) d_int d_int)) (dw_or1 (t_eq hr hW (d_ix hW.k.symm (dv 1) (d_neg d_int)) d_str))))) (dss_one (x_raise T rfl (takes_of rfl rfl rfl rfl) (fun _ _ _ _ h => h)))
    dss_nil))

abbrev s_put_or_use : Stmt := inClass (top 6) 2
theorem sc_put_or_use : FnScope ["self", "number", "deed", "open_ones", "stack", "name", "able", "scope"] ["self", "number", "deed", "open_ones", "stack"] (defScope s_put_or_use) := ⟨rfl, rfl, rfl, by decide +kernel, rfl, by decide +kernel, by decide +kernel⟩
def t_put_or_use (C CS : Addr) : TDS := (dSeq (dAsg (dOp fIx (dVar 2) (dC (.int 1))) (dgName 5))
    (dSeq (dIfS (dCmpT fEq (dOp fIx (dVar 2) (dC (.int 0))) (dC (.str "put"))) (dSeq (dIfS (dTest (dOp (fDIn false) (dVar 5) (dOp fIx (dVar 3) (dUn fNeg (dC (.int 1)))))) (dRaise CS)
    dNext)
    (dSeq (dDPut (dOp fIx (dVar 3) (dUn fNeg (dC (.int 1)))) (dVar 5) (dVar 1))
    (dSeq (dDPut (dFld C "owners" (dVar 0)) (dVar 1) (dOp fIx (dVar 4) (dUn fNeg (dC (.int 1)))))
    dRetN)))
    dNext)
    (dSeq (dAsg (dLc (diVal (dVar 3)) (dgName 7) (dTest (dOp (fDIn false) (dVar 5) (dVar 7))) (dOp fDGet (dVar 7) (dVar 5)) [7]) (dgName 6))
    (dIfS (dCmpT fEq (dVar 6) (dLstS dNil)) (dDrop (dAppend (dFld C "lost" (dVar 0)) (dVar 1)))
    (dDPut (dFld C "meant" (dVar 0)) (dVar 1) (dOp fIx (dVar 6) (dUn fNeg (dC (.int 1)))))))))
def F_put_or_use (C CS : Addr) : FD := fdOf 8 5 (t_put_or_use C CS)
theorem ok_put_or_use {W : Wd} (hW : WOk W K tg tl) {C CS f c : Addr} {fd : FuncData} (T : Tx K mg C CS) (F : FunC K "put_or_use" "Scopes.put_or_use" s_put_or_use f fd c) : FnOk P w K mg base (L2.CX P w) 1 f fd ["self", "number", "deed", "open_ones", "stack"] (spOf W 5 (F_put_or_use C CS)) := by
  refine F.ok (k := 0) sc_put_or_use fun A outer s H E hr => ?_
  exact (dss_cons (dset 5 sc_put_or_use.nd (d_ix hW.k.symm (dv 2) d_int))
    (dss_cons (ds_if (t_eq hr hW (d_ix hW.k.symm (dv 2) d_int) d_str) (dss_cons (ds_if (t_din hr (dv 5) (d_ix hW.k.symm (dv 3) (d_neg d_int))) (dss_one (x_raise T rfl (takes_of rfl rfl rfl rfl) (fun _ _ _ _ h => h)))
    dss_nil)
    (dss_cons (ds_dput (u1 hr) (d_ix hW.k.symm (dv 3) (d_neg d_int)) (dv 5) (dv 1))
    (dss_cons (ds_dput (u1 hr) (x_fld T (dv 0)) (dv 1) (d_ix hW.k.symm (dv 4) (d_neg d_int)))
    (dss_one ds_retN))))
    dss_nil)
    (dss_cons (ds_setLc (i := 6) (own := [("scope", 7)]) rfl sc_put_or_use.nd rfl (by rfl) (by rfl) (di_val hW.k.symm (dv 3)) (blkOk_by (by kernel_rfl)) (tg_name (by decide)) (fun _ _ _ _ _ => (gn 7 sc_put_or_use.nd)) (fun _ _ _ _ _ => (dts_one (t_din hr (dv 5) (dv 7)))) (fun _ _ _ _ _ => (d_dget (u1 hr) (dv 7) (dv 5) (by intro _ _; rfl))))
    (dss_one (ds_if (t_eq hr hW (dv 6) (d_lst da_nil)) (dss_one (ds_expr (d_append (x_fld T (dv 0)) (dv 1))))
    (dss_one (ds_dput (u1 hr) (x_fld T (dv 0)) (dv 1) (d_ix hW.k.symm (dv 6) (d_neg d_int)))))))))

abbrev s_init : Stmt := inClass (top 6) 0
theorem sc_init : FnScope ["self", "deeds", "open_ones", "many", "stack", "number", "deed"] ["self", "deeds"] (defScope s_init) := ⟨rfl, rfl, rfl, by decide +kernel, rfl, by decide +kernel, by decide +kernel⟩
def t_init (C CS : Addr) : TDS := (dSeq (dSetF C "deeds" (dVar 0) (dTupG (diVal (dVar 1)) (dgName 6) dYes (dCall fTuple (dCons (dVar 6) dNil)) [6]))
    (dSeq (dSetF C "meant" (dVar 0) dNewK)
    (dSeq (dSetF C "lost" (dVar 0) (dLstR dNil))
    (dSeq (dSetF C "owners" (dVar 0) dNewK)
    (dSeq (dSetF C "scopes" (dVar 0) (dLstR dNil))
    (dSeq (dPar 2 3 (dCons (dLstR (dCons dNewK dNil)) (dCons (dC (.int 0)) dNil)))
    (dSeq (dDrop (dAppend (dFld C "scopes" (dVar 0)) (dTupS (dCons (dOp fSub (dC (.int 0)) (dC (.int 1))) (dCons (dOp fSub (dC (.int 0)) (dC (.int 1))) dNil)))))
    (dSeq (dAsg (dLstR (dCons (dC (.int 0)) dNil)) (dgName 4))
    (dSeq (dFor (diEnum (dFld C "deeds" (dVar 0))) (dgTup 2 (dgCons (dgName 5) (dgCons (dgName 6) dgNil))) (dSeq (dDrop (dMeth C "check_deed" (F_check_deed C CS) (dVar 0) (dCons (dVar 6) dNil)))
    (dIfS (dCmpT fEq (dOp fIx (dVar 6) (dC (.int 0))) (dC (.str "in"))) (dSeq (dIfS (dCmpT fGt (dCall fLen (dCons (dVar 4) dNil)) (dC (.int 12))) (dRaise CS)
    dNext)
    (dSeq (dAug 3 (dC (.int 1)))
    (dSeq (dDrop (dAppend (dFld C "scopes" (dVar 0)) (dTupS (dCons (dOp fIx (dVar 4) (dUn fNeg (dC (.int 1)))) (dCons (dVar 5) dNil)))))
    (dSeq (dDrop (dAppend (dVar 4) (dVar 3)))
    (dDrop (dAppend (dVar 2) dNewK))))))
    (dIfS (dCmpT fEq (dOp fIx (dVar 6) (dC (.int 0))) (dC (.str "out"))) (dSeq (dIfS (dCmpT fEq (dCall fLen (dCons (dVar 4) dNil)) (dC (.int 1))) (dRaise CS)
    dNext)
    (dSeq (dDrop (dPop (dVar 4)))
    (dDrop (dPop (dVar 2)))))
    (dDrop (dMeth C "put_or_use" (F_put_or_use C CS) (dVar 0) (dCons (dVar 5) (dCons (dVar 6) (dCons (dVar 2) (dCons (dVar 4) dNil))))))))))
    (dIfS (dCmpT fGt (dCall fLen (dCons (dVar 4) dNil)) (dC (.int 1))) (dRaise CS)
    dNext))))))))))
def F_init (C CS : Addr) : FD := fdOf 7 2 (t_init C CS)
theorem ok_init {W : Wd} (hW : WOk W K tg tl) {C CS f c : Addr} {fd : FuncData} (T : Tx K mg C CS) (F : FunC K "__init__" "Scopes.__init__" s_init f fd c) (G_put_or_use : CalM P w K mg base tg tl C 1 "put_or_use" ["self", "number", "deed", "open_ones", "stack"] (F_put_or_use C CS)) (G_check_deed : CalM P w K mg base tg tl C 1 "check_deed" ["self", "deed"] (F_check_deed C CS)) {Pt : Addr} (TB : GxR.TabB base mg c Pt) (hP0 : Pt ∈ tg) (hl0 : ∀ p ∈ tl, p.1 ≠ Pt) : FnOk P w K mg base (L2.CX P w) 8 f fd ["self", "deeds"] (spOf W 2 (F_init C CS)) := by
  have hP : Pt ∈ W.tg := by rw [hW.tg]; exact hP0
  have hl : ∀ p ∈ W.tl, p.1 ≠ Pt := by rw [hW.tl]; exact hl0
  refine F.ok (k := 7) sc_init fun A outer s H E hr => ?_
  exact (dss_cons (x_sfld T (dv 0) (d_tupG (k := 1) (own := [("deed", 6)]) hr TB (by first | exact hP | exact hP) hl rfl sc_init.nd (blkOk_by (by kernel_rfl)) rfl (by decide +kernel) (by kernel_rfl) (di_val hW.k.symm (dv 1)) (tg_name (by decide)) (fun A' s' H' _ _ _ hr' => (gn 6 sc_init.nd)) (fun A' s' H' _ _ _ hr' => dts_nil) (fun A' s' H' _ _ _ hr' => (x_tuple T hW (dv 6))) (by intro _; rfl) (by rfl) (T.b _ (by decide)) bt_tuple))
    (dss_cons (x_sfld T (dv 0) d_dnew)
    (dss_cons (x_sfld T (dv 0) (d_lstR da_nil))
    (dss_cons (x_sfld T (dv 0) d_dnew)
    (dss_cons (x_sfld T (dv 0) (d_lstR da_nil))
    (dss_cons (ds_par (i := 2) (j := 3) rfl sc_init.nd rfl rfl (by decide) (by rfl) (by rfl) (da_cons (d_lstR (da_cons d_dnew da_nil)) (da_cons d_int da_nil)) (by rfl))
    (dss_cons (ds_expr (d_append (x_fld T (dv 0)) (d_tup (da_cons (d_sub d_int d_int) (da_cons (d_sub d_int d_int) da_nil)))))
    (dss_cons (dset 4 sc_init.nd (d_lstR (da_cons d_int da_nil)))
    (dss_cons (ds_for (passes_of rfl) rfl (di_enum hW.k.symm (by rfl) (T.b _ (by decide)) (x_fld T (dv 0))) (dg_tup hW.k.symm rfl (dgs_cons (gd 5 sc_init.nd) (dgs_cons (gd 6 sc_init.nd) dgs_nil))) (dss_cons (ds_expr (x_meth (pl := _) G_check_deed T hW hr (L2.passes_call (takes_of rfl rfl rfl rfl) fun _ _ _ _ h => h) (dv 0) (da_cons (dv 6) da_nil)))
    (dss_one (ds_if (t_eq hr hW (d_ix hW.k.symm (dv 6) d_int) d_str) (dss_cons (ds_if (t_gt (x_len T hW (dv 4)) (x_deep T)) (dss_one (x_raise T rfl (takes_of rfl rfl rfl rfl) (fun _ _ _ _ h => h)))
    dss_nil)
    (dss_cons (ds_aug (j := 3) sc_init.nd rfl (by first | exact Or.inl rfl | exact Or.inr rfl) d_int)
    (dss_cons (ds_expr (d_append (x_fld T (dv 0)) (d_tup (da_cons (d_ix hW.k.symm (dv 4) (d_neg d_int)) (da_cons (dv 5) da_nil)))))
    (dss_cons (ds_expr (d_append (dv 4) (dv 3)))
    (dss_one (ds_expr (d_append (dv 2) d_dnew)))))))
    (dss_one (ds_if (t_eq hr hW (d_ix hW.k.symm (dv 6) d_int) d_str) (dss_cons (ds_if (t_eq hr hW (x_len T hW (dv 4)) d_int) (dss_one (x_raise T rfl (takes_of rfl rfl rfl rfl) (fun _ _ _ _ h => h)))
    dss_nil)
    (dss_cons (ds_expr (d_pop (dv 4)))
    (dss_one (ds_expr (d_pop (dv 2))))))
    (dss_one (ds_expr (x_meth (pl := _) G_put_or_use T hW hr (L2.passes_call (takes_of rfl rfl rfl rfl) fun _ _ _ _ h => h) (dv 0) (da_cons (dv 5) (da_cons (dv 6) (da_cons (dv 2) (da_cons (dv 4) da_nil)))))))))))))
    (dss_one (ds_if (t_gt (x_len T hW (dv 4)) d_int) (dss_one (x_raise T rfl (takes_of rfl rfl rfl rfl) (fun _ _ _ _ h => h)))
    dss_nil)))))))))))

abbrev s_uses_of : Stmt := inClass (top 6) 3
theorem sc_uses_of : FnScope ["self", "number", "use", "put"] ["self", "number"] (defScope s_uses_of) := ⟨rfl, rfl, rfl, by decide +kernel, rfl, by decide +kernel, by decide +kernel⟩
def t_uses_of (C CS : Addr) : TDS := (dSeq (dIfS (dTest (dOp (fDIn true) (dVar 1) (dFld C "owners" (dVar 0)))) (dRaise CS)
    dNext)
    (dRet (dLock fun l1 => (dTupG (diItems l1 (dFld C "meant" (dVar 0))) (dgTup 2 (dgCons (dgName 2) (dgCons (dgName 3) dgNil))) (dCmpT fEq (dVar 3) (dVar 1)) (dVar 2) [2, 3]))))
def F_uses_of (C CS : Addr) : FD := fdOf 4 2 (t_uses_of C CS)
theorem ok_uses_of {W : Wd} (hW : WOk W K tg tl) {C CS f c : Addr} {fd : FuncData} (T : Tx K mg C CS) (F : FunC K "uses_of" "Scopes.uses_of" s_uses_of f fd c) {Pt : Addr} (TB : GxR.TabB base mg c Pt) (hP0 : Pt ∈ tg) (hl0 : ∀ p ∈ tl, p.1 ≠ Pt) : FnOk P w K mg base (L2.CX P w) 7 f fd ["self", "number"] (spOf W 2 (F_uses_of C CS)) := by
  have hP : Pt ∈ W.tg := by rw [hW.tg]; exact hP0
  have hl : ∀ p ∈ W.tl, p.1 ≠ Pt := by rw [hW.tl]; exact hl0
  refine F.ok (k := 6) sc_uses_of fun A outer s H E hr => ?_
  exact (dss_cons (ds_if (t_dnin hr (dv 1) (x_fld T (dv 0))) (dss_one (x_raise T rfl (takes_of rfl rfl rfl rfl) (fun _ _ _ _ h => h)))
    dss_nil)
    (dss_one (ds_ret (d_lock fun l1 => (d_tupG (k := 0) (own := [("use", 2), ("put", 3)]) hr TB (by first | exact hP | exact hP) hl rfl sc_uses_of.nd (blkOk_by (by kernel_rfl)) rfl (by decide +kernel) (by kernel_rfl) (di_items List.mem_cons_self (x_fld T (dv 0))) (tg_tup (hW.lk l1).k.symm (tgs_cons (tg_name (by decide)) (tgs_cons (tg_name (by decide)) tgs_nil))) (fun A' s' H' _ _ _ hr' => (pg_tup rfl (pgs_cons (gn 2 sc_uses_of.nd) (pgs_cons (gn 3 sc_uses_of.nd) pgs_nil)))) (fun A' s' H' _ _ _ hr' => (dts_one (t_eq hr' (hW.lk l1) (dv 3) (dv 1)))) (fun A' s' H' _ _ _ hr' => (dv 2)) (by intro _; rfl) (by rfl) (T.b _ (by decide)) bt_tuple)))))

abbrev s_unused : Stmt := inClass (top 6) 4
theorem sc_unused : FnScope ["self", "number"] ["self"] (defScope s_unused) := ⟨rfl, rfl, rfl, by decide +kernel, rfl, by decide +kernel, by decide +kernel⟩
def t_unused (C CS : Addr) : TDS := (dRet (dLock fun l1 => (dTupG (diKeys l1 (dFld C "owners" (dVar 0))) (dgName 1) (dCmpT fEq (dMeth C "uses_of" (F_uses_of C CS) (dVar 0) (dCons (dVar 1) dNil)) (dTupS dNil)) (dVar 1) [1])))
def F_unused (C CS : Addr) : FD := fdOf 2 1 (t_unused C CS)
theorem ok_unused {W : Wd} (hW : WOk W K tg tl) {C CS f c : Addr} {fd : FuncData} (T : Tx K mg C CS) (F : FunC K "unused" "Scopes.unused" s_unused f fd c) (G_uses_of : CalM P w K mg base tg tl C 7 "uses_of" ["self", "number"] (F_uses_of C CS)) {Pt : Addr} (TB : GxR.TabB base mg c Pt) (hP0 : Pt ∈ tg) (hl0 : ∀ p ∈ tl, p.1 ≠ Pt) : FnOk P w K mg base (L2.CX P w) 14 f fd ["self"] (spOf W 1 (F_unused C CS)) := by
  have hP : Pt ∈ W.tg := by rw [hW.tg]; exact hP0
  have hl : ∀ p ∈ W.tl, p.1 ≠ Pt := by rw [hW.tl]; exact hl0
  refine F.ok (k := 13) sc_unused fun A outer s H E hr => ?_
  exact (dss_one (ds_ret (d_lock fun l1 => (d_tupG (k := 7) (own := [("number", 1)]) hr TB (by first | exact hP | exact hP) hl rfl sc_unused.nd (blkOk_by (by kernel_rfl)) rfl (by decide +kernel) (by kernel_rfl) (di_keys List.mem_cons_self (x_fld T (dv 0))) (tg_name (by decide)) (fun A' s' H' _ _ _ hr' => (gn 1 sc_unused.nd)) (fun A' s' H' _ _ _ hr' => (dts_one (t_eq hr' (hW.lk l1) (x_meth (pl := _) G_uses_of T (hW.lk l1) hr' passN (dv 0) (da_cons (dv 1) da_nil)) (d_tup da_nil)))) (fun A' s' H' _ _ _ hr' => (dv 1)) (by intro _; rfl) (by rfl) (T.b _ (by decide)) bt_tuple))))

abbrev s_puts_of : Stmt := inClass (top 6) 6
theorem sc_puts_of : FnScope ["self", "scope", "name", "put", "owner"] ["self", "scope", "name"] (defScope s_puts_of) := ⟨rfl, rfl, rfl, by decide +kernel, rfl, by decide +kernel, by decide +kernel⟩
def t_puts_of (C CS : Addr) : TDS := (dRet (dLock fun l1 => (dLc (diItems l1 (dFld C "owners" (dVar 0))) (dgTup 2 (dgCons (dgName 3) (dgCons (dgName 4) dgNil))) (dAndT (dCmpT fEq (dVar 4) (dVar 1)) (dCmpT fEq (dOp fIx (dOp fIx (dFld C "deeds" (dVar 0)) (dVar 3)) (dC (.int 1))) (dVar 2))) (dVar 3) [3, 4])))
def F_puts_of (C CS : Addr) : FD := fdOf 5 3 (t_puts_of C CS)
theorem ok_puts_of {W : Wd} (hW : WOk W K tg tl) {C CS f c : Addr} {fd : FuncData} (T : Tx K mg C CS) (F : FunC K "puts_of" "Scopes.puts_of" s_puts_of f fd c) : FnOk P w K mg base (L2.CX P w) 1 f fd ["self", "scope", "name"] (spOf W 3 (F_puts_of C CS)) := by
  refine F.ok (k := 0) sc_puts_of fun A outer s H E hr => ?_
  exact (dss_one (ds_ret (d_lock fun l1 => (d_lc (own := [("put", 3), ("owner", 4)]) rfl sc_puts_of.nd (di_items List.mem_cons_self (x_fld T (dv 0))) (blkOk_by (by kernel_rfl)) (tg_tup (hW.lk l1).k.symm (tgs_cons (tg_name (by decide)) (tgs_cons (tg_name (by decide)) tgs_nil))) (fun _ _ _ _ _ => (pg_tup rfl (pgs_cons (gn 3 sc_puts_of.nd) (pgs_cons (gn 4 sc_puts_of.nd) pgs_nil)))) (fun _ _ _ _ _ => (dts_one (PW.pt (dw_and (t_eq hr (hW.lk l1) (dv 4) (dv 1)) (dw_and1 (t_eq hr (hW.lk l1) (d_ix (hW.lk l1).k.symm (d_ix (hW.lk l1).k.symm (x_fld T (dv 0)) (dv 3)) d_int) (dv 2))))))) (fun _ _ _ _ _ => (dv 3))))))

abbrev s_shadowed : Stmt := inClass (top 6) 5
theorem sc_shadowed : FnScope ["self", "found", "number", "scope", "name", "around", "mine", "put"] ["self"] (defScope s_shadowed) := ⟨rfl, rfl, rfl, by decide +kernel, rfl, by decide +kernel, by decide +kernel⟩
def t_shadowed (C CS : Addr) : TDS := (dSeq (dAsg (dLstR dNil) (dgName 1))
    (dSeq (dLockS fun l1 => (dFor (diItems l1 (dFld C "owners" (dVar 0))) (dgTup 2 (dgCons (dgName 2) (dgCons (dgName 3) dgNil))) (dSeq (dPar 4 5 (dCons (dOp fIx (dOp fIx (dFld C "deeds" (dVar 0)) (dVar 2)) (dC (.int 1))) (dCons (dOp fIx (dOp fIx (dFld C "scopes" (dVar 0)) (dVar 3)) (dC (.int 0))) dNil)))
    (dWhile (dCmpT fGe (dVar 5) (dC (.int 0))) (dSeq (dAsg (dLc (diVal (dMeth C "puts_of" (F_puts_of C CS) (dVar 0) (dCons (dVar 5) (dCons (dVar 4) dNil)))) (dgName 7) (dCmpT fLt (dVar 7) (dVar 2)) (dVar 7) [7]) (dgName 6))
    (dSeq (dIfS (dCmpT fNe (dVar 6) (dLstS dNil)) (dSeq (dDrop (dAppend (dVar 1) (dTupS (dCons (dOp fIx (dVar 6) (dUn fNeg (dC (.int 1)))) (dCons (dVar 2) dNil)))))
    dBreak)
    dNext)
    (dAsg (dOp fIx (dOp fIx (dFld C "scopes" (dVar 0)) (dVar 5)) (dC (.int 0))) (dgName 5))))))))
    (dRet (dCall fTuple (dCons (dVar 1) dNil)))))
def F_shadowed (C CS : Addr) : FD := fdOf 8 1 (t_shadowed C CS)
theorem ok_shadowed {W : Wd} (hW : WOk W K tg tl) {C CS f c : Addr} {fd : FuncData} (T : Tx K mg C CS) (F : FunC K "shadowed" "Scopes.shadowed" s_shadowed f fd c) (G_puts_of : CalM P w K mg base tg tl C 1 "puts_of" ["self", "scope", "name"] (F_puts_of C CS)) : FnOk P w K mg base (L2.CX P w) 2 f fd ["self"] (spOf W 1 (F_shadowed C CS)) := by
  refine F.ok (k := 1) sc_shadowed fun A outer s H E hr => ?_
  exact (dss_cons (dset 1 sc_shadowed.nd (d_lstR da_nil))
    (dss_cons (ds_lock fun l1 => (ds_for (passes_of rfl) rfl (di_items List.mem_cons_self (x_fld T (dv 0))) (dg_tup (hW.lk l1).k.symm rfl (dgs_cons (gd 2 sc_shadowed.nd) (dgs_cons (gd 3 sc_shadowed.nd) dgs_nil))) (dss_cons (ds_par (i := 4) (j := 5) rfl sc_shadowed.nd rfl rfl (by decide) (by rfl) (by rfl) (da_cons (d_ix (hW.lk l1).k.symm (d_ix (hW.lk l1).k.symm (x_fld T (dv 0)) (dv 2)) d_int) (da_cons (d_ix (hW.lk l1).k.symm (d_ix (hW.lk l1).k.symm (x_fld T (dv 0)) (dv 3)) d_int) da_nil)) (by rfl))
    (dss_one (ds_while (passes_of rfl) (t_ge (dv 5) d_int) (dss_cons (ds_setLc (i := 6) (own := [("put", 7)]) rfl sc_shadowed.nd rfl (by rfl) (by rfl) (di_val (hW.lk l1).k.symm (x_meth (pl := _) G_puts_of T (hW.lk l1) hr (L2.passes_call (takes_of rfl rfl rfl rfl) fun _ _ _ _ h => h) (dv 0) (da_cons (dv 5) (da_cons (dv 4) da_nil)))) (blkOk_by (by kernel_rfl)) (tg_name (by decide)) (fun _ _ _ _ _ => (gn 7 sc_shadowed.nd)) (fun _ _ _ _ _ => (dts_one (t_lt (dv 7) (dv 2)))) (fun _ _ _ _ _ => (dv 7)))
    (dss_cons (ds_if (t_ne hr (hW.lk l1) (dv 6) (d_lst da_nil)) (dss_cons (ds_expr (d_append (dv 1) (d_tup (da_cons (d_ix (hW.lk l1).k.symm (dv 6) (d_neg d_int)) (da_cons (dv 2) da_nil)))))
    (dss_one ds_break))
    dss_nil)
    (dss_one (dset 5 sc_shadowed.nd (d_ix (hW.lk l1).k.symm (d_ix (hW.lk l1).k.symm (x_fld T (dv 0)) (dv 5)) d_int))))))))))
    (dss_one (ds_ret (x_tuple T hW (dv 1))))))

abbrev s_scope_at : Stmt := inClass (top 6) 8
theorem sc_scope_at : FnScope ["self", "number", "scope", "many", "deed"] ["self", "number"] (defScope s_scope_at) := ⟨rfl, rfl, rfl, by decide +kernel, rfl, by decide +kernel, by decide +kernel⟩
def t_scope_at (C CS : Addr) : TDS := (dSeq (dIfS (dNotT (dTest (dChain (fCmp fun i j => decide (i ≤ j)) (fCmp fun i j => decide (i < j)) (dC (.int 0)) (dVar 1) (dCall fLen (dCons (dFld C "deeds" (dVar 0)) dNil))))) (dRaise CS)
    dNext)
    (dSeq (dAsg (dTupS (dCons (dC (.int 0)) (dCons (dC (.int 0)) dNil))) (dgTup 2 (dgCons (dgName 2) (dgCons (dgName 3) dgNil))))
    (dSeq (dFor (diVal (dSl (dFld C "deeds" (dVar 0)) doNone (doSome (dVar 1)))) (dgName 4) (dIfS (dCmpT fEq (dOp fIx (dVar 4) (dC (.int 0))) (dC (.str "in"))) (dSeq (dAug 3 (dC (.int 1)))
    (dAsg (dVar 3) (dgName 2)))
    (dIfS (dCmpT fEq (dOp fIx (dVar 4) (dC (.int 0))) (dC (.str "out"))) (dAsg (dOp fIx (dOp fIx (dFld C "scopes" (dVar 0)) (dVar 2)) (dC (.int 0))) (dgName 2))
    dNext)))
    (dRet (dVar 2)))))
def F_scope_at (C CS : Addr) : FD := fdOf 5 2 (t_scope_at C CS)
theorem ok_scope_at {W : Wd} (hW : WOk W K tg tl) {C CS f c : Addr} {fd : FuncData} (T : Tx K mg C CS) (F : FunC K "scope_at" "Scopes.scope_at" s_scope_at f fd c) : FnOk P w K mg base (L2.CX P w) 1 f fd ["self", "number"] (spOf W 2 (F_scope_at C CS)) := by
  refine F.ok (k := 0) sc_scope_at fun A outer s H E hr => ?_
  exact (dss_cons (ds_if (dt_not (dt_chain op_le op_lt rl_cmp rl_cmp d_int (dv 1) (x_len T hW (x_fld T (dv 0))))) (dss_one (x_raise T rfl (takes_of rfl rfl rfl rfl) (fun _ _ _ _ h => h)))
    dss_nil)
    (dss_cons (ds_asg (d_tup (da_cons d_int (da_cons d_int da_nil))) (dg_tup hW.k.symm rfl (dgs_cons (gd 2 sc_scope_at.nd) (dgs_cons (gd 3 sc_scope_at.nd) dgs_nil))))
    (dss_cons (ds_for (passes_of rfl) rfl (di_val hW.k.symm (d_slice hW.k.symm (x_fld T (dv 0)) do_none (do_some (dv 1)))) (gd 4 sc_scope_at.nd) (dss_one (ds_if (t_eq hr hW (d_ix hW.k.symm (dv 4) d_int) d_str) (dss_cons (ds_aug (j := 3) sc_scope_at.nd rfl (by first | exact Or.inl rfl | exact Or.inr rfl) d_int)
    (dss_one (dset 2 sc_scope_at.nd (dv 3))))
    (dss_one (ds_if (t_eq hr hW (d_ix hW.k.symm (dv 4) d_int) d_str) (dss_one (dset 2 sc_scope_at.nd (d_ix hW.k.symm (d_ix hW.k.symm (x_fld T (dv 0)) (dv 2)) d_int)))
    dss_nil)))))
    (dss_one (ds_ret (dv 2))))))

abbrev s_told_late : Stmt := inClass (top 6) 7
theorem sc_told_late : FnScope ["self", "found", "number", "deed", "scope", "limit", "late", "put"] ["self"] (defScope s_told_late) := ⟨rfl, rfl, rfl, by decide +kernel, rfl, by decide +kernel, by decide +kernel⟩
def t_told_late (C CS : Addr) : TDS := (dSeq (dAsg (dLstR dNil) (dgName 1))
    (dSeq (dFor (diEnum (dFld C "deeds" (dVar 0))) (dgTup 2 (dgCons (dgName 2) (dgCons (dgName 3) dgNil))) (dIfS (dCmpT fEq (dOp fIx (dVar 3) (dC (.int 0))) (dC (.str "use"))) (dSeq (dAsg (dMeth C "scope_at" (F_scope_at C CS) (dVar 0) (dCons (dVar 2) dNil)) (dgName 4))
    (dSeq (dAsg (dIf (dTest (dOp (fDIn false) (dVar 2) (dFld C "meant" (dVar 0)))) (dOp fDGet (dFld C "owners" (dVar 0)) (dOp fDGet (dFld C "meant" (dVar 0)) (dVar 2))) (dOp fSub (dC (.int 0)) (dC (.int 2)))) (dgName 5))
    (dWhile (dAndT (dCmpT fGe (dVar 4) (dC (.int 0))) (dCmpT fNe (dVar 4) (dVar 5))) (dSeq (dAsg (dLc (diVal (dMeth C "puts_of" (F_puts_of C CS) (dVar 0) (dCons (dVar 4) (dCons (dOp fIx (dVar 3) (dC (.int 1))) dNil)))) (dgName 7) (dCmpT fGt (dVar 7) (dVar 2)) (dVar 7) [7]) (dgName 6))
    (dSeq (dIfS (dCmpT fNe (dVar 6) (dLstS dNil)) (dSeq (dDrop (dAppend (dVar 1) (dTupS (dCons (dVar 2) (dCons (dOp fIx (dVar 6) (dC (.int 0))) dNil)))))
    dBreak)
    dNext)
    (dAsg (dOp fIx (dOp fIx (dFld C "scopes" (dVar 0)) (dVar 4)) (dC (.int 0))) (dgName 4)))))))
    dNext))
    (dRet (dCall fTuple (dCons (dVar 1) dNil)))))
def F_told_late (C CS : Addr) : FD := fdOf 8 1 (t_told_late C CS)
theorem ok_told_late {W : Wd} (hW : WOk W K tg tl) {C CS f c : Addr} {fd : FuncData} (T : Tx K mg C CS) (F : FunC K "told_late" "Scopes.told_late" s_told_late f fd c) (G_puts_of : CalM P w K mg base tg tl C 1 "puts_of" ["self", "scope", "name"] (F_puts_of C CS)) (G_scope_at : CalM P w K mg base tg tl C 1 "scope_at" ["self", "number"] (F_scope_at C CS)) : FnOk P w K mg base (L2.CX P w) 2 f fd ["self"] (spOf W 1 (F_told_late C CS)) := by
  refine F.ok (k := 1) sc_told_late fun A outer s H E hr => ?_
  exact (dss_cons (dset 1 sc_told_late.nd (d_lstR da_nil))
    (dss_cons (ds_for (passes_of rfl) rfl (di_enum hW.k.symm (by rfl) (T.b _ (by decide)) (x_fld T (dv 0))) (dg_tup hW.k.symm rfl (dgs_cons (gd 2 sc_told_late.nd) (dgs_cons (gd 3 sc_told_late.nd) dgs_nil))) (dss_one (ds_if (t_eq hr hW (d_ix hW.k.symm (dv 3) d_int) d_str) (dss_cons (dset 4 sc_told_late.nd (x_meth (pl := _) G_scope_at T hW hr (L2.passes_call (takes_of rfl rfl rfl rfl) fun _ _ _ _ h => h) (dv 0) (da_cons (dv 2) da_nil)))
    (dss_cons (dset 5 sc_told_late.nd (d_if (t_din hr (dv 2) (x_fld T (dv 0))) (d_dget (u1 hr) (x_fld T (dv 0)) (d_dget (u1 hr) (x_fld T (dv 0)) (dv 2) (by intro _ _; rfl)) (by intro _ _; rfl)) (d_sub d_int d_int)))
    (dss_one (ds_while (passes_of rfl) (PW.pt (dw_and (t_ge (dv 4) d_int) (dw_and1 (t_ne hr hW (dv 4) (dv 5))))) (dss_cons (ds_setLc (i := 6) (own := [("put", 7)]) rfl sc_told_late.nd rfl (by rfl) (by rfl) (di_val hW.k.symm (x_meth (pl := _) G_puts_of T hW hr (L2.passes_call (takes_of rfl rfl rfl rfl) fun _ _ _ _ h => h) (dv 0) (da_cons (dv 4) (da_cons (d_ix hW.k.symm (dv 3) d_int) da_nil)))) (blkOk_by (by kernel_rfl)) (tg_name (by decide)) (fun _ _ _ _ _ => (gn 7 sc_told_late.nd)) (fun _ _ _ _ _ => (dts_one (t_gt (dv 7) (dv 2)))) (fun _ _ _ _ _ => (dv 7)))
    (dss_cons (ds_if (t_ne hr hW (dv 6) (d_lst da_nil)) (dss_cons (ds_expr (d_append (dv 1) (d_tup (da_cons (dv 2) (da_cons (d_ix hW.k.symm (dv 6) d_int) da_nil)))))
    (dss_one ds_break))
    dss_nil)
    (dss_one (dset 4 sc_told_late.nd (d_ix hW.k.symm (d_ix hW.k.symm (x_fld T (dv 0)) (dv 4)) d_int)))))))))
    dss_nil)))
    (dss_one (ds_ret (x_tuple T hW (dv 1))))))

abbrev s_seen_at : Stmt := inClass (top 6) 9
theorem sc_seen_at : FnScope ["self", "number", "scope", "chain", "found", "one", "put", "owner", "name"] ["self", "number"] (defScope s_seen_at) := ⟨rfl, rfl, rfl, by decide +kernel, rfl, by decide +kernel, by decide +kernel⟩
def t_seen_at (C CS : Addr) : TDS := (dSeq (dPar 2 3 (dCons (dMeth C "scope_at" (F_scope_at C CS) (dVar 0) (dCons (dVar 1) dNil)) (dCons (dLstR dNil) dNil)))
    (dSeq (dWhile (dCmpT fGe (dVar 2) (dC (.int 0))) (dSeq (dDrop (dAppend (dVar 3) (dVar 2)))
    (dAsg (dOp fIx (dOp fIx (dFld C "scopes" (dVar 0)) (dVar 2)) (dC (.int 0))) (dgName 2))))
    (dSeq (dAsg dNewK (dgName 4))
    (dSeq (dFor (diVal (dRev (dVar 3) (dUn fNeg (dC (.int 1))))) (dgName 5) (dLockS fun l1 => (dFor (diItems l1 (dFld C "owners" (dVar 0))) (dgTup 2 (dgCons (dgName 6) (dgCons (dgName 7) dgNil))) (dIfS (dAndT (dCmpT fEq (dVar 7) (dVar 5)) (dCmpT fLt (dVar 6) (dVar 1))) (dDPut (dVar 4) (dOp fIx (dOp fIx (dFld C "deeds" (dVar 0)) (dVar 6)) (dC (.int 1))) (dVar 6))
    dNext))))
    (dRet (dDc (diVal (dCall fSortD (dCons (dVar 4) dNil))) (dgName 8) dYes (dVar 8) (dOp fDGet (dVar 4) (dVar 8)) [8]))))))
def F_seen_at (C CS : Addr) : FD := fdOf 9 2 (t_seen_at C CS)
theorem ok_seen_at {W : Wd} (hW : WOk W K tg tl) {C CS f c : Addr} {fd : FuncData} (T : Tx K mg C CS) (F : FunC K "seen_at" "Scopes.seen_at" s_seen_at f fd c) (G_scope_at : CalM P w K mg base tg tl C 1 "scope_at" ["self", "number"] (F_scope_at C CS)) : FnOk P w K mg base (L2.CX P w) 2 f fd ["self", "number"] (spOf W 2 (F_seen_at C CS)) := by
  refine F.ok (k := 1) sc_seen_at fun A outer s H E hr => ?_
  exact (dss_cons (ds_par (i := 2) (j := 3) rfl sc_seen_at.nd rfl rfl (by decide) (by rfl) (by rfl) (da_cons (x_meth (pl := _) G_scope_at T hW hr (L2.passes_call (takes_of rfl rfl rfl rfl) fun _ _ _ _ h => h) (dv 0) (da_cons (dv 1) da_nil)) (da_cons (d_lstR da_nil) da_nil)) (by rfl))
    (dss_cons (ds_while (passes_of rfl) (t_ge (dv 2) d_int) (dss_cons (ds_expr (d_append (dv 3) (dv 2)))
    (dss_one (dset 2 sc_seen_at.nd (d_ix hW.k.symm (d_ix hW.k.symm (x_fld T (dv 0)) (dv 2)) d_int)))))
    (dss_cons (dset 4 sc_seen_at.nd d_dnew)
    (dss_cons (ds_for (passes_of rfl) rfl (di_val hW.k.symm (d_rev hW.k.symm (dv 3) (d_neg d_int))) (gd 5 sc_seen_at.nd) (dss_one (ds_lock fun l1 => (ds_for (passes_of rfl) rfl (di_items List.mem_cons_self (x_fld T (dv 0))) (dg_tup (hW.lk l1).k.symm rfl (dgs_cons (gd 6 sc_seen_at.nd) (dgs_cons (gd 7 sc_seen_at.nd) dgs_nil))) (dss_one (ds_if (PW.pt (dw_and (t_eq hr (hW.lk l1) (dv 7) (dv 5)) (dw_and1 (t_lt (dv 6) (dv 1))))) (dss_one (ds_dput (u1 hr) (dv 4) (d_ix (hW.lk l1).k.symm (d_ix (hW.lk l1).k.symm (x_fld T (dv 0)) (dv 6)) d_int) (dv 6)))
    dss_nil))))))
    (dss_one (ds_ret (d_dc (own := [("name", 8)]) rfl sc_seen_at.nd (di_val hW.k.symm (x_sorted T hW rfl (dv 4))) (blkOk_by (by kernel_rfl)) (tg_name (by decide)) (fun _ _ _ _ _ => (gn 8 sc_seen_at.nd)) (fun _ _ _ _ _ => dts_nil) (fun _ _ _ _ _ => (dv 8)) (fun _ _ _ _ _ => (d_dget (u1 hr) (dv 4) (dv 8) (by intro _ _; rfl))))))))))

abbrev s_each_its_own : Stmt := inClass (top 6) 10
theorem sc_each_its_own : FnScope ["self", "used", "names", "seen", "number", "name", "fresh", "many", "found", "deed"] ["self"] (defScope s_each_its_own) := ⟨rfl, rfl, rfl, by decide +kernel, rfl, by decide +kernel, by decide +kernel⟩
def t_each_its_own (C CS : Addr) : TDS := (dSeq (dAsg (dDc (diVal (dFld C "deeds" (dVar 0))) (dgName 9) (dCmpT fEq (dCall fLen (dCons (dVar 9) dNil)) (dC (.int 2))) (dOp fIx (dVar 9) (dC (.int 1))) (dC (.bl true)) [9]) (dgName 1))
    (dSeq (dPar 2 3 (dCons dNewK (dCons dNewK dNil)))
    (dSeq (dLockS fun l1 => (dFor (diKeys l1 (dFld C "owners" (dVar 0))) (dgName 4) (dSeq (dAsg (dOp fIx (dOp fIx (dFld C "deeds" (dVar 0)) (dVar 4)) (dC (.int 1))) (dgName 5))
    (dSeq (dPar 6 7 (dCons (dVar 5) (dCons (dC (.int 1)) dNil)))
    (dSeq (dIfS (dTest (dOp (fDIn false) (dVar 5) (dVar 3))) (dSeq (dAsg (dOp fDGet (dVar 3) (dVar 5)) (dgName 7))
    (dSeq (dWhile (dTest (dOp (fDIn false) (dVar 6) (dVar 1))) (dSeq (dAug 7 (dC (.int 1)))
    (dAsg (dJoined ((dFmt (dVar 5)) :: ((dC (.str "_")) :: ((dFmt (dVar 7)) :: [])))) (dgName 6))))
    (dDPut (dVar 1) (dVar 6) (dC (.bl true)))))
    dNext)
    (dSeq (dDPut (dVar 3) (dVar 5) (dVar 7))
    (dDPut (dVar 2) (dVar 4) (dVar 6))))))))
    (dSeq (dAsg (dLstR dNil) (dgName 8))
    (dSeq (dFor (diEnum (dFld C "deeds" (dVar 0))) (dgTup 2 (dgCons (dgName 4) (dgCons (dgName 9) dgNil))) (dIfS (dCmpT fEq (dOp fIx (dVar 9) (dC (.int 0))) (dC (.str "put"))) (dDrop (dAppend (dVar 8) (dTupS (dCons (dC (.str "put")) (dCons (dOp fDGet (dVar 2) (dVar 4)) dNil)))))
    (dIfS (dTest (dOp (fDIn false) (dVar 4) (dFld C "meant" (dVar 0)))) (dDrop (dAppend (dVar 8) (dTupS (dCons (dC (.str "use")) (dCons (dOp fDGet (dVar 2) (dOp fDGet (dFld C "meant" (dVar 0)) (dVar 4))) dNil)))))
    (dDrop (dAppend (dVar 8) (dVar 9))))))
    (dRet (dCall fTuple (dCons (dVar 8) dNil))))))))
def F_each_its_own (C CS : Addr) : FD := fdOf 10 1 (t_each_its_own C CS)
theorem ok_each_its_own {W : Wd} (hW : WOk W K tg tl) {C CS f c : Addr} {fd : FuncData} (T : Tx K mg C CS) (F : FunC K "each_its_own" "Scopes.each_its_own" s_each_its_own f fd c) : FnOk P w K mg base (L2.CX P w) 1 f fd ["self"] (spOf W 1 (F_each_its_own C CS)) := by
  refine F.ok (k := 0) sc_each_its_own fun A outer s H E hr => ?_
  exact (dss_cons (ds_setDc (i := 1) (own := [("deed", 9)]) rfl sc_each_its_own.nd rfl (by rfl) (by rfl) (di_val hW.k.symm (x_fld T (dv 0))) (blkOk_by (by kernel_rfl)) (tg_name (by decide)) (fun _ _ _ _ _ => (gn 9 sc_each_its_own.nd)) (fun _ _ _ _ _ => (dts_one (t_eq hr hW (x_len T hW (dv 9)) d_int))) (fun _ _ _ _ _ => (d_ix hW.k.symm (dv 9) d_int)) (fun _ _ _ _ _ => d_bl))
    (dss_cons (ds_par (i := 2) (j := 3) rfl sc_each_its_own.nd rfl rfl (by decide) (by rfl) (by rfl) (da_cons d_dnew (da_cons d_dnew da_nil)) (by rfl))
    (dss_cons (ds_lock fun l1 => (ds_for (passes_of rfl) rfl (di_keys List.mem_cons_self (x_fld T (dv 0))) (gd 4 sc_each_its_own.nd) (dss_cons (dset 5 sc_each_its_own.nd (d_ix (hW.lk l1).k.symm (d_ix (hW.lk l1).k.symm (x_fld T (dv 0)) (dv 4)) d_int))
    (dss_cons (ds_par (i := 6) (j := 7) rfl sc_each_its_own.nd rfl rfl (by decide) (by rfl) (by rfl) (da_cons (dv 5) (da_cons d_int da_nil)) (by rfl))
    (dss_cons (ds_if (t_din hr (dv 5) (dv 3)) (dss_cons (dset 7 sc_each_its_own.nd (d_dget (u1 hr) (dv 3) (dv 5) (by intro _ _; rfl)))
    (dss_cons (ds_while (passes_of rfl) (t_din hr (dv 6) (dv 1)) (dss_cons (ds_aug (j := 7) sc_each_its_own.nd rfl (by first | exact Or.inl rfl | exact Or.inr rfl) d_int)
    (dss_one (dset 6 sc_each_its_own.nd (d_joined (.cons (d_fmt (dv 5)) (.cons d_str (.cons (d_fmt (dv 7)) .nil))))))))
    (dss_one (ds_dput (u1 hr) (dv 1) (dv 6) d_bl))))
    dss_nil)
    (dss_cons (ds_dput (u1 hr) (dv 3) (dv 5) (dv 7))
    (dss_one (ds_dput (u1 hr) (dv 2) (dv 4) (dv 6)))))))))
    (dss_cons (dset 8 sc_each_its_own.nd (d_lstR da_nil))
    (dss_cons (ds_for (passes_of rfl) rfl (di_enum hW.k.symm (by rfl) (T.b _ (by decide)) (x_fld T (dv 0))) (dg_tup hW.k.symm rfl (dgs_cons (gd 4 sc_each_its_own.nd) (dgs_cons (gd 9 sc_each_its_own.nd) dgs_nil))) (dss_one (ds_if (t_eq hr hW (d_ix hW.k.symm (dv 9) d_int) d_str) (dss_one (ds_expr (d_append (dv 8) (d_tup (da_cons d_str (da_cons (d_dget (u1 hr) (dv 2) (dv 4) (by intro _ _; rfl)) da_nil))))))
    (dss_one (ds_if (t_din hr (dv 4) (x_fld T (dv 0))) (dss_one (ds_expr (d_append (dv 8) (d_tup (da_cons d_str (da_cons (d_dget (u1 hr) (dv 2) (d_dget (u1 hr) (x_fld T (dv 0)) (dv 4) (by intro _ _; rfl)) (by intro _ _; rfl)) da_nil))))))
    (dss_one (ds_expr (d_append (dv 8) (dv 9)))))))))
    (dss_one (ds_ret (x_tuple T hW (dv 8)))))))))

abbrev s_by_steps_out : Stmt := inClass (top 6) 11
theorem sc_by_steps_out : FnScope ["self", "found", "number", "deed", "put", "scope", "steps", "mine", "one", "owner"] ["self"] (defScope s_by_steps_out) := ⟨rfl, rfl, rfl, by decide +kernel, rfl, by decide +kernel, by decide +kernel⟩
def t_by_steps_out (C CS : Addr) : TDS := (dSeq (dAsg (dLstR dNil) (dgName 1))
    (dSeq (dFor (diEnum (dFld C "deeds" (dVar 0))) (dgTup 2 (dgCons (dgName 2) (dgCons (dgName 3) dgNil))) (dIfS (dTest (dOp (fDIn false) (dVar 2) (dFld C "meant" (dVar 0)))) (dSeq (dAsg (dOp fDGet (dFld C "meant" (dVar 0)) (dVar 2)) (dgName 4))
    (dSeq (dAsg (dTupS (dCons (dMeth C "scope_at" (F_scope_at C CS) (dVar 0) (dCons (dVar 2) dNil)) (dCons (dC (.int 0)) dNil))) (dgTup 2 (dgCons (dgName 5) (dgCons (dgName 6) dgNil))))
    (dSeq (dWhile (dCmpT fNe (dVar 5) (dOp fDGet (dFld C "owners" (dVar 0)) (dVar 4))) (dAsg (dTupS (dCons (dOp fIx (dOp fIx (dFld C "scopes" (dVar 0)) (dVar 5)) (dC (.int 0))) (dCons (dOp fAdd (dVar 6) (dC (.int 1))) dNil))) (dgTup 2 (dgCons (dgName 5) (dgCons (dgName 6) dgNil)))))
    (dSeq (dLockS fun l1 => (dAsg (dLc (diItems l1 (dFld C "owners" (dVar 0))) (dgTup 2 (dgCons (dgName 8) (dgCons (dgName 9) dgNil))) (dCmpT fEq (dVar 9) (dVar 5)) (dVar 8) [8, 9]) (dgName 7)))
    (dDrop (dAppend (dVar 1) (dTupS (dCons (dC (.str "use")) (dCons (dVar 6) (dCons (dIndex (dVar 7) (dVar 4)) dNil))))))))))
    (dDrop (dAppend (dVar 1) (dVar 3)))))
    (dRet (dCall fTuple (dCons (dVar 1) dNil)))))
def F_by_steps_out (C CS : Addr) : FD := fdOf 10 1 (t_by_steps_out C CS)
theorem ok_by_steps_out {W : Wd} (hW : WOk W K tg tl) {C CS f c : Addr} {fd : FuncData} (T : Tx K mg C CS) (F : FunC K "by_steps_out" "Scopes.by_steps_out" s_by_steps_out f fd c) (G_scope_at : CalM P w K mg base tg tl C 1 "scope_at" ["self", "number"] (F_scope_at C CS)) : FnOk P w K mg base (L2.CX P w) 2 f fd ["self"] (spOf W 1 (F_by_steps_out C CS)) := by
  refine F.ok (k := 1) sc_by_steps_out fun A outer s H E hr => ?_
  exact (dss_cons (dset 1 sc_by_steps_out.nd (d_lstR da_nil))
    (dss_cons (ds_for (passes_of rfl) rfl (di_enum hW.k.symm (by rfl) (T.b _ (by decide)) (x_fld T (dv 0))) (dg_tup hW.k.symm rfl (dgs_cons (gd 2 sc_by_steps_out.nd) (dgs_cons (gd 3 sc_by_steps_out.nd) dgs_nil))) (dss_one (ds_if (t_din hr (dv 2) (x_fld T (dv 0))) (dss_cons (dset 4 sc_by_steps_out.nd (d_dget (u1 hr) (x_fld T (dv 0)) (dv 2) (by intro _ _; rfl)))
    (dss_cons (ds_asg (d_tup (da_cons (x_meth (pl := _) G_scope_at T hW hr (L2.passes_call (takes_of rfl rfl rfl rfl) fun _ _ _ _ h => h) (dv 0) (da_cons (dv 2) da_nil)) (da_cons d_int da_nil))) (dg_tup hW.k.symm rfl (dgs_cons (gd 5 sc_by_steps_out.nd) (dgs_cons (gd 6 sc_by_steps_out.nd) dgs_nil))))
    (dss_cons (ds_while (passes_of rfl) (t_ne hr hW (dv 5) (d_dget (u1 hr) (x_fld T (dv 0)) (dv 4) (by intro _ _; rfl))) (dss_one (ds_asg (d_tup (da_cons (d_ix hW.k.symm (d_ix hW.k.symm (x_fld T (dv 0)) (dv 5)) d_int) (da_cons (d_add hW.k.symm (dv 6) d_int) da_nil))) (dg_tup hW.k.symm rfl (dgs_cons (gd 5 sc_by_steps_out.nd) (dgs_cons (gd 6 sc_by_steps_out.nd) dgs_nil))))))
    (dss_cons (ds_lock fun l1 => (ds_setLc (i := 7) (own := [("one", 8), ("owner", 9)]) rfl sc_by_steps_out.nd rfl (by rfl) (by rfl) (di_items List.mem_cons_self (x_fld T (dv 0))) (blkOk_by (by kernel_rfl)) (tg_tup (hW.lk l1).k.symm (tgs_cons (tg_name (by decide)) (tgs_cons (tg_name (by decide)) tgs_nil))) (fun _ _ _ _ _ => (pg_tup rfl (pgs_cons (gn 8 sc_by_steps_out.nd) (pgs_cons (gn 9 sc_by_steps_out.nd) pgs_nil)))) (fun _ _ _ _ _ => (dts_one (t_eq hr (hW.lk l1) (dv 9) (dv 5)))) (fun _ _ _ _ _ => (dv 8))))
    (dss_one (ds_expr (d_append (dv 1) (d_tup (da_cons d_str (da_cons (dv 6) (da_cons (d_index hW.k.symm (dv 7) (dv 4)) da_nil)))))))))))
    (dss_one (ds_expr (d_append (dv 1) (dv 3)))))))
    (dss_one (ds_ret (x_tuple T hW (dv 1))))))

abbrev s_is_within : Stmt := inClass (top 6) 13
theorem sc_is_within : FnScope ["self", "scope", "other"] ["self", "scope", "other"] (defScope s_is_within) := ⟨rfl, rfl, rfl, by decide +kernel, rfl, by decide +kernel, by decide +kernel⟩
def t_is_within (C CS : Addr) : TDS := (dSeq (dWhile (dCmpT fGe (dVar 1) (dC (.int 0))) (dSeq (dIfS (dCmpT fEq (dVar 1) (dVar 2)) (dRet (dC (.bl true)))
    dNext)
    (dAsg (dOp fIx (dOp fIx (dFld C "scopes" (dVar 0)) (dVar 1)) (dC (.int 0))) (dgName 1))))
    (dRet (dC (.bl false))))
def F_is_within (C CS : Addr) : FD := fdOf 3 3 (t_is_within C CS)
theorem ok_is_within {W : Wd} (hW : WOk W K tg tl) {C CS f c : Addr} {fd : FuncData} (T : Tx K mg C CS) (F : FunC K "is_within" "Scopes.is_within" s_is_within f fd c) : FnOk P w K mg base (L2.CX P w) 1 f fd ["self", "scope", "other"] (spOf W 3 (F_is_within C CS)) := by
  refine F.ok (k := 0) sc_is_within fun A outer s H E hr => ?_
  exact (dss_cons (ds_while (passes_of rfl) (t_ge (dv 1) d_int) (dss_cons (ds_if (t_eq hr hW (dv 1) (dv 2)) (dss_one (ds_ret d_bl))
    dss_nil)
    (dss_one (dset 1 sc_is_within.nd (d_ix hW.k.symm (d_ix hW.k.symm (x_fld T (dv 0)) (dv 1)) d_int)))))
    (dss_one (ds_ret d_bl)))

abbrev s_taken_in : Stmt := inClass (top 6) 12
theorem sc_taken_in : FnScope ["self", "scope", "found", "use", "put"] ["self", "scope"] (defScope s_taken_in) := ⟨rfl, rfl, rfl, by decide +kernel, rfl, by decide +kernel, by decide +kernel⟩
def t_taken_in (C CS : Addr) : TDS := (dSeq (dIfS (dNotT (dTest (dChain (fCmp fun i j => decide (i ≤ j)) (fCmp fun i j => decide (i < j)) (dC (.int 0)) (dVar 1) (dCall fLen (dCons (dFld C "scopes" (dVar 0)) dNil))))) (dRaise CS)
    dNext)
    (dSeq (dAsg dNewK (dgName 2))
    (dSeq (dLockS fun l1 => (dFor (diItems l1 (dFld C "meant" (dVar 0))) (dgTup 2 (dgCons (dgName 3) (dgCons (dgName 4) dgNil))) (dIfS (dAndT (dTest (dMeth C "is_within" (F_is_within C CS) (dVar 0) (dCons (dMeth C "scope_at" (F_scope_at C CS) (dVar 0) (dCons (dVar 3) dNil)) (dCons (dVar 1) dNil)))) (dNotT (dTest (dMeth C "is_within" (F_is_within C CS) (dVar 0) (dCons (dOp fDGet (dFld C "owners" (dVar 0)) (dVar 4)) (dCons (dVar 1) dNil)))))) (dDPut (dVar 2) (dOp fIx (dOp fIx (dFld C "deeds" (dVar 0)) (dVar 4)) (dC (.int 1))) (dC (.bl true)))
    dNext)))
    (dRet (dCall fTuple (dCons (dCall fSortD (dCons (dVar 2) dNil)) dNil))))))
def F_taken_in (C CS : Addr) : FD := fdOf 5 2 (t_taken_in C CS)
theorem ok_taken_in {W : Wd} (hW : WOk W K tg tl) {C CS f c : Addr} {fd : FuncData} (T : Tx K mg C CS) (F : FunC K "taken_in" "Scopes.taken_in" s_taken_in f fd c) (G_is_within : CalM P w K mg base tg tl C 1 "is_within" ["self", "scope", "other"] (F_is_within C CS)) (G_scope_at : CalM P w K mg base tg tl C 1 "scope_at" ["self", "number"] (F_scope_at C CS)) : FnOk P w K mg base (L2.CX P w) 2 f fd ["self", "scope"] (spOf W 2 (F_taken_in C CS)) := by
  refine F.ok (k := 1) sc_taken_in fun A outer s H E hr => ?_
  exact (dss_cons (ds_if (dt_not (dt_chain op_le op_lt rl_cmp rl_cmp d_int (dv 1) (x_len T hW (x_fld T (dv 0))))) (dss_one (x_raise T rfl (takes_of rfl rfl rfl rfl) (fun _ _ _ _ h => h)))
    dss_nil)
    (dss_cons (dset 2 sc_taken_in.nd d_dnew)
    (dss_cons (ds_lock fun l1 => (ds_for (passes_of rfl) rfl (di_items List.mem_cons_self (x_fld T (dv 0))) (dg_tup (hW.lk l1).k.symm rfl (dgs_cons (gd 3 sc_taken_in.nd) (dgs_cons (gd 4 sc_taken_in.nd) dgs_nil))) (dss_one (ds_if (PW.pt (dw_and (dt_val (x_meth (pl := _) G_is_within T (hW.lk l1) hr (L2.passes_call (takes_of rfl rfl rfl rfl) fun _ _ _ _ h => h) (dv 0) (da_cons (x_meth (pl := _) G_scope_at T (hW.lk l1) hr (L2.passes_call (takes_of rfl rfl rfl rfl) fun _ _ _ _ h => h) (dv 0) (da_cons (dv 3) da_nil)) (da_cons (dv 1) da_nil)))) (dw_and1 (dt_not (dt_val (x_meth (pl := _) G_is_within T (hW.lk l1) hr (L2.passes_call (takes_of rfl rfl rfl rfl) fun _ _ _ _ h => h) (dv 0) (da_cons (d_dget (u1 hr) (x_fld T (dv 0)) (dv 4) (by intro _ _; rfl)) (da_cons (dv 1) da_nil)))))))) (dss_one (ds_dput (u1 hr) (dv 2) (d_ix (hW.lk l1).k.symm (d_ix (hW.lk l1).k.symm (x_fld T (dv 0)) (dv 4)) d_int) d_bl))
    dss_nil))))
    (dss_one (ds_ret (x_tuple T hW (x_sorted T hW rfl (dv 2))))))))

abbrev s_may_be_renamed : Stmt := inClass (top 6) 14
theorem sc_may_be_renamed : FnScope ["self", "number", "fresh", "uses", "rows", "place", "deed", "other"] ["self", "number", "fresh"] (defScope s_may_be_renamed) := ⟨rfl, rfl, rfl, by decide +kernel, rfl, by decide +kernel, by decide +kernel⟩
def t_may_be_renamed (C CS : Addr) : TDS := (dSeq (dIfS (dOrT (dTest (dOp (fDIn true) (dVar 1) (dFld C "owners" (dVar 0)))) (dCmpT fEq (dVar 2) (dC (.str "")))) (dRaise CS)
    dNext)
    (dSeq (dAsg (dMeth C "uses_of" (F_uses_of C CS) (dVar 0) (dCons (dVar 1) dNil)) (dgName 3))
    (dSeq (dAsg (dLstR dNil) (dgName 4))
    (dSeq (dFor (diEnum (dFld C "deeds" (dVar 0))) (dgTup 2 (dgCons (dgName 5) (dgCons (dgName 6) dgNil))) (dDrop (dAppend (dVar 4) (dIf (dOrT (dCmpT fEq (dVar 5) (dVar 1)) (dCmpT (fInB false) (dVar 5) (dVar 3))) (dTupS (dCons (dOp fIx (dVar 6) (dC (.int 0))) (dCons (dVar 2) dNil))) (dVar 6)))))
    (dSeq (dTry CS (dAsg (dPub (dMake C (F_init C CS) (dCons (dVar 4) dNil))) (dgName 7)) (dRet (dC (.bl false))))
    (dRet (dAndV (dOp (fDctEq false) (dFld C "meant" (dVar 7)) (dFld C "meant" (dVar 0))) (dOp fEq (dFld C "lost" (dVar 7)) (dFld C "lost" (dVar 0))))))))))
def F_may_be_renamed (C CS : Addr) : FD := fdOf 8 3 (t_may_be_renamed C CS)
theorem ok_may_be_renamed {W : Wd} (hW : WOk W K tg tl) {C CS f c : Addr} {fd : FuncData} (T : Tx K mg C CS) (F : FunC K "may_be_renamed" "Scopes.may_be_renamed" s_may_be_renamed f fd c) (G_init : CalI P w K mg base tg tl C 8 ["self", "deeds"] (F_init C CS)) (G_uses_of : CalM P w K mg base tg tl C 7 "uses_of" ["self", "number"] (F_uses_of C CS)) : FnOk P w K mg base (L2.CX P w) 10 f fd ["self", "number", "fresh"] (spOf W 3 (F_may_be_renamed C CS)) := by
  refine F.ok (k := 9) sc_may_be_renamed fun A outer s H E hr => ?_
  exact (dss_cons (ds_if (PW.pt (dw_or (t_dnin hr (dv 1) (x_fld T (dv 0))) (dw_or1 (t_eq hr hW (dv 2) d_str)))) (dss_one (x_raise T rfl (takes_of rfl rfl rfl rfl) (fun _ _ _ _ h => h)))
    dss_nil)
    (dss_cons (dset 3 sc_may_be_renamed.nd (x_meth (pl := _) G_uses_of T hW hr (L2.passes_call (takes_of rfl rfl rfl rfl) fun _ _ _ _ h => h) (dv 0) (da_cons (dv 1) da_nil)))
    (dss_cons (dset 4 sc_may_be_renamed.nd (d_lstR da_nil))
    (dss_cons (ds_for (passes_of rfl) rfl (di_enum hW.k.symm (by rfl) (T.b _ (by decide)) (x_fld T (dv 0))) (dg_tup hW.k.symm rfl (dgs_cons (gd 5 sc_may_be_renamed.nd) (dgs_cons (gd 6 sc_may_be_renamed.nd) dgs_nil))) (dss_one (ds_expr (d_append (dv 4) (d_if (PW.pt (dw_or (t_eq hr hW (dv 5) (dv 1)) (dw_or1 (t_in hW (dv 5) (dv 3))))) (d_tup (da_cons (d_ix hW.k.symm (dv 6) d_int) (da_cons (dv 2) da_nil))) (dv 6))))))
    (dss_cons (ds_try rfl rfl rfl ⟨by rfl, by decide, .inl T.mS⟩ T.exm (fun E' pn xe Wx tk hE => (dss_one (dset 7 sc_may_be_renamed.nd (x_make G_init T hW hr (L2.passes_call tk hE) (da_cons (dv 4) da_nil))))) (fun _ _ _ _ _ => (dss_one (ds_ret d_bl))) (hE := fun _ _ => trivial) LamX.takes0)
    (dss_one (ds_ret (d_and (e_deq hr (x_fld T (dv 7)) (x_fld T (dv 0))) (d_one (e_eq hr hW (x_fld T (dv 7)) (x_fld T (dv 0))))))))))))

abbrev s_deeds_of : Stmt := top 7
theorem sc_deeds_of : FnScope ["text", "found", "word"] ["text"] (defScope s_deeds_of) := ⟨rfl, rfl, rfl, by decide +kernel, rfl, by decide +kernel, by decide +kernel⟩
def t_deeds_of (C CS : Addr) : TDS := (dSeq (dAsg (dLstR dNil) (dgName 1))
    (dSeq (dFor (diVal (dSplit (dVar 0) (dC (.str " ")))) (dgName 2) (dIfS (dCmpT (fInB false) (dVar 2) (dTupS (dCons (dC (.str "{")) (dCons (dC (.str "}")) dNil)))) (dDrop (dAppend (dVar 1) (dIf (dCmpT fEq (dVar 2) (dC (.str "{"))) (dTupS (dCons (dC (.str "in")) dNil)) (dTupS (dCons (dC (.str "out")) dNil)))))
    (dIfS (dCmpT (fInB false) (dVar 2) (dTupS (dCons (dC (.str "")) (dCons (dC (.str "+")) dNil)))) (dRaise CS)
    (dDrop (dAppend (dVar 1) (dIf (dCmpT fEq (dOp fIxS (dVar 2) (dC (.int 0))) (dC (.str "+"))) (dTupS (dCons (dC (.str "put")) (dCons (dSl (dVar 2) (doSome (dC (.int 1))) doNone) dNil))) (dTupS (dCons (dC (.str "use")) (dCons (dVar 2) dNil)))))))))
    (dRet (dCall fTuple (dCons (dVar 1) dNil)))))
def F_deeds_of (C CS : Addr) : FD := fdOf 3 1 (t_deeds_of C CS)
theorem ok_deeds_of {W : Wd} (hW : WOk W K tg tl) {C CS f c : Addr} {fd : FuncData} (T : Tx K mg C CS) (F : FunC K "deeds_of" "deeds_of" s_deeds_of f fd c) : FnOk P w K mg base (L2.CX P w) 1 f fd ["text"] (spOf W 1 (F_deeds_of C CS)) := by
  refine F.ok (k := 0) sc_deeds_of fun A outer s H E hr => ?_
  exact (dss_cons (dset 1 sc_deeds_of.nd (d_lstR da_nil))
    (dss_cons (ds_for (passes_of rfl) rfl (di_val hW.k.symm (d_split (dv 0) d_str)) (gd 2 sc_deeds_of.nd) (dss_one (ds_if (t_in hW (dv 2) (d_tup (da_cons d_str (da_cons d_str da_nil)))) (dss_one (ds_expr (d_append (dv 1) (d_if (t_eq hr hW (dv 2) d_str) (d_tup (da_cons d_str da_nil)) (d_tup (da_cons d_str da_nil))))))
    (dss_one (ds_if (t_in hW (dv 2) (d_tup (da_cons d_str (da_cons d_str da_nil)))) (dss_one (x_raise T rfl (takes_of rfl rfl rfl rfl) (fun _ _ _ _ h => h)))
    (dss_one (ds_expr (d_append (dv 1) (d_if (t_eq hr hW (d_ixS (dv 2) d_int ix_str) d_str) (d_tup (da_cons d_str (da_cons (d_slice hW.k.symm (dv 2) (do_some d_int) do_none) da_nil))) (d_tup (da_cons d_str (da_cons (dv 2) da_nil))))))))))))
    (dss_one (ds_ret (x_tuple T hW (dv 1))))))

abbrev s_law_dice : Stmt := top 9
theorem sc_law_dice : FnScope ["cell"] ["cell"] (defScope s_law_dice) := ⟨rfl, rfl, rfl, by decide +kernel, rfl, by decide +kernel, by decide +kernel⟩
def t_law_dice (C CS : Addr) : TDS := (dSeq (dIfS (dTest (dChain (fCmp fun i j => decide (i < j)) (fCmp fun i j => decide (i < j)) (dOp fSub (dC (.int 0)) (dC (.int 10))) (dVar 0) (dC (.int 10)))) (dRet (dLstR (dCons (dCall fAbs (dCons (dVar 0) dNil)) (dCons (dC (.int 0)) (dCons (dC (.int 2)) dNil)))))
    dNext)
    (dRet (dLstR (dCons (dVar 0) (dCons (dOp fAdd (dC (.int 1)) (dOp fModI (dCall fInt (dCons (dVar 0) dNil)) (dC (.int 1009)))) (dCons (dCall fInt (dCons (dOp fGe (dVar 0) (dOp fPowI (dC (.int 10)) (dC (.int 18)))) dNil)) dNil))))))
def F_law_dice (C CS : Addr) : FD := fdOf 1 1 (t_law_dice C CS)
theorem ok_law_dice {W : Wd} (hW : WOk W K tg tl) {C CS f c : Addr} {fd : FuncData} (T : Tx K mg C CS) (F : FunC K "_law_dice" "_law_dice" s_law_dice f fd c) : FnOk P w K mg base (L2.CX P w) 1 f fd ["cell"] (spOf W 1 (F_law_dice C CS)) := by
  refine F.ok (k := 0) sc_law_dice fun A outer s H E hr => ?_
  exact (dss_cons (ds_if (dt_chain op_lt op_lt rl_cmp rl_cmp (d_sub d_int d_int) (dv 0) d_int) (dss_one (ds_ret (d_lstR (da_cons (x_abs T hW (dv 0)) (da_cons d_int (da_cons d_int da_nil))))))
    dss_nil)
    (dss_one (ds_ret (d_lstR (da_cons (dv 0) (da_cons (d_add hW.k.symm d_int (d_op op_mod rl_i2 (x_int T hW (dv 0)) d_int)) (da_cons (x_int T hW (e_ge (dv 0) (d_op op_pow rl_i2 d_int d_int))) da_nil)))))))

abbrev s_law_roll : Stmt := top 10
theorem sc_law_roll : FnScope ["dice", "many", "found"] ["dice", "many"] (defScope s_law_roll) := ⟨rfl, rfl, rfl, by decide +kernel, rfl, by decide +kernel, by decide +kernel⟩
def t_law_roll (C CS : Addr) : TDS := (dSeq (dIfS (dOrT (dCmpT fEq (dOp fIx (dVar 0) (dC (.int 2))) (dC (.int 2))) (dAndT (dCmpT fEq (dOp fIx (dVar 0) (dC (.int 2))) (dC (.int 1))) (dCmpT fGt (dOp fIx (dVar 0) (dC (.int 0))) (dC (.int 0))))) (dSeq (dAsg (dOp fModI (dCall fInt (dCons (dOp fIx (dVar 0) (dC (.int 0))) dNil)) (dVar 1)) (dgName 2))
    (dSeq (dAsg (dOp fDivI (dOp fIx (dVar 0) (dC (.int 0))) (dVar 1)) (dgSub (dVar 0) (dC (.int 0))))
    (dRet (dVar 2))))
    dNext)
    (dSeq (dAsg (dC (.int 0)) (dgSub (dVar 0) (dC (.int 2))))
    (dSeq (dIfS (dCmpT fGt (dVar 1) (dC (.int 100000000))) dNever
    dNext)
    (dSeq (dAsg (dOp fModI (dCall fInt (dCons (dOp fAdd (dOp fAdd (dOp fMulI (dOp fIx (dVar 0) (dC (.int 0))) (dC (.int 48271))) (dOp fMulI (dOp fIx (dVar 0) (dC (.int 1))) (dC (.int 69621)))) (dC (.int 11))) dNil)) (dC (.int 2147483647))) (dgSub (dVar 0) (dC (.int 0))))
    (dSeq (dAsg (dOp fAdd (dOp fIx (dVar 0) (dC (.int 1))) (dC (.int 1))) (dgSub (dVar 0) (dC (.int 1))))
    (dRet (dOp fModI (dCall fInt (dCons (dOp fDivI (dOp fIx (dVar 0) (dC (.int 0))) (dC (.int 7))) dNil)) (dVar 1))))))))
def F_law_roll (C CS : Addr) : FD := fdOf 3 2 (t_law_roll C CS)
theorem ok_law_roll {W : Wd} (hW : WOk W K tg tl) {C CS f c : Addr} {fd : FuncData} (T : Tx K mg C CS) (F : FunC K "_law_roll" "_law_roll" s_law_roll f fd c) : FnOk P w K mg base (L2.CX P w) 1 f fd ["dice", "many"] (spOf W 2 (F_law_roll C CS)) := by
  refine F.ok (k := 0) sc_law_roll fun A outer s H E hr => ?_
  exact (dss_cons (ds_if (PW.pt (dw_or (t_eq hr hW (d_ix hW.k.symm (dv 0) d_int) d_int) (dw_or1 (PW.pt (dw_and (t_eq hr hW (d_ix hW.k.symm (dv 0) d_int) d_int) (dw_and1 (t_gt (d_ix hW.k.symm (dv 0) d_int) d_int))))))) (dss_cons (dset 2 sc_law_roll.nd (d_op op_mod rl_i2 (x_int T hW (d_ix hW.k.symm (dv 0) d_int)) (dv 1)))
    (dss_cons (ds_asg (d_op op_fdiv rl_i2 (d_ix hW.k.symm (dv 0) d_int) (dv 1)) (dg_sub (dv 0) d_int))
    (dss_one (ds_ret (dv 2)))))
    dss_nil)
    (dss_cons (ds_asg d_int (dg_sub (dv 0) d_int))
    (dss_cons (ds_if (t_gt (dv 1) d_int) dss_never
    dss_nil)
    (dss_cons (ds_asg (d_op op_mod rl_i2 (x_int T hW (d_add hW.k.symm (d_add hW.k.symm (d_op op_mul rl_i2 (d_ix hW.k.symm (dv 0) d_int) d_int) (d_op op_mul rl_i2 (d_ix hW.k.symm (dv 0) d_int) d_int)) d_int)) d_int) (dg_sub (dv 0) d_int))
    (dss_cons (ds_asg (d_add hW.k.symm (d_ix hW.k.symm (dv 0) d_int) d_int) (dg_sub (dv 0) d_int))
    (dss_one (ds_ret (d_op op_mod rl_i2 (x_int T hW (d_op op_fdiv rl_i2 (d_ix hW.k.symm (dv 0) d_int) d_int)) (dv 1)))))))))

abbrev s_law_rounds : Stmt := top 11
theorem sc_law_rounds : FnScope ["script", "most", "cells", "cell"] ["script", "most"] (defScope s_law_rounds) := ⟨rfl, rfl, rfl, by decide +kernel, rfl, by decide +kernel, by decide +kernel⟩
def t_law_rounds (C CS : Addr) (ns : List Int) : TDS := (dSeq (dAsg (dSlFn ns (dVar 0) doNone (doSome (dVar 1))) (dgName 2))
    (dSeq (dIfS (dCmpT fEq (dVar 2) (dLstS dNil)) (dAsg (dLstS (dCons (dC (.int 0)) dNil)) (dgName 2))
    dNext)
    (dRet (dLc (diVal (dVar 2)) (dgName 3) dYes (dFn (F_law_dice C CS) (dCons (dVar 3) dNil)) [3]))))
def F_law_rounds (C CS : Addr) (ns : List Int) : FD := fdOf 4 2 (t_law_rounds C CS ns)
theorem ok_law_rounds {W : Wd} (hW : WOk W K tg tl) {C CS f c : Addr} {fd : FuncData} (T : Tx K mg C CS) (F : FunC K "_law_rounds" "_law_rounds" s_law_rounds f fd c) (G_law_dice : CalF P w K mg base tg tl 1 "_law_dice" ["cell"] (F_law_dice C CS)) {ns : List Int} (hS : ∀ v m H, W.fnp 0 v m H → ∃ a, v = .ref a ∧ SqL W.K H a (ns.map V.int)) : FnOk P w K mg base (L2.CX P w) 2 f fd ["script", "most"] (spOf W 2 (F_law_rounds C CS ns)) := by
  refine F.ok (k := 1) sc_law_rounds fun A outer s H E hr => ?_
  exact (dss_cons (dset 2 sc_law_rounds.nd (d_sliceFn hW.k.symm hS (dv 0) do_none (do_some (dv 1))))
    (dss_cons (ds_if (t_eq hr hW (dv 2) (d_lst da_nil)) (dss_one (dset 2 sc_law_rounds.nd (d_lst (da_cons d_int da_nil))))
    dss_nil)
    (dss_one (ds_ret (d_lc (own := [("cell", 3)]) rfl sc_law_rounds.nd (di_val hW.k.symm (dv 2)) (blkOk_by (by kernel_rfl)) (tg_name (by decide)) (fun _ _ _ _ _ => (gn 3 sc_law_rounds.nd)) (fun _ _ _ _ _ => dts_nil) (fun _ _ _ _ _ => (x_call G_law_dice hW hr passN (da_cons (dv 3) da_nil))))))))

abbrev s_law_drawn : Stmt := top 13
theorem sc_law_drawn : FnScope ["dice", "found", "deep", "k", "sort", "name"] ["dice"] (defScope s_law_drawn) := ⟨rfl, rfl, rfl, by decide +kernel, rfl, by decide +kernel, by decide +kernel⟩
def t_law_drawn (C CS : Addr) : TDS := (dSeq (dPar 1 2 (dCons (dLstS dNil) (dCons (dC (.int 0)) dNil)))
    (dSeq (dFor (diRng1 (dFn (F_law_roll C CS) (dCons (dVar 0) (dCons (dC (.int 16)) dNil)))) (dgName 3) (dSeq (dPar 4 5 (dCons (dFn (F_law_roll C CS) (dCons (dVar 0) (dCons (dC (.int 8)) dNil))) (dCons (dOp fIx (dLstS (dCons (dC (.str "a")) (dCons (dC (.str "b")) (dCons (dC (.str "c")) dNil)))) (dFn (F_law_roll C CS) (dCons (dVar 0) (dCons (dC (.int 3)) dNil)))) dNil)))
    (dIfS (dCmpT fLt (dVar 4) (dC (.int 3))) (dAsg (dOp fAdd (dVar 1) (dLstS (dCons (dTupS (dCons (dC (.str "put")) (dCons (dVar 5) dNil))) dNil))) (dgName 1))
    (dIfS (dCmpT fLt (dVar 4) (dC (.int 6))) (dAsg (dOp fAdd (dVar 1) (dLstS (dCons (dTupS (dCons (dC (.str "use")) (dCons (dVar 5) dNil))) dNil))) (dgName 1))
    (dIfS (dOrT (dCmpT fLt (dVar 4) (dC (.int 7))) (dAndT (dCmpT fEq (dVar 2) (dC (.int 0))) (dCmpT fGt (dFn (F_law_roll C CS) (dCons (dVar 0) (dCons (dC (.int 9)) dNil))) (dC (.int 0))))) (dPar 1 2 (dCons (dOp fAdd (dVar 1) (dLstS (dCons (dTupS (dCons (dC (.str "in")) dNil)) dNil))) (dCons (dOp fAdd (dVar 2) (dC (.int 1))) dNil)))
    (dPar 1 2 (dCons (dOp fAdd (dVar 1) (dLstS (dCons (dTupS (dCons (dC (.str "out")) dNil)) dNil))) (dCons (dOp fSub (dVar 2) (dC (.int 1))) dNil))))))))
    (dRet (dOp fAdd (dVar 1) (dOp fRep (dLstS (dCons (dTupS (dCons (dC (.str "out")) dNil)) dNil)) (dCall fMax (dCons (dC (.int 0)) (dCons (dOp fSub (dVar 2) (dCall fInt (dCons (dOp fEq (dFn (F_law_roll C CS) (dCons (dVar 0) (dCons (dC (.int 12)) dNil))) (dC (.int 0))) dNil))) dNil))))))))
def F_law_drawn (C CS : Addr) : FD := fdOf 6 1 (t_law_drawn C CS)
theorem ok_law_drawn {W : Wd} (hW : WOk W K tg tl) {C CS f c : Addr} {fd : FuncData} (T : Tx K mg C CS) (F : FunC K "_law_drawn" "_law_drawn" s_law_drawn f fd c) (G_law_roll : CalF P w K mg base tg tl 1 "_law_roll" ["dice", "many"] (F_law_roll C CS)) : FnOk P w K mg base (L2.CX P w) 2 f fd ["dice"] (spOf W 1 (F_law_drawn C CS)) := by
  refine F.ok (k := 1) sc_law_drawn fun A outer s H E hr => ?_
  exact (dss_cons (ds_par (i := 1) (j := 2) rfl sc_law_drawn.nd rfl rfl (by decide) (by rfl) (by rfl) (da_cons (d_lst da_nil) (da_cons d_int da_nil)) (by rfl))
    (dss_cons (ds_for (passes_of rfl) rfl (di_range1 (by rfl) (T.b _ (by decide)) (x_call G_law_roll hW hr (L2.passes_call (takes_of rfl rfl rfl rfl) fun _ _ _ _ h => h) (da_cons (dv 0) (da_cons d_int da_nil)))) (gd 3 sc_law_drawn.nd) (dss_cons (ds_par (i := 4) (j := 5) rfl sc_law_drawn.nd rfl rfl (by decide) (by rfl) (by rfl) (da_cons (x_call G_law_roll hW hr (L2.passes_call (takes_of rfl rfl rfl rfl) fun _ _ _ _ h => h) (da_cons (dv 0) (da_cons d_int da_nil))) (da_cons (d_ix hW.k.symm (d_lst (da_cons d_str (da_cons d_str (da_cons d_str da_nil)))) (x_call G_law_roll hW hr (L2.passes_call (takes_of rfl rfl rfl rfl) fun _ _ _ _ h => h) (da_cons (dv 0) (da_cons d_int da_nil)))) da_nil)) (by rfl))
    (dss_one (ds_if (t_lt (dv 4) d_int) (dss_one (dset 1 sc_law_drawn.nd (d_add hW.k.symm (dv 1) (d_lst (da_cons (d_tup (da_cons d_str (da_cons (dv 5) da_nil))) da_nil)))))
    (dss_one (ds_if (t_lt (dv 4) d_int) (dss_one (dset 1 sc_law_drawn.nd (d_add hW.k.symm (dv 1) (d_lst (da_cons (d_tup (da_cons d_str (da_cons (dv 5) da_nil))) da_nil)))))
    (dss_one (ds_if (PW.pt (dw_or (t_lt (dv 4) d_int) (dw_or1 (PW.pt (dw_and (t_eq hr hW (dv 2) d_int) (dw_and1 (t_gt (x_call G_law_roll hW hr (L2.passes_call (takes_of rfl rfl rfl rfl) fun _ _ _ _ h => h) (da_cons (dv 0) (da_cons d_int da_nil))) d_int))))))) (dss_one (ds_par (i := 1) (j := 2) rfl sc_law_drawn.nd rfl rfl (by decide) (by rfl) (by rfl) (da_cons (d_add hW.k.symm (dv 1) (d_lst (da_cons (d_tup (da_cons d_str da_nil)) da_nil))) (da_cons (d_add hW.k.symm (dv 2) d_int) da_nil)) (by rfl)))
    (dss_one (ds_par (i := 1) (j := 2) rfl sc_law_drawn.nd rfl rfl (by decide) (by rfl) (by rfl) (da_cons (d_add hW.k.symm (dv 1) (d_lst (da_cons (d_tup (da_cons d_str da_nil)) da_nil))) (da_cons (d_sub (dv 2) d_int) da_nil)) (by rfl)))))))))))
    (dss_one (ds_ret (d_add hW.k.symm (dv 1) (d_op op_rep rl_rep (d_lst (da_cons (d_tup (da_cons d_str da_nil)) da_nil)) (x_max T hW rfl d_int (d_sub (dv 2) (x_int T hW (e_eq hr hW (x_call G_law_roll hW hr (L2.passes_call (takes_of rfl rfl rfl rfl) fun _ _ _ _ h => h) (da_cons (dv 0) (da_cons d_int da_nil))) d_int))))))))))

abbrev s_law_chains : Stmt := top 14
theorem sc_law_chains : FnScope ["deeds", "here", "found", "k", "deed", "puts", "put"] ["deeds"] (defScope s_law_chains) := ⟨rfl, rfl, rfl, by decide +kernel, rfl, by decide +kernel, by decide +kernel⟩
def t_law_chains (C CS : Addr) : TDS := (dSeq (dAsg (dTupS (dCons (dTupF (dCons (dUn fNeg (dC (.int 1))) dNil)) (dCons (dLstS dNil) dNil))) (dgTup 2 (dgCons (dgName 1) (dgCons (dgName 2) dgNil))))
    (dSeq (dFor (diEnum (dVar 0)) (dgTup 2 (dgCons (dgName 3) (dgCons (dgName 4) dgNil))) (dSeq (dAsg (dOp fAdd (dVar 2) (dLstS (dCons (dVar 1) dNil))) (dgName 2))
    (dSeq (dIfS (dCmpT fEq (dOp fIx (dVar 4) (dC (.int 0))) (dC (.str "in"))) (dAsg (dOp fAddF (dVar 1) (dTupF (dCons (dVar 3) dNil))) (dgName 1))
    dNext)
    (dSeq (dIfS (dCmpT fEq (dOp fIx (dVar 4) (dC (.int 0))) (dC (.str "out"))) (dAsg (dSlF (dVar 1) doNone (doSome (dUn fNeg (dC (.int 1))))) (dgName 1))
    dNext)
    (dIfS (dOrT (dCmpT fEq (dVar 1) (dTupS dNil)) (dCmpT fGt (dCall fLen (dCons (dVar 1) dNil)) (dC (.int 13)))) (dRet (dC .non))
    dNext)))))
    (dSeq (dAsg (dLc (diEnum (dVar 0)) (dgTup 2 (dgCons (dgName 3) (dgCons (dgName 4) dgNil))) (dCmpT fEq (dOp fIx (dVar 4) (dC (.int 0))) (dC (.str "put"))) (dTupS (dCons (dOp fIx (dOp fIx (dVar 2) (dVar 3)) (dUn fNeg (dC (.int 1)))) (dCons (dOp fIx (dVar 4) (dC (.int 1))) dNil))) [3, 4]) (dgName 5))
    (dRet (dIf (dAndT (dCmpT fEq (dCall fLen (dCons (dVar 1) dNil)) (dC (.int 1))) (dCmpT fEq (dUn fLenDict (dLc (diVal (dVar 5)) (dgName 6) dYes (dTupS (dCons (dVar 6) (dCons (dC (.int 1)) dNil))) [6])) (dCall fLen (dCons (dVar 5) dNil)))) (dVar 2) (dC .non))))))
def F_law_chains (C CS : Addr) : FD := fdOf 7 1 (t_law_chains C CS)
theorem ok_law_chains {W : Wd} (hW : WOk W K tg tl) {C CS f c : Addr} {fd : FuncData} (T : Tx K mg C CS) (F : FunC K "_law_chains" "_law_chains" s_law_chains f fd c) : FnOk P w K mg base (L2.CX P w) 1 f fd ["deeds"] (spOf W 1 (F_law_chains C CS)) := by
  refine F.ok (k := 0) sc_law_chains fun A outer s H E hr => ?_
  exact (dss_cons (ds_asg (d_tup (da_cons (d_tupF (da_cons (d_neg d_int) da_nil)) (da_cons (d_lst da_nil) da_nil))) (dg_tup hW.k.symm rfl (dgs_cons (gd 1 sc_law_chains.nd) (dgs_cons (gd 2 sc_law_chains.nd) dgs_nil))))
    (dss_cons (ds_for (passes_of rfl) rfl (di_enum hW.k.symm (by rfl) (T.b _ (by decide)) (dv 0)) (dg_tup hW.k.symm rfl (dgs_cons (gd 3 sc_law_chains.nd) (dgs_cons (gd 4 sc_law_chains.nd) dgs_nil))) (dss_cons (dset 2 sc_law_chains.nd (d_add hW.k.symm (dv 2) (d_lst (da_cons (dv 1) da_nil))))
    (dss_cons (ds_if (t_eq hr hW (d_ix hW.k.symm (dv 4) d_int) d_str) (dss_one (dset 1 sc_law_chains.nd (d_op op_catF rl_addF (dv 1) (d_tupF (da_cons (dv 3) da_nil)))))
    dss_nil)
    (dss_cons (ds_if (t_eq hr hW (d_ix hW.k.symm (dv 4) d_int) d_str) (dss_one (dset 1 sc_law_chains.nd (d_sliceF (dv 1) do_none (do_some (d_neg d_int)))))
    dss_nil)
    (dss_one (ds_if (PW.pt (dw_or (t_eq hr hW (dv 1) (d_tup da_nil)) (dw_or1 (t_gt (x_len T hW (dv 1)) d_int)))) (dss_one (ds_ret d_non))
    dss_nil))))))
    (dss_cons (ds_setLc (i := 5) (own := [("k", 3), ("deed", 4)]) rfl sc_law_chains.nd rfl (by rfl) (by rfl) (di_enum hW.k.symm (by rfl) (T.b _ (by decide)) (dv 0)) (blkOk_by (by kernel_rfl)) (tg_tup hW.k.symm (tgs_cons (tg_name (by decide)) (tgs_cons (tg_name (by decide)) tgs_nil))) (fun _ _ _ _ _ => (pg_tup rfl (pgs_cons (gn 3 sc_law_chains.nd) (pgs_cons (gn 4 sc_law_chains.nd) pgs_nil)))) (fun _ _ _ _ _ => (dts_one (t_eq hr hW (d_ix hW.k.symm (dv 4) d_int) d_str))) (fun _ _ _ _ _ => (d_tup (da_cons (d_ix hW.k.symm (d_ix hW.k.symm (dv 2) (dv 3)) (d_neg d_int)) (da_cons (d_ix hW.k.symm (dv 4) d_int) da_nil)))))
    (dss_one (ds_ret (d_if (PW.pt (dw_and (t_eq hr hW (x_len T hW (dv 1)) d_int) (dw_and1 (t_eq hr hW (d_lenDict hW.k.symm rfl (u2 hr) (by rfl) (T.b _ (by decide)) PySem.boot_len (by rfl) (T.b _ (by decide)) bt_dict (d_lc (own := [("put", 6)]) rfl sc_law_chains.nd (di_val hW.k.symm (dv 5)) (blkOk_by (by kernel_rfl)) (tg_name (by decide)) (fun _ _ _ _ _ => (gn 6 sc_law_chains.nd)) (fun _ _ _ _ _ => dts_nil) (fun _ _ _ _ _ => (d_tup (da_cons (dv 6) (da_cons d_int da_nil)))))) (x_len T hW (dv 5)))))) (dv 2) d_non))))))

abbrev s_law_puts : Stmt := top 15
theorem sc_law_puts : FnScope ["deeds", "chains", "scope", "name", "k", "deed"] ["deeds", "chains", "scope", "name"] (defScope s_law_puts) := ⟨rfl, rfl, rfl, by decide +kernel, rfl, by decide +kernel, by decide +kernel⟩
def t_law_puts (C CS : Addr) : TDS := (dRet (dLc (diEnum (dVar 0)) (dgTup 2 (dgCons (dgName 4) (dgCons (dgName 5) dgNil))) (dAndT (dCmpT fEq (dVar 5) (dTupS (dCons (dC (.str "put")) (dCons (dVar 3) dNil)))) (dCmpT fEq (dOp fIx (dOp fIx (dVar 1) (dVar 4)) (dUn fNeg (dC (.int 1)))) (dVar 2))) (dVar 4) [4, 5]))
def F_law_puts (C CS : Addr) : FD := fdOf 6 4 (t_law_puts C CS)
theorem ok_law_puts {W : Wd} (hW : WOk W K tg tl) {C CS f c : Addr} {fd : FuncData} (T : Tx K mg C CS) (F : FunC K "_law_puts" "_law_puts" s_law_puts f fd c) : FnOk P w K mg base (L2.CX P w) 1 f fd ["deeds", "chains", "scope", "name"] (spOf W 4 (F_law_puts C CS)) := by
  refine F.ok (k := 0) sc_law_puts fun A outer s H E hr => ?_
  exact (dss_one (ds_ret (d_lc (own := [("k", 4), ("deed", 5)]) rfl sc_law_puts.nd (di_enum hW.k.symm (by rfl) (T.b _ (by decide)) (dv 0)) (blkOk_by (by kernel_rfl)) (tg_tup hW.k.symm (tgs_cons (tg_name (by decide)) (tgs_cons (tg_name (by decide)) tgs_nil))) (fun _ _ _ _ _ => (pg_tup rfl (pgs_cons (gn 4 sc_law_puts.nd) (pgs_cons (gn 5 sc_law_puts.nd) pgs_nil)))) (fun _ _ _ _ _ => (dts_one (PW.pt (dw_and (t_eq hr hW (dv 5) (d_tup (da_cons d_str (da_cons (dv 3) da_nil)))) (dw_and1 (t_eq hr hW (d_ix hW.k.symm (d_ix hW.k.symm (dv 1) (dv 4)) (d_neg d_int)) (dv 2))))))) (fun _ _ _ _ _ => (dv 4)))))

abbrev s_law_meant : Stmt := top 16
theorem sc_law_meant : FnScope ["deeds", "chains", "number", "name", "scope", "mine", "k"] ["deeds", "chains", "number", "name"] (defScope s_law_meant) := ⟨rfl, rfl, rfl, by decide +kernel, rfl, by decide +kernel, by decide +kernel⟩
def t_law_meant (C CS : Addr) : TDS := (dSeq (dFor (diVal (dRev (dOp fIx (dVar 1) (dVar 2)) (dUn fNeg (dC (.int 1))))) (dgName 4) (dSeq (dAsg (dLc (diVal (dFn (F_law_puts C CS) (dCons (dVar 0) (dCons (dVar 1) (dCons (dVar 4) (dCons (dVar 3) dNil)))))) (dgName 6) (dCmpT fLt (dVar 6) (dVar 2)) (dVar 6) [6]) (dgName 5))
    (dIfS (dCmpT fNe (dVar 5) (dLstS dNil)) (dRet (dOp fIx (dVar 5) (dC (.int 0))))
    dNext)))
    (dRet (dC .non)))
def F_law_meant (C CS : Addr) : FD := fdOf 7 4 (t_law_meant C CS)
theorem ok_law_meant {W : Wd} (hW : WOk W K tg tl) {C CS f c : Addr} {fd : FuncData} (T : Tx K mg C CS) (F : FunC K "_law_meant" "_law_meant" s_law_meant f fd c) (G_law_puts : CalF P w K mg base tg tl 1 "_law_puts" ["deeds", "chains", "scope", "name"] (F_law_puts C CS)) : FnOk P w K mg base (L2.CX P w) 2 f fd ["deeds", "chains", "number", "name"] (spOf W 4 (F_law_meant C CS)) := by
  refine F.ok (k := 1) sc_law_meant fun A outer s H E hr => ?_
  exact (dss_cons (ds_for (passes_of rfl) rfl (di_val hW.k.symm (d_rev hW.k.symm (d_ix hW.k.symm (dv 1) (dv 2)) (d_neg d_int))) (gd 4 sc_law_meant.nd) (dss_cons (ds_setLc (i := 5) (own := [("k", 6)]) rfl sc_law_meant.nd rfl (by rfl) (by rfl) (di_val hW.k.symm (x_call G_law_puts hW hr (L2.passes_call (takes_of rfl rfl rfl rfl) fun _ _ _ _ h => h) (da_cons (dv 0) (da_cons (dv 1) (da_cons (dv 4) (da_cons (dv 3) da_nil)))))) (blkOk_by (by kernel_rfl)) (tg_name (by decide)) (fun _ _ _ _ _ => (gn 6 sc_law_meant.nd)) (fun _ _ _ _ _ => (dts_one (t_lt (dv 6) (dv 2)))) (fun _ _ _ _ _ => (dv 6)))
    (dss_one (ds_if (t_ne hr hW (dv 5) (d_lst da_nil)) (dss_one (ds_ret (d_ix hW.k.symm (dv 5) d_int)))
    dss_nil))))
    (dss_one (ds_ret d_non)))

abbrev s_law_own : Stmt := top 17
theorem sc_law_own : FnScope ["scopes", "deeds", "meant", "puts", "told", "names", "firsts", "due", "used", "put", "name", "many", "fresh", "one", "deed", "k"] ["scopes", "deeds", "meant", "puts"] (defScope s_law_own) := ⟨rfl, rfl, rfl, by decide +kernel, rfl, by decide +kernel, by decide +kernel⟩
def t_law_own (C CS : Addr) : TDS := (dSeq (dAsg (dMeth C "each_its_own" (F_each_its_own C CS) (dVar 0) dNil) (dgName 4))
    (dSeq (dAsg (dLc (diVal (dVar 3)) (dgName 9) dYes (dOp fIx (dOp fIx (dVar 4) (dVar 9)) (dC (.int 1))) [9]) (dgName 5))
    (dSeq (dAsg (dLc (diVal (dVar 3)) (dgName 9) (dCmpT fEq (dVar 9) (dOp fIx (dLc (diVal (dVar 3)) (dgName 13) (dCmpT fEq (dOp fIx (dVar 1) (dVar 13)) (dOp fIx (dVar 1) (dVar 9))) (dVar 13) [13]) (dC (.int 0)))) (dVar 9) [9]) (dgName 6))
    (dSeq (dIfS (dCmpT fLt (dCall fLen (dCons (dCall fDict (dCons (dLc (diVal (dVar 5)) (dgName 10) dYes (dTupS (dCons (dVar 10) (dCons (dC (.int 1)) dNil))) [10]) dNil)) dNil)) (dCall fLen (dCons (dVar 5) dNil))) (dRet (dC (.bl false)))
    dNext)
    (dSeq (dIfS (dCmpT fNe (dLc (diVal (dVar 6)) (dgName 9) (dCmpT fNe (dOp fIx (dVar 4) (dVar 9)) (dOp fIx (dVar 1) (dVar 9))) (dVar 9) [9]) (dLstS dNil)) (dRet (dC (.bl false)))
    dNext)
    (dSeq (dAsg (dTupS (dCons dNewK (dCons (dLc (diVal (dVar 1)) (dgName 14) (dCmpT fEq (dCall fLen (dCons (dVar 14) dNil)) (dC (.int 2))) (dOp fIx (dVar 14) (dC (.int 1))) [14]) dNil))) (dgTup 2 (dgCons (dgName 7) (dgCons (dgName 8) dgNil))))
    (dSeq (dFor (diVal (dVar 3)) (dgName 9) (dSeq (dPar 10 11 (dCons (dOp fIx (dOp fIx (dVar 1) (dVar 9)) (dC (.int 1))) (dCons (dC (.int 2)) dNil)))
    (dSeq (dAsg (dVar 10) (dgName 12))
    (dSeq (dWhile (dAndT (dCmpT (fInB true) (dVar 9) (dVar 6)) (dOrT (dCmpT (fInB false) (dVar 12) (dVar 8)) (dTest (dOp (fInVals false) (dVar 12) (dVar 7))))) (dPar 12 11 (dCons (dOp fAdd (dOp fAdd (dVar 10) (dC (.str "_"))) (dCall fStrI (dCons (dVar 11) dNil))) (dCons (dOp fAdd (dVar 11) (dC (.int 1))) dNil))))
    (dDPut (dVar 7) (dVar 9) (dVar 12))))))
    (dRet (dOp fEq (dCall fList (dCons (dVar 4) dNil)) (dLc (diEnum (dVar 1)) (dgTup 2 (dgCons (dgName 15) (dgCons (dgName 14) dgNil))) dYes (dIf (dTest (dOp (fDIn false) (dVar 15) (dVar 7))) (dTupS (dCons (dC (.str "put")) (dCons (dOp fDGet (dVar 7) (dVar 15)) dNil))) (dIf (dTest (dOp (fDIn false) (dVar 15) (dVar 2))) (dTupS (dCons (dC (.str "use")) (dCons (dOp fDGet (dVar 7) (dOp fDGet (dVar 2) (dVar 15))) dNil))) (dVar 14))) [15, 14]))))))))))
def F_law_own (C CS : Addr) : FD := fdOf 16 4 (t_law_own C CS)
theorem ok_law_own {W : Wd} (hW : WOk W K tg tl) {C CS f c : Addr} {fd : FuncData} (T : Tx K mg C CS) (F : FunC K "_law_own" "_law_own" s_law_own f fd c) (G_each_its_own : CalM P w K mg base tg tl C 1 "each_its_own" ["self"] (F_each_its_own C CS)) : FnOk P w K mg base (L2.CX P w) 2 f fd ["scopes", "deeds", "meant", "puts"] (spOf W 4 (F_law_own C CS)) := by
  refine F.ok (k := 1) sc_law_own fun A outer s H E hr => ?_
  exact (dss_cons (dset 4 sc_law_own.nd (x_meth0 (pl := _) G_each_its_own T hW hr (L2.passes_call (takes_of rfl rfl rfl rfl) fun _ _ _ _ h => h) (dv 0)))
    (dss_cons (ds_setLc (i := 5) (own := [("put", 9)]) rfl sc_law_own.nd rfl (by rfl) (by rfl) (di_val hW.k.symm (dv 3)) (blkOk_by (by kernel_rfl)) (tg_name (by decide)) (fun _ _ _ _ _ => (gn 9 sc_law_own.nd)) (fun _ _ _ _ _ => dts_nil) (fun _ _ _ _ _ => (d_ix hW.k.symm (d_ix hW.k.symm (dv 4) (dv 9)) d_int)))
    (dss_cons (ds_setLc (i := 6) (own := [("put", 9)]) rfl sc_law_own.nd rfl (by rfl) (by rfl) (di_val hW.k.symm (dv 3)) (blkOk_by (by kernel_rfl)) (tg_name (by decide)) (fun _ _ _ _ _ => (gn 9 sc_law_own.nd)) (fun _ _ _ _ _ => (dts_one (t_eq hr hW (dv 9) (d_ix hW.k.symm (d_lc (own := [("one", 13)]) rfl sc_law_own.nd (di_val hW.k.symm (dv 3)) (blkOk_by (by kernel_rfl)) (tg_name (by decide)) (fun _ _ _ _ _ => (gn 13 sc_law_own.nd)) (fun _ _ _ _ _ => (dts_one (t_eq hr hW (d_ix hW.k.symm (dv 1) (dv 13)) (d_ix hW.k.symm (dv 1) (dv 9))))) (fun _ _ _ _ _ => (dv 13))) d_int)))) (fun _ _ _ _ _ => (dv 9)))
    (dss_cons (ds_if (t_lt (x_len T hW (x_dict0 T hW rfl (d_lc (own := [("name", 10)]) rfl sc_law_own.nd (di_val hW.k.symm (dv 5)) (blkOk_by (by kernel_rfl)) (tg_name (by decide)) (fun _ _ _ _ _ => (gn 10 sc_law_own.nd)) (fun _ _ _ _ _ => dts_nil) (fun _ _ _ _ _ => (d_tup (da_cons (dv 10) (da_cons d_int da_nil))))))) (x_len T hW (dv 5))) (dss_one (ds_ret d_bl))
    dss_nil)
    (dss_cons (ds_if (t_ne hr hW (d_lc (own := [("put", 9)]) rfl sc_law_own.nd (di_val hW.k.symm (dv 6)) (blkOk_by (by kernel_rfl)) (tg_name (by decide)) (fun _ _ _ _ _ => (gn 9 sc_law_own.nd)) (fun _ _ _ _ _ => (dts_one (t_ne hr hW (d_ix hW.k.symm (dv 4) (dv 9)) (d_ix hW.k.symm (dv 1) (dv 9))))) (fun _ _ _ _ _ => (dv 9))) (d_lst da_nil)) (dss_one (ds_ret d_bl))
    dss_nil)
    (dss_cons (ds_asg (d_tup (da_cons d_dnew (da_cons (d_lc (own := [("deed", 14)]) rfl sc_law_own.nd (di_val hW.k.symm (dv 1)) (blkOk_by (by kernel_rfl)) (tg_name (by decide)) (fun _ _ _ _ _ => (gn 14 sc_law_own.nd)) (fun _ _ _ _ _ => (dts_one (t_eq hr hW (x_len T hW (dv 14)) d_int))) (fun _ _ _ _ _ => (d_ix hW.k.symm (dv 14) d_int))) da_nil))) (dg_tup hW.k.symm rfl (dgs_cons (gd 7 sc_law_own.nd) (dgs_cons (gd 8 sc_law_own.nd) dgs_nil))))
    (dss_cons (ds_for (passes_of rfl) rfl (di_val hW.k.symm (dv 3)) (gd 9 sc_law_own.nd) (dss_cons (ds_par (i := 10) (j := 11) rfl sc_law_own.nd rfl rfl (by decide) (by rfl) (by rfl) (da_cons (d_ix hW.k.symm (d_ix hW.k.symm (dv 1) (dv 9)) d_int) (da_cons d_int da_nil)) (by rfl))
    (dss_cons (dset 12 sc_law_own.nd (dv 10))
    (dss_cons (ds_while (passes_of rfl) (PW.pt (dw_and (t_nin hW (dv 9) (dv 6)) (dw_and1 (PW.pt (dw_or (t_in hW (dv 12) (dv 8)) (dw_or1 (t_vin rfl (dv 12) (dv 7)))))))) (dss_one (ds_par (i := 12) (j := 11) rfl sc_law_own.nd rfl rfl (by decide) (by rfl) (by rfl) (da_cons (d_add hW.k.symm (d_add hW.k.symm (dv 10) d_str) (x_str T hW (dv 11))) (da_cons (d_add hW.k.symm (dv 11) d_int) da_nil)) (by rfl))))
    (dss_one (ds_dput (u1 hr) (dv 7) (dv 9) (dv 12)))))))
    (dss_one (ds_ret (e_eq hr hW (x_list T hW (dv 4)) (d_lc (own := [("k", 15), ("deed", 14)]) rfl sc_law_own.nd (di_enum hW.k.symm (by rfl) (T.b _ (by decide)) (dv 1)) (blkOk_by (by kernel_rfl)) (tg_tup hW.k.symm (tgs_cons (tg_name (by decide)) (tgs_cons (tg_name (by decide)) tgs_nil))) (fun _ _ _ _ _ => (pg_tup rfl (pgs_cons (gn 15 sc_law_own.nd) (pgs_cons (gn 14 sc_law_own.nd) pgs_nil)))) (fun _ _ _ _ _ => dts_nil) (fun _ _ _ _ _ => (d_if (t_din hr (dv 15) (dv 7)) (d_tup (da_cons d_str (da_cons (d_dget (u1 hr) (dv 7) (dv 15) (by intro _ _; rfl)) da_nil))) (d_if (t_din hr (dv 15) (dv 2)) (d_tup (da_cons d_str (da_cons (d_dget (u1 hr) (dv 7) (d_dget (u1 hr) (dv 2) (dv 15) (by intro _ _; rfl)) (by intro _ _; rfl)) da_nil))) (dv 14)))))))))))))))

abbrev s_law_told_on : Stmt := top 19
theorem sc_law_told_on : FnScope ["dice", "scopes", "deeds", "chains", "meant", "puts", "order", "uses", "steps", "k", "deed", "scope", "mine", "number", "inside", "put", "fresh", "rows", "again", "good", "text"] ["dice", "scopes", "deeds", "chains", "meant", "puts", "order", "uses"] (defScope s_law_told_on) := ⟨rfl, rfl, rfl, by decide +kernel, rfl, by decide +kernel, by decide +kernel⟩
def t_law_told_on (C CS : Addr) : TDS := (dSeq (dAsg (dLstS dNil) (dgName 8))
    (dSeq (dFor (diEnum (dVar 2)) (dgTup 2 (dgCons (dgName 9) (dgCons (dgName 10) dgNil))) (dSeq (dAsg (dIf (dTest (dOp (fDIn false) (dVar 9) (dVar 4))) (dOp fIx (dOp fIx (dVar 3) (dOp fDGet (dVar 4) (dVar 9))) (dUn fNeg (dC (.int 1)))) (dC .non)) (dgName 11))
    (dSeq (dAsg (dLc (diVal (dVar 5)) (dgName 15) (dCmpT fEq (dOp fIx (dOp fIx (dVar 3) (dVar 15)) (dUn fNeg (dC (.int 1)))) (dVar 11)) (dVar 15) [15]) (dgName 12))
    (dAsg (dOp fAdd (dVar 8) (dLstS (dCons (dIf (dTest (dOp (fDIn false) (dVar 9) (dVar 4))) (dTupS (dCons (dC (.str "use")) (dCons (dOp fSub (dOp fSub (dCall fLen (dCons (dOp fIx (dVar 3) (dVar 9)) dNil)) (dC (.int 1))) (dIndexT (dOp fIx (dVar 3) (dVar 9)) (dVar 11))) (dCons (dIndex (dVar 12) (dOp fDGet (dVar 4) (dVar 9))) dNil)))) (dVar 10)) dNil))) (dgName 8)))))
    (dSeq (dIfS (dOrT (dCmpT fNe (dCall fList (dCons (dMeth C "by_steps_out" (F_by_steps_out C CS) (dVar 1) dNil) dNil)) (dVar 8)) (dNotT (dTest (dFn (F_law_own C CS) (dCons (dVar 1) (dCons (dVar 2) (dCons (dVar 4) (dCons (dVar 5) dNil)))))))) (dRet (dC (.bl false)))
    dNext)
    (dSeq (dFor (diEnum (dVar 6)) (dgTup 2 (dgCons (dgName 13) (dgCons (dgName 11) dgNil))) (dSeq (dLockS fun l2 => (dAsg (dLc (diItems l2 (dVar 4)) (dgTup 2 (dgCons (dgName 9) (dgCons (dgName 15) dgNil))) (dAndT (dCmpT (fInB false) (dVar 11) (dOp fIx (dVar 3) (dVar 9))) (dCmpT (fInB true) (dVar 11) (dOp fIx (dVar 3) (dVar 15)))) (dVar 9) [9, 15]) (dgName 14)))
    (dIfS (dCmpT fNe (dCall fList (dCons (dMeth C "taken_in" (F_taken_in C CS) (dVar 1) (dCons (dVar 13) dNil)) dNil)) (dCall fSortD (dCons (dPub (dCall fDict (dCons (dLc (diVal (dVar 14)) (dgName 9) dYes (dTupS (dCons (dOp fIx (dOp fIx (dVar 2) (dVar 9)) (dC (.int 1))) (dCons (dC (.int 1)) dNil))) [9]) dNil))) dNil))) (dRet (dC (.bl false)))
    dNext)))
    (dSeq (dFor (diVal (dVar 5)) (dgName 15) (dSeq (dAsg (dOp fIx (dLstS (dCons (dC (.str "a")) (dCons (dC (.str "b")) (dCons (dC (.str "c")) (dCons (dC (.str "z")) dNil))))) (dFn (F_law_roll C CS) (dCons (dVar 0) (dCons (dC (.int 4)) dNil)))) (dgName 16))
    (dSeq (dAsg (dLc (diEnum (dVar 2)) (dgTup 2 (dgCons (dgName 9) (dgCons (dgName 10) dgNil))) dYes (dIf (dOrT (dCmpT fEq (dVar 9) (dVar 15)) (dCmpT fEq (dGet1 (dVar 4) (dVar 9)) (dVar 15))) (dTupS (dCons (dOp fIx (dVar 10) (dC (.int 0))) (dCons (dVar 16) dNil))) (dVar 10)) [9, 10]) (dgName 17))
    (dSeq (dAsg (dFn (F_law_chains C CS) (dCons (dVar 17) dNil)) (dgName 18))
    (dSeq (dAsg (dAndV (dOp fNotN (dVar 18) (dC .non)) (dOp fEq (dLock fun l1 => (dLc (diKeys l1 (dVar 7)) (dgName 9) (dCmpT fNe (dFn (F_law_meant C CS) (dCons (dVar 17) (dCons (dVar 18) (dCons (dVar 9) (dCons (dOp fIx (dOp fIx (dVar 17) (dVar 9)) (dC (.int 1))) dNil))))) (dOp fDGet (dVar 7) (dVar 9))) (dVar 9) [9])) (dLstS dNil))) (dgName 19))
    (dIfS (dCmpT fNe (dMeth C "may_be_renamed" (F_may_be_renamed C CS) (dVar 1) (dCons (dVar 15) (dCons (dVar 16) dNil))) (dVar 19)) (dRet (dC (.bl false)))
    dNext))))))
    (dSeq (dAsg (dJoin (dC (.str " ")) (dLc (diVal (dVar 2)) (dgName 10) dYes (dOp fAdd (dOp fDGet (dDisp (((dC (.str "put")), (dC (.str "+"))) :: (((dC (.str "use")), (dC (.str ""))) :: (((dC (.str "in")), (dC (.str "{"))) :: (((dC (.str "out")), (dC (.str "}"))) :: []))))) (dOp fIx (dVar 10) (dC (.int 0)))) (dJoin (dC (.str "")) (dSl (dVar 10) (doSome (dC (.int 1))) doNone))) [10])) (dgName 20))
    (dSeq (dIfS (dAndT (dCmpT fNe (dVar 20) (dC (.str ""))) (dCmpT fNe (dCall fList (dCons (dFn (F_deeds_of C CS) (dCons (dVar 20) dNil)) dNil)) (dVar 2))) (dRet (dC (.bl false)))
    dNext)
    (dRet (dC (.bl true))))))))))
def F_law_told_on (C CS : Addr) : FD := fdOf 21 8 (t_law_told_on C CS)
theorem ok_law_told_on {W : Wd} (hW : WOk W K tg tl) {C CS f c : Addr} {fd : FuncData} (T : Tx K mg C CS) (F : FunC K "_law_told_on" "_law_told_on" s_law_told_on f fd c) (G_deeds_of : CalF P w K mg base tg tl 1 "deeds_of" ["text"] (F_deeds_of C CS)) (G_may_be_renamed : CalM P w K mg base tg tl C 10 "may_be_renamed" ["self", "number", "fresh"] (F_may_be_renamed C CS)) (G_law_meant : CalF P w K mg base tg tl 2 "_law_meant" ["deeds", "chains", "number", "name"] (F_law_meant C CS)) (G_law_chains : CalF P w K mg base tg tl 1 "_law_chains" ["deeds"] (F_law_chains C CS)) (G_law_roll : CalF P w K mg base tg tl 1 "_law_roll" ["dice", "many"] (F_law_roll C CS)) (G_taken_in : CalM P w K mg base tg tl C 2 "taken_in" ["self", "scope"] (F_taken_in C CS)) (G_law_own : CalF P w K mg base tg tl 2 "_law_own" ["scopes", "deeds", "meant", "puts"] (F_law_own C CS)) (G_by_steps_out : CalM P w K mg base tg tl C 2 "by_steps_out" ["self"] (F_by_steps_out C CS)) : FnOk P w K mg base (L2.CX P w) 11 f fd ["dice", "scopes", "deeds", "chains", "meant", "puts", "order", "uses"] (spOf W 8 (F_law_told_on C CS)) := by
  refine F.ok (k := 10) sc_law_told_on fun A outer s H E hr => ?_
  exact (dss_cons (dset 8 sc_law_told_on.nd (d_lst da_nil))
    (dss_cons (ds_for (passes_of rfl) rfl (di_enum hW.k.symm (by rfl) (T.b _ (by decide)) (dv 2)) (dg_tup hW.k.symm rfl (dgs_cons (gd 9 sc_law_told_on.nd) (dgs_cons (gd 10 sc_law_told_on.nd) dgs_nil))) (dss_cons (dset 11 sc_law_told_on.nd (d_if (t_din hr (dv 9) (dv 4)) (d_ix hW.k.symm (d_ix hW.k.symm (dv 3) (d_dget (u1 hr) (dv 4) (dv 9) (by intro _ _; rfl))) (d_neg d_int)) d_non))
    (dss_cons (ds_setLc (i := 12) (own := [("put", 15)]) rfl sc_law_told_on.nd rfl (by rfl) (by rfl) (di_val hW.k.symm (dv 5)) (blkOk_by (by kernel_rfl)) (tg_name (by decide)) (fun _ _ _ _ _ => (gn 15 sc_law_told_on.nd)) (fun _ _ _ _ _ => (dts_one (t_eq hr hW (d_ix hW.k.symm (d_ix hW.k.symm (dv 3) (dv 15)) (d_neg d_int)) (dv 11)))) (fun _ _ _ _ _ => (dv 15)))
    (dss_one (dset 8 sc_law_told_on.nd (d_add hW.k.symm (dv 8) (d_lst (da_cons (d_if (t_din hr (dv 9) (dv 4)) (d_tup (da_cons d_str (da_cons (d_sub (d_sub (x_len T hW (d_ix hW.k.symm (dv 3) (dv 9))) d_int) (d_indexT hW.k.symm (d_ix hW.k.symm (dv 3) (dv 9)) (dv 11) ⟨rfl, rfl, rfl, rfl⟩)) (da_cons (d_index hW.k.symm (dv 12) (d_dget (u1 hr) (dv 4) (dv 9) (by intro _ _; rfl))) da_nil)))) (dv 10)) da_nil))))))))
    (dss_cons (ds_if (PW.pt (dw_or (t_ne hr hW (x_list T hW (x_meth0 (pl := _) G_by_steps_out T hW hr (L2.passes_call (takes_of rfl rfl rfl rfl) fun _ _ _ _ h => h) (dv 1))) (dv 8)) (dw_or1 (dt_not (dt_val (x_call G_law_own hW hr (L2.passes_call (takes_of rfl rfl rfl rfl) fun _ _ _ _ h => h) (da_cons (dv 1) (da_cons (dv 2) (da_cons (dv 4) (da_cons (dv 5) da_nil)))))))))) (dss_one (ds_ret d_bl))
    dss_nil)
    (dss_cons (ds_for (passes_of rfl) rfl (di_enum hW.k.symm (by rfl) (T.b _ (by decide)) (dv 6)) (dg_tup hW.k.symm rfl (dgs_cons (gd 13 sc_law_told_on.nd) (dgs_cons (gd 11 sc_law_told_on.nd) dgs_nil))) (dss_cons (ds_lock fun l2 => (ds_setLc (i := 14) (own := [("k", 9), ("put", 15)]) rfl sc_law_told_on.nd rfl (by rfl) (by rfl) (di_items List.mem_cons_self (dv 4)) (blkOk_by (by kernel_rfl)) (tg_tup (hW.lk l2).k.symm (tgs_cons (tg_name (by decide)) (tgs_cons (tg_name (by decide)) tgs_nil))) (fun _ _ _ _ _ => (pg_tup rfl (pgs_cons (gn 9 sc_law_told_on.nd) (pgs_cons (gn 15 sc_law_told_on.nd) pgs_nil)))) (fun _ _ _ _ _ => (dts_one (PW.pt (dw_and (t_in (hW.lk l2) (dv 11) (d_ix (hW.lk l2).k.symm (dv 3) (dv 9))) (dw_and1 (t_nin (hW.lk l2) (dv 11) (d_ix (hW.lk l2).k.symm (dv 3) (dv 15)))))))) (fun _ _ _ _ _ => (dv 9))))
    (dss_one (ds_if (t_ne hr hW (x_list T hW (x_meth (pl := _) G_taken_in T hW hr (L2.passes_call (takes_of rfl rfl rfl rfl) fun _ _ _ _ h => h) (dv 1) (da_cons (dv 13) da_nil))) (x_sorted T hW rfl (x_dict T hW rfl (d_lc (own := [("k", 9)]) rfl sc_law_told_on.nd (di_val hW.k.symm (dv 14)) (blkOk_by (by kernel_rfl)) (tg_name (by decide)) (fun _ _ _ _ _ => (gn 9 sc_law_told_on.nd)) (fun _ _ _ _ _ => dts_nil) (fun _ _ _ _ _ => (d_tup (da_cons (d_ix hW.k.symm (d_ix hW.k.symm (dv 2) (dv 9)) d_int) (da_cons d_int da_nil)))))))) (dss_one (ds_ret d_bl))
    dss_nil))))
    (dss_cons (ds_for (passes_of rfl) rfl (di_val hW.k.symm (dv 5)) (gd 15 sc_law_told_on.nd) (dss_cons (dset 16 sc_law_told_on.nd (d_ix hW.k.symm (d_lst (da_cons d_str (da_cons d_str (da_cons d_str (da_cons d_str da_nil))))) (x_call G_law_roll hW hr (L2.passes_call (takes_of rfl rfl rfl rfl) fun _ _ _ _ h => h) (da_cons (dv 0) (da_cons d_int da_nil)))))
    (dss_cons (dset 17 sc_law_told_on.nd (d_lc (own := [("k", 9), ("deed", 10)]) rfl sc_law_told_on.nd (di_enum hW.k.symm (by rfl) (T.b _ (by decide)) (dv 2)) (blkOk_by (by kernel_rfl)) (tg_tup hW.k.symm (tgs_cons (tg_name (by decide)) (tgs_cons (tg_name (by decide)) tgs_nil))) (fun _ _ _ _ _ => (pg_tup rfl (pgs_cons (gn 9 sc_law_told_on.nd) (pgs_cons (gn 10 sc_law_told_on.nd) pgs_nil)))) (fun _ _ _ _ _ => dts_nil) (fun _ _ _ _ _ => (d_if (PW.pt (dw_or (t_eq hr hW (dv 9) (dv 15)) (dw_or1 (t_eq hr hW (d_dget1 (u1 hr) (dv 4) (dv 9) ⟨rfl, rfl, rfl, rfl⟩) (dv 15))))) (d_tup (da_cons (d_ix hW.k.symm (dv 10) d_int) (da_cons (dv 16) da_nil))) (dv 10)))))
    (dss_cons (dset 18 sc_law_told_on.nd (x_call G_law_chains hW hr (L2.passes_call (takes_of rfl rfl rfl rfl) fun _ _ _ _ h => h) (da_cons (dv 17) da_nil)))
    (dss_cons (dset 19 sc_law_told_on.nd (d_and (e_notN (dv 18) d_non) (d_one (e_eq hr hW (d_lock fun l1 => (d_lc (own := [("k", 9)]) rfl sc_law_told_on.nd (di_keys List.mem_cons_self (dv 7)) (blkOk_by (by kernel_rfl)) (tg_name (by decide)) (fun _ _ _ _ _ => (gn 9 sc_law_told_on.nd)) (fun _ _ _ _ _ => (dts_one (t_ne hr (hW.lk l1) (x_call G_law_meant (hW.lk l1) hr passN (da_cons (dv 17) (da_cons (dv 18) (da_cons (dv 9) (da_cons (d_ix (hW.lk l1).k.symm (d_ix (hW.lk l1).k.symm (dv 17) (dv 9)) d_int) da_nil))))) (d_dget (u1 hr) (dv 7) (dv 9) (by intro _ _; rfl))))) (fun _ _ _ _ _ => (dv 9)))) (d_lst da_nil)))))
    (dss_one (ds_if (t_ne hr hW (x_meth (pl := _) G_may_be_renamed T hW hr (L2.passes_call (takes_of rfl rfl rfl rfl) fun _ _ _ _ h => h) (dv 1) (da_cons (dv 15) (da_cons (dv 16) da_nil))) (dv 19)) (dss_one (ds_ret d_bl))
    dss_nil)))))))
    (dss_cons (dset 20 sc_law_told_on.nd (d_join hW.k.symm d_str (d_lc (own := [("deed", 10)]) rfl sc_law_told_on.nd (di_val hW.k.symm (dv 2)) (blkOk_by (by kernel_rfl)) (tg_name (by decide)) (fun _ _ _ _ _ => (gn 10 sc_law_told_on.nd)) (fun _ _ _ _ _ => dts_nil) (fun _ _ _ _ _ => (d_add hW.k.symm (d_dget (u1 hr) (d_disp (.cons d_str d_str (.cons d_str d_str (.cons d_str d_str (.cons d_str d_str .nil)))) rfl rfl (by simp) (by decide)) (d_ix hW.k.symm (dv 10) d_int) (by intro _ _; rfl)) (d_join hW.k.symm d_str (d_slice hW.k.symm (dv 10) (do_some d_int) do_none)))))))
    (dss_cons (ds_if (PW.pt (dw_and (t_ne hr hW (dv 20) d_str) (dw_and1 (t_ne hr hW (x_list T hW (x_call G_deeds_of hW hr (L2.passes_call (takes_of rfl rfl rfl rfl) fun _ _ _ _ h => h) (da_cons (dv 20) da_nil))) (dv 2))))) (dss_one (ds_ret d_bl))
    dss_nil)
    (dss_one (ds_ret d_bl)))))))))

end
end FL
/-! printed by gen.py -/
namespace FL
open PySem PySem.Spec PyProof.Rows L2
section
variable {P : Program} {w : World} {K : PySem.W.Frag} {mg : Str → Option Value} {base : Heap} {tg : List Addr} {tl : List (Addr × Str)}
abbrev s_law_plain : Stmt := top 18
theorem sc_law_plain : FnScope ["scopes", "bad", "f"] [] (defScope s_law_plain) := ⟨rfl, rfl, rfl, by decide +kernel, rfl, by decide +kernel, by decide +kernel⟩
def ts_law_plain (C CS : Addr) : List TD := [(dPub (dMake C (F_init C CS) (dCons (dTupS (dCons (dTupS (dCons (dC (.str "odd")) dNil)) dNil)) dNil))),
    (dPub (dMake C (F_init C CS) (dCons (dTupS (dCons (dTupS (dCons (dC (.str "put")) dNil)) dNil)) dNil))),
    (dPub (dMake C (F_init C CS) (dCons (dTupS (dCons (dTupS (dCons (dC (.str "put")) (dCons (dC (.str "")) dNil))) dNil)) dNil))),
    (dPub (dMake C (F_init C CS) (dCons (dTupS (dCons (dTupS (dCons (dC (.str "in")) (dCons (dC (.str "a")) dNil))) (dCons (dTupS (dCons (dC (.str "out")) dNil)) dNil))) dNil))),
    (dPub (dMake C (F_init C CS) (dCons (dTupS (dCons (dTupS (dCons (dC (.str "out")) dNil)) dNil)) dNil))),
    (dPub (dMake C (F_init C CS) (dCons (dTupS (dCons (dTupS (dCons (dC (.str "in")) dNil)) dNil)) dNil))),
    (dPub (dMake C (F_init C CS) (dCons (dTupS (dCons (dTupS (dCons (dC (.str "put")) (dCons (dC (.str "a")) dNil))) (dCons (dTupS (dCons (dC (.str "put")) (dCons (dC (.str "a")) dNil))) dNil))) dNil))),
    (dPub (dMake C (F_init C CS) (dCons (dOp fAdd (dOp fRepT (dTupS (dCons (dTupS (dCons (dC (.str "in")) dNil)) dNil)) (dC (.int 13))) (dOp fRepT (dTupS (dCons (dTupS (dCons (dC (.str "out")) dNil)) dNil)) (dC (.int 13)))) dNil))),
    (dMeth C "uses_of" (F_uses_of C CS) (dVar 0) (dCons (dC (.int 1)) dNil)),
    (dMeth C "scope_at" (F_scope_at C CS) (dVar 0) (dCons (dC (.int 9)) dNil)),
    (dMeth C "seen_at" (F_seen_at C CS) (dVar 0) (dCons (dUn fNeg (dC (.int 1))) dNil)),
    (dMeth C "taken_in" (F_taken_in C CS) (dVar 0) (dCons (dC (.int 2)) dNil)),
    (dMeth C "may_be_renamed" (F_may_be_renamed C CS) (dVar 0) (dCons (dC (.int 1)) (dCons (dC (.str "z")) dNil))),
    (dMeth C "may_be_renamed" (F_may_be_renamed C CS) (dVar 0) (dCons (dC (.int 0)) (dCons (dC (.str "")) dNil))),
    (dFn (F_deeds_of C CS) (dCons (dC (.str "a  b")) dNil)),
    (dFn (F_deeds_of C CS) (dCons (dC (.str "+")) dNil))]
def t_law_plain (C CS : Addr) : TDS := (dSeq (dAsg (dPub (dMake C (F_init C CS) (dCons (dFn (F_deeds_of C CS) (dCons (dC (.str "+a { a +a a b } a +b")) dNil)) dNil))) (dgName 0))
    (dSeq (dAsg (dLstS (dCons (dLam 0) (dCons (dLam 1) (dCons (dLam 2) (dCons (dLam 3) (dCons (dLam 4) (dCons (dLam 5) (dCons (dLam 6) (dCons (dLam 7) (dCons (dLam 8) (dCons (dLam 9) (dCons (dLam 10) (dCons (dLam 11) (dCons (dLam 12) (dCons (dLam 13) (dCons (dLam 14) (dCons (dLam 15) dNil))))))))))))))))) (dgName 1))
    (dSeq (dIfS (dOrT (dCmpT fNe (dBad (diVal (dVar 1)) (ts_law_plain C CS) CS "ScopeError" 2) (dLstS dNil)) (dOrT (dCmpT fNe (dTupS (dCons (dC (.int 12)) (dCons (dC (.tup [.str "put", .str "use", .str "in", .str "out"])) dNil))) (dTupS (dCons (dC (.int 12)) (dCons (dTupS (dCons (dC (.str "put")) (dCons (dC (.str "use")) (dCons (dC (.str "in")) (dCons (dC (.str "out")) dNil))))) dNil)))) (dCmpT fNeParts (dTupS (dCons (dFld C "meant" (dVar 0)) (dCons (dFld C "lost" (dVar 0)) (dCons (dMeth C "unused" (F_unused C CS) (dVar 0) dNil) dNil)))) (dTupS (dCons (dDisp (((dC (.int 2)), (dC (.int 0))) :: (((dC (.int 4)), (dC (.int 3))) :: (((dC (.int 7)), (dC (.int 0))) :: [])))) (dCons (dLstS (dCons (dC (.int 5)) dNil)) (dCons (dTupS (dCons (dC (.int 8)) dNil)) dNil))))))) (dRet (dC (.bl false)))
    dNext)
    (dSeq (dIfS (dNotT (dAndT (dCmpT fEq (dMeth C "shadowed" (F_shadowed C CS) (dVar 0) dNil) (dTupS (dCons (dTupS (dCons (dC (.int 0)) (dCons (dC (.int 3)) dNil))) dNil))) (dCmpT fEq (dMeth C "told_late" (F_told_late C CS) (dVar 0) dNil) (dTupS (dCons (dTupS (dCons (dC (.int 2)) (dCons (dC (.int 3)) dNil))) (dCons (dTupS (dCons (dC (.int 5)) (dCons (dC (.int 8)) dNil))) dNil)))))) (dRet (dC (.bl false)))
    dNext)
    (dRet (dAndV (dOp (fDctEq false) (dMeth C "seen_at" (F_seen_at C CS) (dVar 0) (dCons (dC (.int 4)) dNil)) (dDisp (((dC (.str "a")), (dC (.int 3))) :: []))) (dAndV (dOp fEq (dOp fIx (dMeth C "each_its_own" (F_each_its_own C CS) (dVar 0) dNil) (dC (.int 3))) (dTupS (dCons (dC (.str "put")) (dCons (dC (.str "a_2")) dNil)))) (dAndV (dOp fEq (dOp fIx (dMeth C "by_steps_out" (F_by_steps_out C CS) (dVar 0) dNil) (dC (.int 2))) (dTupS (dCons (dC (.str "use")) (dCons (dC (.int 1)) (dCons (dC (.int 0)) dNil))))) (dAndV (dOp fEq (dMeth C "taken_in" (F_taken_in C CS) (dVar 0) (dCons (dC (.int 1)) dNil)) (dTupS (dCons (dC (.str "a")) dNil))) (dAndV (dMeth C "may_be_renamed" (F_may_be_renamed C CS) (dVar 0) (dCons (dC (.int 3)) (dCons (dC (.str "c")) dNil))) (dAndV (dNotV (dMeth C "may_be_renamed" (F_may_be_renamed C CS) (dVar 0) (dCons (dC (.int 0)) (dCons (dC (.str "b")) dNil)))) (dAndV (dMeth C "is_within" (F_is_within C CS) (dVar 0) (dCons (dC (.int 1)) (dCons (dC (.int 0)) dNil))) (dAndV (dNotV (dMeth C "is_within" (F_is_within C CS) (dVar 0) (dCons (dC (.int 0)) (dCons (dC (.int 1)) dNil)))) (dAndV (dOp fEq (dMeth C "puts_of" (F_puts_of C CS) (dVar 0) (dCons (dC (.int 0)) (dCons (dC (.str "a")) dNil))) (dLstS (dCons (dC (.int 0)) dNil))) (dAndV (dOp (fDctEq false) (dFld C "owners" (dVar 0)) (dDisp (((dC (.int 0)), (dC (.int 0))) :: (((dC (.int 3)), (dC (.int 1))) :: (((dC (.int 8)), (dC (.int 0))) :: []))))) (dOp fEq (dMeth C "unused" (F_unused C CS) (dPub (dMake C (F_init C CS) (dCons (dTupS dNil) dNil))) dNil) (dTupS dNil)))))))))))))))))
def F_law_plain (C CS : Addr) : FD := fdOwn 3 (t_law_plain C CS)
theorem ok_law_plain {W : Wd} (hW : WOk W K tg tl) {C CS f c : Addr} {fd : FuncData} (T : Tx K mg C CS) (F : FunC K "_law_plain" "_law_plain" s_law_plain f fd c) (G_init : CalI P w K mg base tg tl C 8 ["self", "deeds"] (F_init C CS)) (G_uses_of : CalM P w K mg base tg tl C 7 "uses_of" ["self", "number"] (F_uses_of C CS)) (G_scope_at : CalM P w K mg base tg tl C 1 "scope_at" ["self", "number"] (F_scope_at C CS)) (G_seen_at : CalM P w K mg base tg tl C 2 "seen_at" ["self", "number"] (F_seen_at C CS)) (G_taken_in : CalM P w K mg base tg tl C 2 "taken_in" ["self", "scope"] (F_taken_in C CS)) (G_may_be_renamed : CalM P w K mg base tg tl C 10 "may_be_renamed" ["self", "number", "fresh"] (F_may_be_renamed C CS)) (G_deeds_of : CalF P w K mg base tg tl 1 "deeds_of" ["text"] (F_deeds_of C CS)) (G_unused : CalM P w K mg base tg tl C 14 "unused" ["self"] (F_unused C CS)) (G_puts_of : CalM P w K mg base tg tl C 1 "puts_of" ["self", "scope", "name"] (F_puts_of C CS)) (G_is_within : CalM P w K mg base tg tl C 1 "is_within" ["self", "scope", "other"] (F_is_within C CS)) (G_by_steps_out : CalM P w K mg base tg tl C 2 "by_steps_out" ["self"] (F_by_steps_out C CS)) (G_each_its_own : CalM P w K mg base tg tl C 1 "each_its_own" ["self"] (F_each_its_own C CS)) (G_told_late : CalM P w K mg base tg tl C 2 "told_late" ["self"] (F_told_late C CS)) (G_shadowed : CalM P w K mg base tg tl C 2 "shadowed" ["self"] (F_shadowed C CS)) {g cT Pt : Addr} {fdT : FuncData} (FT : FunC K "_law_told" "_law_told" s_law_told g fdT cT) (mT : mg "_law_told" = some (.ref g)) (TL : LamX.TabB base mg c Pt) (hmT0 : (Pt, ("_law_plain" : Str) ++ ".<locals>." ++ "<lambda>") ∈ tl) (hu0 : ∀ p ∈ tl, p.1 = Pt → p.2 = ("_law_plain" : Str) ++ ".<locals>." ++ "<lambda>") : FnOk P w K mg base (L2.CX P w) 17 f fd [] (spOf W 0 (F_law_plain C CS)) := by
  have hmT : (Pt, ("_law_plain" : Str) ++ ".<locals>." ++ "<lambda>") ∈ W.tl := by rw [hW.tl]; exact hmT0
  have hu : ∀ p ∈ W.tl, p.1 = Pt → p.2 = ("_law_plain" : Str) ++ ".<locals>." ++ "<lambda>" := by rw [hW.tl]; exact hu0
  refine F.okOwn (k := 16) sc_law_plain (lamsOf ((defBody s_law_plain).getD 1 (.Pass ⟨0, 0, 0, 0⟩))) fun A outer s H E hr => ?_
  have hW1 : ∀ X1 : Cx, WOk (ownW W X1 (lamsOf ((defBody s_law_plain).getD 1 (.Pass ⟨0, 0, 0, 0⟩)))) K tg tl := fun _ => ⟨hW.k, hW.tg, hW.tl⟩
  exact (dss_cons (dset 0 sc_law_plain.nd (x_make G_init T (hW1 _) hr (L2.passes_call (takes_of rfl rfl rfl rfl) fun _ _ _ _ h => h) (da_cons (x_call G_deeds_of (hW1 _) hr (L2.passes_call (takes_of rfl rfl rfl rfl) fun _ _ _ _ h => h) (da_cons d_str da_nil)) da_nil)))
    (dss_cons (dset 1 sc_law_plain.nd (d_lst (da_cons (d_lam (k := 0) rfl rfl TL rfl hmT hu (LamX.lamS_by (by kernel_rfl)) rfl) (da_cons (d_lam (k := 1) rfl rfl TL rfl hmT hu (LamX.lamS_by (by kernel_rfl)) rfl) (da_cons (d_lam (k := 2) rfl rfl TL rfl hmT hu (LamX.lamS_by (by kernel_rfl)) rfl) (da_cons (d_lam (k := 3) rfl rfl TL rfl hmT hu (LamX.lamS_by (by kernel_rfl)) rfl) (da_cons (d_lam (k := 4) rfl rfl TL rfl hmT hu (LamX.lamS_by (by kernel_rfl)) rfl) (da_cons (d_lam (k := 5) rfl rfl TL rfl hmT hu (LamX.lamS_by (by kernel_rfl)) rfl) (da_cons (d_lam (k := 6) rfl rfl TL rfl hmT hu (LamX.lamS_by (by kernel_rfl)) rfl) (da_cons (d_lam (k := 7) rfl rfl TL rfl hmT hu (LamX.lamS_by (by kernel_rfl)) rfl) (da_cons (d_lam (k := 8) rfl rfl TL rfl hmT hu (LamX.lamS_by (by kernel_rfl)) rfl) (da_cons (d_lam (k := 9) rfl rfl TL rfl hmT hu (LamX.lamS_by (by kernel_rfl)) rfl) (da_cons (d_lam (k := 10) rfl rfl TL rfl hmT hu (LamX.lamS_by (by kernel_rfl)) rfl) (da_cons (d_lam (k := 11) rfl rfl TL rfl hmT hu (LamX.lamS_by (by kernel_rfl)) rfl) (da_cons (d_lam (k := 12) rfl rfl TL rfl hmT hu (LamX.lamS_by (by kernel_rfl)) rfl) (da_cons (d_lam (k := 13) rfl rfl TL rfl hmT hu (LamX.lamS_by (by kernel_rfl)) rfl) (da_cons (d_lam (k := 14) rfl rfl TL rfl hmT hu (LamX.lamS_by (by kernel_rfl)) rfl) (da_cons (d_lam (k := 15) rfl rfl TL rfl hmT hu (LamX.lamS_by (by kernel_rfl)) rfl) da_nil))))))))))))))))))
    (dss_cons (ds_if (PW.pt (dw_or (t_ne hr (hW1 _) (d_bad (k := 14) (i := 2) (own := [("f", 2)]) rfl rfl sc_law_plain.nd (di_val (hW1 _).k.symm (dv 1)) (blkOk_by (by kernel_rfl)) (by decide) (fun _ _ _ _ _ => gn 2 sc_law_plain.nd) (fun _ _ _ _ _ => by rfl) mT (told_ok FT T) T.exm (.cons (LamX.lamS_by (by kernel_rfl)) bind0 (fun A' o' s' H' E' f' c' hr2 => (x_make G_init T (hW1 _) hr2 (L2.passes_call (takes_of rfl rfl rfl rfl) fun _ _ _ _ h => h) (da_cons (d_tup (da_cons (d_tup (da_cons d_str da_nil)) da_nil)) da_nil)))
      (.cons (LamX.lamS_by (by kernel_rfl)) bind0 (fun A' o' s' H' E' f' c' hr2 => (x_make G_init T (hW1 _) hr2 (L2.passes_call (takes_of rfl rfl rfl rfl) fun _ _ _ _ h => h) (da_cons (d_tup (da_cons (d_tup (da_cons d_str da_nil)) da_nil)) da_nil)))
      (.cons (LamX.lamS_by (by kernel_rfl)) bind0 (fun A' o' s' H' E' f' c' hr2 => (x_make G_init T (hW1 _) hr2 (L2.passes_call (takes_of rfl rfl rfl rfl) fun _ _ _ _ h => h) (da_cons (d_tup (da_cons (d_tup (da_cons d_str (da_cons d_str da_nil))) da_nil)) da_nil)))
      (.cons (LamX.lamS_by (by kernel_rfl)) bind0 (fun A' o' s' H' E' f' c' hr2 => (x_make G_init T (hW1 _) hr2 (L2.passes_call (takes_of rfl rfl rfl rfl) fun _ _ _ _ h => h) (da_cons (d_tup (da_cons (d_tup (da_cons d_str (da_cons d_str da_nil))) (da_cons (d_tup (da_cons d_str da_nil)) da_nil))) da_nil)))
      (.cons (LamX.lamS_by (by kernel_rfl)) bind0 (fun A' o' s' H' E' f' c' hr2 => (x_make G_init T (hW1 _) hr2 (L2.passes_call (takes_of rfl rfl rfl rfl) fun _ _ _ _ h => h) (da_cons (d_tup (da_cons (d_tup (da_cons d_str da_nil)) da_nil)) da_nil)))
      (.cons (LamX.lamS_by (by kernel_rfl)) bind0 (fun A' o' s' H' E' f' c' hr2 => (x_make G_init T (hW1 _) hr2 (L2.passes_call (takes_of rfl rfl rfl rfl) fun _ _ _ _ h => h) (da_cons (d_tup (da_cons (d_tup (da_cons d_str da_nil)) da_nil)) da_nil)))
      (.cons (LamX.lamS_by (by kernel_rfl)) bind0 (fun A' o' s' H' E' f' c' hr2 => (x_make G_init T (hW1 _) hr2 (L2.passes_call (takes_of rfl rfl rfl rfl) fun _ _ _ _ h => h) (da_cons (d_tup (da_cons (d_tup (da_cons d_str (da_cons d_str da_nil))) (da_cons (d_tup (da_cons d_str (da_cons d_str da_nil))) da_nil))) da_nil)))
      (.cons (LamX.lamS_by (by kernel_rfl)) bind0 (fun A' o' s' H' E' f' c' hr2 => (x_make G_init T (hW1 _) hr2 (L2.passes_call (takes_of rfl rfl rfl rfl) fun _ _ _ _ h => h) (da_cons (d_add (hW1 _).k.symm (d_op op_repT (rl_repT (hW1 _).k.symm) (d_tup (da_cons (d_tup (da_cons d_str da_nil)) da_nil)) d_int) (d_op op_repT (rl_repT (hW1 _).k.symm) (d_tup (da_cons (d_tup (da_cons d_str da_nil)) da_nil)) d_int)) da_nil)))
      (.cons (LamX.lamS_by (by kernel_rfl)) bind0 (fun A' o' s' H' E' f' c' hr2 => (x_meth (pl := _) G_uses_of T (hW1 _) hr2 (L2.passes_call (takes_of rfl rfl rfl rfl) fun _ _ _ _ h => h) (dv 0) (da_cons d_int da_nil)))
      (.cons (LamX.lamS_by (by kernel_rfl)) bind0 (fun A' o' s' H' E' f' c' hr2 => (x_meth (pl := _) G_scope_at T (hW1 _) hr2 (L2.passes_call (takes_of rfl rfl rfl rfl) fun _ _ _ _ h => h) (dv 0) (da_cons d_int da_nil)))
      (.cons (LamX.lamS_by (by kernel_rfl)) bind0 (fun A' o' s' H' E' f' c' hr2 => (x_meth (pl := _) G_seen_at T (hW1 _) hr2 (L2.passes_call (takes_of rfl rfl rfl rfl) fun _ _ _ _ h => h) (dv 0) (da_cons (d_neg d_int) da_nil)))
      (.cons (LamX.lamS_by (by kernel_rfl)) bind0 (fun A' o' s' H' E' f' c' hr2 => (x_meth (pl := _) G_taken_in T (hW1 _) hr2 (L2.passes_call (takes_of rfl rfl rfl rfl) fun _ _ _ _ h => h) (dv 0) (da_cons d_int da_nil)))
      (.cons (LamX.lamS_by (by kernel_rfl)) bind0 (fun A' o' s' H' E' f' c' hr2 => (x_meth (pl := _) G_may_be_renamed T (hW1 _) hr2 (L2.passes_call (takes_of rfl rfl rfl rfl) fun _ _ _ _ h => h) (dv 0) (da_cons d_int (da_cons d_str da_nil))))
      (.cons (LamX.lamS_by (by kernel_rfl)) bind0 (fun A' o' s' H' E' f' c' hr2 => (x_meth (pl := _) G_may_be_renamed T (hW1 _) hr2 (L2.passes_call (takes_of rfl rfl rfl rfl) fun _ _ _ _ h => h) (dv 0) (da_cons d_int (da_cons d_str da_nil))))
      (.cons (LamX.lamS_by (by kernel_rfl)) bind0 (fun A' o' s' H' E' f' c' hr2 => (x_call G_deeds_of (hW1 _) hr2 (L2.passes_call (takes_of rfl rfl rfl rfl) fun _ _ _ _ h => h) (da_cons d_str da_nil)))
      (.cons (LamX.lamS_by (by kernel_rfl)) bind0 (fun A' o' s' H' E' f' c' hr2 => (x_call G_deeds_of (hW1 _) hr2 (L2.passes_call (takes_of rfl rfl rfl rfl) fun _ _ _ _ h => h) (da_cons d_str da_nil)))
      .nil)))))))))))))))) (hr.mono (by decide)) rfl (fun _ _ => .inl rfl) (fun _ _ _ _ _ => pe_int)) (d_lst da_nil)) (dw_or (t_ne hr (hW1 _) (d_tup (da_cons (x_deep T) (da_cons (x_kinds T (hW1 _)) da_nil))) (d_tup (da_cons d_int (da_cons (d_tup (da_cons d_str (da_cons d_str (da_cons d_str (da_cons d_str da_nil))))) da_nil)))) (dw_or1 (dt_cmp (op_ne_parts (u70 hr)) (rl_neParts (hW1 _).k.symm) (d_tup (da_cons (x_fld T (dv 0)) (da_cons (x_fld T (dv 0)) (da_cons (x_meth0 (pl := _) G_unused T (hW1 _) hr (L2.passes_call (takes_of rfl rfl rfl rfl) fun _ _ _ _ h => h) (dv 0)) da_nil)))) (d_tup (da_cons (d_disp (.cons d_int d_int (.cons d_int d_int (.cons d_int d_int .nil))) rfl rfl (by simp) (by decide)) (da_cons (d_lst (da_cons d_int da_nil)) (da_cons (d_tup (da_cons d_int da_nil)) da_nil))))))))) (dss_one (ds_ret d_bl))
    dss_nil)
    (dss_cons (ds_if (dt_not (PW.pt (dw_and (t_eq hr (hW1 _) (x_meth0 (pl := _) G_shadowed T (hW1 _) hr (L2.passes_call (takes_of rfl rfl rfl rfl) fun _ _ _ _ h => h) (dv 0)) (d_tup (da_cons (d_tup (da_cons d_int (da_cons d_int da_nil))) da_nil))) (dw_and1 (t_eq hr (hW1 _) (x_meth0 (pl := _) G_told_late T (hW1 _) hr (L2.passes_call (takes_of rfl rfl rfl rfl) fun _ _ _ _ h => h) (dv 0)) (d_tup (da_cons (d_tup (da_cons d_int (da_cons d_int da_nil))) (da_cons (d_tup (da_cons d_int (da_cons d_int da_nil))) da_nil)))))))) (dss_one (ds_ret d_bl))
    dss_nil)
    (dss_one (ds_ret (d_and (e_deq hr (x_meth (pl := _) G_seen_at T (hW1 _) hr (L2.passes_call (takes_of rfl rfl rfl rfl) fun _ _ _ _ h => h) (dv 0) (da_cons d_int da_nil)) (d_disp (.cons d_str d_int .nil) rfl rfl (by simp) (by decide))) (d_and (e_eq hr (hW1 _) (d_ix (hW1 _).k.symm (x_meth0 (pl := _) G_each_its_own T (hW1 _) hr (L2.passes_call (takes_of rfl rfl rfl rfl) fun _ _ _ _ h => h) (dv 0)) d_int) (d_tup (da_cons d_str (da_cons d_str da_nil)))) (d_and (e_eq hr (hW1 _) (d_ix (hW1 _).k.symm (x_meth0 (pl := _) G_by_steps_out T (hW1 _) hr (L2.passes_call (takes_of rfl rfl rfl rfl) fun _ _ _ _ h => h) (dv 0)) d_int) (d_tup (da_cons d_str (da_cons d_int (da_cons d_int da_nil))))) (d_and (e_eq hr (hW1 _) (x_meth (pl := _) G_taken_in T (hW1 _) hr (L2.passes_call (takes_of rfl rfl rfl rfl) fun _ _ _ _ h => h) (dv 0) (da_cons d_int da_nil)) (d_tup (da_cons d_str da_nil))) (d_and (x_meth (pl := _) G_may_be_renamed T (hW1 _) hr (L2.passes_call (takes_of rfl rfl rfl rfl) fun _ _ _ _ h => h) (dv 0) (da_cons d_int (da_cons d_str da_nil))) (d_and (d_not (x_meth (pl := _) G_may_be_renamed T (hW1 _) hr (L2.passes_call (takes_of rfl rfl rfl rfl) fun _ _ _ _ h => h) (dv 0) (da_cons d_int (da_cons d_str da_nil)))) (d_and (x_meth (pl := _) G_is_within T (hW1 _) hr (L2.passes_call (takes_of rfl rfl rfl rfl) fun _ _ _ _ h => h) (dv 0) (da_cons d_int (da_cons d_int da_nil))) (d_and (d_not (x_meth (pl := _) G_is_within T (hW1 _) hr (L2.passes_call (takes_of rfl rfl rfl rfl) fun _ _ _ _ h => h) (dv 0) (da_cons d_int (da_cons d_int da_nil)))) (d_and (e_eq hr (hW1 _) (x_meth (pl := _) G_puts_of T (hW1 _) hr (L2.passes_call (takes_of rfl rfl rfl rfl) fun _ _ _ _ h => h) (dv 0) (da_cons d_int (da_cons d_str da_nil))) (d_lst (da_cons d_int da_nil))) (d_and (e_deq hr (x_fld T (dv 0)) (d_disp (.cons d_int d_int (.cons d_int d_int (.cons d_int d_int .nil))) rfl rfl (by simp) (by decide))) (d_one (e_eq hr (hW1 _) (x_meth0 (pl := _) G_unused T (hW1 _) hr (L2.passes_call (takes_of rfl rfl rfl rfl) fun _ _ _ _ h => h) (x_make G_init T (hW1 _) hr (L2.passes_call (takes_of rfl rfl rfl rfl) fun _ _ _ _ h => h) (da_cons (d_tup da_nil) da_nil))) (d_tup da_nil)))))))))))))))))))

abbrev s_law : Stmt := top 20
theorem sc_law : FnScope ["script", "dice", "deeds", "chains", "scopes", "uses", "meant", "puts", "hides", "late", "put", "around", "ahead", "k", "outer", "able", "scope", "order", "seen", "deed", "one", "row", "chain", "name"] ["script"] (defScope s_law) := ⟨rfl, rfl, rfl, by decide +kernel, rfl, by decide +kernel, by decide +kernel⟩
def t_law (C CS : Addr) (ns : List Int) : TDS := (dSeq (dFor (diVal (dFn (F_law_rounds C CS ns) (dCons (dVar 0) (dCons (dC (.int 1)) dNil)))) (dgName 1) (dSeq (dAsg (dFn (F_law_drawn C CS) (dCons (dVar 1) dNil)) (dgName 2))
    (dSeq (dAsg (dTupS (dCons (dFn (F_law_chains C CS) (dCons (dVar 2) dNil)) (dCons (dTold CS "ScopeError" (dPub (dMake C (F_init C CS) (dCons (dVar 2) dNil)))) dNil))) (dgTup 2 (dgCons (dgName 3) (dgCons (dgName 4) dgNil))))
    (dSeq (dIfS (dCmpT fNe (dOp (fEqI C) (dVar 4) (dC (.str "ScopeError"))) (dOp fIsN (dVar 3) (dC .non))) (dRet (dC (.bl false)))
    dNext)
    (dSeq (dIfS (dCmpT fIsN (dVar 3) (dC .non)) (dSeq (dAsg (dLstS (dCons (dTupS (dCons (dC (.str "put")) (dCons (dC (.str "a")) dNil))) (dCons (dTupS (dCons (dC (.str "in")) dNil)) (dCons (dTupS (dCons (dC (.str "use")) (dCons (dC (.str "a")) dNil))) (dCons (dTupS (dCons (dC (.str "put")) (dCons (dC (.str "a")) dNil))) (dCons (dTupS (dCons (dC (.str "use")) (dCons (dC (.str "b")) dNil))) (dCons (dTupS (dCons (dC (.str "out")) dNil)) (dCons (dTupS (dCons (dC (.str "put")) (dCons (dC (.str "b")) dNil))) dNil)))))))) (dgName 2))
    (dAsg (dTupS (dCons (dFn (F_law_chains C CS) (dCons (dVar 2) dNil)) (dCons (dPub (dMake C (F_init C CS) (dCons (dVar 2) dNil))) dNil))) (dgTup 2 (dgCons (dgName 3) (dgCons (dgName 4) dgNil)))))
    dNext)
    (dSeq (dAsg (dPub (dCall fDict (dCons (dLc (diEnum (dVar 2)) (dgTup 2 (dgCons (dgName 13) (dgCons (dgName 19) dgNil))) (dCmpT fEq (dOp fIx (dVar 19) (dC (.int 0))) (dC (.str "use"))) (dTupS (dCons (dVar 13) (dCons (dFn (F_law_meant C CS) (dCons (dVar 2) (dCons (dVar 3) (dCons (dVar 13) (dCons (dOp fIx (dVar 19) (dC (.int 1))) dNil))))) dNil))) [13, 19]) dNil))) (dgName 5))
    (dSeq (dAsg (dPub (dCall fDict (dCons (dLock fun l4 => (dLc (diItems l4 (dVar 5)) (dgTup 2 (dgCons (dgName 13) (dgCons (dgName 10) dgNil))) (dCmpT fNotN (dVar 10) (dC .non)) (dTupS (dCons (dVar 13) (dCons (dVar 10) dNil))) [13, 10])) dNil))) (dgName 6))
    (dSeq (dIfS (dOrT (dCmpT (fDctEq true) (dFld C "meant" (dVar 4)) (dVar 6)) (dCmpT fNe (dFld C "lost" (dVar 4)) (dLock fun l3 => (dLc (diItems l3 (dVar 5)) (dgTup 2 (dgCons (dgName 13) (dgCons (dgName 10) dgNil))) (dCmpT fIsN (dVar 10) (dC .non)) (dVar 13) [13, 10])))) (dRet (dC (.bl false)))
    dNext)
    (dSeq (dAsg (dLc (diEnum (dVar 2)) (dgTup 2 (dgCons (dgName 13) (dgCons (dgName 19) dgNil))) (dCmpT fEq (dOp fIx (dVar 19) (dC (.int 0))) (dC (.str "put"))) (dVar 13) [13, 19]) (dgName 7))
    (dSeq (dIfS (dOrT (dCmpT fNe (dLc (diVal (dVar 7)) (dgName 10) dYes (dCall fList (dCons (dMeth C "uses_of" (F_uses_of C CS) (dVar 4) (dCons (dVar 10) dNil)) dNil)) [10]) (dLc (diVal (dVar 7)) (dgName 10) dYes (dLock fun l2 => (dLc (diItems l2 (dVar 6)) (dgTup 2 (dgCons (dgName 13) (dgCons (dgName 20) dgNil))) (dCmpT fEq (dVar 20) (dVar 10)) (dVar 13) [13, 20])) [10])) (dCmpT fNe (dCall fList (dCons (dMeth C "unused" (F_unused C CS) (dVar 4) dNil) dNil)) (dLc (diVal (dVar 7)) (dgName 10) (dTest (dOp (fInVals true) (dVar 10) (dVar 6))) (dVar 10) [10]))) (dRet (dC (.bl false)))
    dNext)
    (dSeq (dPar 8 9 (dCons (dLstS dNil) (dCons (dLstS dNil) dNil)))
    (dSeq (dFor (diVal (dVar 7)) (dgName 10) (dSeq (dAsg (dLc (diVal (dSlF (dOp fIx (dVar 3) (dVar 10)) doNone (doSome (dUn fNeg (dC (.int 1)))))) (dgName 16) dYes (dFn (F_law_puts C CS) (dCons (dVar 2) (dCons (dVar 3) (dCons (dVar 16) (dCons (dOp fIx (dOp fIx (dVar 2) (dVar 10)) (dC (.int 1))) dNil))))) [16]) (dgName 11))
    (dSeq (dAsg (dLc (diVal (dVar 11)) (dgName 21) (dAndT (dCmpT fNe (dVar 21) (dLstS dNil)) (dCmpT fLt (dOp fIx (dVar 21) (dC (.int 0))) (dVar 10))) (dOp fIx (dVar 21) (dC (.int 0))) [21]) (dgName 12))
    (dAsg (dOp fAdd (dVar 8) (dIf (dCmpT fNe (dVar 12) (dLstS dNil)) (dLstS (dCons (dTupS (dCons (dOp fIx (dVar 12) (dUn fNeg (dC (.int 1)))) (dCons (dVar 10) dNil))) dNil)) (dLstS dNil))) (dgName 8)))))
    (dSeq (dLockS fun l1 => (dFor (diItems l1 (dVar 5)) (dgTup 2 (dgCons (dgName 13) (dgCons (dgName 10) dgNil))) (dSeq (dAsg (dIf (dCmpT fNotN (dVar 10) (dC .non)) (dOp fIx (dOp fIx (dVar 3) (dVar 10)) (dUn fNeg (dC (.int 1)))) (dC .non)) (dgName 14))
    (dSeq (dAsg (dLstS dNil) (dgName 15))
    (dSeq (dFor (diVal (dRev (dOp fIx (dVar 3) (dVar 13)) (dUn fNeg (dC (.int 1))))) (dgName 16) (dSeq (dIfS (dCmpT fEq (dVar 16) (dVar 14)) dBreak
    dNext)
    (dAsg (dOp fAdd (dVar 15) (dLc (diVal (dFn (F_law_puts C CS) (dCons (dVar 2) (dCons (dVar 3) (dCons (dVar 16) (dCons (dOp fIx (dOp fIx (dVar 2) (dVar 13)) (dC (.int 1))) dNil)))))) (dgName 20) (dCmpT fGt (dVar 20) (dVar 13)) (dVar 20) [20])) (dgName 15))))
    (dAsg (dOp fAdd (dVar 9) (dIf (dCmpT fNe (dVar 15) (dLstS dNil)) (dLstS (dCons (dTupS (dCons (dVar 13) (dCons (dOp fIx (dVar 15) (dC (.int 0))) dNil))) dNil)) (dLstS dNil))) (dgName 9)))))))
    (dSeq (dIfS (dOrT (dCmpT fNe (dCall fList (dCons (dMeth C "shadowed" (F_shadowed C CS) (dVar 4) dNil) dNil)) (dVar 8)) (dCmpT fNe (dCall fList (dCons (dMeth C "told_late" (F_told_late C CS) (dVar 4) dNil) dNil)) (dVar 9))) (dRet (dC (.bl false)))
    dNext)
    (dSeq (dAsg (dOp fAdd (dLstS (dCons (dUn fNeg (dC (.int 1))) dNil)) (dLc (diEnum (dVar 2)) (dgTup 2 (dgCons (dgName 13) (dgCons (dgName 19) dgNil))) (dCmpT fEq (dOp fIx (dVar 19) (dC (.int 0))) (dC (.str "in"))) (dVar 13) [13, 19])) (dgName 17))
    (dSeq (dIfS (dCmpT fNe (dLc (diRng1 (dCall fLen (dCons (dVar 2) dNil))) (dgName 13) dYes (dMeth C "scope_at" (F_scope_at C CS) (dVar 4) (dCons (dVar 13) dNil)) [13]) (dLc (diVal (dVar 3)) (dgName 22) dYes (dIndex (dVar 17) (dOp fIx (dVar 22) (dUn fNeg (dC (.int 1))))) [22])) (dRet (dC (.bl false)))
    dNext)
    (dSeq (dFor (diRng1 (dCall fLen (dCons (dVar 2) dNil))) (dgName 13) (dSeq (dAsg (dLc (diVal (dLstS (dCons (dC (.str "a")) (dCons (dC (.str "b")) (dCons (dC (.str "c")) dNil))))) (dgName 23) dYes (dTupS (dCons (dVar 23) (dCons (dFn (F_law_meant C CS) (dCons (dVar 2) (dCons (dVar 3) (dCons (dVar 13) (dCons (dVar 23) dNil))))) dNil))) [23]) (dgName 18))
    (dIfS (dCmpT fNe (dUn fItemsL (dMeth C "seen_at" (F_seen_at C CS) (dVar 4) (dCons (dVar 13) dNil))) (dLc (diVal (dVar 18)) (dgTup 2 (dgCons (dgName 23) (dgCons (dgName 10) dgNil))) (dCmpT fNotN (dVar 10) (dC .non)) (dTupS (dCons (dVar 23) (dCons (dVar 10) dNil))) [23, 10])) (dRet (dC (.bl false)))
    dNext)))
    (dIfS (dNotT (dTest (dFn (F_law_told_on C CS) (dCons (dVar 1) (dCons (dVar 4) (dCons (dVar 2) (dCons (dVar 3) (dCons (dVar 6) (dCons (dVar 7) (dCons (dVar 17) (dCons (dVar 5) dNil))))))))))) (dRet (dC (.bl false)))
    dNext))))))))))))))))))
    (dRet (dFn (F_law_plain C CS) dNil)))
def F_law (C CS : Addr) (ns : List Int) : FD := fdOf 24 1 (t_law C CS ns)
theorem ok_law {W : Wd} (hW : WOk W K tg tl) {C CS f c : Addr} {fd : FuncData} (T : Tx K mg C CS) (F : FunC K "law" "law" s_law f fd c) {ns : List Int} (G_law_plain : CalF P w K mg base tg tl 17 "_law_plain" [] (F_law_plain C CS)) (G_law_rounds : ∃ (f : Addr) (fd : FuncData), FnOk P w K mg base (L2.CX P w) 2 f fd ["script", "most"] (spOf W 2 (F_law_rounds C CS ns)) ∧ mg "_law_rounds" = some (.ref f) ∧ PySem.W.keepIn K (.ref f) = true ∧ L2.Binds K fd ["script", "most"] []) (G_law_told_on : CalF P w K mg base tg tl 11 "_law_told_on" ["dice", "scopes", "deeds", "chains", "meant", "puts", "order", "uses"] (F_law_told_on C CS)) (G_seen_at : CalM P w K mg base tg tl C 2 "seen_at" ["self", "number"] (F_seen_at C CS)) (G_law_meant : CalF P w K mg base tg tl 2 "_law_meant" ["deeds", "chains", "number", "name"] (F_law_meant C CS)) (G_scope_at : CalM P w K mg base tg tl C 1 "scope_at" ["self", "number"] (F_scope_at C CS)) (G_told_late : CalM P w K mg base tg tl C 2 "told_late" ["self"] (F_told_late C CS)) (G_shadowed : CalM P w K mg base tg tl C 2 "shadowed" ["self"] (F_shadowed C CS)) (G_law_puts : CalF P w K mg base tg tl 1 "_law_puts" ["deeds", "chains", "scope", "name"] (F_law_puts C CS)) (G_unused : CalM P w K mg base tg tl C 14 "unused" ["self"] (F_unused C CS)) (G_uses_of : CalM P w K mg base tg tl C 7 "uses_of" ["self", "number"] (F_uses_of C CS)) (G_init : CalI P w K mg base tg tl C 8 ["self", "deeds"] (F_init C CS)) (G_law_chains : CalF P w K mg base tg tl 1 "_law_chains" ["deeds"] (F_law_chains C CS)) (G_law_drawn : CalF P w K mg base tg tl 2 "_law_drawn" ["dice"] (F_law_drawn C CS)) {g cT Pt : Addr} {fdT : FuncData} (FT : FunC K "_law_told" "_law_told" s_law_told g fdT cT) (mT : mg "_law_told" = some (.ref g)) (TL : LamX.TabB base mg c Pt) (hmT0 : (Pt, ("law" : Str) ++ ".<locals>." ++ "<lambda>") ∈ tl) (hu0 : ∀ p ∈ tl, p.1 = Pt → p.2 = ("law" : Str) ++ ".<locals>." ++ "<lambda>") : FnOk P w K mg base (L2.CX P w) 20 f fd ["script"] (spOf W 1 (F_law C CS ns)) := by
  have hmT : (Pt, ("law" : Str) ++ ".<locals>." ++ "<lambda>") ∈ W.tl := by rw [hW.tl]; exact hmT0
  have hu : ∀ p ∈ W.tl, p.1 = Pt → p.2 = ("law" : Str) ++ ".<locals>." ++ "<lambda>" := by rw [hW.tl]; exact hu0
  refine F.ok (k := 19) sc_law fun A outer s H E hr => ?_
  exact (dss_cons (ds_for (passes_of rfl) rfl (di_val hW.k.symm (x_callW (ps := ["script", "most"]) G_law_rounds fd_len hr (L2.passes_call (takes_of rfl rfl rfl rfl) fun _ _ _ _ h => h) (da_cons (dv 0) (da_cons d_int da_nil)))) (gd 1 sc_law.nd) (dss_cons (dset 2 sc_law.nd (x_call G_law_drawn hW hr (L2.passes_call (takes_of rfl rfl rfl rfl) fun _ _ _ _ h => h) (da_cons (dv 1) da_nil)))
    (dss_cons (ds_asg (d_tup (da_cons (x_call G_law_chains hW hr (L2.passes_call (takes_of rfl rfl rfl rfl) fun _ _ _ _ h => h) (da_cons (dv 2) da_nil)) (da_cons (d_told (k := 17) (by rfl) mT (told_ok FT T) T.exm TL rfl hmT hu (hr.mono (by decide)) (LamX.lamS_by (by kernel_rfl)) rfl bind0 (fun A' o' s' H' E' f' c' hr2 => (x_make G_init T hW hr2 (L2.passes_call (takes_of rfl rfl rfl rfl) fun _ _ _ _ h => h) (da_cons (dv 2) da_nil)))) da_nil))) (dg_tup hW.k.symm rfl (dgs_cons (gd 3 sc_law.nd) (dgs_cons (gd 4 sc_law.nd) dgs_nil))))
    (dss_cons (ds_if (t_ne hr hW (e_eqi T hr hW (dv 4) d_str) (e_isN (dv 3) d_non)) (dss_one (ds_ret d_bl))
    dss_nil)
    (dss_cons (ds_if (t_isN (dv 3) d_non) (dss_cons (dset 2 sc_law.nd (d_lst (da_cons (d_tup (da_cons d_str (da_cons d_str da_nil))) (da_cons (d_tup (da_cons d_str da_nil)) (da_cons (d_tup (da_cons d_str (da_cons d_str da_nil))) (da_cons (d_tup (da_cons d_str (da_cons d_str da_nil))) (da_cons (d_tup (da_cons d_str (da_cons d_str da_nil))) (da_cons (d_tup (da_cons d_str da_nil)) (da_cons (d_tup (da_cons d_str (da_cons d_str da_nil))) da_nil)))))))))
    (dss_one (ds_asg (d_tup (da_cons (x_call G_law_chains hW hr (L2.passes_call (takes_of rfl rfl rfl rfl) fun _ _ _ _ h => h) (da_cons (dv 2) da_nil)) (da_cons (x_make G_init T hW hr (L2.passes_call (takes_of rfl rfl rfl rfl) fun _ _ _ _ h => h) (da_cons (dv 2) da_nil)) da_nil))) (dg_tup hW.k.symm rfl (dgs_cons (gd 3 sc_law.nd) (dgs_cons (gd 4 sc_law.nd) dgs_nil))))))
    dss_nil)
    (dss_cons (dset 5 sc_law.nd (x_dict T hW rfl (d_lc (own := [("k", 13), ("deed", 19)]) rfl sc_law.nd (di_enum hW.k.symm (by rfl) (T.b _ (by decide)) (dv 2)) (blkOk_by (by kernel_rfl)) (tg_tup hW.k.symm (tgs_cons (tg_name (by decide)) (tgs_cons (tg_name (by decide)) tgs_nil))) (fun _ _ _ _ _ => (pg_tup rfl (pgs_cons (gn 13 sc_law.nd) (pgs_cons (gn 19 sc_law.nd) pgs_nil)))) (fun _ _ _ _ _ => (dts_one (t_eq hr hW (d_ix hW.k.symm (dv 19) d_int) d_str))) (fun _ _ _ _ _ => (d_tup (da_cons (dv 13) (da_cons (x_call G_law_meant hW hr passN (da_cons (dv 2) (da_cons (dv 3) (da_cons (dv 13) (da_cons (d_ix hW.k.symm (dv 19) d_int) da_nil))))) da_nil)))))))
    (dss_cons (dset 6 sc_law.nd (x_dict T hW rfl (d_lock fun l4 => (d_lc (own := [("k", 13), ("put", 10)]) rfl sc_law.nd (di_items List.mem_cons_self (dv 5)) (blkOk_by (by kernel_rfl)) (tg_tup (hW.lk l4).k.symm (tgs_cons (tg_name (by decide)) (tgs_cons (tg_name (by decide)) tgs_nil))) (fun _ _ _ _ _ => (pg_tup rfl (pgs_cons (gn 13 sc_law.nd) (pgs_cons (gn 10 sc_law.nd) pgs_nil)))) (fun _ _ _ _ _ => (dts_one (t_notN (dv 10) d_non))) (fun _ _ _ _ _ => (d_tup (da_cons (dv 13) (da_cons (dv 10) da_nil))))))))
    (dss_cons (ds_if (PW.pt (dw_or (t_dne hr (x_fld T (dv 4)) (dv 6)) (dw_or1 (t_ne hr hW (x_fld T (dv 4)) (d_lock fun l3 => (d_lc (own := [("k", 13), ("put", 10)]) rfl sc_law.nd (di_items List.mem_cons_self (dv 5)) (blkOk_by (by kernel_rfl)) (tg_tup (hW.lk l3).k.symm (tgs_cons (tg_name (by decide)) (tgs_cons (tg_name (by decide)) tgs_nil))) (fun _ _ _ _ _ => (pg_tup rfl (pgs_cons (gn 13 sc_law.nd) (pgs_cons (gn 10 sc_law.nd) pgs_nil)))) (fun _ _ _ _ _ => (dts_one (t_isN (dv 10) d_non))) (fun _ _ _ _ _ => (dv 13)))))))) (dss_one (ds_ret d_bl))
    dss_nil)
    (dss_cons (ds_setLc (i := 7) (own := [("k", 13), ("deed", 19)]) rfl sc_law.nd rfl (by rfl) (by rfl) (di_enum hW.k.symm (by rfl) (T.b _ (by decide)) (dv 2)) (blkOk_by (by kernel_rfl)) (tg_tup hW.k.symm (tgs_cons (tg_name (by decide)) (tgs_cons (tg_name (by decide)) tgs_nil))) (fun _ _ _ _ _ => (pg_tup rfl (pgs_cons (gn 13 sc_law.nd) (pgs_cons (gn 19 sc_law.nd) pgs_nil)))) (fun _ _ _ _ _ => (dts_one (t_eq hr hW (d_ix hW.k.symm (dv 19) d_int) d_str))) (fun _ _ _ _ _ => (dv 13)))
    (dss_cons (ds_if (PW.pt (dw_or (t_ne hr hW (d_lc (own := [("put", 10)]) rfl sc_law.nd (di_val hW.k.symm (dv 7)) (blkOk_by (by kernel_rfl)) (tg_name (by decide)) (fun _ _ _ _ _ => (gn 10 sc_law.nd)) (fun _ _ _ _ _ => dts_nil) (fun _ _ _ _ _ => (x_list T hW (x_meth (pl := _) G_uses_of T hW hr passN (dv 4) (da_cons (dv 10) da_nil))))) (d_lc (own := [("put", 10)]) rfl sc_law.nd (di_val hW.k.symm (dv 7)) (blkOk_by (by kernel_rfl)) (tg_name (by decide)) (fun _ _ _ _ _ => (gn 10 sc_law.nd)) (fun _ _ _ _ _ => dts_nil) (fun _ _ _ _ _ => (d_lock fun l2 => (d_lc (own := [("k", 13), ("one", 20)]) rfl sc_law.nd (di_items List.mem_cons_self (dv 6)) (blkOk_by (by kernel_rfl)) (tg_tup (hW.lk l2).k.symm (tgs_cons (tg_name (by decide)) (tgs_cons (tg_name (by decide)) tgs_nil))) (fun _ _ _ _ _ => (pg_tup rfl (pgs_cons (gn 13 sc_law.nd) (pgs_cons (gn 20 sc_law.nd) pgs_nil)))) (fun _ _ _ _ _ => (dts_one (t_eq hr (hW.lk l2) (dv 20) (dv 10)))) (fun _ _ _ _ _ => (dv 13))))))) (dw_or1 (t_ne hr hW (x_list T hW (x_meth0 (pl := _) G_unused T hW hr (L2.passes_call (takes_of rfl rfl rfl rfl) fun _ _ _ _ h => h) (dv 4))) (d_lc (own := [("put", 10)]) rfl sc_law.nd (di_val hW.k.symm (dv 7)) (blkOk_by (by kernel_rfl)) (tg_name (by decide)) (fun _ _ _ _ _ => (gn 10 sc_law.nd)) (fun _ _ _ _ _ => (dts_one (t_vnin rfl (dv 10) (dv 6)))) (fun _ _ _ _ _ => (dv 10))))))) (dss_one (ds_ret d_bl))
    dss_nil)
    (dss_cons (ds_par (i := 8) (j := 9) rfl sc_law.nd rfl rfl (by decide) (by rfl) (by rfl) (da_cons (d_lst da_nil) (da_cons (d_lst da_nil) da_nil)) (by rfl))
    (dss_cons (ds_for (passes_of rfl) rfl (di_val hW.k.symm (dv 7)) (gd 10 sc_law.nd) (dss_cons (ds_setLc (i := 11) (own := [("scope", 16)]) rfl sc_law.nd rfl (by rfl) (by rfl) (di_val hW.k.symm (d_sliceF (d_ix hW.k.symm (dv 3) (dv 10)) do_none (do_some (d_neg d_int)))) (blkOk_by (by kernel_rfl)) (tg_name (by decide)) (fun _ _ _ _ _ => (gn 16 sc_law.nd)) (fun _ _ _ _ _ => dts_nil) (fun _ _ _ _ _ => (x_call G_law_puts hW hr passN (da_cons (dv 2) (da_cons (dv 3) (da_cons (dv 16) (da_cons (d_ix hW.k.symm (d_ix hW.k.symm (dv 2) (dv 10)) d_int) da_nil)))))))
    (dss_cons (ds_setLc (i := 12) (own := [("row", 21)]) rfl sc_law.nd rfl (by rfl) (by rfl) (di_val hW.k.symm (dv 11)) (blkOk_by (by kernel_rfl)) (tg_name (by decide)) (fun _ _ _ _ _ => (gn 21 sc_law.nd)) (fun _ _ _ _ _ => (dts_one (PW.pt (dw_and (t_ne hr hW (dv 21) (d_lst da_nil)) (dw_and1 (t_lt (d_ix hW.k.symm (dv 21) d_int) (dv 10))))))) (fun _ _ _ _ _ => (d_ix hW.k.symm (dv 21) d_int)))
    (dss_one (dset 8 sc_law.nd (d_add hW.k.symm (dv 8) (d_if (t_ne hr hW (dv 12) (d_lst da_nil)) (d_lst (da_cons (d_tup (da_cons (d_ix hW.k.symm (dv 12) (d_neg d_int)) (da_cons (dv 10) da_nil))) da_nil)) (d_lst da_nil))))))))
    (dss_cons (ds_lock fun l1 => (ds_for (passes_of rfl) rfl (di_items List.mem_cons_self (dv 5)) (dg_tup (hW.lk l1).k.symm rfl (dgs_cons (gd 13 sc_law.nd) (dgs_cons (gd 10 sc_law.nd) dgs_nil))) (dss_cons (dset 14 sc_law.nd (d_if (t_notN (dv 10) d_non) (d_ix (hW.lk l1).k.symm (d_ix (hW.lk l1).k.symm (dv 3) (dv 10)) (d_neg d_int)) d_non))
    (dss_cons (dset 15 sc_law.nd (d_lst da_nil))
    (dss_cons (ds_for (passes_of rfl) rfl (di_val (hW.lk l1).k.symm (d_rev (hW.lk l1).k.symm (d_ix (hW.lk l1).k.symm (dv 3) (dv 13)) (d_neg d_int))) (gd 16 sc_law.nd) (dss_cons (ds_if (t_eq hr (hW.lk l1) (dv 16) (dv 14)) (dss_one ds_break)
    dss_nil)
    (dss_one (dset 15 sc_law.nd (d_add (hW.lk l1).k.symm (dv 15) (d_lc (own := [("one", 20)]) rfl sc_law.nd (di_val (hW.lk l1).k.symm (x_call G_law_puts (hW.lk l1) hr (L2.passes_call (takes_of rfl rfl rfl rfl) fun _ _ _ _ h => h) (da_cons (dv 2) (da_cons (dv 3) (da_cons (dv 16) (da_cons (d_ix (hW.lk l1).k.symm (d_ix (hW.lk l1).k.symm (dv 2) (dv 13)) d_int) da_nil)))))) (blkOk_by (by kernel_rfl)) (tg_name (by decide)) (fun _ _ _ _ _ => (gn 20 sc_law.nd)) (fun _ _ _ _ _ => (dts_one (t_gt (dv 20) (dv 13)))) (fun _ _ _ _ _ => (dv 20))))))))
    (dss_one (dset 9 sc_law.nd (d_add (hW.lk l1).k.symm (dv 9) (d_if (t_ne hr (hW.lk l1) (dv 15) (d_lst da_nil)) (d_lst (da_cons (d_tup (da_cons (dv 13) (da_cons (d_ix (hW.lk l1).k.symm (dv 15) d_int) da_nil))) da_nil)) (d_lst da_nil))))))))))
    (dss_cons (ds_if (PW.pt (dw_or (t_ne hr hW (x_list T hW (x_meth0 (pl := _) G_shadowed T hW hr (L2.passes_call (takes_of rfl rfl rfl rfl) fun _ _ _ _ h => h) (dv 4))) (dv 8)) (dw_or1 (t_ne hr hW (x_list T hW (x_meth0 (pl := _) G_told_late T hW hr (L2.passes_call (takes_of rfl rfl rfl rfl) fun _ _ _ _ h => h) (dv 4))) (dv 9))))) (dss_one (ds_ret d_bl))
    dss_nil)
    (dss_cons (dset 17 sc_law.nd (d_add hW.k.symm (d_lst (da_cons (d_neg d_int) da_nil)) (d_lc (own := [("k", 13), ("deed", 19)]) rfl sc_law.nd (di_enum hW.k.symm (by rfl) (T.b _ (by decide)) (dv 2)) (blkOk_by (by kernel_rfl)) (tg_tup hW.k.symm (tgs_cons (tg_name (by decide)) (tgs_cons (tg_name (by decide)) tgs_nil))) (fun _ _ _ _ _ => (pg_tup rfl (pgs_cons (gn 13 sc_law.nd) (pgs_cons (gn 19 sc_law.nd) pgs_nil)))) (fun _ _ _ _ _ => (dts_one (t_eq hr hW (d_ix hW.k.symm (dv 19) d_int) d_str))) (fun _ _ _ _ _ => (dv 13)))))
    (dss_cons (ds_if (t_ne hr hW (d_lc (own := [("k", 13)]) rfl sc_law.nd (di_range1 (by rfl) (T.b _ (by decide)) (x_len T hW (dv 2))) (blkOk_by (by kernel_rfl)) (tg_name (by decide)) (fun _ _ _ _ _ => (gn 13 sc_law.nd)) (fun _ _ _ _ _ => dts_nil) (fun _ _ _ _ _ => (x_meth (pl := _) G_scope_at T hW hr passN (dv 4) (da_cons (dv 13) da_nil)))) (d_lc (own := [("chain", 22)]) rfl sc_law.nd (di_val hW.k.symm (dv 3)) (blkOk_by (by kernel_rfl)) (tg_name (by decide)) (fun _ _ _ _ _ => (gn 22 sc_law.nd)) (fun _ _ _ _ _ => dts_nil) (fun _ _ _ _ _ => (d_index hW.k.symm (dv 17) (d_ix hW.k.symm (dv 22) (d_neg d_int)))))) (dss_one (ds_ret d_bl))
    dss_nil)
    (dss_cons (ds_for (passes_of rfl) rfl (di_range1 (by rfl) (T.b _ (by decide)) (x_len T hW (dv 2))) (gd 13 sc_law.nd) (dss_cons (ds_setLc (i := 18) (own := [("name", 23)]) rfl sc_law.nd rfl (by rfl) (by rfl) (di_val hW.k.symm (d_lst (da_cons d_str (da_cons d_str (da_cons d_str da_nil))))) (blkOk_by (by kernel_rfl)) (tg_name (by decide)) (fun _ _ _ _ _ => (gn 23 sc_law.nd)) (fun _ _ _ _ _ => dts_nil) (fun _ _ _ _ _ => (d_tup (da_cons (dv 23) (da_cons (x_call G_law_meant hW hr passN (da_cons (dv 2) (da_cons (dv 3) (da_cons (dv 13) (da_cons (dv 23) da_nil))))) da_nil)))))
    (dss_one (ds_if (t_ne hr hW (d_itemsL rfl (x_meth (pl := _) G_seen_at T hW hr (L2.passes_call (takes_of rfl rfl rfl rfl) fun _ _ _ _ h => h) (dv 4) (da_cons (dv 13) da_nil)) (by rfl) (T.b _ (by decide)) bt_list) (d_lc (own := [("name", 23), ("put", 10)]) rfl sc_law.nd (di_val hW.k.symm (dv 18)) (blkOk_by (by kernel_rfl)) (tg_tup hW.k.symm (tgs_cons (tg_name (by decide)) (tgs_cons (tg_name (by decide)) tgs_nil))) (fun _ _ _ _ _ => (pg_tup rfl (pgs_cons (gn 23 sc_law.nd) (pgs_cons (gn 10 sc_law.nd) pgs_nil)))) (fun _ _ _ _ _ => (dts_one (t_notN (dv 10) d_non))) (fun _ _ _ _ _ => (d_tup (da_cons (dv 23) (da_cons (dv 10) da_nil)))))) (dss_one (ds_ret d_bl))
    dss_nil))))
    (dss_one (ds_if (dt_not (dt_val (x_call G_law_told_on hW hr (L2.passes_call (takes_of rfl rfl rfl rfl) fun _ _ _ _ h => h) (da_cons (dv 1) (da_cons (dv 4) (da_cons (dv 2) (da_cons (dv 3) (da_cons (dv 6) (da_cons (dv 7) (da_cons (dv 17) (da_cons (dv 5) da_nil))))))))))) (dss_one (ds_ret d_bl))
    dss_nil)))))))))))))))))))
    (dss_one (ds_ret (x_call0 G_law_plain hW hr (L2.passes_call (takes_of rfl rfl rfl rfl) fun _ _ _ _ h => h)))))

end
end FL
/-! HA: the readings are run in plain Lean: rules of unfolding, small facts of data -/
namespace FL
open PySem PySem.Spec PyProof.Rows L2

section
variable {D0 : DEnds} {Ex : DX} {env : DV} {st : SD} {P : DP} {PB : Bool → SD → Prop} {PL : List D → SD → Prop} {PE : DV → SD → Prop} {PI : List D → (SD → Prop) → SD → Prop}
@[simp] theorem u_var {i} : dVar i env st P Ex = ∃ d, env[i]? = some (some d) ∧ P d st := rfl
@[simp] theorem u_c {d} : dC d env st P Ex = P d st := rfl
@[simp] theorem u_nil : dNil env st PL Ex = PL [] st := rfl
@[simp] theorem u_cons {t u} : dCons t u env st PL Ex = t env st (fun d st1 => u env st1 (fun ds st2 => PL (d :: ds) st2) Ex) Ex := rfl
@[simp] theorem u_op {f ta tb} : dOp f ta tb env st P Ex = ta env st (fun x st1 => tb env st1 (fun y st2 => f st2 x y P) Ex) Ex := rfl
@[simp] theorem u_un {f ta} : dUn f ta env st P Ex = ta env st (fun x st1 => f st1 x P) Ex := rfl
@[simp] theorem u_test {t} : dTest t env st PB Ex = t env st (fun d st1 => ∃ b, d = .bl b ∧ PB b st1) Ex := rfl
@[simp] theorem u_cmpT {f ta tb} : dCmpT f ta tb env st PB Ex = ta env st (fun x st1 => tb env st1 (fun y st2 => f st2 x y (fun d st1 => ∃ b, d = .bl b ∧ PB b st1)) Ex) Ex := rfl
@[simp] theorem u_andT {t u} : dAndT t u env st PB Ex = t env st (fun b st1 => if b = true then u env st1 PB Ex else PB false st1) Ex := rfl
@[simp] theorem u_orT {t u} : dOrT t u env st PB Ex = t env st (fun b st1 => if b = true then PB true st1 else u env st1 PB Ex) Ex := rfl
@[simp] theorem u_notT {t} : dNotT t env st PB Ex = t env st (fun b st1 => PB (!b) st1) Ex := rfl
@[simp] theorem u_andV {t u} : dAndV t u env st P Ex = t env st (fun d st1 => ∃ b, d = .bl b ∧ if b = true then u env st1 P Ex else P (.bl false) st1) Ex := rfl
@[simp] theorem u_orV {t u} : dOrV t u env st P Ex = t env st (fun d st1 => ∃ b, d = .bl b ∧ if b = true then P (.bl true) st1 else u env st1 P Ex) Ex := rfl
@[simp] theorem u_notV {t} : dNotV t env st P Ex = t env st (fun d st1 => ∃ b, d = .bl b ∧ P (.bl (!b)) st1) Ex := rfl
@[simp] theorem u_if {t ta tb} : dIf t ta tb env st P Ex = t env st (fun b st1 => if b = true then ta env st1 P Ex else tb env st1 P Ex) Ex := rfl
@[simp] theorem u_next : dNext D0 Ex env st = D0.nx env st := rfl
@[simp] theorem u_seq {t u} : dSeq t u D0 Ex env st = t { D0 with nx := u D0 Ex } Ex env st := rfl
@[simp] theorem u_break : dBreak D0 Ex env st = D0.bk env st := rfl
@[simp] theorem u_cont : dCont D0 Ex env st = D0.ct env st := rfl
@[simp] theorem u_drop {t} : dDrop t D0 Ex env st = t env st (fun _ st1 => D0.nx env st1) Ex := rfl
@[simp] theorem u_ret {t} : dRet t D0 Ex env st = t env st D0.rt Ex := rfl
@[simp] theorem u_retN : dRetN D0 Ex env st = D0.rt .non st := rfl
@[simp] theorem u_ifS {t ts us} : dIfS t ts us D0 Ex env st = t env st (fun b st1 => if b = true then ts D0 Ex env st1 else us D0 Ex env st1) Ex := rfl
@[simp] theorem u_gname {i d} : dgName i d env st PE = PE (env.set i (some d)) st := rfl
@[simp] theorem u_gnil {l} : dgNil l env st PE = (l = [] ∧ PE env st) := rfl
@[simp] theorem u_gcons {t u l} : dgCons t u l env st PE = ∃ d r, l = d :: r ∧ t d env st fun env' st' => u r env' st' PE := rfl
@[simp] theorem u_gtup {n u d} : dgTup n u d env st PE = ∃ l, d = .tup l ∧ l.length = n ∧ u l env st PE := rfl
@[simp] theorem u_asg {t g} : dAsg t g D0 Ex env st = t env st (fun d st1 => g d env st1 D0.nx) Ex := rfl
@[simp] theorem u_par {i j tl} : dPar i j tl D0 Ex env st = tl env st (fun l st1 => ∃ d e, l = [d, e] ∧ D0.nx ((env.set i (some d)).set j (some e)) st1) Ex := rfl
@[simp] theorem u_ival {t} : diVal t env st PI Ex = t env st (fun d st1 => diAt d st1 PI) Ex := rfl
@[simp] theorem u_iat1 {l} : diAt (.tup l) st PI = PI l (fun _ => True) st := rfl
@[simp] theorem u_iat2 {l} : diAt (.tpk l) st PI = PI l (fun _ => True) st := rfl
@[simp] theorem u_iat3 {l} : diAt (.lst l) st PI = PI l (fun _ => True) st := rfl
@[simp] theorem u_ienum {t} : diEnum t env st PI Ex = t env st (fun d st1 => deAt d st1 PI) Ex := rfl
@[simp] theorem u_eat1 {l} : deAt (.tup l) st PI = PI (enumD l) (fun _ => True) st := rfl
@[simp] theorem u_eat3 {l} : deAt (.lst l) st PI = PI (enumD l) (fun _ => True) st := rfl
@[simp] theorem u_rng1 {t} : diRng1 t env st PI Ex = t env st (fun d st1 => ∃ j : Int, d = .int j ∧ -(2 ^ 62) ≤ j ∧ j < 2 ^ 62 ∧ PI (rngD 0 j.toNat) (fun _ => True) st1) Ex := rfl
@[simp] theorem u_items {i t} : diItems i t env st PI Ex = t env st (fun d st1 => d = .ref i ∧ ∃ l, st1[i]? = some (.dctR l) ∧ PI (l.map fun p => .tup [keyD p.1, p.2]) (fun _ => True) st1) Ex := rfl
@[simp] theorem u_keys {i t} : diKeys i t env st PI Ex = t env st (fun d st1 => d = .ref i ∧ ∃ l, st1[i]? = some (.dctR l) ∧ PI (l.map fun p => keyD p.1) (fun _ => True) st1) Ex := rfl
@[simp] theorem u_vals {i t} : diVals i t env st PI Ex = t env st (fun d st1 => d = .ref i ∧ ∃ l, st1[i]? = some (.dctR l) ∧ PI (l.map fun p => p.2) (fun _ => True) st1) Ex := rfl
@[simp] theorem u_yes : dYes env st PB Ex = PB true st := rfl
@[simp] theorem u_lc {ti g tt te vs} : dLc ti g tt te vs env st P Ex = ti env st (fun xs G st1 => dComp G g tt te (dwipe env vs) (fun ys st2 => P (.lst ys) st2) xs [] st1) Ex := rfl
@[simp] theorem u_tupG {ti g tt te vs} : dTupG ti g tt te vs env st P Ex = ti env st (fun xs G st1 => dComp G g tt te (dwipe env vs) (fun ys st2 => P (.tup ys) st2) xs [] st1) Ex := rfl
@[simp] theorem u_for {ti g tb} : dFor ti g tb D0 Ex env st = ti env st (fun xs G st1 => dLoop G g tb D0 Ex xs env st1) Ex := rfl
@[simp] theorem u_tupS {tl} : dTupS tl env st P Ex = tl env st (fun ds st1 => ds.length ≤ sizeLine ∧ P (.tup ds) st1) Ex := rfl
@[simp] theorem u_lstS {tl} : dLstS tl env st P Ex = tl env st (fun ds st1 => ds.length ≤ sizeLine ∧ P (.lst ds) st1) Ex := rfl
@[simp] theorem u_lstR {tl} : dLstR tl env st P Ex = tl env st (fun ds st1 => ds.length ≤ sizeLine ∧ P (.ref st1.length) (st1 ++ [.lst ds])) Ex := rfl
@[simp] theorem u_tupF {tl} : dTupF tl env st P Ex = tl env st (fun ds st1 => ds.length ≤ sizeLine ∧ P (.tpk ds) st1) Ex := rfl
@[simp] theorem u_call {f tl} : dCall f tl env st P Ex = tl env st (fun ds st1 => f st1 ds P) Ex := rfl
@[simp] theorem u_fn {F tl} : dFn F tl env st P Ex = tl env st (fun ds st1 => F ds st1 P Ex) Ex := rfl
@[simp] theorem u_fld {C g ta} : dFld C g ta env st P Ex = ta env st (fun x st1 => ∃ j fs d, x = .ref j ∧ st1[j]? = some (.ins C fs) ∧ fs.lookup g = some d ∧ P d st1) Ex := rfl
@[simp] theorem u_setF {C g ta tv} : dSetF C g ta tv D0 Ex env st = tv env st (fun d st1 => ta env st1 (fun x st2 => ∃ j fs, x = .ref j ∧ st2[j]? = some (.ins C fs) ∧ fs.length < 1000 ∧ D0.nx env (st2.set j (.ins C (putFD g d fs)))) Ex) Ex := rfl
@[simp] theorem u_meth {C m F ta tl} : dMeth C m F ta tl env st P Ex = ta env st (fun x st1 => ∃ j fs, x = .ref j ∧ st1[j]? = some (.ins C fs) ∧ fs.lookup m = none ∧ tl env st1 (fun ds st2 => F (.ref j :: ds) st2 P Ex) Ex) Ex := rfl
@[simp] theorem u_raise {C} : dRaise C D0 Ex env st = Ex C st := rfl
@[simp] theorem u_aug {i te} : dAug i te D0 Ex env st = ∃ n, env[i]? = some (some (.int n)) ∧ te env st (fun y st1 => ∃ k, y = .int k ∧ D0.nx (env.set i (some (.int (n + k)))) st1) Ex := rfl
@[simp] theorem u_onone {PO : Option Int → SD → Prop} : doNone env st PO Ex = PO none st := rfl
@[simp] theorem u_osome {PO : Option Int → SD → Prop} {t} : doSome t env st PO Ex = t env st (fun d st1 => ∃ i, d = .int i ∧ PO (some i) st1) Ex := rfl
@[simp] theorem u_sl {te tl th} : dSl te tl th env st P Ex = te env st (fun x st1 => tl env st1 (fun lo st2 => th env st2 (fun hi st3 => fSl x lo hi st3 P) Ex) Ex) Ex := rfl
@[simp] theorem u_slF {te tl th} : dSlF te tl th env st P Ex = te env st (fun x st1 => tl env st1 (fun lo st2 => th env st2 (fun hi st3 => ∃ l, x = .tpk l ∧ P (.tpk (cutD l lo hi)) st3) Ex) Ex) Ex := rfl
@[simp] theorem u_newK : dNewK env st P Ex = P (.ref st.length) (st ++ [.dct []]) := rfl
@[simp] theorem u_dput {td ty tv} : dDPut td ty tv D0 Ex env st = tv env st (fun d st1 => td env st1 (fun x st2 => ty env st2 (fun y st3 => ∃ j l k, x = .ref j ∧ st3[j]? = some (.dct l) ∧ keyOf y = some k ∧ l.length < sizeLine ∧ D0.nx env (st3.set j (.dct (putKD l k d)))) Ex) Ex) Ex := rfl
@[simp] theorem u_get1 {td ty} : dGet1 td ty env st P Ex = td env st (fun x st1 => ∃ j, x = .ref j ∧ (∃ l, dctD st1 j = some l) ∧ ty env st1 (fun y st2 => ∃ l k, dctD st2 j = some l ∧ keyOf y = some k ∧ P ((getKD l k).getD .non) st2) Ex) Ex := rfl
@[simp] theorem u_append {to te} : dAppend to te env st P Ex = to env st (fun x st1 => ∃ j l, x = .ref j ∧ st1[j]? = some (.lst l) ∧ te env st1 (fun d st2 => ∃ l, st2[j]? = some (.lst l) ∧ l.length < sizeLine ∧ P .non (st2.set j (.lst (l ++ [d])))) Ex) Ex := rfl
@[simp] theorem u_pop {to} : dPop to env st P Ex = to env st (fun x st1 => ∃ j l d, x = .ref j ∧ st1[j]? = some (.lst l) ∧ l[l.length - 1]? = some d ∧ P d (st1.set j (.lst l.dropLast))) Ex := rfl
@[simp] theorem u_chain {f g ta tb tc} : dChain f g ta tb tc env st P Ex = ta env st (fun x st1 => tb env st1 (fun y st2 => f st2 x y fun z st3 => ∃ k, z = .bl k ∧ if k = true then tc env st3 (fun w st4 => g st4 y w P) Ex else P (.bl false) st3) Ex) Ex := rfl
@[simp] theorem u_rev {te ts} : dRev te ts env st P Ex = te env st (fun x st1 => ts env st1 (fun y st2 => y = .int (-1) ∧ fRev x st2 P) Ex) Ex := rfl
@[simp] theorem u_rev1 {l} : fRev (.tup l) st P = P (.tup l.reverse) st := rfl
@[simp] theorem u_rev2 {l} : fRev (.tpk l) st P = P (.tup l.reverse) st := rfl
@[simp] theorem u_rev3 {l} : fRev (.lst l) st P = P (.lst l.reverse) st := rfl
@[simp] theorem u_fdOf {n p tb ds} : fdOf n p tb ds st P Ex = (ds.length = p ∧ tb { nx := fun _ st' => P .non st', rt := P } Ex (dStart n ds) st) := rfl
@[simp] theorem u_lock {t : Nat → TD} : dLock t env st P Ex = ∃ i l, st[i]? = some (.dctR l) ∧ t i env st (fun d s => s[i]? = some (.dctR l) ∧ P d s) Ex := rfl
@[simp] theorem u_lockS {t : Nat → TDS} : dLockS t D0 Ex env st = ∃ i l, st[i]? = some (.dctR l) ∧
  t i { nx := fun e s => s[i]? = some (.dctR l) ∧ D0.nx e s, rt := fun d s => s[i]? = some (.dctR l) ∧ D0.rt d s, bk := fun e s => s[i]? = some (.dctR l) ∧ D0.bk e s, ct := fun e s => s[i]? = some (.dctR l) ∧ D0.ct e s } Ex env st := rfl
/-! value rules -/
@[simp] theorem u_ix {x i} : fIx st x (.int i) P ↔ ∃ l d, seqD st x = some l ∧ atI l i = some d ∧ P d st := by simp [fIx]
@[simp] theorem u_sub {i j} : fSub st (.int i) (.int j) P ↔ P (.int (i - j)) st := by simp [fSub]
@[simp] theorem u_cmp {p : Int → Int → Bool} {i j} : fCmp p st (.int i) (.int j) P ↔ P (.bl (p i j)) st := by simp [fCmp]
@[simp] theorem u_neg {i} : fNeg st (.int i) P ↔ P (.int (-i)) st := by simp [fNeg]
@[simp] theorem u_addI {i j} : fAdd st (.int i) (.int j) P ↔ P (.int (i + j)) st := by simp [fAdd, lstD]
@[simp] theorem u_addL {i j} : fAdd st (.lst i) (.lst j) P ↔ i.length + j.length ≤ sizeLine ∧ P (.lst (i ++ j)) st := by simp [fAdd, lstD]
@[simp] theorem u_addT {i j} : fAdd st (.tup i) (.tup j) P ↔ i.length + j.length ≤ sizeLine ∧ P (.tup (i ++ j)) st := by simp [fAdd, lstD]
@[simp] theorem u_addS {i j} : fAdd st (.str i) (.str j) P ↔ i.length + j.length ≤ sizeLine ∧ P (.str (i ++ j)) st := by simp [fAdd, lstD]
@[simp] theorem u_seq1 {l} : seqD st (.tup l) = some l := rfl
@[simp] theorem u_seq2 {l} : seqD st (.tpk l) = some l := rfl
@[simp] theorem u_seq3 {l} : seqD st (.lst l) = some l := rfl
theorem seq_ref {j l} (h : st[j]? = some (.lst l)) : seqD st (.ref j) = some l := by simp [seqD, h]
theorem lst_ref {j l} (h : st[j]? = some (.lst l)) : lstD st (.ref j) = some l := by simp [lstD, h]
@[simp] theorem u_lst3 {l} : lstD st (.lst l) = some l := rfl
theorem flat_ref {j l} (h : st[j]? = some (.lst l)) : flatD st (.ref j) = some (.lst l) := by simp [flatD, h]
theorem dct_ref {j l} (h : st[j]? = some (.dct l)) : dctD st j = some l := by simp [dctD, h]
theorem dctR_ref {j l} (h : st[j]? = some (.dctR l)) : dctD st j = some l := by simp [dctD, h]
@[simp] theorem u_keyI {i} : keyOf (.int i) = some (.inl i) := rfl
@[simp] theorem u_keyS {i} : keyOf (.str i) = some (.inr i) := rfl
@[simp] theorem u_keyDI {i} : keyD (.inl i) = .int i := rfl
@[simp] theorem u_keyDS {i} : keyD (.inr i) = .str i := rfl
/-- a classical bool -/
noncomputable def cb (p : Prop) : Bool := @decide p (Classical.propDecidable p)
@[simp] theorem cb_iff {p : Prop} : cb p = true ↔ p := by unfold cb; exact @decide_eq_true_iff p (Classical.propDecidable p)
theorem cb_eq {p : Prop} [Decidable p] : cb p = decide p := by
  by_cases h : p <;> simp [cb, h]
theorem all_bool {p : Prop} {Q : Bool → Prop} : (∀ r : Bool, (r = true ↔ p) → Q r) ↔ Q (cb p) := ⟨fun h => h _ cb_iff, fun h r e => by
  have : r = cb p := by
    by_cases hp : p
    · rw [e.mpr hp, cb_iff.mpr hp]
    · have h1 : r = false := by cases r; rfl; exact absurd (e.mp rfl) hp
      have h2 : cb p = false := by cases h2 : cb p; rfl; exact absurd (cb_iff.mp h2) hp
      rw [h1, h2]
  rw [this]; exact h⟩
@[simp] theorem cb_true : cb True = true := by simp
@[simp] theorem cb_false : cb False = false := by
  cases h : cb False; rfl; exact (cb_iff.mp h).elim
theorem u_eqB {neg x y} : fEqB neg st x y P ↔ (∃ a b, x = .bl a ∧ y = .bl b ∧ P (.bl (decide (a = b) != neg)) st) ∨ ∃ a b, flatD st x = some a ∧ flatD st y = some b ∧ plainD 50 a = true ∧ plainD 50 b = true ∧ P (.bl (cb (a = b) != neg)) st := by
  unfold fEqB
  simp only [all_bool (Q := fun r => P (.bl (r != neg)) st)]
@[simp] theorem u_eqSS {neg x y} : fEqB neg st (.str x) (.str y) P ↔ PyData.strOk x = true ∧ PyData.strOk y = true ∧ P (.bl (decide (x = y) != neg)) st := by
  rw [u_eqB]; simp [flatD, plainD, cb_eq]
@[simp] theorem u_eqII {neg x y} : fEqB neg st (.int x) (.int y) P ↔ P (.bl (decide (x = y) != neg)) st := by
  rw [u_eqB]; simp [flatD, plainD, cb_eq]
@[simp] theorem u_eqNN {neg} : fEqB neg st .non .non P ↔ P (.bl (true != neg)) st := by
  rw [u_eqB]; simp [flatD, plainD]
@[simp] theorem u_eqIN {neg x} : fEqB neg st (.int x) .non P ↔ P (.bl (false != neg)) st := by
  rw [u_eqB]; simp [flatD, plainD]
@[simp] theorem u_eqNI {neg x} : fEqB neg st .non (.int x) P ↔ P (.bl (false != neg)) st := by
  rw [u_eqB]; simp [flatD, plainD]
@[simp] theorem u_eqBB {neg x y} : fEqB neg st (.bl x) (.bl y) P ↔ P (.bl (decide (x = y) != neg)) st := by
  rw [u_eqB]; simp [flatD, plainD]
@[simp] theorem u_eqTT {neg x y} : fEqB neg st (.tup x) (.tup y) P ↔ plainL 49 x = true ∧ plainL 49 y = true ∧ P (.bl (cb (x = y) != neg)) st := by
  rw [u_eqB]; simp [flatD, plainD]
@[simp] theorem u_eqLL {neg x y} : fEqB neg st (.lst x) (.lst y) P ↔ plainL 49 x = true ∧ plainL 49 y = true ∧ P (.bl (cb (x = y) != neg)) st := by
  rw [u_eqB]; simp [flatD, plainD]
theorem u_inB {neg x y} : fInB neg st x y P ↔ ∃ l, seqD st y = some l ∧ atomD x = true ∧ l.all atomD = true ∧ P (.bl (cb (x ∈ l) != neg)) st := by
  unfold fInB
  simp only [all_bool (Q := fun r => P (.bl (r != neg)) st)]
@[simp] theorem u_len1 {l} : fLen st [.tup l] P ↔ P (.int l.length) st := by simp [fLen]
@[simp] theorem u_len2 {l} : fLen st [.tpk l] P ↔ P (.int l.length) st := by simp [fLen]
@[simp] theorem u_len3 {l} : fLen st [.lst l] P ↔ P (.int l.length) st := by simp [fLen]
theorem len_ref {j l} (h : st[j]? = some (.lst l)) : fLen st [.ref j] P ↔ P (.int l.length) st := by simp [fLen, seqD, h]
theorem len_dct {j l} (h : st[j]? = some (.dct l)) : fLen st [.ref j] P ↔ P (.int l.length) st := by simp [fLen, seqD, h]
end
end FL
/-! MA: deeds, their scopes: plain Lean. -/
namespace FL
open PySem

inductive Dd where
  | put (x : Str) | use (x : Str) | inn | out
  deriving DecidableEq

structure Cfg where
  anc : List (List Nat)
  inum : List Int
  cur : Nat
  deriving DecidableEq

def cstep (k : Nat) (d : Dd) (c : Cfg) : Cfg := match d with
  | .inn => ⟨c.anc ++ [c.anc.length :: c.anc.getD c.cur []], c.inum ++ [(k : Int)], c.anc.length⟩
  | .out => ⟨c.anc, c.inum, (c.anc.getD c.cur []).getD 1 c.cur⟩
  | _ => c
def cfg (dd : Nat → Dd) : Nat → Cfg
  | 0 => ⟨[[0]], [-1], 0⟩
  | k + 1 => cstep k (dd k) (cfg dd k)

structure CfgOk (k : Nat) (c : Cfg) : Prop where
  len : c.anc.length = c.inum.length
  cur : c.cur < c.anc.length
  zero : c.anc[0]? = some [0]
  step : ∀ s, 0 < s → s < c.anc.length → ∃ p, p < s ∧ c.anc[s]? = some (s :: c.anc.getD p [])
  inum0 : c.inum[0]? = some (-1)
  mono : c.inum.Pairwise (· < ·)
  bnd : ∀ x ∈ c.inum, x < (k : Int)

theorem CfgOk.hd {k : Nat} {c : Cfg} (h : CfgOk k c) {s : Nat} (hs : s < c.anc.length) : ∃ t, c.anc.getD s [] = s :: t := by
  by_cases h0 : s = 0
  · subst h0; exact ⟨[], by simp [h.zero]⟩
  · obtain ⟨p, _, e⟩ := h.step s (by omega) hs
    exact ⟨_, by rw [List.getD_eq_getElem?_getD, e]; rfl⟩
theorem CfgOk.up {k : Nat} {c : Cfg} (h : CfgOk k c) : (c.anc.getD c.cur []).getD 1 c.cur < c.anc.length := by
  by_cases h0 : c.cur = 0
  · rw [h0]; rw [List.getD_eq_getElem?_getD (l := c.anc), h.zero]; simp; have := h.cur; omega
  · obtain ⟨p, hp, e⟩ := h.step c.cur (by omega) h.cur
    have hpl : p < c.anc.length := by have := h.cur; omega
    obtain ⟨t, ht⟩ := h.hd hpl
    rw [List.getD_eq_getElem?_getD (l := c.anc), e, ht]
    exact hpl
theorem getD_app {α : Type} {l r : List α} {i : Nat} {d : α} (h : i < l.length) : (l ++ r).getD i d = l.getD i d := by
  rw [List.getD_eq_getElem?_getD, List.getD_eq_getElem?_getD, List.getElem?_append_left h]

theorem cstep_ok {k : Nat} {d : Dd} {c : Cfg} (h : CfgOk k c) : CfgOk (k + 1) (cstep k d c) := by
  have hb : ∀ x ∈ c.inum, x < ((k + 1 : Nat) : Int) := fun x hx => by have := h.bnd x hx; omega
  cases d with
  | put x => exact ⟨h.len, h.cur, h.zero, h.step, h.inum0, h.mono, hb⟩
  | use x => exact ⟨h.len, h.cur, h.zero, h.step, h.inum0, h.mono, hb⟩
  | out => exact ⟨h.len, h.up, h.zero, h.step, h.inum0, h.mono, hb⟩
  | inn =>
    have hl : 0 < c.anc.length := by have := h.cur; omega
    refine ⟨by simp [cstep, h.len], by simp [cstep], ?_, ?_, ?_, ?_, ?_⟩
    · simp only [cstep]; rw [List.getElem?_append_left hl]; exact h.zero
    · intro s h0 hs
      simp only [cstep] at hs ⊢
      by_cases hs' : s < c.anc.length
      · obtain ⟨p, hp, e⟩ := h.step s h0 hs'
        refine ⟨p, hp, ?_⟩
        rw [List.getElem?_append_left hs', e, getD_app (by omega)]
      · have es : s = c.anc.length := by simp at hs; omega
        subst es
        refine ⟨c.cur, h.cur, ?_⟩
        rw [getD_app h.cur]
        simp
    · simp only [cstep]; rw [List.getElem?_append_left (by rw [← h.len]; exact hl)]; exact h.inum0
    · simp only [cstep]
      rw [List.pairwise_append]
      exact ⟨h.mono, by simp, fun a ha b hb => by simp at hb; rw [hb]; exact h.bnd a ha⟩
    · intro x hx
      simp only [cstep, List.mem_append, List.mem_singleton] at hx
      rcases hx with hx | hx
      · exact hb x hx
      · subst hx; omega
theorem cfg_ok (dd : Nat → Dd) : ∀ k, CfgOk k (cfg dd k)
  | 0 => ⟨rfl, Nat.zero_lt_one, rfl, fun s h0 hs => by simp [cfg] at hs; omega, rfl, by simp [cfg], by simp [cfg]⟩
  | k + 1 => cstep_ok (cfg_ok dd k)

theorem cfg_anc_pre (dd : Nat → Dd) (k : Nat) : ∃ r q, (cfg dd (k + 1)).anc = (cfg dd k).anc ++ r ∧ (cfg dd (k + 1)).inum = (cfg dd k).inum ++ q := by
  show ∃ r q, (cstep k (dd k) (cfg dd k)).anc = _ ∧ (cstep k (dd k) (cfg dd k)).inum = _
  cases dd k with
  | put x => exact ⟨[], [], by simp [cstep]⟩
  | use x => exact ⟨[], [], by simp [cstep]⟩
  | out => exact ⟨[], [], by simp [cstep]⟩
  | inn => exact ⟨_, _, rfl, rfl⟩
theorem cfg_pre (dd : Nat → Dd) (k : Nat) : ∀ m, ∃ r q, (cfg dd (k + m)).anc = (cfg dd k).anc ++ r ∧ (cfg dd (k + m)).inum = (cfg dd k).inum ++ q
  | 0 => ⟨[], [], by simp⟩
  | m + 1 => by
    obtain ⟨r, q, e1, e2⟩ := cfg_pre dd k m
    obtain ⟨r', q', e3, e4⟩ := cfg_anc_pre dd (k + m)
    exact ⟨r ++ r', q ++ q', by rw [← Nat.add_assoc, e3, e1, List.append_assoc], by rw [← Nat.add_assoc, e4, e2, List.append_assoc]⟩

/-! ### the scopes of a row of deeds -/
section
variable (dd : Nat → Dd) (n : Nat)
def cur (k : Nat) : Nat := (cfg dd k).cur
def nsc (k : Nat) : Nat := (cfg dd k).anc.length
/-- a scope and those around it, the inner first -/
def A (s : Nat) : List Nat := (cfg dd n).anc.getD s []
/-- the number of a scope's "in" -/
def J (s : Nat) : Int := (cfg dd n).inum.getD s 0
def hd : List Nat → Int
  | [] => -1
  | s :: _ => s
/-- the scope around -/
def par (s : Nat) : Int := hd (A dd n s).tail
/-- the end of a chain of scopes -/
def Ch (l : List Nat) : Prop := l = [] ∨ ∃ s, s < nsc dd n ∧ l = A dd n s
end
section
variable {dd : Nat → Dd} {n : Nat}
theorem nsc_le {k m : Nat} (h : k ≤ m) : nsc dd k ≤ nsc dd m := by
  obtain ⟨r, q, e, _⟩ := cfg_pre dd k (m - k)
  rw [Nat.add_sub_cancel' h] at e
  unfold nsc
  rw [e]; simp
theorem cur_lt (k : Nat) : cur dd k < nsc dd k := (cfg_ok dd k).cur
theorem cur_lt' {k : Nat} (h : k ≤ n) : cur dd k < nsc dd n := Nat.lt_of_lt_of_le (cur_lt k) (nsc_le h)
theorem A_at {k s : Nat} (h : k ≤ n) (hs : s < nsc dd k) : (cfg dd k).anc.getD s [] = A dd n s := by
  obtain ⟨r, q, e, _⟩ := cfg_pre dd k (n - k)
  rw [Nat.add_sub_cancel' h] at e
  unfold A
  rw [e, getD_app hs]
theorem J_at {k s : Nat} (h : k ≤ n) (hs : s < nsc dd k) : (cfg dd k).inum.getD s 0 = J dd n s := by
  obtain ⟨r, q, _, e⟩ := cfg_pre dd k (n - k)
  rw [Nat.add_sub_cancel' h] at e
  unfold J
  rw [e, getD_app (by rw [← (cfg_ok dd k).len]; exact hs)]
theorem A_zero : A dd n 0 = [0] := by unfold A; rw [List.getD_eq_getElem?_getD, (cfg_ok dd n).zero]; rfl
theorem A_step {s : Nat} (h0 : 0 < s) (hs : s < nsc dd n) : ∃ p, p < s ∧ A dd n s = s :: A dd n p := by
  obtain ⟨p, hp, e⟩ := (cfg_ok dd n).step s h0 hs
  exact ⟨p, hp, by unfold A; rw [List.getD_eq_getElem?_getD, e]; rfl⟩
theorem A_hd {s : Nat} (hs : s < nsc dd n) : ∃ t, A dd n s = s :: t := by
  by_cases h0 : s = 0
  · subst h0; exact ⟨[], A_zero⟩
  · obtain ⟨p, _, e⟩ := A_step (by omega) hs; exact ⟨_, e⟩
theorem A_ne {s : Nat} (hs : s < nsc dd n) : A dd n s ≠ [] := by obtain ⟨t, e⟩ := A_hd hs; rw [e]; simp
theorem Ch.tl {s : Nat} {r : List Nat} (h : Ch dd n (s :: r)) : s < nsc dd n ∧ s :: r = A dd n s ∧ Ch dd n r ∧ par dd n s = hd r := by
  rcases h with h | ⟨t, ht, e⟩
  · cases h
  · have e0 := e
    by_cases h0 : t = 0
    · subst h0
      rw [A_zero] at e
      cases e
      exact ⟨ht, e0, .inl rfl, by unfold par; rw [A_zero]; rfl⟩
    · obtain ⟨p, hp, e1⟩ := A_step (by omega) ht
      rw [e1] at e
      cases e
      exact ⟨ht, e0, .inr ⟨p, by omega, rfl⟩, by unfold par; rw [e1]; rfl⟩
theorem A_dec : ∀ (m s : Nat), s < m → s < nsc dd n → (A dd n s).Pairwise (· > ·) ∧ ∀ t ∈ A dd n s, t ≤ s
  | 0, s, h, _ => by omega
  | m + 1, s, h, hs => by
    by_cases h0 : s = 0
    · subst h0; rw [A_zero]; simp
    · obtain ⟨p, hp, e⟩ := A_step (by omega) hs
      obtain ⟨i1, i2⟩ := A_dec m p (by omega) (by omega)
      rw [e]
      refine ⟨List.pairwise_cons.mpr ⟨fun t ht => ?_, i1⟩, fun t ht => ?_⟩
      · have := i2 t ht; omega
      · rcases List.mem_cons.mp ht with ht | ht
        · omega
        · have := i2 t ht; omega
theorem A_mem {s t : Nat} (hs : s < nsc dd n) (ht : t ∈ A dd n s) : t ≤ s := (A_dec (s + 1) s (by omega) hs).2 t ht
theorem A_pw {s : Nat} (hs : s < nsc dd n) : (A dd n s).Pairwise (· > ·) := (A_dec (s + 1) s (by omega) hs).1
theorem A_nodup {s : Nat} (hs : s < nsc dd n) : (A dd n s).Nodup := (A_pw hs).imp fun h => by omega
theorem inum_len : (cfg dd n).inum.length = nsc dd n := (cfg_ok dd n).len.symm
theorem J_lt {s t : Nat} (h : s < t) (ht : t < nsc dd n) : J dd n s < J dd n t := by
  have hl := inum_len (dd := dd) (n := n)
  have p := List.pairwise_iff_getElem.mp (cfg_ok dd n).mono s t (by omega) (by omega) h
  unfold J
  rw [List.getD_eq_getElem?_getD, List.getD_eq_getElem?_getD, List.getElem?_eq_getElem (by omega), List.getElem?_eq_getElem (by omega)]
  exact p
theorem J_inj {s t : Nat} (hs : s < nsc dd n) (ht : t < nsc dd n) : J dd n s = J dd n t ↔ s = t := by
  refine ⟨fun h => ?_, fun h => by rw [h]⟩
  rcases Nat.lt_trichotomy s t with g | g | g
  · have := J_lt g ht; omega
  · exact g
  · have := J_lt g hs; omega
theorem J_zero : J dd n 0 = -1 := by unfold J; rw [List.getD_eq_getElem?_getD, (cfg_ok dd n).inum0]; rfl
theorem J_bnd {s : Nat} (hs : s < nsc dd n) : J dd n s < n ∧ -1 ≤ J dd n s := by
  refine ⟨(cfg_ok dd n).bnd _ ?_, ?_⟩
  · have hl := inum_len (dd := dd) (n := n)
    unfold J
    rw [List.getD_eq_getElem?_getD, List.getElem?_eq_getElem (by omega)]
    exact List.getElem_mem _
  · by_cases h0 : s = 0
    · rw [h0, J_zero]; omega
    · have := J_lt (dd := dd) (n := n) (show 0 < s by omega) hs
      rw [J_zero] at this; omega

/-! ### one deed on -/
theorem cur_put {k : Nat} {x : Str} (e : dd k = .put x) : cur dd (k + 1) = cur dd k := by unfold cur; rw [cfg, e]; rfl
theorem cur_use {k : Nat} {x : Str} (e : dd k = .use x) : cur dd (k + 1) = cur dd k := by unfold cur; rw [cfg, e]; rfl
theorem nsc_put {k : Nat} {x : Str} (e : dd k = .put x) : nsc dd (k + 1) = nsc dd k := by unfold nsc; rw [cfg, e]; rfl
theorem nsc_use {k : Nat} {x : Str} (e : dd k = .use x) : nsc dd (k + 1) = nsc dd k := by unfold nsc; rw [cfg, e]; rfl
theorem nsc_out {k : Nat} (e : dd k = .out) : nsc dd (k + 1) = nsc dd k := by unfold nsc; rw [cfg, e]; rfl
theorem nsc_inn {k : Nat} (e : dd k = .inn) : nsc dd (k + 1) = nsc dd k + 1 := by unfold nsc; rw [cfg, e]; simp [cstep]
theorem cur_inn {k : Nat} (e : dd k = .inn) : cur dd (k + 1) = nsc dd k := by unfold cur nsc; rw [cfg, e]; rfl
theorem A_inn {k : Nat} (h : k < n) (e : dd k = .inn) : A dd n (nsc dd k) = nsc dd k :: A dd n (cur dd k) := by
  rw [← A_at (show k + 1 ≤ n from h) (by rw [nsc_inn e]; omega), ← A_at (show k ≤ n by omega) (cur_lt k), cfg, e]
  unfold nsc cur cstep
  simp
theorem J_inn {k : Nat} (h : k < n) (e : dd k = .inn) : J dd n (nsc dd k) = k := by
  rw [← J_at (show k + 1 ≤ n from h) (by rw [nsc_inn e]; omega), cfg, e]
  unfold nsc cstep
  rw [(cfg_ok dd k).len]
  simp
theorem cur_out {k : Nat} (h : k < n) (e : dd k = .out) (h0 : cur dd k ≠ 0) : A dd n (cur dd k) = cur dd k :: A dd n (cur dd (k + 1)) := by
  have hc := cur_lt' (dd := dd) (n := n) (show k ≤ n by omega)
  obtain ⟨p, hp, ea⟩ := A_step (by omega) hc
  have : cur dd (k + 1) = p := by
    unfold cur
    rw [cfg, e]
    show ((cfg dd k).anc.getD (cfg dd k).cur []).getD 1 (cfg dd k).cur = p
    have e2 : (cfg dd k).anc.getD (cfg dd k).cur [] = A dd n (cur dd k) := A_at (show k ≤ n by omega) (cur_lt k)
    rw [e2]
    rw [ea]
    obtain ⟨t, et⟩ := A_hd (dd := dd) (n := n) (show p < nsc dd n by omega)
    rw [et]; rfl
  rw [this]; exact ea

/-! ### puts and uses -/
def isPut : Dd → Bool
  | .put _ => true
  | _ => false
def isUse : Dd → Bool
  | .use _ => true
  | _ => false
def nm : Dd → Str
  | .put x => x
  | .use x => x
  | _ => Str.empty
end
section
variable (dd : Nat → Dd) (n : Nat)
/-- the puts of a name in a scope, ahead of a deed -/
def putsB (s : Nat) (x : Str) (j : Nat) : List Nat := (List.range j).filter fun k => decide (dd k = .put x ∧ cur dd k = s)
/-- the put that a use means -/
def meantAt (j : Nat) (x : Str) : Option Nat := (A dd n (cur dd j)).findSome? fun s => (putsB dd s x j).head?
def putL (j : Nat) : List Nat := (List.range j).filter fun k => isPut (dd k)
def useL (j : Nat) : List Nat := (List.range j).filter fun k => isUse (dd k)
def meantL (j : Nat) : List (Nat × Nat) := (useL dd j).filterMap fun k => (meantAt dd n k (nm (dd k))).map fun p => (k, p)
def lostL (j : Nat) : List Nat := (useL dd j).filter fun k => (meantAt dd n k (nm (dd k))).isNone
/-- a deed is good where it stands -/
def Good (k : Nat) : Prop := match dd k with
  | .put x => putsB dd (cur dd k) x k = []
  | .inn => (A dd n (cur dd k)).length ≤ 12
  | .out => cur dd k ≠ 0
  | .use _ => True
/-- .. but for names put twice -/
def GoodC (k : Nat) : Prop := match dd k with
  | .inn => (A dd n (cur dd k)).length ≤ 12
  | .out => cur dd k ≠ 0
  | _ => True
def Valid : Prop := (∀ k, k < n → Good dd n k) ∧ cur dd n = 0
end
section
variable {dd : Nat → Dd} {n : Nat}
theorem putsB_mem {s : Nat} {x : Str} {j k : Nat} : k ∈ putsB dd s x j ↔ k < j ∧ dd k = .put x ∧ cur dd k = s := by simp [putsB]
theorem putsB_lt {s : Nat} {x : Str} {j m : Nat} (h : j ≤ m) : (putsB dd s x m).filter (fun k => decide (k < j)) = putsB dd s x j := by
  unfold putsB
  rw [List.filter_filter]
  obtain ⟨d, rfl⟩ := Nat.exists_eq_add_of_le h
  rw [List.range_add, List.filter_append]
  have e2 : ((List.range d).map (fun x => j + x)).filter (fun a => decide (a < j) && decide (dd a = .put x ∧ cur dd a = s)) = [] := by
    rw [List.filter_eq_nil_iff]
    intro a ha
    simp only [List.mem_map, List.mem_range] at ha
    obtain ⟨b, _, rfl⟩ := ha
    rw [decide_eq_false (show ¬ j + b < j by omega)]
    simp
  rw [e2, List.append_nil]
  exact List.filter_congr fun a ha => by
    have : a < j := List.mem_range.mp ha
    simp [this]
theorem putsB_succ {s : Nat} {x : Str} {j : Nat} : putsB dd s x (j + 1) = putsB dd s x j ++ if dd j = .put x ∧ cur dd j = s then [j] else [] := by
  unfold putsB
  rw [List.range_succ, List.filter_append]
  congr 1
  by_cases h : dd j = .put x ∧ cur dd j = s
  · simp [h]
  · rw [if_neg h]; simp only [List.filter_cons, List.filter_nil, h, decide_false, Bool.false_eq_true, if_false]
/-- no name is put twice in a scope -/
theorem puts_one (hv : ∀ k, k < n → Good dd n k) {s : Nat} {x : Str} {a b : Nat} (ha : a ∈ putsB dd s x n) (hb : b ∈ putsB dd s x n) : a = b := by
  have key : ∀ a b, a < b → a ∈ putsB dd s x n → b ∈ putsB dd s x n → False := fun a b h ha hb => by
    obtain ⟨_, a2, a3⟩ := putsB_mem.mp ha
    obtain ⟨b1, b2, b3⟩ := putsB_mem.mp hb
    have g := hv b b1
    unfold Good at g
    rw [b2] at g
    have : a ∈ putsB dd (cur dd b) x b := putsB_mem.mpr ⟨h, a2, by rw [a3, b3]⟩
    rw [g] at this
    cases this
  rcases Nat.lt_trichotomy a b with h | h | h
  · exact (key a b h ha hb).elim
  · exact h
  · exact (key b a h hb ha).elim
theorem putsB_nodup {s : Nat} {x : Str} {j : Nat} : (putsB dd s x j).Nodup := List.nodup_range.filter _
theorem puts_le_one (hv : ∀ k, k < n → Good dd n k) {s : Nat} {x : Str} {j : Nat} (hj : j ≤ n) : putsB dd s x j = [] ∨ ∃ a, putsB dd s x j = [a] := by
  have sub : ∀ a ∈ putsB dd s x j, a ∈ putsB dd s x n := fun a ha => by
    obtain ⟨h1, h2⟩ := putsB_mem.mp ha
    exact putsB_mem.mpr ⟨by omega, h2⟩
  have nd := putsB_nodup (dd := dd) (s := s) (x := x) (j := j)
  match h : putsB dd s x j with
  | [] => exact .inl rfl
  | [a] => exact .inr ⟨a, rfl⟩
  | a :: b :: r =>
    rw [h] at sub nd
    have := puts_one hv (sub a (by simp)) (sub b (by simp))
    simp [this] at nd
theorem mem_putL {j k : Nat} : k ∈ putL dd j ↔ k < j ∧ ∃ x, dd k = .put x := by
  unfold putL
  rw [List.mem_filter, List.mem_range]
  cases h : dd k <;> simp [isPut]
theorem mem_useL {j k : Nat} : k ∈ useL dd j ↔ k < j ∧ ∃ x, dd k = .use x := by
  unfold useL
  rw [List.mem_filter, List.mem_range]
  cases h : dd k <;> simp [isUse]
theorem meant_some {j p : Nat} {x : Str} (h : meantAt dd n j x = some p) : p < j ∧ dd p = .put x ∧ cur dd p ∈ A dd n (cur dd j) := by
  unfold meantAt at h
  obtain ⟨s, hs, e⟩ := List.exists_of_findSome?_eq_some h
  have := List.mem_of_head? e
  obtain ⟨h1, h2, h3⟩ := putsB_mem.mp this
  exact ⟨h1, h2, by rw [h3]; exact hs⟩
theorem mem_meantL {j k p : Nat} : (k, p) ∈ meantL dd n j ↔ k < j ∧ ∃ x, dd k = .use x ∧ meantAt dd n k x = some p := by
  unfold meantL
  rw [List.mem_filterMap]
  constructor
  · rintro ⟨a, ha, e⟩
    obtain ⟨h1, x, h2⟩ := mem_useL.mp ha
    simp only [Option.map_eq_some_iff, Prod.mk.injEq] at e
    obtain ⟨q, e1, rfl, rfl⟩ := e
    rw [h2] at e1
    exact ⟨h1, x, h2, e1⟩
  · rintro ⟨h1, x, h2, h3⟩
    refine ⟨k, mem_useL.mpr ⟨h1, x, h2⟩, ?_⟩
    rw [h2]
    show (meantAt dd n k x).map _ = _
    rw [h3]; rfl
end
end FL
/-! MB: deeds as data; rules for comprehensions and loops. -/
namespace FL
open PySem PySem.Spec PyProof.Rows L2

def encD : Dd → D
  | .put x => .tup [.str "put", .str x]
  | .use x => .tup [.str "use", .str x]
  | .inn => .tup [.str "in"]
  | .out => .tup [.str "out"]
abbrev iN : Nat → D := fun k => .int (k : Int)
def optD : Option Nat → D
  | none => .non
  | some k => .int (k : Int)
def ddOf (ds : List Dd) : Nat → Dd := fun k => ds.getD k .inn

section
variable {D0 : DEnds} {Ex : DX} {env : DV} {st : SD} {P : DP} {PB : Bool → SD → Prop} {PL : List D → SD → Prop} {PE : DV → SD → Prop}
@[simp high] theorem v_gtup {n u l} : dgTup n u (.tup l) env st PE ↔ l.length = n ∧ u l env st PE := by simp
@[simp high] theorem v_gcons {t u d r} : dgCons t u (d :: r) env st PE ↔ t d env st fun env' st' => u r env' st' PE := ⟨fun ⟨_, _, e, h⟩ => by cases e; exact h, fun h => ⟨_, _, rfl, h⟩⟩
@[simp high] theorem v_gnil : dgNil [] env st PE ↔ PE env st := by simp
@[simp] theorem u_din {neg : Bool} {y : D} {j : Nat} : fDIn neg st y (.ref j) P ↔ ∃ l k, dctD st j = some l ∧ keyOf y = some k ∧ P (.bl ((getKD l k).isSome != neg)) st := by simp [fDIn]
@[simp] theorem u_dget {y : D} {j : Nat} : fDGet st (.ref j) y P ↔ ∃ l k d, dctD st j = some l ∧ keyOf y = some k ∧ getKD l k = some d ∧ P d st := by simp [fDGet]
@[simp high] theorem v_par {i j : Nat} {ta tb : TD} : dPar i j (dCons ta (dCons tb dNil)) D0 Ex env st = ta env st (fun d st1 => tb env st1 (fun e st2 => D0.nx ((env.set i (some d)).set j (some e)) st2) Ex) Ex := by
  have h : ∀ d e st2, (∃ d' e', [d, e] = [d', e'] ∧ D0.nx ((env.set i (some d')).set j (some e')) st2) = D0.nx ((env.set i (some d)).set j (some e)) st2 := fun d e st2 => propext ⟨fun ⟨_, _, z, q⟩ => by cases z; exact q, fun q => ⟨_, _, rfl, q⟩⟩
  show ta env st (fun d st1 => tb env st1 (fun e st2 => ∃ d' e', [d, e] = [d', e'] ∧ D0.nx ((env.set i (some d')).set j (some e')) st2) Ex) Ex = _
  simp only [h]
theorem bl_if {x : Bool} {p q : Prop} : (∃ b, D.bl x = .bl b ∧ if b = true then p else q) ↔ if x = true then p else q := by simp
end
/-! ### comprehensions, loops -/
section
variable {G : SD → Prop} {g : TDG} {tt : TDB} {te : TD} {env0 : DV} {fin : List FL.D → SD → Prop} {tb : TDS} {D0 : DEnds} {Ex : DX}
theorem comp_rule {α : Type} (enc : α → D) (c : α → Bool) (e : α → D) {st : SD} (hG : G st) : ∀ (l : List α) (ys : List D),
    (∀ a ∈ l, ∀ (Y : D → SD → Prop) (N : SD → Prop), (if c a = true then Y (e a) st else N st) → g (enc a) env0 st fun env1 st1 => tt env1 st1 (fun b st2 => if b = true then te env1 st2 Y noX else N st2) noX) →
    ys.length + l.length ≤ sizeLine → fin (ys ++ (l.filter c).map e) st → dComp G g tt te env0 fin (l.map enc) ys st
  | [], ys, _, _, hf => ⟨hG, by simpa using hf⟩
  | a :: l, ys, h, hz, hf => ⟨hG, h a (by simp) (fun y st3 => ys.length < sizeLine ∧ dComp G g tt te env0 fin (l.map enc) (ys ++ [y]) st3) (fun st2 => dComp G g tt te env0 fin (l.map enc) ys st2) (by
      have hz' : ys.length + l.length + 1 ≤ sizeLine := by simpa [Nat.add_assoc] using hz
      by_cases hc : c a = true
      · rw [if_pos hc]
        refine ⟨by omega, comp_rule enc c e hG l (ys ++ [e a]) (fun b hb => h b (by simp [hb])) (by simp; omega) ?_⟩
        rw [List.filter_cons_of_pos hc] at hf
        simpa using hf
      · rw [if_neg hc]
        refine comp_rule enc c e hG l ys (fun b hb => h b (by simp [hb])) (by omega) ?_
        rw [List.filter_cons_of_neg hc] at hf
        exact hf)⟩
theorem loop_list {α : Type} (enc : α → D) (I : List α → DV → SD → Prop)
    (hs : ∀ a r env st (K : DV → SD → Prop), I (a :: r) env st → (∀ env' st', I r env' st' → K env' st') → G st ∧ g (enc a) env st fun env1 st1 => tb { nx := K, rt := D0.rt, bk := D0.nx, ct := K } Ex env1 st1)
    (he : ∀ env st, I [] env st → G st ∧ D0.nx env st) : ∀ (l : List α) env st, I l env st → dLoop G g tb D0 Ex (l.map enc) env st
  | [], env, st, h => he env st h
  | a :: l, env, st, h => hs a l env st _ h (loop_list enc I hs he l)
theorem loop_range {n : Nat} (enc : Nat → D) (I : Nat → DV → SD → Prop)
    (hs : ∀ k env st (K : DV → SD → Prop), k < n → I k env st → (∀ env' st', I (k + 1) env' st' → K env' st') → G st ∧ g (enc k) env st fun env1 st1 => tb { nx := K, rt := D0.rt, bk := D0.nx, ct := K } Ex env1 st1)
    (he : ∀ env st, I n env st → G st ∧ D0.nx env st) {env : DV} {st : SD} (h : I 0 env st) : dLoop G g tb D0 Ex ((List.range n).map enc) env st := by
  rw [List.range_eq_range']
  refine loop_list enc (fun r env st => ∃ k, r = List.range' k (n - k) ∧ k ≤ n ∧ I k env st) ?_ ?_ _ env st ⟨0, by simp, Nat.zero_le _, h⟩
  · rintro a r env st K ⟨k, e, hk, hI⟩ hK
    have hk' : k < n := by
      rcases Nat.lt_or_ge k n with h | h
      · exact h
      · rw [show n - k = 0 by omega] at e; cases e
    rw [show n - k = (n - (k + 1)) + 1 by omega, List.range'_succ] at e
    cases e
    exact hs a env st K hk' hI fun env' st' h' => hK env' st' ⟨a + 1, rfl, hk', h'⟩
  · rintro env st ⟨k, e, hk, hI⟩
    have : k = n := by
      have := congrArg List.length e
      simp at this
      omega
    subst this
    exact he env st hI
end

section
variable {c : TDB} {tb : TDS} {D0 : DEnds} {Ex : DX}
theorem while_rule (I : Nat → DV → SD → Prop) {m : Nat} {env : DV} {st : SD} (h0 : I m env st)
    (hs : ∀ m env st (R : (DV → SD → Prop) → Prop), I m env st → (∀ N : DV → SD → Prop, (∀ env' st', N env' st' → ∃ n', n' < m ∧ I n' env' st') → R N) →
      c env st (fun b st1 => if b = true then ∃ N : DV → SD → Prop, R N ∧ tb { nx := N, rt := D0.rt, bk := D0.nx, ct := N } Ex env st1 else D0.nx env st1) Ex) : dWhile c tb D0 Ex env st :=
  ⟨I, ⟨m, h0⟩, fun m env st h => hs m env st _ h fun _ h => h⟩
end
/-! ### rows of deeds -/
theorem map_range {α β : Type} (f : α → β) (d : α) (l : List α) : l.map f = (List.range l.length).map fun k => f (l.getD k d) := by
  apply List.ext_getElem?
  intro i
  rw [List.getElem?_map, List.getElem?_map]
  by_cases h : i < l.length
  · rw [List.getElem?_eq_getElem h, List.getElem?_range h]
    simp [List.getD_eq_getElem?_getD, List.getElem?_eq_getElem h]
  · rw [List.getElem?_eq_none (by omega), List.getElem?_eq_none (by simp; omega)]
    rfl
theorem deeds_range (ds : List Dd) : ds.map encD = (List.range ds.length).map fun k => encD (ddOf ds k) := map_range encD .inn ds
theorem enum_range (ds : List Dd) : enumD (ds.map encD) = (List.range ds.length).map fun k => .tup [.int (k : Nat), encD (ddOf ds k)] := by
  unfold enumD
  rw [List.length_map, deeds_range, List.zipWith_map_right]
  apply List.ext_getElem?
  intro i
  simp only [List.getElem?_zipWith, List.getElem?_map]
  by_cases h : i < ds.length
  · rw [List.getElem?_range h]; rfl
  · rw [List.getElem?_eq_none (by simp; omega)]; rfl
/-! ### texts of the program -/
@[simp] theorem ok_0 : PyData.strOk ("put" : Str) = true := by decide +kernel
@[simp] theorem ok_1 : PyData.strOk ("use" : Str) = true := by decide +kernel
@[simp] theorem ok_2 : PyData.strOk ("in" : Str) = true := by decide +kernel
@[simp] theorem ok_3 : PyData.strOk ("out" : Str) = true := by decide +kernel
@[simp] theorem ok_4 : PyData.strOk ("{" : Str) = true := by decide +kernel
@[simp] theorem ok_5 : PyData.strOk ("}" : Str) = true := by decide +kernel
@[simp] theorem ok_6 : PyData.strOk ("+" : Str) = true := by decide +kernel
@[simp] theorem ok_7 : PyData.strOk ("" : Str) = true := by decide +kernel
@[simp] theorem ok_8 : PyData.strOk ("a" : Str) = true := by decide +kernel
@[simp] theorem ok_9 : PyData.strOk ("b" : Str) = true := by decide +kernel
@[simp] theorem ok_10 : PyData.strOk ("c" : Str) = true := by decide +kernel
@[simp] theorem ok_11 : PyData.strOk ("z" : Str) = true := by decide +kernel
@[simp] theorem ok_12 : PyData.strOk ("_" : Str) = true := by decide +kernel
@[simp] theorem ok_13 : PyData.strOk (" " : Str) = true := by decide +kernel
@[simp] theorem ok_14 : PyData.strOk ("ScopeError" : Str) = true := by decide +kernel
@[simp] theorem ne_0 : (("put" : Str) = "use") = False := by simp only [eq_iff_iff, iff_false]; decide
@[simp] theorem ne_1 : (("put" : Str) = "in") = False := by simp only [eq_iff_iff, iff_false]; decide
@[simp] theorem ne_2 : (("put" : Str) = "out") = False := by simp only [eq_iff_iff, iff_false]; decide
@[simp] theorem ne_3 : (("use" : Str) = "put") = False := by simp only [eq_iff_iff, iff_false]; decide
@[simp] theorem ne_4 : (("use" : Str) = "in") = False := by simp only [eq_iff_iff, iff_false]; decide
@[simp] theorem ne_5 : (("use" : Str) = "out") = False := by simp only [eq_iff_iff, iff_false]; decide
@[simp] theorem ne_6 : (("in" : Str) = "put") = False := by simp only [eq_iff_iff, iff_false]; decide
@[simp] theorem ne_7 : (("in" : Str) = "use") = False := by simp only [eq_iff_iff, iff_false]; decide
@[simp] theorem ne_8 : (("in" : Str) = "out") = False := by simp only [eq_iff_iff, iff_false]; decide
@[simp] theorem ne_9 : (("out" : Str) = "put") = False := by simp only [eq_iff_iff, iff_false]; decide
@[simp] theorem ne_10 : (("out" : Str) = "use") = False := by simp only [eq_iff_iff, iff_false]; decide
@[simp] theorem ne_11 : (("out" : Str) = "in") = False := by simp only [eq_iff_iff, iff_false]; decide
@[simp] theorem at_0 {α : Type} {a : α} {l : List α} : atI (a :: l) 0 = some a := by simp [atI, ixN]
@[simp] theorem at_1 {α : Type} {a b : α} {l : List α} : atI (a :: b :: l) 1 = some b := by
  unfold atI ixN
  rw [if_pos (by omega), if_pos (by simp only [List.length_cons]; omega)]
  rfl
@[simp] theorem at_m1 {α : Type} {a : α} : atI [a] (-1) = some a := rfl
@[simp] theorem at_m2 {α : Type} {a b : α} : atI [a, b] (-1) = some b := rfl
@[simp] theorem u_rev4 {st : SD} {j : Nat} {P : DP} : fRev (.ref j) st P ↔ ∃ l, st[j]? = some (.lst l) ∧ P (.lst l.reverse) st := Iff.rfl
theorem at_last {α : Type} {a : α} {l : List α} : atI (l ++ [a]) (-1) = some a := by
  unfold atI ixN
  rw [if_neg (by omega), if_pos (by simp only [List.length_append, List.length_singleton]; omega)]
  have : ((-1 : Int) + ((l ++ [a]).length : Nat)).toNat = l.length := by simp only [List.length_append, List.length_singleton]; omega
  rw [this]
  simp
theorem at_nat {α : Type} {a : α} {l : List α} {k : Nat} (h : l[k]? = some a) : atI l (k : Int) = some a := by
  obtain ⟨hk, _⟩ := List.getElem?_eq_some_iff.mp h
  unfold atI ixN
  rw [if_pos (by omega), if_pos (by omega)]
  simpa using h
@[simp] theorem v_ixT {st : SD} {l : List D} {i : Int} {P : DP} : fIx st (.tup l) (.int i) P ↔ ∃ d, atI l i = some d ∧ P d st := by simp
@[simp] theorem v_ixL {st : SD} {l : List D} {i : Int} {P : DP} : fIx st (.lst l) (.int i) P ↔ ∃ d, atI l i = some d ∧ P d st := by simp
@[simp] theorem sz_1 : (1 ≤ sizeLine) = True := by simp only [eq_iff_iff, iff_true]; decide
@[simp] theorem sz_2 : (2 ≤ sizeLine) = True := by simp only [eq_iff_iff, iff_true]; decide
@[simp] theorem sz_3 : (3 ≤ sizeLine) = True := by simp only [eq_iff_iff, iff_true]; decide
@[simp] theorem sz_4 : (4 ≤ sizeLine) = True := by simp only [eq_iff_iff, iff_true]; decide
@[simp] theorem sz_5 : (5 ≤ sizeLine) = True := by simp only [eq_iff_iff, iff_true]; decide
@[simp] theorem sz_6 : (6 ≤ sizeLine) = True := by simp only [eq_iff_iff, iff_true]; decide
@[simp] theorem sz_7 : (7 ≤ sizeLine) = True := by simp only [eq_iff_iff, iff_true]; decide
@[simp] theorem sz_8 : (8 ≤ sizeLine) = True := by simp only [eq_iff_iff, iff_true]; decide
@[simp] theorem sz_9 : (9 ≤ sizeLine) = True := by simp only [eq_iff_iff, iff_true]; decide
@[simp] theorem sz_10 : (10 ≤ sizeLine) = True := by simp only [eq_iff_iff, iff_true]; decide
@[simp] theorem sz_11 : (11 ≤ sizeLine) = True := by simp only [eq_iff_iff, iff_true]; decide
@[simp] theorem sz_12 : (12 ≤ sizeLine) = True := by simp only [eq_iff_iff, iff_true]; decide
@[simp] theorem sz_13 : (13 ≤ sizeLine) = True := by simp only [eq_iff_iff, iff_true]; decide
@[simp] theorem sz_14 : (14 ≤ sizeLine) = True := by simp only [eq_iff_iff, iff_true]; decide
@[simp] theorem sz_15 : (15 ≤ sizeLine) = True := by simp only [eq_iff_iff, iff_true]; decide
@[simp] theorem sz_16 : (16 ≤ sizeLine) = True := by simp only [eq_iff_iff, iff_true]; decide
theorem at_deeds {ds : List Dd} {k : Nat} (h : k < ds.length) : atI (ds.map encD) (k : Int) = some (encD (ddOf ds k)) := by
  refine at_nat ?_
  rw [deeds_range, List.getElem?_map, List.getElem?_range h]
  rfl
theorem cut_to {ds : List Dd} {k : Nat} (h : k ≤ ds.length) : cutD (ds.map encD) none (some (k : Int)) = (List.range k).map fun i => encD (ddOf ds i) := by
  unfold cutD
  rw [HT.sIx_nat]
  simp only [HT.sIx_none, List.drop_zero, Nat.sub_zero, List.length_map]
  rw [Nat.min_eq_left h, deeds_range, ← List.map_take]
  congr 1
  rw [List.take_range, Nat.min_eq_left h]
end FL
/-! MC: the object of scopes; its methods. -/
namespace FL
open PySem PySem.Spec PyProof.Rows L2

structure Ob where
  j : Nat
  m : Nat
  l : Nat
  o : Nat
  s : Nat
abbrev mL (ds : List Dd) := meantL (ddOf ds) ds.length ds.length
abbrev pL (ds : List Dd) := putL (ddOf ds) ds.length
abbrev uL (ds : List Dd) := useL (ddOf ds) ds.length
def meantE (ds : List Dd) : List (Key × D) := (mL ds).map fun p => (.inl (p.1 : Int), iN p.2)
def ownE (ds : List Dd) : List (Key × D) := (pL ds).map fun k => (.inl ((k : Nat) : Int), iN (cur (ddOf ds) k))
def lostE (ds : List Dd) : List D := (lostL (ddOf ds) ds.length ds.length).map iN
def scE (ds : List Dd) : List D := (List.range (nsc (ddOf ds) ds.length)).map fun s => .tup [.int (par (ddOf ds) ds.length s), .int (J (ddOf ds) ds.length s)]
def fsOf (b : Ob) (ds : List Dd) : List (Str × D) := [("deeds", .tup (ds.map encD)), ("meant", .ref b.m), ("lost", .ref b.l), ("owners", .ref b.o), ("scopes", .ref b.s)]
section
variable {b : Ob} {ds : List Dd}
@[simp] theorem lk_deeds : List.lookup ("deeds" : Str) (fsOf b ds) = some (.tup (ds.map encD)) := rfl
@[simp] theorem lk_meant : List.lookup ("meant" : Str) (fsOf b ds) = some (.ref b.m) := rfl
@[simp] theorem lk_lost : List.lookup ("lost" : Str) (fsOf b ds) = some (.ref b.l) := rfl
@[simp] theorem lk_owners : List.lookup ("owners" : Str) (fsOf b ds) = some (.ref b.o) := rfl
@[simp] theorem lk_scopes : List.lookup ("scopes" : Str) (fsOf b ds) = some (.ref b.s) := rfl
@[simp] theorem lk_uses_of : List.lookup ("uses_of" : Str) (fsOf b ds) = none := rfl
@[simp] theorem lk_unused : List.lookup ("unused" : Str) (fsOf b ds) = none := rfl
@[simp] theorem lk_shadowed : List.lookup ("shadowed" : Str) (fsOf b ds) = none := rfl
@[simp] theorem lk_puts_of : List.lookup ("puts_of" : Str) (fsOf b ds) = none := rfl
@[simp] theorem lk_told_late : List.lookup ("told_late" : Str) (fsOf b ds) = none := rfl
@[simp] theorem lk_scope_at : List.lookup ("scope_at" : Str) (fsOf b ds) = none := rfl
@[simp] theorem lk_seen_at : List.lookup ("seen_at" : Str) (fsOf b ds) = none := rfl
@[simp] theorem lk_each_its_own : List.lookup ("each_its_own" : Str) (fsOf b ds) = none := rfl
@[simp] theorem lk_by_steps_out : List.lookup ("by_steps_out" : Str) (fsOf b ds) = none := rfl
@[simp] theorem lk_taken_in : List.lookup ("taken_in" : Str) (fsOf b ds) = none := rfl
@[simp] theorem lk_is_within : List.lookup ("is_within" : Str) (fsOf b ds) = none := rfl
@[simp] theorem lk_may_be_renamed : List.lookup ("may_be_renamed" : Str) (fsOf b ds) = none := rfl
end
/-- the object of scopes stands in the store -/
structure ScAt (C : Addr) (st : SD) (b : Ob) (ds : List Dd) : Prop where
  ins : st[b.j]? = some (.ins C (fsOf b ds))
  m : st[b.m]? = some (.dctR (meantE ds))
  l : st[b.l]? = some (.lst (lostE ds))
  o : st[b.o]? = some (.dctR (ownE ds))
  s : st[b.s]? = some (.lst (scE ds))
  v : Valid (ddOf ds) ds.length
  z : ds.length ≤ 1000
  nk : ∀ k, PyData.strOk (nm (ddOf ds k)) = true
def usesOf (ds : List Dd) (p : Nat) : List Nat := ((mL ds).filter fun q => decide (q.2 = p)).map (·.1)

theorem find_map {α : Type} (f : α → Key × D) (l : List α) (k : Key) (a : α) (ha : a ∈ l) (hk : (f a).1 = k) (hu : ∀ b ∈ l, (f b).1 = k → (f b).2 = (f a).2) : getKD (l.map f) k = some (f a).2 := by
  unfold getKD
  rw [List.find?_map]
  cases h : l.find? ((fun p => decide (p.1 = k)) ∘ f) with
  | none =>
    have := List.find?_eq_none.mp h a ha
    simp [hk] at this
  | some b =>
    have h1 := List.mem_of_find?_eq_some h
    have h2 := List.find?_some h
    simp at h2
    simp [hu b h1 h2]
theorem find_none {α : Type} (f : α → Key × D) (l : List α) (k : Key) (hu : ∀ b ∈ l, (f b).1 ≠ k) : getKD (l.map f) k = none := by
  unfold getKD
  rw [List.find?_map]
  cases h : l.find? ((fun p => decide (p.1 = k)) ∘ f) with
  | none => rfl
  | some b =>
    have h1 := List.mem_of_find?_eq_some h
    have h2 := List.find?_some h
    simp at h2
    exact (hu b h1 h2).elim
theorem own_get {ds : List Dd} {p : Nat} (h : p ∈ pL ds) : getKD (ownE ds) (.inl (p : Int)) = some (iN (cur (ddOf ds) p)) :=
  find_map (fun k : Nat => ((.inl (k : Int), iN (cur (ddOf ds) k)) : Key × D)) _ _ p h rfl fun b _ e => by
    have : b = p := by have := Sum.inl.inj e; omega
    rw [this]
theorem own_none {ds : List Dd} {p : Nat} (h : p ∉ pL ds) : getKD (ownE ds) (.inl (p : Int)) = none :=
  find_none (fun k : Nat => ((.inl (k : Int), iN (cur (ddOf ds) k)) : Key × D)) _ _ fun b hb e => by
    have : b = p := by have := Sum.inl.inj e; omega
    exact h (this ▸ hb)
theorem own_iff {ds : List Dd} {p : Nat} : (getKD (ownE ds) (.inl (p : Int))).isSome = decide (p ∈ pL ds) := by
  by_cases h : p ∈ pL ds
  · simp [own_get h, h]
  · simp [own_none h, h]
theorem own_items {ds : List Dd} : (ownE ds).map (fun p => D.tup [keyD p.1, p.2]) = (pL ds).map fun k => .tup [iN k, iN (cur (ddOf ds) k)] := by simp [ownE]
theorem own_keys {ds : List Dd} : (ownE ds).map (fun p => keyD p.1) = (pL ds).map iN := by simp [ownE]
theorem mt_items {ds : List Dd} : (meantE ds).map (fun p => D.tup [keyD p.1, p.2]) = (mL ds).map fun q => .tup [iN q.1, iN q.2] := by simp [meantE]
theorem mL_fst {ds : List Dd} {a b : Nat × Nat} (ha : a ∈ mL ds) (hb : b ∈ mL ds) (e : a.1 = b.1) : a = b := by
  obtain ⟨_, x, h1, h2⟩ := mem_meantL.mp ha
  obtain ⟨_, y, h3, h4⟩ := mem_meantL.mp hb
  rw [e] at h1 h2
  rw [h3] at h1
  cases h1
  rw [h4] at h2
  exact Prod.ext e (by simpa using h2.symm)
theorem mt_get {ds : List Dd} {q : Nat × Nat} (h : q ∈ mL ds) : getKD (meantE ds) (.inl (q.1 : Int)) = some (iN q.2) :=
  find_map (fun p : Nat × Nat => ((.inl (p.1 : Int), iN p.2) : Key × D)) _ _ q h rfl fun b hb e => by
    have : b.1 = q.1 := by have := Sum.inl.inj e; omega
    rw [mL_fst hb h this]
theorem mt_none {ds : List Dd} {k : Nat} (h : ∀ p, (k, p) ∉ mL ds) : getKD (meantE ds) (.inl (k : Int)) = none :=
  find_none (fun p : Nat × Nat => ((.inl (p.1 : Int), iN p.2) : Key × D)) _ _ fun b hb e => by
    have : b.1 = k := by have := Sum.inl.inj e; omega
    exact h b.2 (by rw [← this]; exact hb)
theorem mem_pL {ds : List Dd} {k : Nat} : k ∈ pL ds ↔ k < ds.length ∧ ∃ x, ddOf ds k = .put x := mem_putL
theorem mem_mL {ds : List Dd} {k p : Nat} : (k, p) ∈ mL ds ↔ k < ds.length ∧ ∃ x, ddOf ds k = .use x ∧ meantAt (ddOf ds) ds.length k x = some p := mem_meantL
theorem mL_put {ds : List Dd} {q : Nat × Nat} (h : q ∈ mL ds) : q.2 ∈ pL ds ∧ q.1 < ds.length ∧ q.2 < q.1 := by
  obtain ⟨h1, x, h2, h3⟩ := mem_mL.mp h
  obtain ⟨g1, g2, _⟩ := meant_some h3
  exact ⟨mem_pL.mpr ⟨by omega, x, g2⟩, h1, g1⟩
theorem pL_len {ds : List Dd} : (pL ds).length ≤ ds.length := by
  have := List.length_filter_le (fun k => isPut (ddOf ds k)) (List.range ds.length)
  rw [List.length_range] at this
  exact this
theorem uL_len {ds : List Dd} : (uL ds).length ≤ ds.length := by
  have := List.length_filter_le (fun k => isUse (ddOf ds k)) (List.range ds.length)
  rw [List.length_range] at this
  exact this
theorem mL_len {ds : List Dd} : (mL ds).length ≤ ds.length := Nat.le_trans (List.length_filterMap_le _ _) uL_len
theorem sz {n : Nat} (h : n ≤ 1000) : n ≤ sizeLine := Nat.le_trans h (by decide)

theorem plainL_iN {n : Nat} : ∀ l : List Nat, plainL n (l.map iN) = true
  | [] => rfl
  | a :: l => by simp [plainL, plainD, plainL_iN l]
section
variable {C CS : Addr} {st : SD} {b : Ob} {ds : List Dd} {P : DP} {Ex : DX}
theorem ScAt.dm (h : ScAt C st b ds) : dctD st b.m = some (meantE ds) := dctR_ref h.m
theorem ScAt.dw (h : ScAt C st b ds) : dctD st b.o = some (ownE ds) := dctR_ref h.o
theorem get_app {α : Type} {l r : List α} {i : Nat} {x : α} (h : l[i]? = some x) : (l ++ r)[i]? = some x := by
  obtain ⟨hi, _⟩ := List.getElem?_eq_some_iff.mp h
  rw [List.getElem?_append_left hi, h]
theorem get_set {α : Type} {l : List α} {i k : Nat} {x y : α} (h : l[i]? = some x) (hk : k ≠ i) : (l.set k y)[i]? = some x := by rw [List.getElem?_set_ne hk, h]
theorem ScAt.app (h : ScAt C st b ds) (r : SD) : ScAt C (st ++ r) b ds := ⟨get_app h.ins, get_app h.m, get_app h.l, get_app h.o, get_app h.s, h.v, h.z, h.nk⟩

theorem F_uses_of_ok (h : ScAt C st b ds) {p : Nat} (hp : p ∈ pL ds) (hP : P (.tup ((usesOf ds p).map iN)) st) : F_uses_of C CS [.ref b.j, .int p] st P Ex := by
  unfold F_uses_of t_uses_of
  simp [-Bool.exists_bool, -List.lookup_eq_none_iff, -u_gtup, -u_gcons, -u_gnil, -u_par, dStart, dwipe, h.ins, h.dw, own_get hp]
  refine ⟨_, _, h.m, rfl, _, h.m, ?_⟩
  rw [mt_items]
  refine comp_rule (fun q : Nat × Nat => D.tup [iN q.1, iN q.2]) (fun q => decide (q.2 = p)) (fun q => iN q.1) trivial _ _ (fun q hq Y N hY => ?_) (by simpa using sz (Nat.le_trans mL_len h.z)) ?_
  · simpa [-Bool.exists_bool, Int.natCast_inj] using hY
  · exact ⟨h.m, by simpa [usesOf, Function.comp_def] using hP⟩
theorem F_uses_of_err (h : ScAt C st b ds) {p : Nat} (hp : p ∉ pL ds) (hP : Ex CS st) : F_uses_of C CS [.ref b.j, .int p] st P Ex := by
  unfold F_uses_of t_uses_of
  simp [-Bool.exists_bool, -List.lookup_eq_none_iff, -u_gtup, -u_gcons, -u_gnil, -u_par, dStart, dwipe, h.ins, h.dw, own_none hp]
  exact hP
def unusedOf (ds : List Dd) : List Nat := (pL ds).filter fun p => (usesOf ds p).isEmpty
theorem F_unused_ok (h : ScAt C st b ds) (hP : P (.tup ((unusedOf ds).map iN)) st) : F_unused C CS [.ref b.j] st P Ex := by
  unfold F_unused t_unused
  simp [-Bool.exists_bool, -List.lookup_eq_none_iff, -u_gtup, -u_gcons, -u_gnil, -u_par, dStart, dwipe, h.ins, h.dw]
  refine ⟨_, _, h.o, rfl, _, h.o, ?_⟩
  rw [own_keys]
  refine comp_rule iN (fun p => (usesOf ds p).isEmpty) iN trivial _ _ (fun p hp Y N hY => ?_) (by simpa using sz (Nat.le_trans pL_len h.z)) ?_
  · simp [-Bool.exists_bool, -List.lookup_eq_none_iff, -u_gtup, -u_gcons, -u_gnil, -u_par, dStart, dwipe, h.ins]
    refine F_uses_of_ok h hp ?_
    simpa [-Bool.exists_bool, plainL, plainL_iN, cb_eq] using hY
  · exact ⟨h.o, by simpa [unusedOf] using hP⟩
theorem puts_filter {x : Str} {s : Nat} : (pL ds).filter (fun k => decide (cur (ddOf ds) k = s ∧ nm (ddOf ds k) = x)) = putsB (ddOf ds) s x ds.length := by
  unfold pL putL putsB
  rw [List.filter_filter]
  refine List.filter_congr fun k _ => ?_
  cases h : ddOf ds k <;> simp [isPut, nm, and_comm]
theorem sc_at {s : Nat} (hs : s < nsc (ddOf ds) ds.length) : atI (scE ds) (s : Int) = some (.tup [.int (par (ddOf ds) ds.length s), .int (J (ddOf ds) ds.length s)]) := by
  refine at_nat ?_
  unfold scE
  rw [List.getElem?_map, List.getElem?_range hs]
  rfl
theorem F_puts_of_ok (h : ScAt C st b ds) {x : Str} {s : Nat} (hx : PyData.strOk x = true) (hP : P (.lst ((putsB (ddOf ds) s x ds.length).map iN)) st) : F_puts_of C CS [.ref b.j, .int s, .str x] st P Ex := by
  unfold F_puts_of t_puts_of
  simp [-Bool.exists_bool, -List.lookup_eq_none_iff, -u_gtup, -u_gcons, -u_gnil, -u_par, dStart, dwipe, h.ins]
  refine ⟨_, _, h.o, rfl, _, h.o, ?_⟩
  rw [own_items]
  refine comp_rule (fun k : Nat => D.tup [iN k, iN (cur (ddOf ds) k)]) (fun k => decide (cur (ddOf ds) k = s ∧ nm (ddOf ds k) = x)) iN trivial _ _ (fun k hk Y N hY => ?_) (by simpa using sz (Nat.le_trans pL_len h.z)) ?_
  · obtain ⟨h1, y, h2⟩ := mem_pL.mp hk
    have hy := h.nk k
    rw [h2] at hY hy
    simp [-Bool.exists_bool, -List.lookup_eq_none_iff, -u_gtup, -u_gcons, -u_gnil, -u_par, dStart, dwipe, h.ins, Int.natCast_inj]
    split
    · rename_i e
      simp [-Bool.exists_bool, -List.lookup_eq_none_iff, -u_gtup, -u_gcons, -u_gnil, -u_par, dStart, dwipe, at_deeds h1, h2, encD, hx, show PyData.strOk y = true from hy]
      simpa [e, nm] using hY
    · rename_i e
      simpa [e] using hY
  · exact ⟨h.o, by simpa only [puts_filter, List.nil_append] using hP⟩
theorem F_scope_at_ok (h : ScAt C st b ds) {k : Nat} (hk : k < ds.length) (hP : P (iN (cur (ddOf ds) k)) st) : F_scope_at C CS [.ref b.j, .int k] st P Ex := by
  unfold F_scope_at t_scope_at
  simp [-Bool.exists_bool, -List.lookup_eq_none_iff, -u_gtup, -u_gcons, -u_gnil, -u_par, dStart, dwipe, h.ins, show (0 : Int) ≤ k by omega, show (k : Int) < ds.length by omega, fSl, cut_to (Nat.le_of_lt hk)]
  refine loop_range (fun i => encD (ddOf ds i)) (fun i env st' => st' = st ∧ ∃ x, env = [some (.ref b.j), some (.int k), some (iN (cur (ddOf ds) i)), some (.int ((nsc (ddOf ds) i : Nat) - 1)), x]) ?_ ?_ ?_
  · rintro i env st' K hi ⟨rfl, x, rfl⟩ hK
    have hi' : i < ds.length := by omega
    cases e : ddOf ds i with
    | put y =>
      simp [-Bool.exists_bool, -List.lookup_eq_none_iff, -u_gtup, -u_gcons, -u_gnil, -u_par, dStart, dwipe, encD]
      exact hK _ _ ⟨rfl, _, by rw [cur_put e, nsc_put e]⟩
    | use y =>
      simp [-Bool.exists_bool, -List.lookup_eq_none_iff, -u_gtup, -u_gcons, -u_gnil, -u_par, dStart, dwipe, encD]
      exact hK _ _ ⟨rfl, _, by rw [cur_use e, nsc_use e]⟩
    | inn =>
      simp [-Bool.exists_bool, -List.lookup_eq_none_iff, -u_gtup, -u_gcons, -u_gnil, -u_par, dStart, dwipe, encD]
      exact hK _ _ ⟨rfl, _, by rw [cur_inn e, nsc_inn e, show (((nsc (ddOf ds) i + 1 : Nat) : Int) - 1) = ((nsc (ddOf ds) i : Nat) : Int) by omega]⟩
    | out =>
      simp [-Bool.exists_bool, -List.lookup_eq_none_iff, -u_gtup, -u_gcons, -u_gnil, -u_par, dStart, dwipe, encD, h.ins, seq_ref h.s, sc_at (cur_lt' (Nat.le_of_lt hi'))]
      have g := h.v.1 i hi'
      unfold Good at g
      rw [e] at g
      have ea := cur_out (n := ds.length) hi' e g
      obtain ⟨t, et⟩ := A_hd (dd := ddOf ds) (n := ds.length) (cur_lt' (show i + 1 ≤ ds.length from hi'))
      have : par (ddOf ds) ds.length (cur (ddOf ds) i) = (cur (ddOf ds) (i + 1) : Nat) := by unfold par; rw [ea, et]; rfl
      exact hK _ _ ⟨rfl, _, by rw [nsc_out e, this]⟩
  · rintro env st' ⟨rfl, x, rfl⟩
    simp [-Bool.exists_bool, -List.lookup_eq_none_iff, -u_gtup, -u_gcons, -u_gnil, -u_par, dStart, dwipe]
    exact hP
  · exact ⟨rfl, _, rfl⟩
theorem F_scope_at_err (h : ScAt C st b ds) {k : Int} (hk : ¬ (0 ≤ k ∧ k < ds.length)) (hP : Ex CS st) : F_scope_at C CS [.ref b.j, .int k] st P Ex := by
  unfold F_scope_at t_scope_at
  simp [-Bool.exists_bool, -List.lookup_eq_none_iff, -u_gtup, -u_gcons, -u_gnil, -u_par, dStart, dwipe, h.ins]
  split
  · split
    · rename_i h1 h2
      exact (hk ⟨h1, h2⟩).elim
    · exact hP
  · exact hP
theorem F_is_within_ok (h : ScAt C st b ds) {s o : Nat} (hs : s < nsc (ddOf ds) ds.length) (hP : P (.bl (decide (o ∈ A (ddOf ds) ds.length s))) st) : F_is_within C CS [.ref b.j, .int s, .int o] st P Ex := by
  unfold F_is_within t_is_within
  simp [-Bool.exists_bool, -List.lookup_eq_none_iff, -u_gtup, -u_gcons, -u_gnil, -u_par, dStart, dwipe, h.ins]
  obtain ⟨t, et⟩ := A_hd (dd := ddOf ds) (n := ds.length) hs
  refine ⟨fun m env st' => st' = st ∧ ∃ l, l.length = m ∧ Ch (ddOf ds) ds.length l ∧ env = [some (.ref b.j), some (.int (hd l)), some (.int o)] ∧ (o ∈ l ↔ o ∈ A (ddOf ds) ds.length s), ⟨_, rfl, _, rfl, .inr ⟨s, hs, rfl⟩, by rw [et]; rfl, Iff.rfl⟩, ?_⟩
  rintro m env st' ⟨rfl, l, rfl, hc, rfl, ho⟩
  cases l with
  | nil =>
    simp [-Bool.exists_bool, -List.lookup_eq_none_iff, -u_gtup, -u_gcons, -u_gnil, -u_par, dStart, dwipe, hd]
    have : o ∉ A (ddOf ds) ds.length s := fun z => by have := ho.mpr z; cases this
    simpa [this] using hP
  | cons a r =>
    obtain ⟨ha, ea, hr, hp⟩ := hc.tl
    simp [-Bool.exists_bool, -List.lookup_eq_none_iff, -u_gtup, -u_gcons, -u_gnil, -u_par, dStart, dwipe, hd, show (0 : Int) ≤ a by omega, h.ins, seq_ref h.s, sc_at ha, hp, Int.natCast_inj]
    refine ⟨fun env' st'' => st'' = st' ∧ a ≠ o ∧ env' = [some (.ref b.j), some (.int (hd r)), some (.int o)], fun env' st'' ⟨e1, e2, e3⟩ => ⟨r.length, by simp, e1, r, rfl, hr, e3, ?_⟩, ?_⟩
    · rw [← ho]
      simp [Ne.symm e2]
    · split
      · rename_i e
        have : o ∈ A (ddOf ds) ds.length s := ho.mp (by simp [e])
        simpa [this] using hP
      · rename_i e
        exact ⟨rfl, e, rfl⟩
end
end FL
/-! MD: more methods of Scopes: shadowed, told_late, seen_at. -/
namespace FL
open PySem PySem.Spec PyProof.Rows L2

@[simp] theorem set_last {α : Type} {l : List α} {x y : α} : (l ++ [x]).set l.length y = l ++ [y] := by simp
theorem set_at1 {α : Type} {l r : List α} {i : Nat} {y : α} (h : i < l.length) : (l ++ r).set i y = l.set i y ++ r := by rw [List.set_append_left _ _ h]
theorem at_map_last {L : List Nat} {p : Nat} (h : L.getLast? = some p) : atI (L.map iN) (-1) = some (iN p) := by
  obtain ⟨ys, rfl⟩ := List.getLast?_eq_some_iff.mp h
  rw [List.map_append]
  exact at_last
abbrev encP (q : Nat × Nat) : D := .tup [iN q.1, iN q.2]
def shadOne (ds : List Dd) (k : Nat) : Option Nat := (A (ddOf ds) ds.length (cur (ddOf ds) k)).tail.findSome? fun s => (putsB (ddOf ds) s (nm (ddOf ds k)) k).getLast?
def shadL (ds : List Dd) (l : List Nat) : List (Nat × Nat) := l.filterMap fun k => (shadOne ds k).map fun p => (p, k)
theorem shadL_app {ds : List Dd} {l : List Nat} {k : Nat} : shadL ds (l ++ [k]) = shadL ds l ++ match shadOne ds k with
    | some p => [(p, k)]
    | none => [] := by
  unfold shadL
  rw [List.filterMap_append]
  congr 1
  cases h : shadOne ds k <;> simp [h]
theorem Ch.tail {dd : Nat → Dd} {n s : Nat} (hs : s < nsc dd n) : Ch dd n (A dd n s).tail := by
  obtain ⟨t, e⟩ := A_hd hs
  have := Ch.tl (dd := dd) (n := n) (s := s) (r := t) (.inr ⟨s, hs, e.symm⟩)
  rw [e]; exact this.2.2.1
section
variable {C CS : Addr} {st : SD} {b : Ob} {ds : List Dd} {P : DP} {Ex : DX}
theorem mine_lt {s : Nat} {x : Str} {k : Nat} (hk : k ≤ ds.length) : (putsB (ddOf ds) s x ds.length).filter (fun i => decide (i < k)) = putsB (ddOf ds) s x k := putsB_lt hk
theorem putsB_len {s : Nat} {x : Str} {k : Nat} : (putsB (ddOf ds) s x k).length ≤ k := by
  have := List.length_filter_le (fun i => decide (ddOf ds i = .put x ∧ cur (ddOf ds) i = s)) (List.range k)
  rw [List.length_range] at this
  exact this
theorem F_shadowed_ok (h : ScAt C st b ds) (hP : ∀ r, P (.tup ((shadL ds (pL ds)).map encP)) (st ++ r)) : F_shadowed C CS [.ref b.j] st P Ex := by
  unfold F_shadowed t_shadowed
  simp [-Bool.exists_bool, -List.lookup_eq_none_iff, -u_gtup, -u_gcons, -u_gnil, -u_par, dStart, dwipe, h.ins]
  have h0 := h.app [DO.lst []]
  refine ⟨_, _, h0.o, _, h0.ins, _, lk_owners, rfl, _, h0.o, ?_⟩
  rw [own_items]
  refine loop_list (fun k => D.tup [iN k, iN (cur (ddOf ds) k)]) (fun rest env st' => ∃ done x2 x3 x4 x5 x6 x7, done ++ rest = pL ds ∧ st' = st ++ [.lst ((shadL ds done).map encP)] ∧ env = [some (.ref b.j), some (.ref st.length), x2, x3, x4, x5, x6, x7]) ?_ ?_ _ _ _ ⟨[], _, _, _, _, _, _, rfl, rfl, rfl⟩
  · rintro k rest env st' K ⟨done, x2, x3, x4, x5, x6, x7, hd', rfl, rfl⟩ hK
    have h' := h.app [.lst ((shadL ds done).map encP)]
    have hkp : k ∈ pL ds := by rw [← hd']; simp
    obtain ⟨hk, x, ex⟩ := mem_pL.mp hkp
    have hx : PyData.strOk x = true := by have := h.nk k; rw [ex] at this; exact this
    have hc := cur_lt' (dd := ddOf ds) (n := ds.length) (Nat.le_of_lt hk)
    simp [-Bool.exists_bool, -List.lookup_eq_none_iff, -u_gtup, -u_gcons, -u_gnil, -u_par, dStart, dwipe, h'.ins, at_deeds hk, ex, encD, seq_ref h'.s, sc_at hc]
    refine while_rule (fun m env st' => st' = st ++ [.lst ((shadL ds done).map encP)] ∧ ∃ l y6 y7, l.length = m ∧ Ch (ddOf ds) ds.length l ∧ env = [some (.ref b.j), some (.ref st.length), some (iN k), some (iN (cur (ddOf ds) k)), some (.str x), some (.int (hd l)), y6, y7] ∧ l.findSome? (fun s => (putsB (ddOf ds) s x k).getLast?) = shadOne ds k) (m := (A (ddOf ds) ds.length (cur (ddOf ds) k)).tail.length) ?_ ?_
    · exact ⟨rfl, _, _, _, rfl, Ch.tail hc, rfl, by unfold shadOne; rw [ex]; rfl⟩
    rintro m env st' R ⟨rfl, l, y6, y7, rfl, hch, rfl, hfs⟩ hR
    cases l with
    | nil =>
      simp [-Bool.exists_bool, -List.lookup_eq_none_iff, -u_gtup, -u_gcons, -u_gnil, -u_par, dStart, dwipe, hd]
      refine hK _ _ ⟨done ++ [k], _, _, _, _, _, _, by rw [← hd']; simp, ?_, rfl⟩
      rw [shadL_app, ← hfs]
      simp
    | cons a r =>
      obtain ⟨ha, ea, hr, hp⟩ := hch.tl
      simp [-Bool.exists_bool, -List.lookup_eq_none_iff, -u_gtup, -u_gcons, -u_gnil, -u_par, dStart, dwipe, hd, show (0 : Int) ≤ a by omega, h'.ins]
      refine ⟨fun env' st'' => st'' = st ++ [.lst ((shadL ds done).map encP)] ∧ (putsB (ddOf ds) a x k) = [] ∧ ∃ y6 y7, env' = [some (.ref b.j), some (.ref st.length), some (iN k), some (iN (cur (ddOf ds) k)), some (.str x), some (.int (hd r)), y6, y7], hR _ fun env' st'' ⟨e1, e2, y6, y7, e3⟩ => ⟨r.length, by simp, e1, r, _, _, rfl, hr, e3, ?_⟩, ?_⟩
      · rw [← hfs]
        simp [e2]
      · refine F_puts_of_ok h' hx ?_
        simp only [u_iat3]
        refine comp_rule iN (fun i => decide (i < k)) iN trivial _ _ (fun i hi Y N hY => ?_) (by simpa using sz (Nat.le_trans putsB_len h.z)) ?_
        · simp [-Bool.exists_bool, -List.lookup_eq_none_iff, -u_gtup, -u_gcons, -u_gnil, -u_par, dStart, dwipe]
          simpa using hY
        · rw [mine_lt (Nat.le_of_lt hk)]
          have hz : (shadL ds done).length < sizeLine := by
            have h1 : (shadL ds done).length ≤ done.length := List.length_filterMap_le _ _
            have h2 : done.length ≤ (pL ds).length := by rw [← hd']; simp
            have h3 := pL_len (ds := ds)
            have h4 := h.z
            have : 1000 < sizeLine := by decide
            omega
          cases hl : (putsB (ddOf ds) a x k).getLast? with
          | none =>
            have e0 := List.getLast?_eq_none_iff.mp hl
            simp [-Bool.exists_bool, -List.lookup_eq_none_iff, -u_gtup, -u_gcons, -u_gnil, -u_par, dStart, dwipe, e0, plainL, cb_eq, h'.ins, seq_ref h'.s, sc_at ha]
            exact hp
          | some p =>
            have e0 : putsB (ddOf ds) a x k ≠ [] := fun z => by rw [z] at hl; cases hl
            simp [-Bool.exists_bool, -List.lookup_eq_none_iff, -u_gtup, -u_gcons, -u_gnil, -u_par, dStart, dwipe, e0, plainL, plainL_iN, cb_eq, at_map_last hl, hz]
            refine hK _ _ ⟨done ++ [k], _, _, _, _, _, _, by rw [← hd']; simp, ?_, rfl⟩
            rw [shadL_app, ← hfs]
            simp [hl]
  · rintro env st' ⟨done, x2, x3, x4, x5, x6, x7, hd, rfl, rfl⟩
    have h' := h.app [.lst ((shadL ds done).map encP)]
    rw [List.append_nil] at hd
    simp [-Bool.exists_bool, -List.lookup_eq_none_iff, -u_gtup, -u_gcons, -u_gnil, -u_par, dStart, dwipe, h'.o, fTuple, seqD]
    rw [hd]
    exact hP _
/-! ### told_late -/
/-- the chain up to a scope -/
def upto (o : Option Nat) (l : List Nat) : List Nat := l.takeWhile fun s => decide (some s ≠ o)
def lateOne (ds : List Dd) (k : Nat) : Option Nat :=
  (upto ((meantAt (ddOf ds) ds.length k (nm (ddOf ds k))).map (cur (ddOf ds))) (A (ddOf ds) ds.length (cur (ddOf ds) k))).findSome? fun s => ((putsB (ddOf ds) s (nm (ddOf ds k)) ds.length).filter fun i => decide (k < i)).head?
def lateL (ds : List Dd) (j : Nat) : List (Nat × Nat) := (useL (ddOf ds) j).filterMap fun k => (lateOne ds k).map fun p => (k, p)
theorem useL_succ {dd : Nat → Dd} {j : Nat} : useL dd (j + 1) = useL dd j ++ if isUse (dd j) = true then [j] else [] := by
  unfold useL
  rw [List.range_succ, List.filter_append]
  congr 1
  by_cases h : isUse (dd j) = true
  · simp [h]
  · simp [h]
theorem lateL_succ {ds : List Dd} {j : Nat} : lateL ds (j + 1) = lateL ds j ++ if isUse (ddOf ds j) = true then (match lateOne ds j with
    | some p => [(j, p)]
    | none => []) else [] := by
  unfold lateL
  rw [useL_succ, List.filterMap_append]
  congr 1
  by_cases h : isUse (ddOf ds j) = true
  · rw [if_pos h, if_pos h]
    cases h : lateOne ds j <;> simp [h]
  · rw [if_neg h, if_neg h]
    rfl
/-- the number of the scope meant, -2 for none -/
def limI : Option Nat → Int
  | none => -2
  | some s => s
theorem head_at {L : List Nat} {p : Nat} (h : L.head? = some p) : atI (L.map iN) 0 = some (iN p) := by
  cases L with
  | nil => cases h
  | cons a r =>
    cases h
    exact at_0
theorem lim_case {k : Nat} {x : Str} (hk : k < ds.length) (ex : ddOf ds k = .use x) : (∃ p, meantAt (ddOf ds) ds.length k x = some p ∧ getKD (meantE ds) (.inl (k : Int)) = some (iN p) ∧ p ∈ pL ds) ∨ (meantAt (ddOf ds) ds.length k x = none ∧ getKD (meantE ds) (.inl (k : Int)) = none) := by
  cases hm : meantAt (ddOf ds) ds.length k x with
  | some p =>
    have hq : (k, p) ∈ mL ds := mem_mL.mpr ⟨hk, x, ex, hm⟩
    exact .inl ⟨p, rfl, mt_get hq, (mL_put hq).1⟩
  | none =>
    refine .inr ⟨rfl, mt_none fun p hq => ?_⟩
    obtain ⟨_, y, h1, h2⟩ := mem_mL.mp hq
    rw [ex] at h1
    cases h1
    rw [hm] at h2
    cases h2
/-- the body of told_late's while -/
theorem late_while {D0 : DEnds} (h : ScAt C st b ds) {k : Nat} {x : Str} (hk : k < ds.length) (ex : ddOf ds k = .use x) (o : Option Nat) (ho : o = (meantAt (ddOf ds) ds.length k x).map (cur (ddOf ds))) {x6 x7 : Option D} (hz : (lateL ds k).length < sizeLine)
    (hK : ∀ env' st', (∃ x2 x3 x4 x5 x6 x7, st' = st ++ [.lst ((lateL ds (k + 1)).map encP)] ∧ env' = [some (.ref b.j), some (.ref st.length), x2, x3, x4, x5, x6, x7]) → D0.nx env' st') :
    dWhile (dAndT (dCmpT fGe (dVar 4) (dC (.int 0))) (dCmpT fNe (dVar 4) (dVar 5))) (dSeq (dAsg (dLc (diVal (dMeth C "puts_of" (F_puts_of C CS) (dVar 0) (dCons (dVar 4) (dCons (dOp fIx (dVar 3) (dC (.int 1))) dNil)))) (dgName 7) (dCmpT fGt (dVar 7) (dVar 2)) (dVar 7) [7]) (dgName 6))
    (dSeq (dIfS (dCmpT fNe (dVar 6) (dLstS dNil)) (dSeq (dDrop (dAppend (dVar 1) (dTupS (dCons (dVar 2) (dCons (dOp fIx (dVar 6) (dC (.int 0))) dNil)))))
    dBreak)
    dNext)
    (dAsg (dOp fIx (dOp fIx (dFld C "scopes" (dVar 0)) (dVar 4)) (dC (.int 0))) (dgName 4)))) D0 Ex [some (.ref b.j), some (.ref st.length), some (iN k), some (.tup [.str "use", .str x]), some (iN (cur (ddOf ds) k)), some (.int (limI o)), x6, x7] (st ++ [.lst ((lateL ds k).map encP)]) := by
  have h' := h.app [.lst ((lateL ds k).map encP)]
  have hc := cur_lt' (dd := ddOf ds) (n := ds.length) (Nat.le_of_lt hk)
  have hx : PyData.strOk x = true := by have := h.nk k; rw [ex] at this; exact this
  have hlate : lateOne ds k = (upto o (A (ddOf ds) ds.length (cur (ddOf ds) k))).findSome? fun s => ((putsB (ddOf ds) s x ds.length).filter fun i => decide (k < i)).head? := by
    unfold lateOne; rw [ex, ho]; rfl
  obtain ⟨t, et⟩ := A_hd (dd := ddOf ds) (n := ds.length) hc
  refine while_rule (fun m env st' => st' = st ++ [.lst ((lateL ds k).map encP)] ∧ ∃ l y6 y7, l.length = m ∧ Ch (ddOf ds) ds.length l ∧ env = [some (.ref b.j), some (.ref st.length), some (iN k), some (.tup [.str "use", .str x]), some (.int (hd l)), some (.int (limI o)), y6, y7] ∧
    ((upto o l).findSome? fun s => ((putsB (ddOf ds) s x ds.length).filter fun i => decide (k < i)).head?) = lateOne ds k) (m := (A (ddOf ds) ds.length (cur (ddOf ds) k)).length) ?_ ?_
  · exact ⟨rfl, _, _, _, rfl, .inr ⟨_, hc, rfl⟩, by rw [et]; rfl, hlate.symm⟩
  rintro m env st' R ⟨rfl, l, y6, y7, rfl, hch, rfl, hfs⟩ hR
  have hl0 : ∀ e : lateOne ds k = none, lateL ds (k + 1) = lateL ds k := fun e => by rw [lateL_succ, ex, e]; simp
  cases l with
  | nil =>
    simp [-Bool.exists_bool, -List.lookup_eq_none_iff, -u_gtup, -u_gcons, -u_gnil, -u_par, dStart, dwipe, hd]
    refine hK _ _ ⟨_, _, _, _, _, _, ?_, rfl⟩
    rw [hl0 (by rw [← hfs]; rfl)]
  | cons a r =>
    obtain ⟨ha, ea, hr, hp⟩ := hch.tl
    simp [-Bool.exists_bool, -List.lookup_eq_none_iff, -u_gtup, -u_gcons, -u_gnil, -u_par, dStart, dwipe, hd, show (0 : Int) ≤ a by omega, h'.ins]
    have hif : ((a : Int) = limI o) ↔ some a = o := by
      cases o with
      | none => simp only [limI]; constructor <;> intro z <;> first | cases z | omega
      | some c => simp only [limI, Option.some.injEq]; omega
    simp only [hif]
    by_cases hao : some a = o
    · refine ⟨false, by simp [hao], ?_⟩
      simp [-Bool.exists_bool, -List.lookup_eq_none_iff, -u_gtup, -u_gcons, -u_gnil, -u_par, dStart, dwipe]
      refine hK _ _ ⟨_, _, _, _, _, _, ?_, rfl⟩
      rw [hl0 (by rw [← hfs]; unfold upto; rw [List.takeWhile_cons_of_neg (by simpa using hao)]; rfl)]
    · refine ⟨true, by simp [hao], ?_⟩
      have hup : upto o (a :: r) = a :: upto o r := by unfold upto; rw [List.takeWhile_cons_of_pos (by simpa using hao)]
      rw [hup] at hfs
      simp [-Bool.exists_bool, -List.lookup_eq_none_iff, -u_gtup, -u_gcons, -u_gnil, -u_par, dStart, dwipe]
      refine ⟨fun env' st'' => st'' = st ++ [.lst ((lateL ds k).map encP)] ∧ ((putsB (ddOf ds) a x ds.length).filter fun i => decide (k < i)) = [] ∧ ∃ y6 y7, env' = [some (.ref b.j), some (.ref st.length), some (iN k), some (.tup [.str "use", .str x]), some (.int (hd r)), some (.int (limI o)), y6, y7], hR _ fun env' st'' ⟨e1, e2, y6, y7, e3⟩ => ⟨r.length, by simp, e1, r, _, _, rfl, hr, e3, ?_⟩, ?_⟩
      · rw [← hfs, List.findSome?_cons, e2]
        rfl
      refine F_puts_of_ok h' hx ?_
      simp only [u_iat3]
      refine comp_rule iN (fun i => decide (k < i)) iN trivial _ _ (fun i hi Y N hY => ?_) (by simpa using sz (Nat.le_trans putsB_len h.z)) ?_
      · simp [-Bool.exists_bool, -List.lookup_eq_none_iff, -u_gtup, -u_gcons, -u_gnil, -u_par, dStart, dwipe]
        simpa using hY
      cases hl : ((putsB (ddOf ds) a x ds.length).filter fun i => decide (k < i)).head? with
      | none =>
        have e0 := List.head?_eq_none_iff.mp hl
        simp [-Bool.exists_bool, -List.lookup_eq_none_iff, -u_gtup, -u_gcons, -u_gnil, -u_par, dStart, dwipe, e0, plainL, cb_eq, h'.ins, seq_ref h'.s, sc_at ha]
        exact hp
      | some p =>
        have e0 : ((putsB (ddOf ds) a x ds.length).filter fun i => decide (k < i)) ≠ [] := fun z => by rw [z] at hl; cases hl
        have e1 : lateOne ds k = some p := by rw [← hfs]; simp only [List.findSome?_cons, hl]
        refine ⟨plainL_iN _, rfl, true, by rw [cb_eq]; simpa using e0, ?_⟩
        rw [if_pos rfl]
        refine ⟨by simp, _, head_at hl, _, by simp; rfl, by simpa using hz, ?_⟩
        rw [set_last]
        refine hK _ _ ⟨_, _, _, _, _, _, ?_, rfl⟩
        rw [lateL_succ, ex, e1]
        simp [isUse]
theorem F_told_late_ok (h : ScAt C st b ds) (hP : ∀ r, P (.tup ((lateL ds ds.length).map encP)) (st ++ r)) : F_told_late C CS [.ref b.j] st P Ex := by
  unfold F_told_late t_told_late
  have h0 := h.app [DO.lst []]
  simp [-Bool.exists_bool, -List.lookup_eq_none_iff, -u_gtup, -u_gcons, -u_gnil, -u_par, dStart, dwipe, h.ins, h0.ins, enum_range]
  refine loop_range (fun k => D.tup [.int (k : Nat), encD (ddOf ds k)]) (fun j env st' => ∃ x2 x3 x4 x5 x6 x7, st' = st ++ [.lst ((lateL ds j).map encP)] ∧ env = [some (.ref b.j), some (.ref st.length), x2, x3, x4, x5, x6, x7]) ?_ ?_ ⟨_, _, _, _, _, _, rfl, rfl⟩
  · rintro k env st' K hk ⟨x2, x3, x4, x5, x6, x7, rfl, rfl⟩ hK
    have h' := h.app [.lst ((lateL ds k).map encP)]
    have hc := cur_lt' (dd := ddOf ds) (n := ds.length) (Nat.le_of_lt hk)
    have hz : (lateL ds k).length < sizeLine := by
      have h1 : (lateL ds k).length ≤ (useL (ddOf ds) k).length := List.length_filterMap_le _ _
      have h2 : (useL (ddOf ds) k).length ≤ k := by
        have := List.length_filter_le (fun k => isUse (ddOf ds k)) (List.range k)
        rw [List.length_range] at this
        exact this
      have h4 := h.z
      have : 1000 < sizeLine := by decide
      omega
    cases ex : ddOf ds k with
    | put x =>
      simp [-Bool.exists_bool, -List.lookup_eq_none_iff, -u_gtup, -u_gcons, -u_gnil, -u_par, dStart, dwipe, encD]
      exact hK _ _ ⟨_, _, _, _, _, _, by rw [lateL_succ, ex]; simp [isUse], rfl⟩
    | inn =>
      simp [-Bool.exists_bool, -List.lookup_eq_none_iff, -u_gtup, -u_gcons, -u_gnil, -u_par, dStart, dwipe, encD]
      exact hK _ _ ⟨_, _, _, _, _, _, by rw [lateL_succ, ex]; simp [isUse], rfl⟩
    | out =>
      simp [-Bool.exists_bool, -List.lookup_eq_none_iff, -u_gtup, -u_gcons, -u_gnil, -u_par, dStart, dwipe, encD]
      exact hK _ _ ⟨_, _, _, _, _, _, by rw [lateL_succ, ex]; simp [isUse], rfl⟩
    | use x =>
      have hx : PyData.strOk x = true := by have := h.nk k; rw [ex] at this; exact this
      simp [-Bool.exists_bool, -List.lookup_eq_none_iff, -u_gtup, -u_gcons, -u_gnil, -u_par, dStart, dwipe, encD, h'.ins]
      refine F_scope_at_ok h' hk ?_
      rcases lim_case hk ex with ⟨p, e1, e2, e3⟩ | ⟨e1, e2⟩
      · simp [-Bool.exists_bool, -List.lookup_eq_none_iff, -u_gtup, -u_gcons, -u_gnil, -u_par, dStart, dwipe, h'.ins, h'.dm, h'.dw, e2, own_get e3]
        exact late_while (D0 := ⟨K, _, _, K⟩) h hk ex (some (cur (ddOf ds) p)) (by rw [e1]; rfl) hz hK
      · simp [-Bool.exists_bool, -List.lookup_eq_none_iff, -u_gtup, -u_gcons, -u_gnil, -u_par, dStart, dwipe, h'.ins, h'.dm, h'.dw, e2]
        exact late_while (D0 := ⟨K, _, _, K⟩) h hk ex none (by rw [e1]; rfl) hz hK
  · rintro env st' ⟨x2, x3, x4, x5, x6, x7, rfl, rfl⟩
    simp [-Bool.exists_bool, -List.lookup_eq_none_iff, -u_gtup, -u_gcons, -u_gnil, -u_par, dStart, dwipe, fTuple, seqD]
    exact hP _
end
end FL
/-! ME: dicts that are filled; sorted texts. -/
namespace FL
open PySem PySem.Spec PyProof.Rows L2

theorem getKD_put {l : List (Key × D)} {k k' : Key} {d : D} : getKD (putKD l k d) k' = if k' = k then some d else getKD l k' := by
  unfold putKD getKD
  by_cases h : (l.any fun p => decide (p.1 = k)) = true
  · rw [if_pos h]
    by_cases e : k' = k
    · subst e
      rw [if_pos rfl]
      induction l with
      | nil => simp at h
      | cons p l ih =>
        by_cases hp : p.1 = k'
        · simp [hp]
        · have h2 : (l.any fun p => decide (p.1 = k')) = true := by simpa [hp] using h
          simp only [List.map_cons, List.find?_cons]
          simp only [if_neg hp, decide_eq_false hp]
          exact ih h2
    · rw [if_neg e]
      clear h
      induction l with
      | nil => rfl
      | cons p l ih =>
        simp only [List.map_cons, List.find?_cons]
        by_cases hp : p.1 = k
        · have : ¬ p.1 = k' := fun z => e (z.symm.trans hp)
          have h3 : ¬ k = k' := fun z => e z.symm
          simp only [if_pos hp, decide_eq_false h3, decide_eq_false this]
          exact ih
        · simp only [if_neg hp]
          by_cases h4 : p.1 = k'
          · simp [h4]
          · simp only [decide_eq_false h4]
            exact ih
  · rw [if_neg h]
    rw [List.find?_append]
    by_cases e : k' = k
    · subst e
      have : l.find? (fun p => decide (p.1 = k')) = none := by
        rw [List.find?_eq_none]
        intro p hp z
        exact h (List.any_eq_true.mpr ⟨p, hp, z⟩)
      simp [this]
    · have h3 : ¬ k = k' := fun z => e z.symm
      simp [h3, e]
theorem putKD_old {l : List (Key × D)} {k : Key} {d : D} (h : k ∈ l.map (·.1)) : (putKD l k d).map (·.1) = l.map (·.1) := by
  unfold putKD
  have h1 : (l.any fun p => decide (p.1 = k)) = true := by
    obtain ⟨p, hp, e⟩ := List.mem_map.mp h
    exact List.any_eq_true.mpr ⟨p, hp, decide_eq_true e⟩
  rw [if_pos h1, List.map_map]
  refine List.map_congr_left fun p _ => ?_
  show (if p.1 = k then (p.1, d) else p).1 = p.1
  split <;> rfl
theorem putKD_new {l : List (Key × D)} {k : Key} {d : D} (h : k ∉ l.map (·.1)) : putKD l k d = l ++ [(k, d)] := by
  unfold putKD
  rw [if_neg]
  intro h'
  obtain ⟨p, hp, e⟩ := List.any_eq_true.mp h'
  exact h (List.mem_map.mpr ⟨p, hp, of_decide_eq_true e⟩)
theorem putKD_nodup {l : List (Key × D)} {k : Key} {d : D} (h : (l.map (·.1)).Nodup) : ((putKD l k d).map (·.1)).Nodup := by
  by_cases hk : k ∈ l.map (·.1)
  · rw [putKD_old hk]; exact h
  · rw [putKD_new hk, List.map_append]
    exact List.nodup_append.mpr ⟨h, by simp, fun a ha b hb => by simp at hb; subst hb; exact fun z => hk (z ▸ ha)⟩
theorem getKD_mem {l : List (Key × D)} {k : Key} : (getKD l k).isSome = true ↔ k ∈ l.map (·.1) := by
  unfold getKD
  rw [Option.isSome_map, List.find?_isSome]
  simp
theorem mergeKD_nodup : ∀ {more l : List (Key × D)}, ((l ++ more).map (·.1)).Nodup → mergeKD l more = l ++ more
  | [], l, _ => by simp [mergeKD]
  | p :: r, l, h => by
    have hk : p.1 ∉ l.map (·.1) := by
      rw [List.map_append, List.map_cons] at h
      have := (List.nodup_append.mp h).2.2
      exact fun hm => this _ hm _ (List.mem_cons_self) rfl
    show mergeKD (putKD l p.1 p.2) r = _
    rw [putKD_new hk, mergeKD_nodup (by simpa using h)]
    simp
theorem getKD_nodup {l : List (Key × D)} (h : (l.map (·.1)).Nodup) {p : Key × D} (hp : p ∈ l) : getKD l p.1 = some p.2 := by
  induction l with
  | nil => cases hp
  | cons q l ih =>
    rw [List.map_cons, List.nodup_cons] at h
    rcases List.mem_cons.mp hp with e | e
    · subst e; simp [getKD]
    · have : ¬ q.1 = p.1 := fun z => h.1 (by rw [z]; exact List.mem_map_of_mem e)
      have := ih h.2 e
      unfold getKD at this ⊢
      rw [List.find?_cons]
      simp only [decide_eq_false ‹¬ q.1 = p.1›]
      exact this
theorem dctEq_refl {l : List (Key × D)} (h : (l.map (·.1)).Nodup) : dctEq l l := ⟨rfl, fun _ hp => getKD_nodup h hp⟩

/-! ### sorted texts -/
theorem sortedS_pairwise : ∀ (l : List Str), sortedS l = true → l.Pairwise fun a b => a.cps.toList ≤ b.cps.toList := by
  have key : ∀ (p : Str) (l : List Str), risingS p l = true → (p :: l).Pairwise fun a b => a.cps.toList ≤ b.cps.toList := by
    intro p l
    induction l generalizing p with
    | nil => intro _; simp
    | cons x r ih =>
      intro h
      unfold risingS at h
      rw [Bool.and_eq_true] at h
      have h1 : p.cps.toList ≤ x.cps.toList := by
        have := h.1
        rw [ltCps_eq] at this
        simpa using this
      have h2 := ih x h.2
      refine List.pairwise_cons.mpr ⟨fun b hb => ?_, h2⟩
      rcases List.mem_cons.mp hb with e | e
      · subst e; exact h1
      · exact List.le_trans h1 ((List.pairwise_cons.mp h2).1 b e)
  intro l h
  cases l with
  | nil => simp
  | cons x r => exact key x r h
theorem sorted_same {l r : List Str} (h : l.Perm r) (hl : sortedS l = true) (hr : sortedS r = true) : l = r := by
  refine h.eq_of_pairwise (le := fun a b => a.cps.toList ≤ b.cps.toList) (fun a b _ _ h1 h2 => ?_) (sortedS_pairwise l hl) (sortedS_pairwise r hr)
  have := List.le_antisymm h1 h2
  cases a; cases b
  simp only [Str.mk.injEq]
  exact Array.toList_inj.mp this
end FL
/-! MF: seen_at. -/
namespace FL
open PySem PySem.Spec PyProof.Rows L2

section
variable {G : SD → Prop} {g : TDG} {tt : TDB} {tk tv : TD} {env0 : DV} {fin : SD → Prop}
theorem dc_rule {α : Type} (enc : α → D) (c : α → Bool) (ke : α → Key) (kv : α → D) {st0 : SD} (hG : ∀ s, G s) : ∀ (l : List α) (acc : List (Key × D)),
    (∀ a ∈ l, ∀ (acc : List (Key × D)) (Y N : SD → Prop), acc.length < sizeLine → (if c a = true then Y (st0 ++ [.dct (putKD acc (ke a) (kv a))]) else N (st0 ++ [.dct acc])) → g (enc a) env0 (st0 ++ [.dct acc]) fun env1 st1 => tt env1 st1 (fun b st2 => if b = true then tk env1 st2 (fun y st3 => tv env1 st3 (fun z st4 => ∃ l k, st4[st0.length]? = some (.dct l) ∧ keyOf y = some k ∧ l.length < sizeLine ∧ Y (st4.set st0.length (.dct (putKD l k z)))) noX) noX else N st2) noX) →
    acc.length + l.length ≤ sizeLine → fin (st0 ++ [.dct (mergeKD acc ((l.filter c).map fun a => (ke a, kv a)))]) → dDcT G g tt tk tv env0 st0.length fin (l.map enc) (st0 ++ [.dct acc]) := by
  intro l
  induction l with
  | nil => intro acc h hz hf; exact ⟨hG _, by simpa [mergeKD] using hf⟩
  | cons a l ih =>
    intro acc h hz hf
    have hz' : acc.length + l.length + 1 ≤ sizeLine := by simpa [Nat.add_assoc] using hz
    refine ⟨hG _, h a (by simp) acc (fun s => dDcT G g tt tk tv env0 st0.length fin (l.map enc) s) (fun st2 => dDcT G g tt tk tv env0 st0.length fin (l.map enc) st2) (by omega) ?_⟩
    by_cases hc : c a = true
    · rw [if_pos hc]
      refine ih _ (fun b hb => h b (by simp [hb])) ?_ ?_
      · have : (putKD acc (ke a) (kv a)).length ≤ acc.length + 1 := by
          unfold putKD
          split <;> simp
        omega
      · rw [List.filter_cons_of_pos hc] at hf
        exact hf
    · rw [if_neg hc]
      refine ih _ (fun b hb => h b (by simp [hb])) (by omega) ?_
      rw [List.filter_cons_of_neg hc] at hf
      exact hf
end
structure SeenI (F : List (Key × D)) (look : Str → Option Nat) : Prop where
  nd : (F.map (·.1)).Nodup
  ky : ∀ q ∈ F.map (·.1), ∃ x, q = .inr x
  lk : ∀ x, getKD F (.inr x) = (look x).map iN
theorem SeenI.put {F : List (Key × D)} {look : Str → Option Nat} (h : SeenI F look) (y : Str) (q : Nat) : SeenI (putKD F (.inr y) (iN q)) (fun x => if x = y then some q else look x) := by
  refine ⟨putKD_nodup h.nd, fun k hk => ?_, fun x => ?_⟩
  · by_cases hy : (.inr y : Key) ∈ F.map (·.1)
    · rw [putKD_old hy] at hk; exact h.ky k hk
    · rw [putKD_new hy, List.map_append, List.mem_append] at hk
      rcases hk with hk | hk
      · exact h.ky k hk
      · simp at hk; exact ⟨y, hk⟩
  · rw [getKD_put]
    by_cases e : x = y
    · subst e; simp
    · have : ¬ (.inr x : Key) = .inr y := fun z => e (Sum.inr.inj z)
      rw [if_neg this, if_neg e]; exact h.lk x
theorem SeenI.of {F : List (Key × D)} {look look' : Str → Option Nat} (h : SeenI F look) (e : ∀ x, look x = look' x) : SeenI F look' := ⟨h.nd, h.ky, fun x => by rw [h.lk, e]⟩
def seenF (ds : List Dd) (k : Nat) (L : List Nat) (x : Str) : Option Nat := L.findSome? fun s => (putsB (ddOf ds) s x k).getLast?
def inF (ds : List Dd) (k s : Nat) (dn : List Nat) (x : Str) : Option Nat := (dn.filter fun q => decide (cur (ddOf ds) q = s ∧ q < k ∧ nm (ddOf ds q) = x)).getLast?
section
variable {C CS : Addr} {st : SD} {b : Ob} {ds : List Dd} {P : DP} {Ex : DX}
theorem A_len {dd : Nat → Dd} {n s : Nat} (hs : s < nsc dd n) : (A dd n s).length ≤ n + 1 := by
  have h1 : ∀ k, nsc dd k ≤ k + 1 := fun k => by
    induction k with
    | zero => exact Nat.le_refl _
    | succ k ih =>
      cases e : dd k with
      | put x => rw [nsc_put e]; omega
      | use x => rw [nsc_use e]; omega
      | out => rw [nsc_out e]; omega
      | inn => rw [nsc_inn e]; omega
  have h2 : ∀ m s, s < m → s < nsc dd n → (A dd n s).length ≤ s + 1 := fun m => by
    induction m with
    | zero => intro s h; omega
    | succ m ih =>
      intro s h hs
      by_cases h0 : s = 0
      · subst h0; rw [A_zero]; simp
      · obtain ⟨p, hp, e⟩ := A_step (by omega) hs
        have := ih p (by omega) (by omega)
        rw [e, List.length_cons]; omega
  have := h2 (s + 1) s (by omega) hs
  have := h1 n
  omega
theorem inF_app {k s : Nat} {dn : List Nat} {q : Nat} {x : Str} : inF ds k s (dn ++ [q]) x = if cur (ddOf ds) q = s ∧ q < k ∧ nm (ddOf ds q) = x then some q else inF ds k s dn x := by
  unfold inF
  rw [List.filter_append]
  by_cases h : cur (ddOf ds) q = s ∧ q < k ∧ nm (ddOf ds q) = x
  · rw [if_pos h]; simp [h]
  · rw [if_neg h, List.filter_cons_of_neg (by simpa using h)]; simp
theorem inF_all {k s : Nat} {x : Str} (hk : k ≤ ds.length) : inF ds k s (pL ds) x = (putsB (ddOf ds) s x k).getLast? := by
  unfold inF
  rw [← mine_lt hk, ← puts_filter, List.filter_filter]
  congr 1
  refine List.filter_congr fun q _ => ?_
  by_cases h1 : q < k <;> by_cases h2 : cur (ddOf ds) q = s <;> by_cases h3 : nm (ddOf ds q) = x <;> simp [h1, h2, h3]
theorem seenF_meant (h : ScAt C st b ds) {k : Nat} (hk : k ≤ ds.length) {x : Str} : seenF ds k (A (ddOf ds) ds.length (cur (ddOf ds) k)) x = meantAt (ddOf ds) ds.length k x := by
  unfold seenF meantAt
  congr 1
  funext s
  rcases puts_le_one h.v.1 (s := s) (x := x) hk with e | ⟨a, e⟩ <;> rw [e] <;> rfl
def keyS : Key → Str
  | .inl _ => Str.empty
  | .inr x => x
theorem sortedS_filter {l : List Str} {p : Str → Bool} (h : sortedS l = true) : sortedS (l.filter p) = true := by
  refine sortedS_of_pairwise _ (((sortedS_pairwise l h).imp fun {a b} hab => ?_).filter _)
  rw [ltCps_eq]
  simpa using hab
/-- what seen_at tells -/
def seenE (ds : List Dd) (nms : List Str) (k : Nat) : List (Key × D) := nms.filterMap fun x => (meantAt (ddOf ds) ds.length k x).map fun p => (.inr x, iN p)
theorem seenE_eq {nms : List Str} {k : Nat} (hnd : nms.Nodup) : mergeKD [] (((nms.filter fun x => (meantAt (ddOf ds) ds.length k x).isSome).filter fun _ => true).map fun x => ((.inr x : Key), iN ((meantAt (ddOf ds) ds.length k x).getD 0))) = seenE ds nms k := by
  rw [List.filter_eq_self.mpr (fun _ _ => rfl)]
  rw [mergeKD_nodup, List.nil_append]
  · unfold seenE
    clear hnd
    induction nms with
    | nil => rfl
    | cons x r ih =>
      cases e : meantAt (ddOf ds) ds.length k x with
      | none => simp [e, ih]
      | some p => simp [e, ih]
  · rw [List.nil_append, List.map_map]
    refine List.Pairwise.map _ (fun a b (hab : a ≠ b) => ?_) (hnd.filter _)
    exact fun z => hab (Sum.inr.inj z)
theorem F_seen_at_ok (h : ScAt C st b ds) {k : Nat} (hk : k < ds.length) {nms : List Str} (hn : ∀ q ∈ pL ds, nm (ddOf ds q) ∈ nms) (hnd : nms.Nodup) (hns : sortedS nms = true) (hn64 : nms.length < 64)
    (hP : ∀ i r, (st ++ r)[i]? = some (.dct (seenE ds nms k)) → P (.ref i) (st ++ r)) : F_seen_at C CS [.ref b.j, .int k] st P Ex := by
  unfold F_seen_at t_seen_at
  simp [-Bool.exists_bool, -List.lookup_eq_none_iff, -u_gtup, -u_gcons, -u_gnil, -u_par, dStart, dwipe, h.ins]
  refine F_scope_at_ok h hk ?_
  have hkl := Nat.le_of_lt hk
  have hc := cur_lt' (dd := ddOf ds) (n := ds.length) hkl
  obtain ⟨t, et⟩ := A_hd (dd := ddOf ds) (n := ds.length) hc
  refine while_rule (fun m env st' => ∃ l done, done ++ l = A (ddOf ds) ds.length (cur (ddOf ds) k) ∧ l.length = m ∧ Ch (ddOf ds) ds.length l ∧ st' = st ++ [.lst (done.map iN)] ∧ env = [some (.ref b.j), some (.int k), some (.int (hd l)), some (.ref st.length), none, none, none, none, none]) (m := (A (ddOf ds) ds.length (cur (ddOf ds) k)).length) ?_ ?_
  · exact ⟨A (ddOf ds) ds.length (cur (ddOf ds) k), [], rfl, rfl, .inr ⟨_, hc, rfl⟩, rfl, by rw [show hd (A (ddOf ds) ds.length (cur (ddOf ds) k)) = (cur (ddOf ds) k : Nat) by rw [et]; rfl]⟩
  rintro m env st' R ⟨l, done, hdl, rfl, hch, rfl, rfl⟩ hR
  have h' := h.app [.lst (done.map iN)]
  cases l with
  | cons a r =>
    obtain ⟨ha, ea, hr, hp⟩ := hch.tl
    have h2 := h.app [.lst ((done ++ [a]).map iN)]
    have hz : done.length < sizeLine := by
      have h1 := congrArg List.length hdl
      have h2 := A_len (dd := ddOf ds) (n := ds.length) hc
      have h3 := h.z
      have : 1000 < sizeLine := by decide
      simp at h1
      omega
    have e1 : done.map iN ++ [D.int (a : Int)] = (done ++ [a]).map iN := by simp
    simp [-Bool.exists_bool, -List.lookup_eq_none_iff, -u_gtup, -u_gcons, -u_gnil, -u_par, dStart, dwipe, hd, show (0 : Int) ≤ a by omega]
    rw [e1]
    simp [-Bool.exists_bool, -List.lookup_eq_none_iff, -u_gtup, -u_gcons, -u_gnil, -u_par, dStart, dwipe, h2.ins, seq_ref h2.s, sc_at ha, hp, hz, -List.map_append]
    exact ⟨_, hR _ fun env' st'' (hN : st'' = st ++ [.lst ((done ++ [a]).map iN)] ∧ env' = [some (.ref b.j), some (.int k), some (.int (hd r)), some (.ref st.length), none, none, none, none, none]) => ⟨r.length, by simp, r, done ++ [a], by rw [← hdl]; simp, rfl, hr, hN.1, hN.2⟩, rfl, rfl⟩
  | nil =>
    rw [List.append_nil] at hdl
    subst hdl
    simp [-Bool.exists_bool, -List.lookup_eq_none_iff, -u_gtup, -u_gcons, -u_gnil, -u_par, dStart, dwipe, hd]
    rw [← List.map_reverse]
    have hA : ((A (ddOf ds) ds.length (cur (ddOf ds) k)).map iN) = ((A (ddOf ds) ds.length (cur (ddOf ds) k)).map iN) := rfl
    revert hA
    generalize ((A (ddOf ds) ds.length (cur (ddOf ds) k)).map iN) = AL
    intro hA
    refine loop_list iN (fun rest env st' => ∃ dn F x5 x6 x7, dn ++ rest = (A (ddOf ds) ds.length (cur (ddOf ds) k)).reverse ∧ SeenI F (seenF ds k dn.reverse) ∧ F.length ≤ dn.length * 1000 ∧ st' = st ++ [.lst AL, .dct F] ∧ env = [some (.ref b.j), some (.int k), some (.int (-1)), some (.ref st.length), some (.ref (st.length + 1)), x5, x6, x7, none]) ?_ ?_ _ _ _ ⟨[], [], _, _, _, rfl, ⟨by simp, by simp, fun x => rfl⟩, by simp, rfl, rfl⟩
    · rintro s rest env st' K ⟨dn, F, x5, x6, x7, hdn, hF, hFz, rfl, rfl⟩ hK
      have h' := h.app [.lst AL, .dct F]
      refine ⟨trivial, ?_⟩
      simp [-Bool.exists_bool, -List.lookup_eq_none_iff, -u_gtup, -u_gcons, -u_gnil, -u_par, dStart, dwipe, h'.ins]
      refine ⟨_, _, h'.o, rfl, _, h'.o, ?_⟩
      rw [own_items]
      have hdl : dn.length ≤ 1001 := by
        have h1 := congrArg List.length hdn
        have h2 := A_len (dd := ddOf ds) (n := ds.length) hc
        have h3 := h.z
        simp at h1
        omega
      refine loop_list (fun q => D.tup [iN q, iN (cur (ddOf ds) q)]) (fun r2 env st' => ∃ d2 F' x6 x7, d2 ++ r2 = pL ds ∧ SeenI F' (fun x => (inF ds k s d2 x).or (seenF ds k dn.reverse x)) ∧ F'.length ≤ dn.length * 1000 + d2.length ∧ st' = st ++ [.lst AL, .dct F'] ∧ env = [some (.ref b.j), some (.int k), some (.int (-1)), some (.ref st.length), some (.ref (st.length + 1)), some (iN s), x6, x7, none]) ?_ ?_ _ _ _ ⟨[], F, _, _, rfl, hF, by simpa using hFz, rfl, rfl⟩
      · rintro q r2 env st' K2 ⟨d2, F', y6, y7, hd2, hF', hz', rfl, rfl⟩ hK2
        have h2 := h.app [.lst AL, .dct F']
        have hqp : q ∈ pL ds := by rw [← hd2]; simp
        obtain ⟨hq, x, ex⟩ := mem_pL.mp hqp
        have hl2 : d2.length < 1000 := by
          have h1 := congrArg List.length hd2
          have h3 := pL_len (ds := ds)
          have h4 := h.z
          simp at h1
          omega
        have hz2 : F'.length < sizeLine := by
          have : 1003000 < sizeLine := by decide
          omega
        simp [-Bool.exists_bool, -List.lookup_eq_none_iff, -u_gtup, -u_gcons, -u_gnil, -u_par, dStart, dwipe, h2.ins, at_deeds hq, ex, encD, Int.natCast_inj]
        split
        · rename_i e1
          split
          · rename_i e2
            simp [-Bool.exists_bool, -List.lookup_eq_none_iff, -u_gtup, -u_gcons, -u_gnil, -u_par, dStart, dwipe, hz2]
            refine hK2 _ _ ⟨d2 ++ [q], putKD F' (.inr x) (iN q), _, _, by rw [← hd2]; simp, (hF'.put x q).of fun z => ?_, ?_, rfl, rfl⟩
            · rw [inF_app, ex]
              show _ = Option.or (if cur (ddOf ds) q = s ∧ q < k ∧ x = z then _ else _) _
              by_cases ez : z = x
              · subst ez; simp [e1, e2]
              · rw [if_neg ez, if_neg (fun hh => ez hh.2.2.symm)]
            · have : (putKD F' (.inr x) (iN q)).length ≤ F'.length + 1 := by unfold putKD; split <;> simp
              simp
              omega
          · rename_i e2
            refine hK2 _ _ ⟨d2 ++ [q], F', _, _, by rw [← hd2]; simp, hF'.of fun z => ?_, by simp; omega, rfl, rfl⟩
            rw [inF_app, if_neg (fun hh => e2 hh.2.1)]
        · rename_i e1
          refine hK2 _ _ ⟨d2 ++ [q], F', _, _, by rw [← hd2]; simp, hF'.of fun z => ?_, by simp; omega, rfl, rfl⟩
          rw [inF_app, if_neg (fun hh => e1 hh.1)]
      · rintro env st' ⟨d2, F', y6, y7, hd2, hF', hz', rfl, rfl⟩
        rw [List.append_nil] at hd2
        subst hd2
        have h2 := h.app [.lst AL, .dct F']
        refine ⟨trivial, h2.o, hK _ _ ⟨dn ++ [s], F', _, _, _, by rw [← hdn]; simp, hF'.of fun z => ?_, ?_, rfl, rfl⟩⟩
        · rw [inF_all hkl]
          unfold seenF
          rw [List.reverse_append, List.reverse_singleton, List.singleton_append, List.findSome?_cons]
          cases (putsB (ddOf ds) s z k).getLast? <;> rfl
        · have h3 := pL_len (ds := ds)
          have h4 := h.z
          simp
          omega
    · rintro env st' ⟨dn, F, x5, x6, x7, hdn, hF, hFz, rfl, rfl⟩
      rw [List.append_nil] at hdn
      subst hdn
      rw [List.reverse_reverse] at hF
      have hF := hF.of (fun x => seenF_meant h hkl)
      simp [-Bool.exists_bool, -List.lookup_eq_none_iff, -u_gtup, -u_gcons, -u_gnil, -u_par, dStart, dwipe]
      unfold dDc
      simp [-Bool.exists_bool, -List.lookup_eq_none_iff, -u_gtup, -u_gcons, -u_gnil, -u_par, dStart, dwipe]
      have hkeys : F.map (·.1) = (F.map fun p => keyS p.1).map Sum.inr := by
        rw [List.map_map]
        refine List.map_congr_left fun p hp => ?_
        obtain ⟨x, e⟩ := hF.ky p.1 (List.mem_map_of_mem hp)
        show p.1 = .inr (keyS p.1)
        rw [e]; rfl
      have hmem : ∀ x, x ∈ (F.map fun p => keyS p.1) ↔ (meantAt (ddOf ds) ds.length k x).isSome = true := fun x => by
        have h1 : x ∈ (F.map fun p => keyS p.1) ↔ (.inr x : Key) ∈ F.map (·.1) := by
          rw [hkeys]
          simp
        rw [h1, ← getKD_mem, hF.lk, Option.isSome_map]
      have hin : ∀ x, (meantAt (ddOf ds) ds.length k x).isSome = true → x ∈ nms := fun x hx => by
        obtain ⟨p, hp⟩ := Option.isSome_iff_exists.mp hx
        obtain ⟨g1, g2, _⟩ := meant_some hp
        have := hn p (mem_pL.mpr ⟨by omega, x, g2⟩)
        rw [g2] at this
        exact this
      have hknd : (F.map fun p => keyS p.1).Nodup := by
        have := hF.nd
        rw [hkeys] at this
        exact List.Pairwise.of_map _ (fun a b (hab : (Sum.inr a : Key) ≠ .inr b) e => hab (by rw [e])) this
      have hperm : (nms.filter fun x => (meantAt (ddOf ds) ds.length k x).isSome).Perm (F.map fun p => keyS p.1) := by
        rw [List.perm_ext_iff_of_nodup (hnd.filter _) hknd]
        intro x
        rw [List.mem_filter, hmem]
        exact ⟨fun hh => hh.2, fun hh => ⟨hin x hh, hh⟩⟩
      have hzs : sortedS (nms.filter fun x => (meantAt (ddOf ds) ds.length k x).isSome) = true := sortedS_filter hns
      refine ⟨_, F, _, rfl, by simp [dctD], hkeys, ?_, fun ys hp hs => ?_⟩
      · have := hperm.length_eq
        have h3 := List.length_filter_le (fun x => (meantAt (ddOf ds) ds.length k x).isSome) nms
        omega
      have hys : ys = nms.filter fun x => (meantAt (ddOf ds) ds.length k x).isSome := sorted_same (hp.trans hperm.symm) hs hzs
      subst hys
      simp only [u_iat3]
      refine dc_rule (G := fun _ => True) D.str (fun _ => true) (fun x => .inr x) (fun x => iN ((meantAt (ddOf ds) ds.length k x).getD 0)) (fun _ => trivial) _ [] (fun x hx acc Y N hz hY => ?_) ?_ ?_
      · obtain ⟨p, hp⟩ := Option.isSome_iff_exists.mp (List.mem_filter.mp hx).2
        have h1 : getKD F (.inr x) = some (iN p) := by rw [hF.lk, hp]; rfl
        simp [-Bool.exists_bool, -List.lookup_eq_none_iff, -u_gtup, -u_gcons, -u_gnil, -u_par, dStart, dwipe, dctD, h1, hz]
        rw [hp] at hY
        simpa using hY
      · have h3 := List.length_filter_le (fun x => (meantAt (ddOf ds) ds.length k x).isSome) nms
        have : 64 < sizeLine := by decide
        simp only [List.length_nil]
        omega
      · rw [List.append_assoc]
        refine hP _ _ ?_
        rw [← List.append_assoc, List.getElem?_concat_length, seenE_eq hnd]
end
end FL
/-! MG: the store while __init__ runs. -/
namespace FL
open PySem PySem.Spec PyProof.Rows L2

theorem get_off {α : Type} {l r : List α} {c : Nat} : (l ++ r)[l.length + c]? = r[c]? := by
  rw [List.getElem?_append_right (by omega)]; congr 1; omega
theorem get_off0 {α : Type} {l r : List α} : (l ++ r)[l.length]? = r[0]? := get_off (c := 0)
theorem set_off {α : Type} {l r : List α} {c : Nat} {y : α} : (l ++ r).set (l.length + c) y = l ++ r.set c y := by
  rw [List.set_append_right _ _ (by omega)]; congr 2; omega
theorem set_off0 {α : Type} {l r : List α} {y : α} : (l ++ r).set l.length y = l ++ r.set 0 y := set_off (c := 0)

structure IS where
  M : List (Key × D)
  L : List D
  O : List (Key × D)
  S : List D
  d : Nat → List (Key × D)
  op : List D
  sk : List D
  m : Nat
def bOf (st : SD) : Ob := ⟨st.length, st.length + 1, st.length + 2, st.length + 3, st.length + 4⟩
def slot (st : SD) (s : Nat) : Nat := st.length + (if s = 0 then 5 else 7 + s)
def isTl (C : Addr) (st : SD) (ds : List Dd) (I : IS) : SD := .ins C (fsOf (bOf st) ds) :: .dct I.M :: .lst I.L :: .dct I.O :: .lst I.S :: .dct (I.d 0) :: .lst I.op :: .lst I.sk :: (List.range (I.m - 1)).map (fun s => .dct (I.d (s + 1)))
def isSt (C : Addr) (st : SD) (ds : List Dd) (I : IS) : SD := st ++ isTl C st ds I
section
variable {C : Addr} {st : SD} {ds : List Dd} {I : IS}
theorem is_ins : (isSt C st ds I)[st.length]? = some (.ins C (fsOf (bOf st) ds)) := get_off0
theorem is_M : (isSt C st ds I)[st.length + 1]? = some (.dct I.M) := get_off
theorem is_L : (isSt C st ds I)[st.length + 2]? = some (.lst I.L) := get_off
theorem is_O : (isSt C st ds I)[st.length + 3]? = some (.dct I.O) := get_off
theorem is_S : (isSt C st ds I)[st.length + 4]? = some (.lst I.S) := get_off
theorem is_op : (isSt C st ds I)[st.length + 6]? = some (.lst I.op) := get_off
theorem is_sk : (isSt C st ds I)[st.length + 7]? = some (.lst I.sk) := get_off
theorem set_M {x : List (Key × D)} : (isSt C st ds I).set (st.length + 1) (.dct x) = isSt C st ds { I with M := x } := set_off
theorem set_L {x : List D} : (isSt C st ds I).set (st.length + 2) (.lst x) = isSt C st ds { I with L := x } := set_off
theorem set_O {x : List (Key × D)} : (isSt C st ds I).set (st.length + 3) (.dct x) = isSt C st ds { I with O := x } := set_off
theorem set_S {x : List D} : (isSt C st ds I).set (st.length + 4) (.lst x) = isSt C st ds { I with S := x } := set_off
theorem is_slot {s : Nat} (hs : s < I.m) : (isSt C st ds I)[slot st s]? = some (.dct (I.d s)) := by
  unfold slot
  by_cases h : s = 0
  · rw [if_pos h, h]; exact get_off
  · rw [if_neg h]
    refine get_off.trans ?_
    unfold isTl
    rw [show 7 + s = (s - 1) + 8 by omega]
    simp only [List.getElem?_cons_succ]
    rw [List.getElem?_map, List.getElem?_range (by omega)]
    rw [show s = s - 1 + 1 by omega]; rfl
theorem set_slot {s : Nat} (hs : s < I.m) {x : List (Key × D)} : (isSt C st ds I).set (slot st s) (.dct x) = isSt C st ds { I with d := fun t => if t = s then x else I.d t } := by
  unfold slot
  by_cases h : s = 0
  · rw [if_pos h]
    subst h
    refine set_off.trans ?_
    unfold isSt isTl
    simp
  · rw [if_neg h]
    refine set_off.trans ?_
    unfold isSt isTl
    rw [show 7 + s = (s - 1) + 8 by omega]
    simp only [List.set_cons_succ]
    rw [if_neg (Ne.symm h)]
    congr 9
    apply List.ext_getElem?
    intro i
    by_cases hi : i = s - 1
    · subst hi
      rw [List.getElem?_set_self (by simp; omega), List.getElem?_map, List.getElem?_range (by omega)]
      simp
      omega
    · rw [List.getElem?_set_ne (Ne.symm hi), List.getElem?_map, List.getElem?_map]
      by_cases hl : i < I.m - 1
      · rw [List.getElem?_range hl]
        simp
        omega
      · rw [List.getElem?_eq_none (by simp; omega)]; rfl
theorem is_len (h : 0 < I.m) : (isSt C st ds I).length = st.length + 7 + I.m := by
  unfold isSt isTl; simp; omega
theorem set_op {x : List D} : (isSt C st ds I).set (st.length + 6) (.lst x) = isSt C st ds { I with op := x } := set_off
theorem set_sk {x : List D} : (isSt C st ds I).set (st.length + 7) (.lst x) = isSt C st ds { I with sk := x } := set_off
/-- a scope goes open -/
theorem is_new (h : 0 < I.m) (hd : I.d I.m = []) : isSt C st ds I ++ [DO.dct []] = isSt C st ds { I with m := I.m + 1 } := by
  unfold isSt isTl
  simp only [List.append_assoc, List.cons_append]
  congr 9
  rw [show I.m + 1 - 1 = (I.m - 1) + 1 by omega, List.range_succ, List.map_append]
  simp only [List.map_cons, List.map_nil]
  rw [show I.m - 1 + 1 = I.m by omega, hd]
end
/-- what stands when so many deeds are done -/
def dE (ds : List Dd) (i s : Nat) : List (Key × D) := ((putL (ddOf ds) i).filter fun k => decide (cur (ddOf ds) k = s)).map fun k => (.inr (nm (ddOf ds k)), iN k)
def cOf (ds : List Dd) (i : Nat) : List Nat := (A (ddOf ds) ds.length (cur (ddOf ds) i)).reverse
def isOf (st : SD) (ds : List Dd) (i : Nat) : IS where
  M := (meantL (ddOf ds) ds.length i).map fun p => (.inl (p.1 : Int), iN p.2)
  L := (lostL (ddOf ds) ds.length i).map iN
  O := (putL (ddOf ds) i).map fun k => (.inl ((k : Nat) : Int), iN (cur (ddOf ds) k))
  S := (List.range (nsc (ddOf ds) i)).map fun s => .tup [.int (par (ddOf ds) ds.length s), .int (J (ddOf ds) ds.length s)]
  d := dE ds i
  op := (cOf ds i).map fun s => .ref (slot st s)
  sk := (cOf ds i).map iN
  m := nsc (ddOf ds) i
section
variable {ds : List Dd}
theorem putL_succ {dd : Nat → Dd} {j : Nat} : putL dd (j + 1) = putL dd j ++ if isPut (dd j) = true then [j] else [] := by
  unfold putL
  rw [List.range_succ, List.filter_append]
  congr 1
  by_cases h : isPut (dd j) = true
  · simp [h]
  · simp [h]
theorem meantL_succ {dd : Nat → Dd} {n j : Nat} : meantL dd n (j + 1) = meantL dd n j ++ if isUse (dd j) = true then (match meantAt dd n j (nm (dd j)) with
    | some p => [(j, p)]
    | none => []) else [] := by
  unfold meantL
  rw [useL_succ, List.filterMap_append]
  congr 1
  by_cases h : isUse (dd j) = true
  · rw [if_pos h, if_pos h]
    cases h : meantAt dd n j (nm (dd j)) <;> simp [h]
  · rw [if_neg h, if_neg h]; rfl
theorem lostL_succ {dd : Nat → Dd} {n j : Nat} : lostL dd n (j + 1) = lostL dd n j ++ if isUse (dd j) = true then (match meantAt dd n j (nm (dd j)) with
    | some p => []
    | none => [j]) else [] := by
  unfold lostL
  rw [useL_succ, List.filter_append]
  congr 1
  by_cases h : isUse (dd j) = true
  · rw [if_pos h, if_pos h]
    cases h : meantAt dd n j (nm (dd j)) <;> simp [h]
  · rw [if_neg h, if_neg h]; rfl
theorem dE_get {i s : Nat} {x : Str} : getKD (dE ds i s) (.inr x) = ((putsB (ddOf ds) s x i).head?).map iN := by
  unfold dE getKD
  rw [List.find?_map, Option.map_map]
  have e : ((fun p : Key × D => decide (p.1 = .inr x)) ∘ fun k => ((.inr (nm (ddOf ds k)) : Key), iN k)) = fun k => decide (nm (ddOf ds k) = x) := by
    funext k
    simp
  rw [e, ← List.head?_filter, List.filter_filter]
  have e2 : (putL (ddOf ds) i).filter (fun k => decide (nm (ddOf ds k) = x) && decide (cur (ddOf ds) k = s)) = putsB (ddOf ds) s x i := by
    unfold putL putsB
    rw [List.filter_filter]
    refine List.filter_congr fun k _ => ?_
    rw [Bool.eq_iff_iff]
    cases h : ddOf ds k <;> simp [isPut, nm] <;> (try (intro _; exact decide_eq_true_iff))
  rw [e2]
  rfl
theorem dE_new {i s : Nat} (h : nsc (ddOf ds) i ≤ s) : dE ds i s = [] := by
  unfold dE
  rw [List.filter_eq_nil_iff.mpr]
  · rfl
  · intro k hk
    obtain ⟨h1, _⟩ := mem_putL.mp hk
    have := cur_lt' (dd := ddOf ds) (n := i) (Nat.le_of_lt h1)
    simp
    omega
end
end FL
/-! MH: check_deed, put_or_use, __init__. -/
namespace FL
open PySem PySem.Spec PyProof.Rows L2

section
variable {C CS : Addr} {st : SD} {b : Ob} {ds : List Dd} {P : DP} {Ex : DX}
/-- names that may stand -/
def NmD (d : Dd) : Prop := match d with
  | .put x => PyData.strOk x = true ∧ x ≠ ""
  | .use x => PyData.strOk x = true ∧ x ≠ ""
  | _ => True
theorem F_check_ok {v : D} {d : Dd} (hn : NmD d) (hP : P .non st) : F_check_deed C CS [v, encD d] st P Ex := by
  unfold F_check_deed t_check_deed
  cases d with
  | put x =>
    obtain ⟨h1, h2⟩ := hn
    simp [-Bool.exists_bool, -List.lookup_eq_none_iff, -u_gtup, -u_gcons, -u_gnil, -u_par, dStart, dwipe, encD, u_inB, cb_eq, atomD, h1, h2]
    exact hP
  | use x =>
    obtain ⟨h1, h2⟩ := hn
    simp [-Bool.exists_bool, -List.lookup_eq_none_iff, -u_gtup, -u_gcons, -u_gnil, -u_par, dStart, dwipe, encD, u_inB, cb_eq, atomD, h1, h2]
    exact hP
  | inn =>
    simp [-Bool.exists_bool, -List.lookup_eq_none_iff, -u_gtup, -u_gcons, -u_gnil, -u_par, dStart, dwipe, encD, u_inB, cb_eq, atomD]
    exact hP
  | out =>
    simp [-Bool.exists_bool, -List.lookup_eq_none_iff, -u_gtup, -u_gcons, -u_gnil, -u_par, dStart, dwipe, encD, u_inB, cb_eq, atomD]
    exact hP
theorem c_last {i : Nat} (hi : i ≤ ds.length) : ∃ r, cOf ds i = r ++ [cur (ddOf ds) i] := by
  obtain ⟨t, et⟩ := A_hd (dd := ddOf ds) (n := ds.length) (cur_lt' hi)
  exact ⟨t.reverse, by show (A (ddOf ds) ds.length (cur (ddOf ds) i)).reverse = _; rw [et]; simp⟩
theorem at_c {i : Nat} (hi : i ≤ ds.length) (f : Nat → D) : atI ((cOf ds i).map f) (-1) = some (f (cur (ddOf ds) i)) := by
  obtain ⟨r, e⟩ := c_last hi
  rw [e, List.map_append]
  exact at_last
theorem at_op {i : Nat} (hi : i ≤ ds.length) : atI (isOf st ds i).op (-1) = some (.ref (slot st (cur (ddOf ds) i))) := at_c hi _
theorem at_sk {i : Nat} (hi : i ≤ ds.length) : atI (isOf st ds i).sk (-1) = some (iN (cur (ddOf ds) i)) := at_c hi _
theorem cOf_same {i : Nat} (h : cur (ddOf ds) (i + 1) = cur (ddOf ds) i) : cOf ds (i + 1) = cOf ds i := by unfold cOf; rw [h]
theorem putL_len {dd : Nat → Dd} {j : Nat} : (putL dd j).length ≤ j := by
  have := List.length_filter_le (fun k => isPut (dd k)) (List.range j)
  rw [List.length_range] at this
  exact this
theorem dE_len {i s : Nat} : (dE ds i s).length ≤ i := by
  unfold dE
  rw [List.length_map]
  exact Nat.le_trans (List.length_filter_le _ _) putL_len
theorem isOf_put {i : Nat} {x : Str} (hi : i < ds.length) (ex : ddOf ds i = .put x) (hg : putsB (ddOf ds) (cur (ddOf ds) i) x i = []) :
    { isOf st ds i with d := fun t => if t = cur (ddOf ds) i then putKD (dE ds i (cur (ddOf ds) i)) (.inr x) (iN i) else dE ds i t, O := putKD (isOf st ds i).O (.inl (i : Int)) (iN (cur (ddOf ds) i)) } = isOf st ds (i + 1) := by
  have hO : putKD (isOf st ds i).O (.inl (i : Int)) (iN (cur (ddOf ds) i)) = (isOf st ds (i + 1)).O := by
    rw [putKD_new]
    · show _ = (putL (ddOf ds) (i + 1)).map _
      rw [putL_succ, ex]
      simp [isPut, isOf]
    · intro hm
      simp only [isOf, List.map_map, List.mem_map] at hm
      obtain ⟨k, hk, e⟩ := hm
      have h1 := (mem_putL.mp hk).1
      have : (k : Int) = i := Sum.inl.inj e
      omega
  have hnew : (.inr x : Key) ∉ (dE ds i (cur (ddOf ds) i)).map (·.1) := by
    rw [← getKD_mem, dE_get, hg]
    simp
  have hd : (fun t => if t = cur (ddOf ds) i then putKD (dE ds i (cur (ddOf ds) i)) (.inr x) (iN i) else dE ds i t) = dE ds (i + 1) := by
    funext t
    unfold dE
    rw [putL_succ, ex, List.filter_append, List.map_append]
    by_cases ht : t = cur (ddOf ds) i
    · rw [if_pos ht]
      subst ht
      have := putKD_new (d := iN i) hnew
      unfold dE at this
      rw [this]
      simp [isPut, nm, ex]
    · rw [if_neg ht]
      simp [isPut, Ne.symm ht]
  rw [hO, hd]
  unfold isOf
  rw [cOf_same (cur_put ex), nsc_put ex, meantL_succ, lostL_succ, ex]
  simp [isUse]
theorem F_put_ok {i : Nat} {x : Str} (hi : i < ds.length) (ex : ddOf ds i = .put x) (hg : putsB (ddOf ds) (cur (ddOf ds) i) x i = []) (hz : ds.length ≤ 1000) (hP : P .non (isSt C st ds (isOf st ds (i + 1)))) :
    F_put_or_use C CS [.ref st.length, .int i, .tup [.str "put", .str x], .ref (st.length + 6), .ref (st.length + 7)] (isSt C st ds (isOf st ds i)) P Ex := by
  unfold F_put_or_use t_put_or_use
  have hc : cur (ddOf ds) i < (isOf st ds i).m := cur_lt i
  have z1 : (dE ds i (cur (ddOf ds) i)).length < sizeLine := by
    have := dE_len (ds := ds) (i := i) (s := cur (ddOf ds) i)
    have : 1000 < sizeLine := by decide
    omega
  have z2 : (isOf st ds i).O.length < sizeLine := by
    have := putL_len (dd := ddOf ds) (j := i)
    have : 1000 < sizeLine := by decide
    simp only [isOf, List.length_map]
    omega
  have e1 : getKD (dE ds i (cur (ddOf ds) i)) (.inr x) = none := by rw [dE_get, hg]; rfl
  have e2 : (isOf st ds i).d = dE ds i := rfl
  have e3 : (isOf st ds i).op = (cOf ds i).map fun s => D.ref (slot st s) := rfl
  have e4 : (isOf st ds i).sk = (cOf ds i).map iN := rfl
  simp [-Bool.exists_bool, -List.lookup_eq_none_iff, -u_gtup, -u_gcons, -u_gnil, -u_par, dStart, dwipe, seq_ref is_op, seq_ref is_sk, at_op (Nat.le_of_lt hi), at_sk (Nat.le_of_lt hi), dct_ref (is_slot hc), is_slot hc, e2, e1, z1, set_slot hc, is_ins, bOf, is_O, z2, set_O]
  rw [isOf_put hi ex hg]
  exact hP
theorem F_put_err {i : Nat} {x : Str} (hi : i < ds.length) (hg : putsB (ddOf ds) (cur (ddOf ds) i) x i ≠ []) (hP : Ex CS (isSt C st ds (isOf st ds i))) :
    F_put_or_use C CS [.ref st.length, .int i, .tup [.str "put", .str x], .ref (st.length + 6), .ref (st.length + 7)] (isSt C st ds (isOf st ds i)) P Ex := by
  unfold F_put_or_use t_put_or_use
  have hc : cur (ddOf ds) i < (isOf st ds i).m := cur_lt i
  have e2 : (isOf st ds i).d = dE ds i := rfl
  have e3 : (isOf st ds i).op = (cOf ds i).map fun s => D.ref (slot st s) := rfl
  have e4 : (isOf st ds i).sk = (cOf ds i).map iN := rfl
  obtain ⟨p, hp⟩ : ∃ p, (putsB (ddOf ds) (cur (ddOf ds) i) x i).head? = some p := by
    cases h : putsB (ddOf ds) (cur (ddOf ds) i) x i with
    | nil => exact (hg h).elim
    | cons a r => exact ⟨a, rfl⟩
  have e1 : getKD (dE ds i (cur (ddOf ds) i)) (.inr x) = some (iN p) := by rw [dE_get, hp]; rfl
  simp [-Bool.exists_bool, -List.lookup_eq_none_iff, -u_gtup, -u_gcons, -u_gnil, -u_par, dStart, dwipe, seq_ref is_op, seq_ref is_sk, at_op (Nat.le_of_lt hi), at_sk (Nat.le_of_lt hi), dct_ref (is_slot hc), is_slot hc, e2, e1]
  exact hP
def ableL (ds : List Dd) (i : Nat) (x : Str) : List Nat := (cOf ds i).filterMap fun s => (putsB (ddOf ds) s x i).head?
theorem able_last {i : Nat} {x : Str} : (ableL ds i x).getLast? = meantAt (ddOf ds) ds.length i x := by
  show ((A (ddOf ds) ds.length (cur (ddOf ds) i)).reverse.filterMap _).getLast? = _
  rw [List.filterMap_reverse, List.getLast?_reverse, List.head?_filterMap]
  rfl
theorem map_able {α β : Type} (f : α → Option β) (g : β → D) (l : List α) : (l.filter fun a => (f a).isSome).map (fun a => ((f a).map g).getD .non) = (l.filterMap f).map g := by
  induction l with
  | nil => rfl
  | cons a l ih => cases e : f a <;> simp [e, ih]
theorem isOf_use {i : Nat} {x : Str} (hi : i < ds.length) (ex : ddOf ds i = .use x) : isOf st ds (i + 1) = (match meantAt (ddOf ds) ds.length i x with
    | some p => { isOf st ds i with M := putKD (isOf st ds i).M (.inl (i : Int)) (iN p) }
    | none => { isOf st ds i with L := (isOf st ds i).L ++ [iN i] }) := by
  have hd : dE ds (i + 1) = dE ds i := by
    funext t
    unfold dE
    rw [putL_succ, ex]
    simp [isPut]
  have hn : (.inl (i : Int) : Key) ∉ (isOf st ds i).M.map (·.1) := by
    intro hm
    simp only [isOf, List.map_map, List.mem_map] at hm
    obtain ⟨⟨k, p⟩, hk, e⟩ := hm
    have h1 := (mem_meantL.mp hk).1
    have : (k : Int) = i := Sum.inl.inj e
    omega
  cases hm : meantAt (ddOf ds) ds.length i x with
  | none =>
    unfold isOf
    rw [cOf_same (cur_use ex), nsc_use ex, meantL_succ, lostL_succ, ex, putL_succ, ex, hd]
    simp [isUse, isPut, nm, hm]
  | some p =>
    simp only [putKD_new hn]
    unfold isOf
    rw [cOf_same (cur_use ex), nsc_use ex, meantL_succ, lostL_succ, ex, putL_succ, ex, hd]
    simp [isUse, isPut, nm, hm]
theorem useL_len {dd : Nat → Dd} {j : Nat} : (useL dd j).length ≤ j := by
  have := List.length_filter_le (fun k => isUse (dd k)) (List.range j)
  rw [List.length_range] at this
  exact this
theorem F_use_ok {i : Nat} {x : Str} (hi : i < ds.length) (ex : ddOf ds i = .use x) (hx : PyData.strOk x = true) (hz : ds.length ≤ 1000) (hP : P .non (isSt C st ds (isOf st ds (i + 1)))) :
    F_put_or_use C CS [.ref st.length, .int i, .tup [.str "use", .str x], .ref (st.length + 6), .ref (st.length + 7)] (isSt C st ds (isOf st ds i)) P Ex := by
  unfold F_put_or_use t_put_or_use
  have z1 : (isOf st ds i).M.length < sizeLine := by
    have h1 : (meantL (ddOf ds) ds.length i).length ≤ (useL (ddOf ds) i).length := List.length_filterMap_le _ _
    have := useL_len (dd := ddOf ds) (j := i)
    have : 1000 < sizeLine := by decide
    simp only [isOf, List.length_map]
    omega
  have z2 : (isOf st ds i).L.length < sizeLine := by
    have h1 : (lostL (ddOf ds) ds.length i).length ≤ (useL (ddOf ds) i).length := List.length_filter_le _ _
    have := useL_len (dd := ddOf ds) (j := i)
    have : 1000 < sizeLine := by decide
    simp only [isOf, List.length_map]
    omega
  have zc : (cOf ds i).length ≤ sizeLine := by
    have h1 := A_len (cur_lt' (dd := ddOf ds) (Nat.le_of_lt hi))
    have : 1001 < sizeLine := by decide
    simp only [cOf, List.length_reverse]
    omega
  have hm : ∀ s ∈ (cOf ds i), s < (isOf st ds i).m := fun s hs => by
    have h1 := A_mem (cur_lt' (dd := ddOf ds) (Nat.le_of_lt hi)) (List.mem_reverse.mp hs)
    have := cur_lt (dd := ddOf ds) i
    show s < nsc (ddOf ds) i
    omega
  simp [-Bool.exists_bool, -List.lookup_eq_none_iff, -u_gtup, -u_gcons, -u_gnil, -u_par, dStart, dwipe]
  refine ⟨_, is_op, ?_⟩
  refine comp_rule (fun s => D.ref (slot st s)) (fun s => ((putsB (ddOf ds) s x i).head?).isSome) (fun s => (((putsB (ddOf ds) s x i).head?).map iN).getD .non) is_op _ _ (fun s hs Y N hY => ?_) (by simpa using zc) ?_
  · have e2 : (isOf st ds i).d = dE ds i := rfl
    cases e : (putsB (ddOf ds) s x i).head? with
    | none =>
      simp [-Bool.exists_bool, -List.lookup_eq_none_iff, -u_gtup, -u_gcons, -u_gnil, -u_par, dStart, dwipe, dct_ref (is_slot (hm s hs)), e2, dE_get, e]
      rw [e] at hY
      simpa using hY
    | some p =>
      simp [-Bool.exists_bool, -List.lookup_eq_none_iff, -u_gtup, -u_gcons, -u_gnil, -u_par, dStart, dwipe, dct_ref (is_slot (hm s hs)), e2, dE_get, e]
      rw [e] at hY
      simpa using hY
  · rw [map_able]
    show _
    have hW : (cOf ds i).filterMap (fun s => (putsB (ddOf ds) s x i).head?) = ableL ds i x := rfl
    rw [hW, List.nil_append]
    have hl := able_last (ds := ds) (i := i) (x := x)
    rw [isOf_use hi ex] at hP
    cases hq : meantAt (ddOf ds) ds.length i x with
    | none =>
      rw [hq] at hl hP
      have e0 := List.getLast?_eq_none_iff.mp hl
      simp [-Bool.exists_bool, -List.lookup_eq_none_iff, -u_gtup, -u_gcons, -u_gnil, -u_par, dStart, dwipe, e0, plainL, cb_eq, is_ins, bOf, is_L, z2, set_L]
      exact hP
    | some p =>
      rw [hq] at hl hP
      have e0 : ableL ds i x ≠ [] := fun z => by rw [z] at hl; cases hl
      simp [-Bool.exists_bool, -List.lookup_eq_none_iff, -u_gtup, -u_gcons, -u_gnil, -u_par, dStart, dwipe, e0, plainL, plainL_iN, cb_eq, at_map_last hl, is_ins, bOf, is_M, z1, set_M]
      exact hP
end
end FL
/-! MI: __init__. -/
namespace FL
open PySem PySem.Spec PyProof.Rows L2

@[simp] theorem lk_check_deed {b : Ob} {ds : List Dd} : List.lookup ("check_deed" : Str) (fsOf b ds) = none := rfl
@[simp] theorem lk_put_or_use {b : Ob} {ds : List Dd} : List.lookup ("put_or_use" : Str) (fsOf b ds) = none := rfl
/-- v is a row of the deeds -/
def SeqV (st : SD) (v : D) (ds : List Dd) : Prop := v = .lst (ds.map encD) ∨ v = .tup (ds.map encD) ∨ ∃ i, v = .ref i ∧ st[i]? = some (.lst (ds.map encD))
theorem fne_01 : (("deeds" : Str) = "meant") = False := by simp only [eq_iff_iff, iff_false]; decide
theorem fne_02 : (("deeds" : Str) = "lost") = False := by simp only [eq_iff_iff, iff_false]; decide
theorem fne_03 : (("deeds" : Str) = "owners") = False := by simp only [eq_iff_iff, iff_false]; decide
theorem fne_04 : (("deeds" : Str) = "scopes") = False := by simp only [eq_iff_iff, iff_false]; decide
theorem fne_12 : (("meant" : Str) = "lost") = False := by simp only [eq_iff_iff, iff_false]; decide
theorem fne_13 : (("meant" : Str) = "owners") = False := by simp only [eq_iff_iff, iff_false]; decide
theorem fne_14 : (("meant" : Str) = "scopes") = False := by simp only [eq_iff_iff, iff_false]; decide
theorem fne_23 : (("lost" : Str) = "owners") = False := by simp only [eq_iff_iff, iff_false]; decide
theorem fne_24 : (("lost" : Str) = "scopes") = False := by simp only [eq_iff_iff, iff_false]; decide
theorem fne_34 : (("owners" : Str) = "scopes") = False := by simp only [eq_iff_iff, iff_false]; decide
section
variable {a b c d e : D}
@[simp] theorem pf1 : putFD "deeds" a [] = [(("deeds" : Str), a)] := by simp [putFD, fne_01, fne_02, fne_03, fne_04, fne_12, fne_13, fne_14, fne_23, fne_24, fne_34]
@[simp] theorem pf2 : putFD "meant" b [(("deeds" : Str), a)] = [(("deeds" : Str), a), ("meant", b)] := by simp [putFD, fne_01, fne_02, fne_03, fne_04, fne_12, fne_13, fne_14, fne_23, fne_24, fne_34]
@[simp] theorem pf3 : putFD "lost" c [(("deeds" : Str), a), ("meant", b)] = [(("deeds" : Str), a), ("meant", b), ("lost", c)] := by simp [putFD, fne_01, fne_02, fne_03, fne_04, fne_12, fne_13, fne_14, fne_23, fne_24, fne_34]
@[simp] theorem pf4 : putFD "owners" d [(("deeds" : Str), a), ("meant", b), ("lost", c)] = [(("deeds" : Str), a), ("meant", b), ("lost", c), ("owners", d)] := by simp [putFD, fne_01, fne_02, fne_03, fne_04, fne_12, fne_13, fne_14, fne_23, fne_24, fne_34]
@[simp] theorem pf5 : putFD "scopes" e [(("deeds" : Str), a), ("meant", b), ("lost", c), ("owners", d)] = [(("deeds" : Str), a), ("meant", b), ("lost", c), ("owners", d), ("scopes", e)] := by simp [putFD, fne_01, fne_02, fne_03, fne_04, fne_12, fne_13, fne_14, fne_23, fne_24, fne_34]
@[simp high] theorem lx1 : List.lookup ("deeds" : Str) [(("deeds" : Str), a), ("meant", b), ("lost", c), ("owners", d), ("scopes", e)] = some a := rfl
@[simp high] theorem lx5 : List.lookup ("scopes" : Str) [(("deeds" : Str), a), ("meant", b), ("lost", c), ("owners", d), ("scopes", e)] = some e := rfl
end
section
variable {C CS : Addr} {st : SD} {b : Ob} {ds : List Dd} {P : DP} {Ex : DX}
theorem encD_tup (d : Dd) : ∃ l, encD d = .tup l := by cases d <;> exact ⟨_, rfl⟩
theorem SeqV.at {v : D} {P : List D → (SD → Prop) → SD → Prop} (h : SeqV st v ds) (hP : ∀ G, G st → P (ds.map encD) G st) : diAt v st P := by
  rcases h with rfl | rfl | ⟨i, rfl, e⟩
  · exact hP _ trivial
  · exact hP _ trivial
  · exact ⟨_, e, hP _ e⟩
theorem SeqV.app {v : D} (h : SeqV st v ds) (r : SD) : SeqV (st ++ r) v ds := by
  rcases h with rfl | rfl | ⟨i, rfl, e⟩
  · exact .inl rfl
  · exact .inr (.inl rfl)
  · exact .inr (.inr ⟨i, rfl, get_app e⟩)
theorem sk_len {i : Nat} : (isOf st ds i).sk.length = (A (ddOf ds) ds.length (cur (ddOf ds) i)).length := by simp [isOf, cOf]
theorem op_len {i : Nat} : (isOf st ds i).op.length = (A (ddOf ds) ds.length (cur (ddOf ds) i)).length := by simp [isOf, cOf]
theorem nsc_bnd (dd : Nat → Dd) : ∀ k, nsc dd k ≤ k + 1 := fun k => by
  induction k with
  | zero => exact Nat.le_refl _
  | succ k ih =>
    cases e : dd k with
    | put x => rw [nsc_put e]; omega
    | use x => rw [nsc_use e]; omega
    | out => rw [nsc_out e]; omega
    | inn => rw [nsc_inn e]; omega
theorem cOf_inn {i : Nat} (hi : i < ds.length) (ex : ddOf ds i = .inn) : cOf ds (i + 1) = cOf ds i ++ [nsc (ddOf ds) i] := by
  unfold cOf
  rw [cur_inn ex, A_inn hi ex]
  simp
theorem cOf_out {i : Nat} (hi : i < ds.length) (ex : ddOf ds i = .out) (h0 : cur (ddOf ds) i ≠ 0) : cOf ds i = cOf ds (i + 1) ++ [cur (ddOf ds) i] := by
  unfold cOf
  rw [cur_out hi ex h0]
  simp
theorem isOf_inn {i : Nat} (hi : i < ds.length) (ex : ddOf ds i = .inn) : isOf st ds (i + 1) = { isOf st ds i with S := (isOf st ds i).S ++ [.tup [iN (cur (ddOf ds) i), iN i]], op := (isOf st ds i).op ++ [.ref (slot st (nsc (ddOf ds) i))], sk := (isOf st ds i).sk ++ [iN (nsc (ddOf ds) i)], m := (isOf st ds i).m + 1 } := by
  have hd : dE ds (i + 1) = dE ds i := by
    funext t
    unfold dE
    rw [putL_succ, ex]
    simp [isPut]
  have hpar : par (ddOf ds) ds.length (nsc (ddOf ds) i) = (cur (ddOf ds) i : Nat) := by
    unfold par
    rw [A_inn hi ex]
    obtain ⟨t, et⟩ := A_hd (dd := ddOf ds) (n := ds.length) (cur_lt' (Nat.le_of_lt hi))
    rw [et]; rfl
  unfold isOf
  rw [cOf_inn hi ex, nsc_inn ex, meantL_succ, lostL_succ, ex, putL_succ, ex, hd, List.range_succ]
  simp [isUse, isPut, hpar, J_inn hi ex]
theorem isOf_out {i : Nat} (hi : i < ds.length) (ex : ddOf ds i = .out) : isOf st ds (i + 1) = { isOf st ds i with op := (cOf ds (i + 1)).map (fun s => D.ref (slot st s)), sk := (cOf ds (i + 1)).map iN } := by
  have hd : dE ds (i + 1) = dE ds i := by
    funext t
    unfold dE
    rw [putL_succ, ex]
    simp [isPut]
  unfold isOf
  rw [nsc_out ex, meantL_succ, lostL_succ, ex, putL_succ, ex, hd]
  simp [isUse, isPut]
theorem F_init_ok {v : D} (h : SeqV st v ds) (hn : ∀ d ∈ ds, NmD d) (hz : ds.length ≤ 1000)
    (hP : Valid (ddOf ds) ds.length → P .non (isSt C st ds (isOf st ds ds.length))) (hE : ¬ Valid (ddOf ds) ds.length → ∀ r, Ex CS (st ++ r)) : F_init C CS [.ref st.length, v] (st ++ [.ins C []]) P Ex := by
  unfold F_init t_init
  simp [-Bool.exists_bool, -List.lookup_eq_none_iff, -u_gtup, -u_gcons, -u_gnil, -u_par, dStart, dwipe]
  refine (h.app _).at fun G hG => ?_
  refine comp_rule encD (fun _ => true) encD hG _ _ (fun d hd Y N hY => ?_) (by simpa using sz hz) ?_
  · obtain ⟨l, e⟩ := encD_tup d
    simp [-Bool.exists_bool, -List.lookup_eq_none_iff, -u_gtup, -u_gcons, -u_gnil, -u_par, dStart, dwipe, e, fTuple]
    simpa [e] using hY
  rw [List.filter_eq_self.mpr (fun _ _ => rfl), List.nil_append]
  simp [-Bool.exists_bool, -List.lookup_eq_none_iff, -u_gtup, -u_gcons, -u_gnil, -u_par, dStart, dwipe, get_off, get_off0, set_off, set_off0, Nat.add_assoc, enum_range]
  refine ⟨by decide, ?_⟩
  have h0 : (st ++ [DO.ins C [("deeds", D.tup (List.map encD ds)), ("meant", D.ref (st.length + 1)), ("lost", D.ref (st.length + 2)), ("owners", D.ref (st.length + 3)), ("scopes", D.ref (st.length + 4))],
      DO.dct [], DO.lst [], DO.dct [], DO.lst [D.tup [D.int (-1), D.int (-1)]], DO.dct [], DO.lst [D.ref (st.length + 5)], DO.lst [D.int 0]]) = isSt C st ds (isOf st ds 0) := by
    unfold isSt isTl isOf
    have e1 : cOf ds 0 = [0] := by show (A (ddOf ds) ds.length 0).reverse = _; rw [A_zero]; rfl
    have e2 : (List.range (nsc (ddOf ds) 0)).map (fun s => D.tup [.int (par (ddOf ds) ds.length s), .int (J (ddOf ds) ds.length s)]) = [D.tup [D.int (-1), D.int (-1)]] := by
      show [D.tup [.int (par (ddOf ds) ds.length 0), .int (J (ddOf ds) ds.length 0)]] = _
      rw [J_zero]
      unfold par
      rw [A_zero]; rfl
    rw [e1, e2]
    rfl
  rw [h0]
  refine loop_range (fun k => D.tup [.int (k : Nat), encD (ddOf ds k)]) (fun i env st' => (∀ k, k < i → Good (ddOf ds) ds.length k) ∧ st' = isSt C st ds (isOf st ds i) ∧ ∃ x5 x6, env = [some (.ref st.length), some v, some (.ref (st.length + 6)), some (.int ((nsc (ddOf ds) i : Nat) - 1)), some (.ref (st.length + 7)), x5, x6]) ?_ ?_ ⟨fun k hk => by omega, rfl, _, _, rfl⟩
  · rintro i env st' K hi ⟨hg, rfl, x5, x6, rfl⟩ hK
    have hG1 : Good (ddOf ds) ds.length i → ∀ k, k < i + 1 → Good (ddOf ds) ds.length k := fun hgi k hk => by
      by_cases e : k = i
      · rw [e]; exact hgi
      · exact hg k (by omega)
    have hbad : ¬ Good (ddOf ds) ds.length i → Ex CS (isSt C st ds (isOf st ds i)) := fun hb => hE (fun hv => hb (hv.1 i hi)) _
    have hnd : NmD (ddOf ds i) := by
      have e : ddOf ds i = ds[i] := by unfold ddOf; rw [List.getD_eq_getElem?_getD, List.getElem?_eq_getElem hi]; rfl
      rw [e]; exact hn _ (List.getElem_mem _)
    simp [-Bool.exists_bool, -List.lookup_eq_none_iff, -u_gtup, -u_gcons, -u_gnil, -u_par, dStart, dwipe, is_ins]
    refine F_check_ok hnd ?_
    cases ex : ddOf ds i with
    | put x =>
      simp [-Bool.exists_bool, -List.lookup_eq_none_iff, -u_gtup, -u_gcons, -u_gnil, -u_par, dStart, dwipe, encD, is_ins]
      by_cases hgi : Good (ddOf ds) ds.length i
      · refine F_put_ok hi ex (by unfold Good at hgi; rw [ex] at hgi; exact hgi) hz ?_
        exact hK _ _ ⟨hG1 hgi, rfl, _, _, by rw [nsc_put ex]⟩
      · refine F_put_err hi (fun z => hgi (by unfold Good; rw [ex]; exact z)) (hbad hgi)
    | use x =>
      have hgi : Good (ddOf ds) ds.length i := by unfold Good; rw [ex]; trivial
      simp [-Bool.exists_bool, -List.lookup_eq_none_iff, -u_gtup, -u_gcons, -u_gnil, -u_par, dStart, dwipe, encD, is_ins]
      refine F_use_ok hi ex (by rw [ex] at hnd; exact hnd.1) hz ?_
      exact hK _ _ ⟨hG1 hgi, rfl, _, _, by rw [nsc_use ex]⟩
    | inn =>
      simp [-Bool.exists_bool, -List.lookup_eq_none_iff, -u_gtup, -u_gcons, -u_gnil, -u_par, dStart, dwipe, encD, is_ins, len_ref is_sk]
      by_cases hgi : Good (ddOf ds) ds.length i
      · have h12 : (A (ddOf ds) ds.length (cur (ddOf ds) i)).length ≤ 12 := by unfold Good at hgi; rw [ex] at hgi; exact hgi
        have hskl := sk_len (st := st) (ds := ds) (i := i)
        have hopl := op_len (st := st) (ds := ds) (i := i)
        have hSl : (isOf st ds i).S.length = nsc (ddOf ds) i := by simp [isOf]
        have hns := nsc_bnd (ddOf ds) i
        have hbig : 2000 < sizeLine := by decide
        have z1 : (isOf st ds i).S.length < sizeLine := by omega
        have z2 : (isOf st ds i).sk.length < sizeLine := by omega
        have z3 : (isOf st ds i).op.length < sizeLine := by omega
        have hm0 : 0 < (isOf st ds i).m := Nat.lt_of_le_of_lt (Nat.zero_le _) (cur_lt i)
        have hlen : (isSt C st ds (isOf st ds i)).length = slot st (nsc (ddOf ds) i) := by
          rw [is_len hm0]
          have : 0 < nsc (ddOf ds) i := hm0
          unfold slot
          rw [if_neg (by omega)]
          show _ + 7 + nsc (ddOf ds) i = _
          omega
        have hnew : ∀ S' sk', isSt C st ds { isOf st ds i with S := S', sk := sk' } ++ [DO.dct []] = isSt C st ds { isOf st ds i with S := S', sk := sk', m := (isOf st ds i).m + 1 } := fun S' sk' => is_new hm0 (dE_new (Nat.le_refl _))
        rw [if_neg (by omega)]
        simp [-Bool.exists_bool, -List.lookup_eq_none_iff, -u_gtup, -u_gcons, -u_gnil, -u_par, dStart, dwipe, show (bOf st).s = st.length + 4 from rfl, is_S, seq_ref is_sk, is_sk, at_sk (Nat.le_of_lt hi), z1, z2, z3, set_S, set_sk, hnew, is_op, set_op, hlen]
        refine hK _ _ ⟨hG1 hgi, ?_, _, _, by rw [nsc_inn ex, show (((nsc (ddOf ds) i + 1 : Nat) : Int) - 1) = ((nsc (ddOf ds) i : Nat) : Int) by omega]⟩
        rw [isOf_inn hi ex]
      · have h12 : ¬ (A (ddOf ds) ds.length (cur (ddOf ds) i)).length ≤ 12 := fun z => hgi (by unfold Good; rw [ex]; exact z)
        rw [if_pos (by rw [sk_len]; omega)]
        exact hbad hgi
    | out =>
      simp [-Bool.exists_bool, -List.lookup_eq_none_iff, -u_gtup, -u_gcons, -u_gnil, -u_par, dStart, dwipe, encD, is_ins, len_ref is_sk]
      by_cases hgi : Good (ddOf ds) ds.length i
      · have h0' : cur (ddOf ds) i ≠ 0 := by unfold Good at hgi; rw [ex] at hgi; exact hgi
        have hcs := cOf_out hi ex h0'
        have e1 : (isOf st ds i).sk = (cOf ds (i + 1)).map iN ++ [iN (cur (ddOf ds) i)] := by show (cOf ds i).map iN = _; rw [hcs]; simp
        have e2 : (isOf st ds i).op = (cOf ds (i + 1)).map (fun s => D.ref (slot st s)) ++ [.ref (slot st (cur (ddOf ds) i))] := by show (cOf ds i).map _ = _; rw [hcs]; simp
        have hl : 1 ≤ (cOf ds (i + 1)).length := by
          have := A_ne (dd := ddOf ds) (n := ds.length) (cur_lt' (show i + 1 ≤ ds.length from hi))
          unfold cOf
          rw [List.length_reverse]
          exact List.length_pos_iff.mpr this
        rw [if_neg (by rw [e1]; simp; omega)]
        refine ⟨_, is_sk, ⟨iN (cur (ddOf ds) i), by rw [e1]; simp⟩, _, is_op, ⟨.ref (slot st (cur (ddOf ds) i)), by rw [e2]; simp⟩, ?_⟩
        rw [set_sk, set_op]
        refine hK _ _ ⟨hG1 hgi, ?_, _, _, by rw [nsc_out ex]⟩
        rw [e1, e2, List.dropLast_concat, List.dropLast_concat]
        rw [isOf_out hi ex]
      · have h0' : cur (ddOf ds) i = 0 := Classical.byContradiction fun z => hgi (by unfold Good; rw [ex]; exact z)
        rw [if_pos (by rw [sk_len, h0', A_zero]; rfl)]
        exact hbad hgi
  · rintro env st' ⟨hg, rfl, x5, x6, rfl⟩
    simp [-Bool.exists_bool, -List.lookup_eq_none_iff, -u_gtup, -u_gcons, -u_gnil, -u_par, dStart, dwipe, len_ref is_sk, sk_len]
    by_cases hc0 : cur (ddOf ds) ds.length = 0
    · rw [hc0, A_zero]
      exact hP ⟨hg, hc0⟩
    · have hc := cur_lt' (dd := ddOf ds) (Nat.le_refl ds.length)
      obtain ⟨p, hp, e⟩ := A_step (dd := ddOf ds) (n := ds.length) (by omega) hc
      have := A_ne (dd := ddOf ds) (n := ds.length) (s := p) (by omega)
      have h1 : 0 < (A (ddOf ds) ds.length p).length := List.length_pos_iff.mpr this
      rw [if_pos (by rw [e, List.length_cons]; omega)]
      exact hE (fun hv => hc0 hv.2) _
end
end FL
/-! MJ: Scopes made; taken_in, by_steps_out, may_be_renamed. -/
namespace FL
open PySem PySem.Spec PyProof.Rows L2

section
variable {C CS : Addr} {st : SD} {b : Ob} {ds : List Dd} {P : DP} {Ex : DX}
theorem ok_empty : PyData.strOk Str.empty = true := by decide +kernel
theorem nm_ok (hn : ∀ d ∈ ds, NmD d) (k : Nat) : PyData.strOk (nm (ddOf ds k)) = true := by
  unfold ddOf
  rw [List.getD_eq_getElem?_getD]
  by_cases hk : k < ds.length
  · rw [List.getElem?_eq_getElem hk]
    have := hn _ (List.getElem_mem hk)
    show PyData.strOk (nm ds[k]) = true
    revert this
    cases ds[k] with
    | put x => exact fun h => h.1
    | use x => exact fun h => h.1
    | inn => intro _; exact ok_empty
    | out => intro _; exact ok_empty
  · rw [List.getElem?_eq_none (by omega)]
    exact ok_empty
theorem F_make_ok {v : D} {P : SD → Prop} (h : SeqV st v ds) (hn : ∀ d ∈ ds, NmD d) (hz : ds.length ≤ 1000)
    (hP : Valid (ddOf ds) ds.length → ∀ r, ScAt C (st ++ r) (bOf st) ds → P (st ++ r)) (hE : ¬ Valid (ddOf ds) ds.length → ∀ r, Ex CS (st ++ r)) :
    F_init C CS [.ref st.length, v] (st ++ [.ins C []]) (fun d st2 => d = .non ∧ ∃ st3, Pub st2 st3 ∧ P st3) Ex := by
  refine F_init_ok h hn hz (fun hv => ⟨rfl, _, .step (.step (.refl _) is_M) ((get_set is_O (by omega))), ?_⟩) hE
  have e1 : (isSt C st ds (isOf st ds ds.length)).set (st.length + 1) (.dctR (isOf st ds ds.length).M) = st ++ (isTl C st ds (isOf st ds ds.length)).set 1 (.dctR (isOf st ds ds.length).M) := set_off
  rw [e1, set_off]
  refine hP hv _ ⟨get_off0.trans rfl, get_off.trans rfl, get_off.trans rfl, get_off.trans rfl, get_off.trans rfl, hv, hz, nm_ok hn⟩

/-! ### sorted(d) -/
structure KeyI (F : List (Key × D)) (S : Str → Prop) : Prop where
  nd : (F.map (·.1)).Nodup
  ky : ∀ q ∈ F.map (·.1), ∃ x, q = .inr x
  mem : ∀ x, (.inr x : Key) ∈ F.map (·.1) ↔ S x
theorem KeyI.put {F : List (Key × D)} {S : Str → Prop} (h : KeyI F S) (y : Str) (d : D) : KeyI (putKD F (.inr y) d) (fun x => S x ∨ x = y) := by
  have hm : ∀ k : Key, k ∈ (putKD F (.inr y) d).map (·.1) ↔ k ∈ F.map (·.1) ∨ k = .inr y := fun k => by
    by_cases hy : (.inr y : Key) ∈ F.map (·.1)
    · rw [putKD_old hy]
      exact ⟨.inl, fun z => z.elim id fun e => e ▸ hy⟩
    · rw [putKD_new hy]
      simp
  refine ⟨putKD_nodup h.nd, fun k hk => ?_, fun x => ?_⟩
  · rcases (hm k).mp hk with z | z
    · exact h.ky k z
    · exact ⟨y, z⟩
  · rw [hm, h.mem]
    exact ⟨fun z => z.imp id Sum.inr.inj, fun z => z.imp id fun e => by rw [e]⟩
theorem KeyI.of {F : List (Key × D)} {S S' : Str → Prop} (h : KeyI F S) (e : ∀ x, S x ↔ S' x) : KeyI F S' := ⟨h.nd, h.ky, fun x => (h.mem x).trans (e x)⟩
theorem sort_rule {F : List (Key × D)} {S : Str → Prop} [DecidablePred S] {nms : List Str} {j : Nat} (h : KeyI F S) (hin : ∀ x, S x → x ∈ nms) (hnd : nms.Nodup) (hns : sortedS nms = true) (h64 : nms.length < 64) (hd : dctD st j = some F)
    (hP : P (.lst (strsD (nms.filter fun x => decide (S x)))) st) : fSortD st [.ref j] P := by
  have hkeys : F.map (·.1) = (F.map fun p => keyS p.1).map Sum.inr := by
    rw [List.map_map]
    refine List.map_congr_left fun p hp => ?_
    obtain ⟨x, e⟩ := h.ky p.1 (List.mem_map_of_mem hp)
    show p.1 = .inr (keyS p.1)
    rw [e]; rfl
  have hmem : ∀ x, x ∈ (F.map fun p => keyS p.1) ↔ S x := fun x => by
    rw [← h.mem, hkeys]
    simp
  have hknd : (F.map fun p => keyS p.1).Nodup := by
    have := h.nd
    rw [hkeys] at this
    exact List.Pairwise.of_map _ (fun a b (hab : (Sum.inr a : Key) ≠ .inr b) e => hab (by rw [e])) this
  have hperm : (nms.filter fun x => decide (S x)).Perm (F.map fun p => keyS p.1) := by
    rw [List.perm_ext_iff_of_nodup (hnd.filter _) hknd]
    intro x
    rw [List.mem_filter, hmem, decide_eq_true_iff]
    exact ⟨fun hh => hh.2, fun hh => ⟨hin x hh, hh⟩⟩
  refine ⟨_, F, _, rfl, hd, hkeys, ?_, fun ys hp hs => ?_⟩
  · have := hperm.length_eq
    have h3 := List.length_filter_le (fun x => decide (S x)) nms
    omega
  rw [sorted_same (hp.trans hperm.symm) hs (sortedS_filter hns)]
  exact hP

/-! ### taken_in -/
/-- a use that means a put from around a scope -/
def tkn (ds : List Dd) (s : Nat) (q : Nat × Nat) : Prop := s ∈ A (ddOf ds) ds.length (cur (ddOf ds) q.1) ∧ s ∉ A (ddOf ds) ds.length (cur (ddOf ds) q.2)
instance {s : Nat} {q : Nat × Nat} : Decidable (tkn ds s q) := inferInstanceAs (Decidable (_ ∧ _))
def takenS (ds : List Dd) (s : Nat) (L : List (Nat × Nat)) (x : Str) : Prop := ∃ q ∈ L, tkn ds s q ∧ nm (ddOf ds q.2) = x
instance {s : Nat} {L : List (Nat × Nat)} : DecidablePred (takenS ds s L) := fun x => inferInstanceAs (Decidable (∃ q ∈ L, tkn ds s q ∧ nm (ddOf ds q.2) = x))
theorem F_taken_in_ok (h : ScAt C st b ds) {s : Nat} (hs : s < nsc (ddOf ds) ds.length) {nms : List Str} (hn : ∀ q ∈ pL ds, nm (ddOf ds q) ∈ nms) (hnd : nms.Nodup) (hns : sortedS nms = true) (hn64 : nms.length < 64)
    (hP : ∀ r, P (.tup (strsD (nms.filter fun x => decide (takenS ds s (mL ds) x)))) (st ++ r)) : F_taken_in C CS [.ref b.j, .int s] st P Ex := by
  unfold F_taken_in t_taken_in
  have hsl : (scE ds).length = nsc (ddOf ds) ds.length := by simp [scE]
  simp [-Bool.exists_bool, -List.lookup_eq_none_iff, -u_gtup, -u_gcons, -u_gnil, -u_par, dStart, dwipe, h.ins, len_ref h.s, hsl, show (0 : Int) ≤ s by omega, show (s : Int) < (nsc (ddOf ds) ds.length : Nat) by omega]
  have h0 := h.app [.dct []]
  refine ⟨_, _, h0.m, _, h0.ins, _, lk_meant, rfl, _, h0.m, ?_⟩
  rw [mt_items]
  refine loop_list (fun q : Nat × Nat => D.tup [iN q.1, iN q.2]) (fun rest env st' => ∃ done F x3 x4, done ++ rest = mL ds ∧ KeyI F (takenS ds s done) ∧ F.length ≤ done.length ∧ st' = st ++ [.dct F] ∧ env = [some (.ref b.j), some (.int s), some (.ref st.length), x3, x4]) ?_ ?_ _ _ _ ⟨[], [], _, _, rfl, ⟨by simp, by simp, fun x => by simp [takenS]⟩, by simp, rfl, rfl⟩
  · rintro ⟨k, p⟩ rest env st' K ⟨done, F, x3, x4, hd, hF, hFz, rfl, rfl⟩ hK
    have h' := h.app [.dct F]
    have hq : (k, p) ∈ mL ds := by rw [← hd]; simp
    obtain ⟨hp, hk, _⟩ := mL_put hq
    have hk : k < ds.length := hk
    obtain ⟨hpl, x, ex⟩ := mem_pL.mp hp
    have ex : ddOf ds p = .put x := ex
    have hpl : p < ds.length := hpl
    have hz : F.length < sizeLine := by
      have h1 := congrArg List.length hd
      have h2 := mL_len (ds := ds)
      have h3 := h.z
      have : 1000 < sizeLine := by decide
      simp at h1
      omega
    have hno : ¬ tkn ds s (k, p) → K [some (.ref b.j), some (.int s), some (.ref st.length), some (iN k), some (iN p)] (st ++ [.dct F]) := fun hn => by
      refine hK _ _ ⟨done ++ [(k, p)], F, _, _, by rw [← hd]; simp, hF.of fun y => ?_, by simp; omega, rfl, rfl⟩
      unfold takenS
      simp [hn]
    simp [-Bool.exists_bool, -List.lookup_eq_none_iff, -u_gtup, -u_gcons, -u_gnil, -u_par, dStart, dwipe, h'.ins]
    refine F_scope_at_ok h' hk ?_
    refine F_is_within_ok h' (cur_lt' (Nat.le_of_lt hk)) ?_
    simp [-Bool.exists_bool, -List.lookup_eq_none_iff, -u_gtup, -u_gcons, -u_gnil, -u_par, dStart, dwipe, h'.ins, h'.dw, own_get hp]
    by_cases h1 : s ∈ A (ddOf ds) ds.length (cur (ddOf ds) k)
    · rw [if_pos h1]
      refine F_is_within_ok h' (cur_lt' (Nat.le_of_lt hpl)) ?_
      by_cases h2 : s ∈ A (ddOf ds) ds.length (cur (ddOf ds) p)
      · simp [-Bool.exists_bool, -List.lookup_eq_none_iff, -u_gtup, -u_gcons, -u_gnil, -u_par, dStart, dwipe, h2]
        exact hno fun hn => hn.2 h2
      · simp [-Bool.exists_bool, -List.lookup_eq_none_iff, -u_gtup, -u_gcons, -u_gnil, -u_par, dStart, dwipe, h2, h'.ins, at_deeds hpl, ex, encD, hz]
        refine hK _ _ ⟨done ++ [(k, p)], putKD F (.inr x) (.bl true), _, _, by rw [← hd]; simp, (hF.put x _).of fun y => ?_, ?_, rfl, rfl⟩
        · unfold takenS
          simp [tkn, h1, h2, ex, nm, eq_comm]
        · have : (putKD F (.inr x) (.bl true)).length ≤ F.length + 1 := by unfold putKD; split <;> simp
          simp
          omega
    · rw [if_neg h1]
      exact hno fun hn => h1 hn.1
  · rintro env st' ⟨done, F, x3, x4, hd, hF, hFz, rfl, rfl⟩
    rw [List.append_nil] at hd
    subst hd
    have h' := h.app [.dct F]
    simp [-Bool.exists_bool, -List.lookup_eq_none_iff, -u_gtup, -u_gcons, -u_gnil, -u_par, dStart, dwipe, h'.m]
    refine sort_rule hF (fun x hx => ?_) hnd hns hn64 (by simp [dctD]) ?_
    · obtain ⟨q, hq, _, e⟩ := hx
      rw [← e]
      exact hn _ (mL_put hq).1
    · simp [-Bool.exists_bool, -List.lookup_eq_none_iff, -u_gtup, -u_gcons, -u_gnil, -u_par, dStart, dwipe, fTuple, seqD]
      exact hP _
theorem F_taken_in_err (h : ScAt C st b ds) {s : Int} (hs : ¬ (0 ≤ s ∧ s < nsc (ddOf ds) ds.length)) (hP : Ex CS st) : F_taken_in C CS [.ref b.j, .int s] st P Ex := by
  unfold F_taken_in t_taken_in
  have hsl : (scE ds).length = nsc (ddOf ds) ds.length := by simp [scE]
  simp [-Bool.exists_bool, -List.lookup_eq_none_iff, -u_gtup, -u_gcons, -u_gnil, -u_par, dStart, dwipe, h.ins, len_ref h.s, hsl]
  split
  · split
    · rename_i h1 h2
      exact (hs ⟨h1, h2⟩).elim
    · exact hP
  · exact hP
/-! ### by_steps_out -/
theorem index_rule {L : List Nat} {p : Nat} (h : p ∈ L) : (L.map iN)[L.idxOf p]? = some (iN p) ∧ ∀ n, n < L.idxOf p → (L.map iN)[n]? ≠ some (iN p) := by
  have hl : L.idxOf p < L.length := List.idxOf_lt_length_iff.mpr h
  refine ⟨by rw [List.getElem?_map, List.getElem?_eq_getElem hl, List.getElem_idxOf]; rfl, fun n hn e => ?_⟩
  rw [List.getElem?_map, List.getElem?_eq_getElem (by omega)] at e
  have e : L[n]'(by omega) = p := by
    have := Option.some.inj e
    have := D.int.inj this
    omega
  have := List.idxOf_lt_length_iff.mpr h
  have h2 := List.not_of_lt_findIdx (p := (· == p)) (xs := L) hn
  simp [e] at h2
theorem hd_cons {a : Nat} {r : List Nat} : hd (a :: r) = a := rfl
theorem u_indexL {i j : Nat} {env : DV} {st : SD} {P : DP} {Ex : DX} {L : List Nat} {p : Nat} (h1 : env[i]? = some (some (.lst (L.map iN)))) (h2 : env[j]? = some (some (iN p))) (hp : p ∈ L) (hP : P (.int (L.idxOf p : Nat)) st) : dIndex (dVar i) (dVar j) env st P Ex :=
  ⟨_, h1, ⟨_, rfl⟩, _, h2, _, _, rfl, rfl, by simp [atomD], (index_rule hp).1, (index_rule hp).2, hP⟩
def putsIn (ds : List Dd) (s : Nat) : List Nat := (pL ds).filter fun k => decide (cur (ddOf ds) k = s)
def stepD (ds : List Dd) (k : Nat) : D := match ddOf ds k with
  | .use x => (match meantAt (ddOf ds) ds.length k x with
    | some p => .tup [.str "use", .int ((A (ddOf ds) ds.length (cur (ddOf ds) k)).idxOf (cur (ddOf ds) p) : Nat), .int ((putsIn ds (cur (ddOf ds) p)).idxOf p : Nat)]
    | none => encD (.use x))
  | d => encD d
theorem step_case {k : Nat} (hk : k < ds.length) : (getKD (meantE ds) (.inl (k : Int)) = none ∧ stepD ds k = encD (ddOf ds k)) ∨ ∃ x p, ddOf ds k = .use x ∧ meantAt (ddOf ds) ds.length k x = some p ∧ getKD (meantE ds) (.inl (k : Int)) = some (iN p) ∧ p ∈ pL ds ∧
    stepD ds k = .tup [.str "use", .int ((A (ddOf ds) ds.length (cur (ddOf ds) k)).idxOf (cur (ddOf ds) p) : Nat), .int ((putsIn ds (cur (ddOf ds) p)).idxOf p : Nat)] := by
  have hnone : (∀ x, ddOf ds k ≠ .use x) → getKD (meantE ds) (.inl (k : Int)) = none := fun hh => mt_none fun p hq => by
    obtain ⟨_, y, h1, h2⟩ := mem_mL.mp hq
    exact hh y h1
  cases ex : ddOf ds k with
  | put x => exact .inl ⟨hnone (by rw [ex]; intro x z; cases z), by unfold stepD; rw [ex]⟩
  | inn => exact .inl ⟨hnone (by rw [ex]; intro x z; cases z), by unfold stepD; rw [ex]⟩
  | out => exact .inl ⟨hnone (by rw [ex]; intro x z; cases z), by unfold stepD; rw [ex]⟩
  | use x =>
    rcases lim_case hk ex with ⟨p, e1, e2, e3⟩ | ⟨e1, e2⟩
    · exact .inr ⟨x, p, rfl, e1, e2, e3, by unfold stepD; rw [ex]; simp only [e1]⟩
    · exact .inl ⟨e2, by unfold stepD; rw [ex]; simp only [e1]⟩
theorem F_by_steps_out_ok (h : ScAt C st b ds) (hP : ∀ r, P (.tup ((List.range ds.length).map (stepD ds))) (st ++ r)) : F_by_steps_out C CS [.ref b.j] st P Ex := by
  unfold F_by_steps_out t_by_steps_out
  have h0 := h.app [DO.lst []]
  simp [-Bool.exists_bool, -List.lookup_eq_none_iff, -u_gtup, -u_gcons, -u_gnil, -u_par, dStart, dwipe, h.ins, h0.ins, enum_range]
  refine loop_range (fun k => D.tup [.int (k : Nat), encD (ddOf ds k)]) (fun j env st' => ∃ x2 x3 x4 x5 x6 x7 x8 x9, st' = st ++ [.lst ((List.range j).map (stepD ds))] ∧ env = [some (.ref b.j), some (.ref st.length), x2, x3, x4, x5, x6, x7, x8, x9]) ?_ ?_ ⟨_, _, _, _, _, _, _, _, rfl, rfl⟩
  · rintro k env st' K hk ⟨x2, x3, x4, x5, x6, x7, x8, x9, rfl, rfl⟩ hK
    have h' := h.app [.lst ((List.range k).map (stepD ds))]
    have hz : k < sizeLine := by
      have h4 := h.z
      have : 1000 < sizeLine := by decide
      omega
    rcases step_case (ds := ds) hk with ⟨hno, e⟩ | ⟨x, p, ex, e1, e2, e3, e⟩
    · simp [-Bool.exists_bool, -List.lookup_eq_none_iff, -u_gtup, -u_gcons, -u_gnil, -u_par, dStart, dwipe, h'.ins, h'.dm, hno, hz]
      exact hK _ _ ⟨_, _, _, _, _, _, _, _, by rw [List.range_succ]; simp [e], rfl⟩
    · simp [-Bool.exists_bool, -List.lookup_eq_none_iff, -u_gtup, -u_gcons, -u_gnil, -u_par, dStart, dwipe, h'.ins, h'.dm, e2]
      refine F_scope_at_ok h' hk ?_
      have hc := cur_lt' (dd := ddOf ds) (n := ds.length) (Nat.le_of_lt hk)
      obtain ⟨t, et⟩ := A_hd (dd := ddOf ds) (n := ds.length) hc
      obtain ⟨_, _, hpin⟩ := meant_some e1
      refine while_rule (fun m env st' => st' = st ++ [.lst ((List.range k).map (stepD ds))] ∧ ∃ l done, done ++ l = A (ddOf ds) ds.length (cur (ddOf ds) k) ∧ l.length = m ∧ Ch (ddOf ds) ds.length l ∧ cur (ddOf ds) p ∈ l ∧ cur (ddOf ds) p ∉ done ∧
        env = [some (.ref b.j), some (.ref st.length), some (iN k), some (encD (ddOf ds k)), some (iN p), some (.int (hd l)), some (iN done.length), x7, x8, x9]) (m := (A (ddOf ds) ds.length (cur (ddOf ds) k)).length) ?_ ?_
      · exact ⟨rfl, A (ddOf ds) ds.length (cur (ddOf ds) k), [], rfl, rfl, .inr ⟨_, hc, rfl⟩, hpin, by simp, by rw [show hd (A (ddOf ds) ds.length (cur (ddOf ds) k)) = (cur (ddOf ds) k : Nat) by rw [et]; rfl]; rfl⟩
      rintro m env st' R ⟨rfl, l, done, hdl, rfl, hch, hin, hnd, rfl⟩ hR
      cases l with
      | nil => cases hin
      | cons a r =>
        obtain ⟨ha, ea, hr, hp⟩ := hch.tl
        by_cases hac : a = cur (ddOf ds) p
        · simp [-Bool.exists_bool, -List.lookup_eq_none_iff, -u_gtup, -u_gcons, -u_gnil, -u_par, dStart, dwipe, hd_cons, h'.ins, h'.dw, own_get e3, hac]
          refine ⟨_, _, h'.o, rfl, _, h'.o, ?_⟩
          rw [own_items]
          have hix : (A (ddOf ds) ds.length (cur (ddOf ds) k)).idxOf (cur (ddOf ds) p) = done.length := by
            rw [← hdl, List.idxOf_append, if_neg hnd, hac]
            simp
          have hpi : p ∈ putsIn ds (cur (ddOf ds) p) := List.mem_filter.mpr ⟨e3, by simp⟩
          refine comp_rule (fun k : Nat => D.tup [iN k, iN (cur (ddOf ds) k)]) (fun k => decide (cur (ddOf ds) k = cur (ddOf ds) p)) iN trivial _ _ (fun q hq Y N hY => ?_) (by simpa using sz (Nat.le_trans pL_len h.z)) ?_
          · simp [-Bool.exists_bool, -List.lookup_eq_none_iff, -u_gtup, -u_gcons, -u_gnil, -u_par, dStart, dwipe, Int.natCast_inj]
            simpa using hY
          · rw [List.nil_append]
            have hix2 := index_rule hpi
            show _
            have hfl : (pL ds).filter (fun k => decide (cur (ddOf ds) k = cur (ddOf ds) p)) = putsIn ds (cur (ddOf ds) p) := rfl
            rw [hfl]
            simp [-Bool.exists_bool, -List.lookup_eq_none_iff, -u_gtup, -u_gcons, -u_gnil, -u_par, dStart, dwipe, h'.o]
            refine u_indexL rfl rfl hpi ?_
            simp [-Bool.exists_bool, -List.lookup_eq_none_iff, -u_gtup, -u_gcons, -u_gnil, -u_par, dStart, dwipe, hz]
            refine hK _ _ ⟨_, _, _, _, _, _, _, _, ?_, rfl⟩
            rw [List.range_succ, List.map_append, List.map_cons, List.map_nil, e, hix]
        · simp [-Bool.exists_bool, -List.lookup_eq_none_iff, -u_gtup, -u_gcons, -u_gnil, -u_par, dStart, dwipe, hd_cons, h'.ins, h'.dw, own_get e3, hac, Int.natCast_inj, seq_ref h'.s, sc_at ha, hp]
          exact ⟨_, hR _ fun env' st'' (hN : st'' = st ++ [.lst ((List.range k).map (stepD ds))] ∧ env' = [some (.ref b.j), some (.ref st.length), some (iN k), some (encD (ddOf ds k)), some (iN p), some (.int (hd r)), some (iN (done ++ [a]).length), x7, x8, x9]) => ⟨r.length, by simp, hN.1, r, done ++ [a], by rw [← hdl]; simp, rfl, hr, (List.mem_cons.mp hin).resolve_left (fun z => hac z.symm), by simp [hnd, Ne.symm hac], hN.2⟩, by simp⟩
  · rintro env st' ⟨x2, x3, x4, x5, x6, x7, x8, x9, rfl, rfl⟩
    simp [-Bool.exists_bool, -List.lookup_eq_none_iff, -u_gtup, -u_gcons, -u_gnil, -u_par, dStart, dwipe, fTuple, seqD]
    exact hP _
end
end FL
/-! MK: may_be_renamed. -/
namespace FL
open PySem PySem.Spec PyProof.Rows L2

@[simp] theorem u_try {C : Addr} {tb ts : TDS} {D0 : DEnds} {Ex : DX} {env : DV} {st : SD} : dTry C tb ts D0 Ex env st = tb D0 (fun C' st' => C' = C ∧ ts D0 Ex [] st') env st := rfl
@[simp] theorem u_pub {t : TD} {env : DV} {st : SD} {P : DP} {Ex : DX} : dPub t env st P Ex = t env st (fun d st1 => ∃ st2, Pub st1 st2 ∧ P d st2) Ex := rfl
@[simp] theorem u_make {C : Addr} {F : FD} {tl : TDL} {env : DV} {st : SD} {P : DP} {Ex : DX} : dMake C F tl env st P Ex = tl env st (fun ds st1 => F (.ref st1.length :: ds) (st1 ++ [.ins C []]) (fun d st2 => d = .non ∧ P (.ref st1.length) st2) Ex) Ex := rfl
def ren (x : Str) : Dd → Dd
  | .put _ => .put x
  | .use _ => .use x
  | d => d
/-- the deeds with a put, and its uses, anew -/
def renL (ds : List Dd) (p : Nat) (x : Str) : List Dd := (List.range ds.length).map fun k => if k = p ∨ (k, p) ∈ mL ds then ren x (ddOf ds k) else ddOf ds k
/-- the new name is good -/
def RenOk (ds : List Dd) (p : Nat) (x : Str) : Prop := Valid (ddOf (renL ds p x)) ds.length ∧ ∀ k ∈ uL ds, meantAt (ddOf (renL ds p x)) ds.length k (nm (ddOf (renL ds p x) k)) = meantAt (ddOf ds) ds.length k (nm (ddOf ds k))
section
variable {C CS : Addr} {st : SD} {b : Ob} {ds : List Dd} {P : DP} {Ex : DX}
theorem renL_len {p : Nat} {x : Str} : (renL ds p x).length = ds.length := by simp [renL]
theorem renL_at {p : Nat} {x : Str} {k : Nat} (hk : k < ds.length) : ddOf (renL ds p x) k = if k = p ∨ (k, p) ∈ mL ds then ren x (ddOf ds k) else ddOf ds k := by
  show (renL ds p x).getD k .inn = _
  rw [List.getD_eq_getElem?_getD]
  unfold renL
  rw [List.getElem?_map, List.getElem?_range hk]
  rfl
theorem ren_use {x : Str} {d : Dd} : isUse (ren x d) = isUse d := by cases d <;> rfl
theorem renL_uL {p : Nat} {x : Str} : uL (renL ds p x) = uL ds := by
  unfold uL useL
  rw [renL_len]
  refine List.filter_congr fun k hk => ?_
  rw [renL_at (List.mem_range.mp hk)]
  split
  · exact ren_use
  · rfl
theorem renL_nm {p : Nat} {x : Str} (hn : ∀ d ∈ ds, NmD d) (hx : PyData.strOk x = true) (h0 : x ≠ "") : ∀ d ∈ renL ds p x, NmD d := by
  intro d hd
  obtain ⟨k, hk, e⟩ := List.mem_map.mp hd
  have hk := List.mem_range.mp hk
  have h1 : NmD (ddOf ds k) := by
    have e : ddOf ds k = ds[k] := by unfold ddOf; rw [List.getD_eq_getElem?_getD, List.getElem?_eq_getElem hk]; rfl
    rw [e]; exact hn _ (List.getElem_mem _)
  subst e
  split
  · revert h1
    cases ddOf ds k <;> intro h1 <;> first | exact ⟨hx, h0⟩ | trivial
  · exact h1
theorem usesOf_mem {k p : Nat} : k ∈ usesOf ds p ↔ (k, p) ∈ mL ds := by
  unfold usesOf
  rw [List.mem_map]
  constructor
  · rintro ⟨⟨a, c⟩, h1, rfl⟩
    obtain ⟨h3, h2⟩ := List.mem_filter.mp h1
    have e : c = p := of_decide_eq_true h2
    rw [← e]
    exact h3
  · intro h
    exact ⟨(k, p), List.mem_filter.mpr ⟨h, by simp⟩, rfl⟩
theorem mt_nodup : ((meantE ds).map (·.1)).Nodup := by
  unfold meantE
  rw [List.map_map]
  have h1 : (mL ds).Pairwise fun a c => a.1 ≠ c.1 := by
    unfold mL meantL
    rw [List.pairwise_filterMap]
    have : (useL (ddOf ds) ds.length).Nodup := List.nodup_range.filter _
    refine this.imp fun {a c} hac q hq r hr => ?_
    simp only [Option.map_eq_some_iff] at hq hr
    obtain ⟨_, _, rfl⟩ := hq
    obtain ⟨_, _, rfl⟩ := hr
    exact hac
  exact List.Pairwise.map _ (fun a c (hac : a.1 ≠ c.1) e => hac (by have := Sum.inl.inj e; omega)) h1
theorem mt_mem {ds' : List Dd} {k q : Nat} (hk : k < ds'.length) (e : getKD (meantE ds') (.inl (k : Int)) = some (iN q)) : (k, q) ∈ mL ds' := by
  by_cases h : ∃ p, (k, p) ∈ mL ds'
  · obtain ⟨p, hp⟩ := h
    have := mt_get hp
    rw [e] at this
    have h2 : q = p := by have := D.int.inj (Option.some.inj this); omega
    rw [h2]; exact hp
  · rw [mt_none (fun p hp => h ⟨p, hp⟩)] at e
    cases e
theorem fm_congr {α β : Type} {f g : α → Option β} : ∀ {l : List α}, (∀ a ∈ l, f a = g a) → l.filterMap f = l.filterMap g
  | [], _ => rfl
  | a :: l, h => by rw [List.filterMap_cons, List.filterMap_cons, h a (by simp), fm_congr fun b hb => h b (by simp [hb])]
theorem ren_iff {es : List Dd} (hl : es.length = ds.length) (hu : uL es = uL ds) : (dctEq (meantE es) (meantE ds) ∧ lostE es = lostE ds) ↔ ∀ k ∈ uL ds, meantAt (ddOf es) ds.length k (nm (ddOf es k)) = meantAt (ddOf ds) ds.length k (nm (ddOf ds k)) := by
  have hu' : useL (ddOf es) ds.length = useL (ddOf ds) ds.length := by have := hu; unfold uL at this; rw [hl] at this; exact this
  constructor
  · rintro ⟨⟨_, h1⟩, h2⟩ k hk
    obtain ⟨hkl, y, hy⟩ := mem_useL.mp hk
    have hke : k ∈ uL es := by rw [hu]; exact hk
    obtain ⟨_, z, hz⟩ := mem_useL.mp hke
    rw [hy, hz]
    show meantAt (ddOf es) ds.length k z = meantAt (ddOf ds) ds.length k y
    cases hm : meantAt (ddOf es) ds.length k z with
    | some q =>
      have hq : (k, q) ∈ mL es := mem_mL.mpr ⟨by omega, z, hz, by rw [hl]; exact hm⟩
      have := h1 (.inl (k : Int), iN q) (List.mem_map.mpr ⟨(k, q), hq, rfl⟩)
      have := mt_mem hkl this
      obtain ⟨_, y', e1, e2⟩ := mem_mL.mp this
      rw [hy] at e1
      cases e1
      exact e2.symm
    | none =>
      have hin : k ∈ lostL (ddOf es) ds.length ds.length := by
        unfold lostL
        rw [List.mem_filter, hu']
        exact ⟨hk, by rw [hz]; show (meantAt (ddOf es) ds.length k z).isNone = true; rw [hm]; rfl⟩
      have h2 : (lostL (ddOf es) ds.length ds.length).map iN = (lostL (ddOf ds) ds.length ds.length).map iN := by unfold lostE at h2; rw [hl] at h2; exact h2
      have h3 : lostL (ddOf es) ds.length ds.length = lostL (ddOf ds) ds.length ds.length := List.map_inj_right (fun a c e => by have := D.int.inj e; omega) |>.mp h2
      rw [h3] at hin
      have := (List.mem_filter.mp hin).2
      rw [hy] at this
      have : (meantAt (ddOf ds) ds.length k y).isNone = true := this
      exact (Option.isNone_iff_eq_none.mp this).symm
  · intro h
    have h1 : mL es = mL ds := by
      unfold mL meantL
      rw [hl, hu']
      refine fm_congr fun k hk => ?_
      rw [h k hk]
    have h2 : lostE es = lostE ds := by
      unfold lostE lostL
      rw [hl, hu']
      congr 1
      refine List.filter_congr fun k hk => ?_
      rw [h k hk]
    have h3 : meantE es = meantE ds := by unfold meantE; rw [h1]
    rw [h3]
    exact ⟨dctEq_refl mt_nodup, h2⟩
theorem mt_atoms {es : List Dd} : ((meantE es).map (·.2)).all atomD = true := by simp [meantE, atomD]
theorem plainLost {es : List Dd} : plainD 50 (.lst (lostE es)) = true := plainL_iN _
def rowsD (ds : List Dd) (p : Nat) (x : Str) (j : Nat) : List D := ((renL ds p x).take j).map encD
theorem rowsD_len {p j : Nat} {x : Str} : (rowsD ds p x j).length ≤ j := by unfold rowsD; simp; omega
theorem rowsD_all {p : Nat} {x : Str} : rowsD ds p x ds.length = (renL ds p x).map encD := by
  unfold rowsD
  rw [List.take_of_length_le (by rw [renL_len]; exact Nat.le_refl _)]
theorem rowsD_succ {p k : Nat} {x : Str} (hk : k < ds.length) : rowsD ds p x k ++ [encD (if k = p ∨ (k, p) ∈ mL ds then ren x (ddOf ds k) else ddOf ds k)] = rowsD ds p x (k + 1) := by
  have e : (renL ds p x)[k]? = some (if k = p ∨ (k, p) ∈ mL ds then ren x (ddOf ds k) else ddOf ds k) := by
    unfold renL
    rw [List.getElem?_map, List.getElem?_range hk]; rfl
  unfold rowsD
  rw [List.take_succ, e]
  simp
theorem F_may_ok (h : ScAt C st b ds) (hn : ∀ d ∈ ds, NmD d) {p : Nat} (hp : p ∈ pL ds) {x : Str} (hx : PyData.strOk x = true) (h0 : x ≠ "") (hP : ∀ r, P (.bl (cb (RenOk ds p x))) (st ++ r)) : F_may_be_renamed C CS [.ref b.j, .int p, .str x] st P Ex := by
  unfold F_may_be_renamed t_may_be_renamed
  simp [-Bool.exists_bool, -List.lookup_eq_none_iff, -u_gtup, -u_gcons, -u_gnil, -u_par, dStart, dwipe, h.ins, h.dw, own_get hp, hx, h0]
  refine F_uses_of_ok h hp ?_
  have h1 := h.app [DO.lst []]
  simp [-Bool.exists_bool, -List.lookup_eq_none_iff, -u_gtup, -u_gcons, -u_gnil, -u_par, dStart, dwipe, h1.ins, enum_range]
  refine loop_range (fun k => D.tup [.int (k : Nat), encD (ddOf ds k)]) (fun j env st' => ∃ x5 x6 x7, st' = st ++ [.lst (rowsD ds p x j)] ∧ env = [some (.ref b.j), some (.int p), some (.str x), some (.tup ((usesOf ds p).map iN)), some (.ref st.length), x5, x6, x7]) ?_ ?_ ⟨_, _, _, by simp [rowsD], rfl⟩
  · rintro k env st' K hk ⟨x5, x6, x7, rfl, rfl⟩ hK
    have hz : (rowsD ds p x k).length < sizeLine := by
      have h4 := h.z
      have : 1000 < sizeLine := by decide
      have := rowsD_len (ds := ds) (p := p) (x := x) (j := k)
      omega
    have hstep := rowsD_succ (p := p) (x := x) hk
    have hmem : (∃ a, a ∈ usesOf ds p ∧ (a : Int) = (k : Int)) ↔ (k, p) ∈ mL ds := by
      rw [← usesOf_mem]
      refine ⟨fun ⟨a, h1, h2⟩ => ?_, fun h1 => ⟨k, h1, rfl⟩⟩
      have : a = k := by omega
      rw [← this]
      exact h1
    simp [-Bool.exists_bool, -List.lookup_eq_none_iff, -u_gtup, -u_gcons, -u_gnil, -u_par, dStart, dwipe, u_inB, cb_eq, atomD, hz, hmem, Int.natCast_inj]
    by_cases hc : k = p ∨ (k, p) ∈ mL ds
    · rw [if_pos hc] at hstep
      have hfin : ∃ l x_1, seqD (st ++ [DO.lst (rowsD ds p x k)]) (encD (ddOf ds k)) = some l ∧ atI l 0 = some x_1 ∧ D.tup [x_1, .str x] = encD (ren x (ddOf ds k)) := by
        have : ∃ y, ddOf ds k = .put y ∨ ddOf ds k = .use y := by
          rcases hc with e | e
          · subst e
            obtain ⟨_, y, ey⟩ := mem_pL.mp hp
            exact ⟨y, .inl ey⟩
          · obtain ⟨_, y, ey, _⟩ := mem_mL.mp e
            exact ⟨y, .inr ey⟩
        obtain ⟨y, ey | ey⟩ := this <;> rw [ey] <;> exact ⟨_, _, rfl, at_0, rfl⟩
      obtain ⟨l, x1, f1, f2, f3⟩ := hfin
      have hgo := hK [some (.ref b.j), some (.int p), some (.str x), some (.tup ((usesOf ds p).map iN)), some (.ref st.length), some (.int (k : Int)), some (encD (ddOf ds k)), x7] (st ++ [.lst (rowsD ds p x k ++ [D.tup [x1, .str x]])]) ⟨_, _, _, by rw [f3, hstep], rfl⟩
      split
      · exact ⟨l, f1, x1, f2, hgo⟩
      · rename_i hkp
        rw [if_pos (usesOf_mem.mpr (hc.resolve_left hkp))]
        exact ⟨l, f1, x1, f2, hgo⟩
    · rw [if_neg hc] at hstep
      rw [if_neg (fun z => hc (.inl z)), if_neg (fun z => hc (.inr (usesOf_mem.mp z)))]
      exact hK _ _ ⟨_, _, _, by rw [hstep], rfl⟩
  · rintro env st' ⟨x5, x6, x7, rfl, rfl⟩
    rw [rowsD_all]
    simp [-Bool.exists_bool, -List.lookup_eq_none_iff, -u_gtup, -u_gcons, -u_gnil, -u_par, dStart, dwipe]
    rw [show st.length + 1 = (st ++ [DO.lst ((renL ds p x).map encD)]).length by simp, show st ++ [DO.lst ((renL ds p x).map encD), DO.ins C []] = (st ++ [DO.lst ((renL ds p x).map encD)]) ++ [DO.ins C []] by simp]
    have hrl := renL_len (ds := ds) (p := p) (x := x)
    refine F_make_ok (ds := renL ds p x) (.inr (.inr ⟨_, rfl, by simp⟩)) (renL_nm hn hx h0) (by rw [hrl]; exact h.z) (fun hv r hS => ?_) (fun hv r => ⟨rfl, ?_⟩)
    · have h3 := (h.app [DO.lst ((renL ds p x).map encD)]).app r
      have hv' : Valid (ddOf (renL ds p x)) ds.length := by rw [← hrl]; exact hv
      have hiff := ren_iff (ds := ds) hrl renL_uL
      have hrt : RenOk ds p x ↔ (dctEq (meantE (renL ds p x)) (meantE ds) ∧ lostE (renL ds p x) = lostE ds) := ⟨fun hh => hiff.mpr hh.2, fun hh => ⟨hv', hiff.mp hh⟩⟩
      refine ⟨_, hS.ins, _, lk_meant, _, h3.ins, _, lk_meant, _, _, _, _, rfl, rfl, hS.dm, h3.dm, mt_atoms, mt_atoms, fun r1 hr1 => ⟨_, rfl, ?_⟩⟩
      have hfin : ∀ r2 : Bool, (r2 = true ↔ RenOk ds p x) → P (.bl r2) (st ++ [DO.lst ((renL ds p x).map encD)] ++ r) := fun r2 hr2 => by
        have e : r2 = cb (RenOk ds p x) := by
          rw [Bool.eq_iff_iff, hr2, cb_iff]
        have := hP ([DO.lst ((renL ds p x).map encD)] ++ r)
        rw [← List.append_assoc] at this
        rw [e]; exact this
      cases r1 with
      | true =>
        rw [if_pos (by rfl)]
        refine ⟨_, hS.ins, _, lk_lost, _, h3.ins, _, lk_lost, .inr ⟨.lst (lostE (renL ds p x)), .lst (lostE ds), flat_ref hS.l, flat_ref h3.l, plainLost, plainLost, fun r2 hr2 => ?_⟩⟩
        rw [Bool.bne_false]
        refine hfin r2 ?_
        rw [hr2, hrt]
        exact ⟨fun z => ⟨hr1.mp rfl, D.lst.inj z⟩, fun z => by rw [z.2]⟩
      | false =>
        rw [if_neg (by decide)]
        refine hfin false ⟨fun z => Bool.noConfusion z, fun z => ?_⟩
        exact hr1.mpr (hrt.mp z).1
    · have : ¬ RenOk ds p x := fun hh => hv (by rw [hrl]; exact hh.1)
      have e : cb (RenOk ds p x) = false := by
        cases hcb : cb (RenOk ds p x) with
        | false => rfl
        | true => exact (this (cb_iff.mp hcb)).elim
      have := hP ([DO.lst ((renL ds p x).map encD)] ++ r)
      rw [e, ← List.append_assoc] at this
      exact this
theorem F_may_err1 (h : ScAt C st b ds) {p : Nat} (hp : p ∉ pL ds) {x : Str} (hP : Ex CS st) : F_may_be_renamed C CS [.ref b.j, .int p, .str x] st P Ex := by
  unfold F_may_be_renamed t_may_be_renamed
  simp [-Bool.exists_bool, -List.lookup_eq_none_iff, -u_gtup, -u_gcons, -u_gnil, -u_par, dStart, dwipe, h.ins, h.dw, own_none hp]
  exact hP
theorem F_may_err2 (h : ScAt C st b ds) {p : Nat} (hp : p ∈ pL ds) (hP : Ex CS st) : F_may_be_renamed C CS [.ref b.j, .int p, .str ""] st P Ex := by
  unfold F_may_be_renamed t_may_be_renamed
  simp [-Bool.exists_bool, -List.lookup_eq_none_iff, -u_gtup, -u_gcons, -u_gnil, -u_par, dStart, dwipe, h.ins, h.dw, own_get hp]
  exact hP
end
end FL
/-! ML: names of their own: the mathematics. -/
namespace FL
open PySem PySem.Spec PyProof.Rows L2

def sfx (x : Str) (c : Nat) : Str := x ++ "_" ++ (toString (c : Int) : String)
def fr (x : Str) (c : Nat) : Str := if c = 1 then x else sfx x c
def abc : List Str := ["a", "b", "c"]
theorem fr_inj0 : (abc.all fun x => abc.all fun y => (List.range 40).all fun c => (List.range 40).all fun d => !decide (fr x (c + 1) = fr y (d + 1)) || (decide (x = y) && decide (c = d))) = true := by decide +kernel
theorem fr_ok0 : (abc.all fun x => (List.range 40).all fun c => PyData.strOk (fr x (c + 1)) && decide ((fr x (c + 1)).length ≤ 100) && decide (fr x (c + 1) ≠ "")) = true := by decide +kernel
theorem fr_inj {x y : Str} {c d : Nat} (hx : x ∈ abc) (hy : y ∈ abc) (hc : 1 ≤ c ∧ c ≤ 40) (hd : 1 ≤ d ∧ d ≤ 40) (h : fr x c = fr y d) : x = y ∧ c = d := by
  have h1 := List.all_eq_true.mp (List.all_eq_true.mp (List.all_eq_true.mp (List.all_eq_true.mp fr_inj0 x hx) y hy) (c - 1) (List.mem_range.mpr (by omega))) (d - 1) (List.mem_range.mpr (by omega))
  rw [show c - 1 + 1 = c by omega, show d - 1 + 1 = d by omega, h] at h1
  simp at h1
  exact ⟨h1.1, by omega⟩
theorem fr_ok {x : Str} {c : Nat} (hx : x ∈ abc) (hc : 1 ≤ c ∧ c ≤ 40) : PyData.strOk (fr x c) = true ∧ (fr x c).length ≤ 100 ∧ fr x c ≠ "" := by
  have h1 := List.all_eq_true.mp (List.all_eq_true.mp fr_ok0 x hx) (c - 1) (List.mem_range.mpr (by omega))
  rw [show c - 1 + 1 = c by omega] at h1
  simp at h1
  exact ⟨h1.1.1, h1.1.2, h1.2⟩
theorem fr_one {x : Str} : fr x 1 = x := rfl
theorem abc_ok {x : Str} (hx : x ∈ abc) : PyData.strOk x = true ∧ x ≠ "" := by
  have := fr_ok hx (c := 1) ⟨by omega, by omega⟩
  exact ⟨this.1, this.2.2⟩
/-- puts of a name ahead of a deed -/
def cntB (ds : List Dd) (x : Str) (j : Nat) : Nat := ((putL (ddOf ds) j).filter fun q => decide (nm (ddOf ds q) = x)).length
def cnt (ds : List Dd) (k : Nat) : Nat := cntB ds (nm (ddOf ds k)) k + 1
def frk (ds : List Dd) (k : Nat) : Str := fr (nm (ddOf ds k)) (cnt ds k)
section
variable {ds : List Dd}
theorem cntB_succ {x : Str} {j : Nat} : cntB ds x (j + 1) = cntB ds x j + if isPut (ddOf ds j) = true ∧ nm (ddOf ds j) = x then 1 else 0 := by
  unfold cntB
  rw [putL_succ, List.filter_append, List.length_append]
  congr 1
  by_cases h : isPut (ddOf ds j) = true
  · by_cases h2 : nm (ddOf ds j) = x
    · simp [h, h2]
    · simp [h, h2]
  · simp [h]
theorem cntB_le {x : Str} {j : Nat} : cntB ds x j ≤ j := Nat.le_trans (List.length_filter_le _ _) putL_len
theorem cntB_mono {x : Str} {i j : Nat} (h : i ≤ j) : cntB ds x i ≤ cntB ds x j := by
  induction j with
  | zero => rw [show i = 0 by omega]; exact Nat.le_refl _
  | succ j ih =>
    by_cases e : i = j + 1
    · rw [e]; exact Nat.le_refl _
    · rw [cntB_succ]
      have := ih (by omega)
      omega
theorem cnt_bnd {k : Nat} : 1 ≤ cnt ds k ∧ cnt ds k ≤ k + 1 := ⟨by unfold cnt; omega, by unfold cnt; have := cntB_le (ds := ds) (x := nm (ddOf ds k)) (j := k); omega⟩
theorem cntB_put {k : Nat} (hk : isPut (ddOf ds k) = true) : cntB ds (nm (ddOf ds k)) (k + 1) = cnt ds k := by
  rw [cntB_succ, if_pos ⟨hk, rfl⟩]; rfl
theorem cnt_lt {i k : Nat} (hi : isPut (ddOf ds i) = true) (h : i < k) (e : nm (ddOf ds i) = nm (ddOf ds k)) : cnt ds i < cnt ds k := by
  have h1 := cntB_put hi
  have h2 := cntB_mono (ds := ds) (x := nm (ddOf ds i)) (show i + 1 ≤ k from h)
  rw [h1] at h2
  unfold cnt at h2 ⊢
  rw [← e]
  omega
theorem cnt_inj {i k : Nat} (hi : isPut (ddOf ds i) = true) (hk : isPut (ddOf ds k) = true) (e : nm (ddOf ds i) = nm (ddOf ds k)) (h : cnt ds i = cnt ds k) : i = k := by
  rcases Nat.lt_trichotomy i k with g | g | g
  · have := cnt_lt hi g e; omega
  · exact g
  · have := cnt_lt hk g e.symm; omega
/-- each number up to a put's is that of a put -/
theorem cnt_onto {x : Str} : ∀ {j c : Nat}, 1 ≤ c → c ≤ cntB ds x j → ∃ i, i < j ∧ isPut (ddOf ds i) = true ∧ nm (ddOf ds i) = x ∧ cnt ds i = c
  | 0, c, h1, h2 => by have := cntB_le (ds := ds) (x := x) (j := 0); omega
  | j + 1, c, h1, h2 => by
    rw [cntB_succ] at h2
    by_cases h : isPut (ddOf ds j) = true ∧ nm (ddOf ds j) = x
    · rw [if_pos h] at h2
      by_cases hc : c = cntB ds x j + 1
      · exact ⟨j, by omega, h.1, h.2, by unfold cnt; rw [h.2]; omega⟩
      · obtain ⟨i, g1, g2⟩ := cnt_onto (x := x) (j := j) h1 (by omega)
        exact ⟨i, by omega, g2⟩
    · rw [if_neg h] at h2
      obtain ⟨i, g1, g2⟩ := cnt_onto (x := x) (j := j) h1 (by omega)
      exact ⟨i, by omega, g2⟩
theorem putL_split {done rest : List Nat} {k : Nat} {n : Nat} (h : done ++ k :: rest = putL (ddOf ds) n) : done = putL (ddOf ds) k ∧ k < n ∧ isPut (ddOf ds k) = true := by
  have hk : k ∈ putL (ddOf ds) n := by rw [← h]; simp
  obtain ⟨hkn, y, hy⟩ := mem_putL.mp hk
  have hpw : (putL (ddOf ds) n).Pairwise (· < ·) := List.pairwise_lt_range.filter _
  rw [← h, List.pairwise_append] at hpw
  have hs : (putL (ddOf ds) n).filter (fun q => decide (q < k)) = putL (ddOf ds) k := by
    unfold putL
    rw [List.filter_filter]
    obtain ⟨d, rfl⟩ := Nat.exists_eq_add_of_le (Nat.le_of_lt hkn)
    rw [List.range_add, List.filter_append]
    have e2 : ((List.range d).map (fun x => k + x)).filter (fun a => decide (a < k) && isPut (ddOf ds a)) = [] := by
      rw [List.filter_eq_nil_iff]
      intro a ha
      simp only [List.mem_map, List.mem_range] at ha
      obtain ⟨b, _, rfl⟩ := ha
      rw [decide_eq_false (show ¬ k + b < k by omega)]
      simp
    rw [e2, List.append_nil]
    exact List.filter_congr fun a ha => by
      have : a < k := List.mem_range.mp ha
      simp [this]
  refine ⟨?_, hkn, by rw [hy]; rfl⟩
  rw [← hs, ← h, List.filter_append]
  have e1 : done.filter (fun q => decide (q < k)) = done := List.filter_eq_self.mpr fun a ha => decide_eq_true (hpw.2.2 a ha k (by simp))
  have e2 : (k :: rest).filter (fun q => decide (q < k)) = [] := by
    rw [List.filter_eq_nil_iff]
    intro a ha
    rcases List.mem_cons.mp ha with e | e
    · rw [e]; simp
    · have := (List.pairwise_cons.mp hpw.2.1).1 a e
      simp; omega
  rw [e1, e2, List.append_nil]
end
end FL
/-! MM: each_its_own. -/
namespace FL
open PySem PySem.Spec PyProof.Rows L2

theorem str_empty {x : Str} : Str.empty ++ x = x := by
  cases x
  show Str.mk (#[] ++ _) = _
  simp
theorem str_len {x y : Str} : (x ++ y).length = x.length + y.length := by
  show (x.cps ++ y.cps).size = _
  simp [Str.length]
theorem u_fmt {te : TD} {env : DV} {st : SD} {P : DP} {Ex : DX} : dFmt te env st P Ex = te env st (fun x st1 => (∃ y, x = .str y ∧ y.length ≤ sizeLine ∧ P (.str y) st1) ∨ ∃ i : Int, x = .int i ∧ i.natAbs.log2 < 1920 ∧ P (.str (toString i)) st1) Ex := rfl
theorem u_joined {ts : List TD} {env : DV} {st : SD} {P : DP} {Ex : DX} : dJoined ts env st P Ex = dJs ts Str.empty env st (fun x st1 => P (.str x) st1) Ex := rfl
theorem u_jnil {acc : Str} {env : DV} {st : SD} {P : Str → SD → Prop} {Ex : DX} : dJs [] acc env st P Ex = P acc st := rfl
theorem u_jcons {t : TD} {ts : List TD} {acc : Str} {env : DV} {st : SD} {P : Str → SD → Prop} {Ex : DX} : dJs (t :: ts) acc env st P Ex = t env st (fun x st1 => ∃ y, x = .str y ∧ (acc ++ y).length ≤ sizeLine ∧ dJs ts (acc ++ y) env st1 P Ex) Ex := rfl
def hasNm (d : Dd) : Bool := isPut d || isUse d
def ownD (ds : List Dd) (k : Nat) : D := match ddOf ds k with
  | .put _ => .tup [.str "put", .str (frk ds k)]
  | .use x => (match meantAt (ddOf ds) ds.length k x with
    | some p => .tup [.str "use", .str (frk ds p)]
    | none => encD (.use x))
  | d => encD d
theorem KeyI.merge {α : Type} (f : α → Str) (v : α → D) : ∀ {xs : List α} {F : List (Key × D)} {S : Str → Prop}, KeyI F S → KeyI (mergeKD F (xs.map fun a => (.inr (f a), v a))) (fun x => S x ∨ ∃ a ∈ xs, f a = x)
  | [], F, S, h => h.of fun x => by simp
  | a :: xs, F, S, h => (KeyI.merge f v (xs := xs) (h.put (f a) (v a))).of fun x => by
    simp only [List.mem_cons, exists_eq_or_imp]
    constructor
    · rintro ((z | z) | z)
      · exact .inl z
      · exact .inr (.inl z.symm)
      · exact .inr (.inr z)
    · rintro (z | z | z)
      · exact .inl (.inl z)
      · exact .inl (.inr z.symm)
      · exact .inr z
theorem mergeKD_len : ∀ {more l : List (Key × D)}, (mergeKD l more).length ≤ l.length + more.length
  | [], l => Nat.le_refl _
  | p :: r, l => by
    have h1 := mergeKD_len (more := r) (l := putKD l p.1 p.2)
    have h2 : (putKD l p.1 p.2).length ≤ l.length + 1 := by unfold putKD; split <;> simp
    show (mergeKD (putKD l p.1 p.2) r).length ≤ _
    simp
    omega
theorem KeyI.get {F : List (Key × D)} {S : Str → Prop} (h : KeyI F S) {x : Str} : (getKD F (.inr x)).isSome = true ↔ S x := getKD_mem.trans (h.mem x)
section
variable {C CS : Addr} {st : SD} {b : Ob} {ds : List Dd} {P : DP} {Ex : DX}
def namesL (ds : List Dd) (done : List Nat) : List (Key × D) := done.map fun k => (.inl ((k : Nat) : Int), .str (frk ds k))
theorem names_get {done : List Nat} {p : Nat} (h : p ∈ done) : getKD (namesL ds done) (.inl (p : Int)) = some (.str (frk ds p)) :=
  find_map (fun k : Nat => ((.inl (k : Int), .str (frk ds k)) : Key × D)) _ _ p h rfl fun q _ e => by
    have : q = p := by have := Sum.inl.inj e; omega
    rw [this]
theorem F_own_ok (h : ScAt C st b ds) (hab : ∀ d ∈ ds, hasNm d = true → nm d ∈ abc) (hz : ds.length ≤ 39)
    (hP : ∀ r, P (.tup ((List.range ds.length).map (ownD ds))) (st ++ r)) : F_each_its_own C CS [.ref b.j] st P Ex := by
  unfold F_each_its_own t_each_its_own
  have hz2 : 100000 < sizeLine := by decide
  simp [-Bool.exists_bool, -List.lookup_eq_none_iff, -u_gtup, -u_gcons, -u_gnil, -u_par, dStart, dwipe]
  unfold dDc
  simp [-Bool.exists_bool, -List.lookup_eq_none_iff, -u_gtup, -u_gcons, -u_gnil, -u_par, dStart, dwipe, h.ins]
  refine dc_rule (G := fun _ => True) encD hasNm (fun d => .inr (nm d)) (fun _ => .bl true) (fun _ => trivial) ds [] (fun d hd acc Y N hzz hY => ?_) ?_ ?_
  · cases d <;> simp [-Bool.exists_bool, -List.lookup_eq_none_iff, -u_gtup, -u_gcons, -u_gnil, -u_par, dStart, dwipe, encD, hzz] <;> simpa [hasNm, isPut, isUse, nm] using hY
  · simp; omega
  have hU0 := KeyI.merge nm (fun _ => D.bl true) (xs := ds.filter hasNm) (F := []) (S := fun _ => False) ⟨by simp, by simp, by simp⟩
  have hUz : (mergeKD [] ((ds.filter hasNm).map fun d => ((.inr (nm d) : Key), D.bl true))).length ≤ 100 + ([] : List Nat).length := by
    have h1 := mergeKD_len (more := (ds.filter hasNm).map fun d => ((.inr (nm d) : Key), D.bl true)) (l := [])
    have h2 := List.length_filter_le hasNm ds
    simp at h1 ⊢
    omega
  revert hU0 hUz
  generalize mergeKD [] ((ds.filter hasNm).map fun d => ((.inr (nm d) : Key), D.bl true)) = U0
  intro hU0 hUz
  have hU0 : KeyI U0 (fun x => ∃ d ∈ ds, hasNm d = true ∧ nm d = x) := hU0.of fun x => by
    simp only [false_or, List.mem_filter, and_assoc]
  have h1 := h.app [DO.dct U0, .dct [], .dct []]
  simp [-Bool.exists_bool, -List.lookup_eq_none_iff, -u_gtup, -u_gcons, -u_gnil, -u_par, dStart, dwipe, h1.ins]
  refine ⟨_, _, h1.o, rfl, _, h1.o, ?_⟩
  rw [own_keys]
  refine loop_list iN (fun rest env st' => ∃ done U Fs x4 x5 x6 x7, done ++ rest = pL ds ∧ KeyI U (fun x => (∃ d ∈ ds, hasNm d = true ∧ nm d = x) ∨ ∃ q ∈ done, frk ds q = x) ∧ U.length ≤ 100 + done.length ∧
      SeenI Fs (fun x => if (done.filter fun q => decide (nm (ddOf ds q) = x)).length = 0 then none else some (done.filter fun q => decide (nm (ddOf ds q) = x)).length) ∧ Fs.length ≤ done.length ∧
      st' = st ++ [.dct U, .dct (namesL ds done), .dct Fs] ∧ env = [some (.ref b.j), some (.ref st.length), some (.ref (st.length + 1)), some (.ref (st.length + 2)), x4, x5, x6, x7, none, none]) ?_ ?_ _ _ _ ⟨[], U0, [], _, _, _, _, rfl, hU0.of (fun x => by simp), hUz, ⟨by simp, by simp, fun x => rfl⟩, by simp, rfl, rfl⟩
  · rintro k rest env st' K ⟨done, U, Fs, x4, x5, x6, x7, hd, hU, hUl, hF, hFl, rfl, rfl⟩ hK
    obtain ⟨hdone, hkn, hkp⟩ := putL_split hd
    have h2 := h.app [DO.dct U, .dct (namesL ds done), .dct Fs]
    have hkm : k ∈ pL ds := by rw [← hd]; simp
    obtain ⟨_, x, ex⟩ := mem_pL.mp hkm
    have hdl : done.length ≤ 39 := by
      have := congrArg List.length hd
      have := pL_len (ds := ds)
      simp at *
      omega
    have hUz2 : U.length < sizeLine := by omega
    have hFz2 : Fs.length < sizeLine := by omega
    have hNz2 : (namesL ds done).length < sizeLine := by unfold namesL; rw [List.length_map]; omega
    have hcb : (done.filter fun q => decide (nm (ddOf ds q) = x)).length = cntB ds x k := by rw [hdone]; rfl
    have hck : cnt ds k = cntB ds x k + 1 := by unfold cnt; rw [ex]; rfl
    have hfk : frk ds k = fr x (cnt ds k) := by unfold frk; rw [ex]; rfl
    have hxd : ∃ d ∈ ds, hasNm d = true ∧ nm d = x := ⟨ds[k], List.getElem_mem _, by
      have e : ds[k] = .put x := by rw [← ex]; unfold ddOf; rw [List.getD_eq_getElem?_getD, List.getElem?_eq_getElem hkn]; rfl
      rw [e]; exact ⟨rfl, rfl⟩⟩
    have hxa : x ∈ abc := by obtain ⟨d, hd, h1, rfl⟩ := hxd; exact hab d hd h1
    have hcl : cnt ds k ≤ 40 := by have := (cnt_bnd (ds := ds) (k := k)).2; omega
    have hnk : (.inl (k : Int) : Key) ∉ (namesL ds done).map (·.1) := by
      intro hm
      simp only [namesL, List.map_map, List.mem_map] at hm
      obtain ⟨q, hq, e⟩ := hm
      have h1 : q < k := by rw [hdone] at hq; exact (mem_putL.mp hq).1
      have : (q : Int) = k := Sum.inl.inj e
      omega
    have hnames : putKD (namesL ds done) (.inl (k : Int)) (.str (frk ds k)) = namesL ds (done ++ [k]) := by
      rw [putKD_new hnk]; simp [namesL]
    have hfin : ∀ (U' : List (Key × D)) (x6 x7 : Option D), KeyI U' (fun y => (∃ d ∈ ds, hasNm d = true ∧ nm d = y) ∨ ∃ q ∈ done ++ [k], frk ds q = y) → U'.length ≤ U.length + 1 →
        K [some (.ref b.j), some (.ref st.length), some (.ref (st.length + 1)), some (.ref (st.length + 2)), some (iN k), some (.str x), x6, x7, none, none] (st ++ [.dct U', .dct (namesL ds (done ++ [k])), .dct (putKD Fs (.inr x) (iN (cnt ds k)))]) := fun U' x6 x7 hU' hl' => by
      refine hK _ _ ⟨done ++ [k], U', _, _, _, _, _, by rw [← hd]; simp, hU', by simp; omega, (hF.put x (cnt ds k)).of fun y => ?_, ?_, rfl, rfl⟩
      · rw [List.filter_append, List.length_append]
        by_cases e : y = x
        · subst e
          rw [if_pos rfl, hcb]
          simp [ex, nm, hck]
        · rw [if_neg e]
          simp [ex, nm, Ne.symm e]
      · have : (putKD Fs (.inr x) (iN (cnt ds k))).length ≤ Fs.length + 1 := by unfold putKD; split <;> simp
        simp
        omega
    have hseen : getKD Fs (.inr x) = (if cntB ds x k = 0 then none else some (iN (cntB ds x k))) := by
      rw [hF.lk, hcb]
      split <;> rfl
    by_cases hc0 : cntB ds x k = 0
    · rw [if_pos hc0] at hseen
      have hone : frk ds k = x := by rw [hfk, hck, hc0]; rfl
      have hc1 : cnt ds k = 1 := by omega
      simp [-Bool.exists_bool, -List.lookup_eq_none_iff, -u_gtup, -u_gcons, -u_gnil, -u_par, dStart, dwipe, h2.ins, at_deeds hkn, ex, encD, dctD, get_off, get_off0, set_off, set_off0, Nat.add_assoc, hseen, hFz2, hNz2]
      have := hfin U (some (.str x)) (some (.int 1)) (hU.of fun y => ?_) (by omega)
      · rw [← hnames, hone, hc1] at this
        exact this
      · constructor
        · rintro (z | ⟨q, hq, e⟩)
          · exact .inl z
          · exact .inr ⟨q, by simp [hq], e⟩
        · rintro (z | ⟨q, hq, e⟩)
          · exact .inl z
          · rcases List.mem_append.mp hq with hq | hq
            · exact .inr ⟨q, hq, e⟩
            · simp at hq
              subst hq
              rw [hone] at e
              subst e
              exact .inl hxd
    · rw [if_neg hc0] at hseen
      simp [-Bool.exists_bool, -List.lookup_eq_none_iff, -u_gtup, -u_gcons, -u_gnil, -u_par, dStart, dwipe, h2.ins, at_deeds hkn, ex, encD, dctD, get_off, get_off0, set_off, set_off0, Nat.add_assoc, hseen, hFz2, hNz2]
      have hxU : (getKD U (.inr x)).isSome = true := hU.get.mpr (.inl hxd)
      have hfU : (getKD U (.inr (frk ds k))).isSome = false := by
        cases hh : (getKD U (.inr (frk ds k))).isSome with
        | false => rfl
        | true =>
          rcases hU.get.mp hh with ⟨d, hd1, hd2, hd3⟩ | ⟨q, hq, e⟩
          · have := fr_inj (hab d hd1 hd2) hxa (c := 1) (d := cnt ds k) ⟨by omega, by omega⟩ ⟨by omega, hcl⟩ (by rw [fr_one, hd3, hfk])
            omega
          · rw [hdone] at hq
            obtain ⟨hql, y, ey⟩ := mem_putL.mp hq
            have hqb := cnt_bnd (ds := ds) (k := q)
            have hya : y ∈ abc := by
              have e' : ds[q]'(by omega) = .put y := by rw [← ey]; unfold ddOf; rw [List.getD_eq_getElem?_getD, List.getElem?_eq_getElem (by omega)]; rfl
              have := hab _ (List.getElem_mem (show q < ds.length by omega)) (by rw [e']; rfl)
              rw [e'] at this; exact this
            have hfq : frk ds q = fr y (cnt ds q) := by unfold frk; rw [ey]; rfl
            rw [hfq, hfk] at e
            obtain ⟨e1, e2⟩ := fr_inj hya hxa ⟨hqb.1, by omega⟩ ⟨by omega, hcl⟩ e
            have := cnt_lt (ds := ds) (i := q) (k := k) (by rw [ey]; rfl) hql (by rw [ey, ex]; exact e1)
            omega
      have hsfx : frk ds k = sfx x (cnt ds k) := by rw [hfk]; unfold fr; rw [if_neg (by omega)]
      have hsl := (fr_ok hxa (c := cnt ds k) ⟨by omega, hcl⟩).2.1
      rw [← hfk, hsfx] at hsl
      unfold sfx at hsl
      rw [str_len, str_len] at hsl
      have hmany : ((cntB ds x k : Nat) : Int) + 1 = ((cnt ds k : Nat) : Int) := by omega
      have hl2 : ((cnt ds k : Nat) : Int).natAbs.log2 < 1920 := by
        have := Nat.log2_le_self ((cnt ds k : Nat) : Int).natAbs
        omega
      refine while_rule (fun m env st' => st' = st ++ [.dct U, .dct (namesL ds done), .dct Fs] ∧ ∃ y c, env = [some (.ref b.j), some (.ref st.length), some (.ref (st.length + 1)), some (.ref (st.length + 2)), some (iN k), some (.str x), some (.str y), some (iN c), none, none] ∧ ((m = 1 ∧ y = x ∧ c = cntB ds x k) ∨ (m = 0 ∧ y = frk ds k ∧ c = cnt ds k))) (m := 1) ⟨rfl, x, _, rfl, .inl ⟨rfl, rfl, rfl⟩⟩ ?_
      rintro m env st' R ⟨rfl, y, c, rfl, hc⟩ hR
      rcases hc with ⟨rfl, rfl, rfl⟩ | ⟨rfl, rfl, rfl⟩
      · simp [-Bool.exists_bool, -List.lookup_eq_none_iff, -u_gtup, -u_gcons, -u_gnil, -u_par, dStart, dwipe, dctD, get_off, get_off0, Nat.add_assoc, hxU]
        refine ⟨_, hR _ fun env' st'' (hN : st'' = st ++ [.dct U, .dct (namesL ds done), .dct Fs] ∧ env' = [some (.ref b.j), some (.ref st.length), some (.ref (st.length + 1)), some (.ref (st.length + 2)), some (iN k), some (.str y), some (.str (frk ds k)), some (iN (cnt ds k)), none, none]) => ⟨0, by omega, hN.1, _, _, hN.2, .inr ⟨rfl, rfl, rfl⟩⟩, ?_⟩
        rw [hmany]
        have hxl : y.length ≤ sizeLine := by omega
        have hj1 : (y ++ ("_" : Str)).length ≤ sizeLine := by rw [str_len]; omega
        have hj2 : (y ++ ("_" : Str) ++ ((toString ((cnt ds k : Nat) : Int) : String) : Str)).length ≤ sizeLine := by rw [str_len, str_len]; omega
        simp [-Bool.exists_bool, -List.lookup_eq_none_iff, -u_gtup, -u_gcons, -u_gnil, -u_par, dStart, dwipe, u_joined, u_jnil, u_jcons, u_fmt, str_empty, hxl, hj1, hj2, hl2]
        rw [hsfx]
        exact ⟨by simpa using hl2, hj2, rfl⟩
      · simp [-Bool.exists_bool, -List.lookup_eq_none_iff, -u_gtup, -u_gcons, -u_gnil, -u_par, dStart, dwipe, dctD, get_off, get_off0, set_off, set_off0, Nat.add_assoc, hfU, hUz2, hFz2, hNz2]
        rw [hnames]
        refine hfin _ _ _ ((hU.put (frk ds k) (.bl true)).of fun z => ?_) (by unfold putKD; split <;> simp)
        constructor
        · rintro ((g | ⟨q, hq, e⟩) | g)
          · exact .inl g
          · exact .inr ⟨q, by simp [hq], e⟩
          · exact .inr ⟨k, by simp, g.symm⟩
        · rintro (g | ⟨q, hq, e⟩)
          · exact .inl (.inl g)
          · rcases List.mem_append.mp hq with hq | hq
            · exact .inl (.inr ⟨q, hq, e⟩)
            · simp at hq
              subst hq
              exact .inr e.symm
  · rintro env st' ⟨done, U, Fs, x4, x5, x6, x7, hd, hU, hUl, hF, hFl, rfl, rfl⟩
    rw [List.append_nil] at hd
    subst hd
    have h3 := h.app [DO.dct U, .dct (namesL ds (pL ds)), .dct Fs]
    have h4 := h.app [DO.dct U, .dct (namesL ds (pL ds)), .dct Fs, .lst []]
    simp [-Bool.exists_bool, -List.lookup_eq_none_iff, -u_gtup, -u_gcons, -u_gnil, -u_par, dStart, dwipe, h3.o, h4.ins, enum_range]
    refine loop_range (fun k => D.tup [.int (k : Nat), encD (ddOf ds k)]) (fun j env st' => ∃ y4 y5 y6 y7 y9, st' = st ++ [.dct U, .dct (namesL ds (pL ds)), .dct Fs, .lst ((List.range j).map (ownD ds))] ∧ env = [some (.ref b.j), some (.ref st.length), some (.ref (st.length + 1)), some (.ref (st.length + 2)), y4, y5, y6, y7, some (.ref (st.length + 3)), y9]) ?_ ?_ ⟨_, _, _, _, _, rfl, rfl⟩
    · rintro k env st' K hk ⟨y4, y5, y6, y7, y9, rfl, rfl⟩ hK
      have h5 := h.app [DO.dct U, .dct (namesL ds (pL ds)), .dct Fs, .lst ((List.range k).map (ownD ds))]
      have hkz : k < sizeLine := by omega
      have hend : ∀ y4 y5 y6 y7 y9 (z : D), ownD ds k = z → K [some (.ref b.j), some (.ref st.length), some (.ref (st.length + 1)), some (.ref (st.length + 2)), y4, y5, y6, y7, some (.ref (st.length + 3)), y9] (st ++ [.dct U, .dct (namesL ds (pL ds)), .dct Fs, .lst ((List.range k).map (ownD ds) ++ [z])]) := fun y4 y5 y6 y7 y9 z e => hK _ _ ⟨_, _, _, _, _, by rw [List.range_succ]; simp [e], rfl⟩
      cases ex : ddOf ds k with
      | put x =>
        have hkm : k ∈ pL ds := mem_pL.mpr ⟨hk, x, ex⟩
        simp [-Bool.exists_bool, -List.lookup_eq_none_iff, -u_gtup, -u_gcons, -u_gnil, -u_par, dStart, dwipe, encD, dctD, get_off, get_off0, set_off, set_off0, Nat.add_assoc, names_get hkm, hkz]
        exact hend _ _ _ _ _ _ (by unfold ownD; rw [ex])
      | inn =>
        have hno : getKD (meantE ds) (.inl (k : Int)) = none := mt_none fun p hq => by
          obtain ⟨_, y, g1, _⟩ := mem_mL.mp hq
          rw [ex] at g1
          cases g1
        simp [-Bool.exists_bool, -List.lookup_eq_none_iff, -u_gtup, -u_gcons, -u_gnil, -u_par, dStart, dwipe, encD, dctD, get_off, get_off0, set_off, set_off0, Nat.add_assoc, h5.ins, h5.m, hno, hkz]
        exact hend _ _ _ _ _ _ (by unfold ownD; rw [ex]; rfl)
      | out =>
        have hno : getKD (meantE ds) (.inl (k : Int)) = none := mt_none fun p hq => by
          obtain ⟨_, y, g1, _⟩ := mem_mL.mp hq
          rw [ex] at g1
          cases g1
        simp [-Bool.exists_bool, -List.lookup_eq_none_iff, -u_gtup, -u_gcons, -u_gnil, -u_par, dStart, dwipe, encD, dctD, get_off, get_off0, set_off, set_off0, Nat.add_assoc, h5.ins, h5.m, hno, hkz]
        exact hend _ _ _ _ _ _ (by unfold ownD; rw [ex]; rfl)
      | use x =>
        rcases lim_case hk ex with ⟨p, e1, e2, e3⟩ | ⟨e1, e2⟩
        · simp [-Bool.exists_bool, -List.lookup_eq_none_iff, -u_gtup, -u_gcons, -u_gnil, -u_par, dStart, dwipe, encD, dctD, get_off, get_off0, set_off, set_off0, Nat.add_assoc, h5.ins, h5.m, e2, names_get e3, hkz]
          exact hend _ _ _ _ _ _ (by unfold ownD; rw [ex]; simp only [e1])
        · simp [-Bool.exists_bool, -List.lookup_eq_none_iff, -u_gtup, -u_gcons, -u_gnil, -u_par, dStart, dwipe, encD, dctD, get_off, get_off0, set_off, set_off0, Nat.add_assoc, h5.ins, h5.m, e2, hkz]
          exact hend _ _ _ _ _ _ (by unfold ownD; rw [ex]; simp only [e1]; rfl)
    · rintro env st' ⟨y4, y5, y6, y7, y9, rfl, rfl⟩
      simp [-Bool.exists_bool, -List.lookup_eq_none_iff, -u_gtup, -u_gcons, -u_gnil, -u_par, dStart, dwipe, fTuple, seqD, get_off]
      exact hP _
end
end FL
/-! MN: the dice, the drawn deeds. -/
namespace FL
open PySem PySem.Spec PyProof.Rows L2

@[simp] theorem u_i2 {C : Int → Int → Prop} {g : Int → Int → Int} {st : SD} {i j : Int} {P : DP} : fI2 C g st (.int i) (.int j) P ↔ C i j ∧ P (.int (g i j)) st := by simp [fI2]
@[simp] theorem u_int1 {st : SD} {i : Int} {P : DP} : fInt st [.int i] P ↔ P (.int i) st := by simp [fInt]
@[simp] theorem u_int2 {st : SD} {b : Bool} {P : DP} : fInt st [.bl b] P ↔ P (.int (if b then 1 else 0)) st := by simp [fInt]
@[simp] theorem u_abs {st : SD} {i : Int} {P : DP} : fAbs st [.int i] P ↔ P (.int (if i < 0 then -i else i)) st := by simp [fAbs]
@[simp] theorem u_max {st : SD} {i j : Int} {P : DP} : fMax st [.int i, .int j] P ↔ P (.int (if j > i then j else i)) st := ⟨fun ⟨_, _, e, h⟩ => by cases e; exact h, fun h => ⟨_, _, rfl, h⟩⟩
@[simp] theorem u_gsub {to ti : TD} {d : D} {env : DV} {st : SD} {P : DV → SD → Prop} : dgSub to ti d env st P = to env st (fun x st1 => ti env st1 (fun y st2 => ∃ j l k n, x = .ref j ∧ st2[j]? = some (.lst l) ∧ y = .int k ∧ ixN l.length k = some n ∧ P env (st2.set j (.lst (l.set n d)))) noX) noX := rfl
@[simp] theorem ix3_0 : ixN 3 0 = some 0 := rfl
@[simp] theorem ix3_1 : ixN 3 1 = some 1 := rfl
@[simp] theorem ix3_2 : ixN 3 2 = some 2 := rfl
@[simp] theorem at_2 {α : Type} {a b c : α} {l : List α} : atI (a :: b :: c :: l) 2 = some c := by
  unfold atI ixN
  rw [if_pos (by omega), if_pos (by simp only [List.length_cons]; omega)]
  rfl
/-- three ints -/
def dc3 (a c f : Int) : DO := .lst [.int a, .int c, .int f]
section
variable {C CS : Addr} {st : SD} {P : DP} {Ex : DX}
theorem F_roll_ok {i0 : Nat} {a c f m : Int} (hd : st[i0]? = some (dc3 a c f)) (hm : 0 < m ∧ m ≤ 1000) (hP : ∀ r a' c' f', 0 ≤ r → r < m → P (.int r) (st.set i0 (dc3 a' c' f'))) : F_law_roll C CS [.ref i0, .int m] st P Ex := by
  unfold F_law_roll t_law_roll
  unfold dc3 at hd
  obtain ⟨hi, _⟩ := List.getElem?_eq_some_iff.mp hd
  have hset : ∀ {x : DO}, (st.set i0 x)[i0]? = some x := fun {x} => List.getElem?_set_self (by simpa using hi)
  have hseq : ∀ {l : List D}, seqD (st.set i0 (.lst l)) (.ref i0) = some l := fun {l} => seq_ref hset
  have hcd : CDiv a m := ⟨hm.1, by omega⟩
  have hcm : ∀ {i : Int}, CMul i 48271 := fun {i} => .inr ⟨by decide, by decide⟩
  have hcm2 : ∀ {i : Int}, CMul i 69621 := fun {i} => .inr ⟨by decide, by decide⟩
  have hc7 : ∀ {i : Int}, CDiv i 7 := fun {i} => ⟨by decide, by decide⟩
  have hm1 := hm.1
  have hnm : ¬ (100000000 : Int) < m := by omega
  simp -implicitDefEqProofs [-Bool.exists_bool, -List.lookup_eq_none_iff, -u_gtup, -u_gcons, -u_gnil, -u_par, dStart, dwipe, seq_ref hd, hd, hset, hseq, hcd, hcm, hcm2, hc7, hm1, hnm]
  have h1 : ∀ x : Int, 0 ≤ x % m ∧ x % m < m := fun x => ⟨Int.emod_nonneg _ (by omega), Int.emod_lt_of_pos _ hm1⟩
  split
  · exact hP _ _ _ _ (h1 _).1 (h1 _).2
  · split
    · split
      · exact hP _ _ _ _ (h1 _).1 (h1 _).2
      · exact hP _ _ _ _ (h1 _).1 (h1 _).2
    · exact hP _ _ _ _ (h1 _).1 (h1 _).2
theorem F_dice_ok {cell : Int} (hP : ∀ a c f, P (.ref st.length) (st ++ [dc3 a c f])) : F_law_dice C CS [.int cell] st P Ex := by
  unfold F_law_dice t_law_dice
  have hp : CPow 10 18 := ⟨by decide, by decide, by decide⟩
  simp -implicitDefEqProofs [-Bool.exists_bool, -List.lookup_eq_none_iff, -u_gtup, -u_gcons, -u_gnil, -u_par, dStart, dwipe, hp]
  split
  · split
    · exact hP _ _ _
    · exact hP _ _ _
  · exact hP _ _ _
theorem u_slfn {ns : List Int} {te : TD} {tl th : TDO} {env : DV} : dSlFn ns te tl th env st P Ex = te env st (fun x st1 => tl env st1 (fun lo st2 => th env st2 (fun hi st3 => x = .fn 0 ∧ P (.lst (cutD (ns.map D.int) lo hi)) st3) Ex) Ex) Ex := rfl
theorem F_rounds_ok {ns : List Int} (hP : ∀ a c f, P (.lst [.ref st.length]) (st ++ [dc3 a c f])) : F_law_rounds C CS ns [.fn 0, .int 1] st P Ex := by
  unfold F_law_rounds t_law_rounds
  cases ns with
  | nil =>
    simp -implicitDefEqProofs [-Bool.exists_bool, -List.lookup_eq_none_iff, -u_gtup, -u_gcons, -u_gnil, -u_par, dStart, dwipe, u_slfn, cutD, plainL, cb_eq, dComp]
    exact F_dice_ok fun a c f => ⟨by decide, hP a c f⟩
  | cons n r =>
    have hc : cutD ((n :: r).map D.int) none (some 1) = [.int n] := by
      unfold cutD
      rw [show (some (1 : Int)) = some ((1 : Nat) : Int) from rfl, HT.sIx_nat]
      simp [HT.sIx_none]
    simp -implicitDefEqProofs [-Bool.exists_bool, -List.lookup_eq_none_iff, -u_gtup, -u_gcons, -u_gnil, -u_par, dStart, dwipe, u_slfn]
    simp only [List.map_cons] at hc
    rw [hc]
    simp -implicitDefEqProofs [-Bool.exists_bool, -List.lookup_eq_none_iff, -u_gtup, -u_gcons, -u_gnil, -u_par, dStart, dwipe, plainL, plainD, cb_eq, dComp]
    exact F_dice_ok fun a c f => ⟨by decide, hP a c f⟩
theorem dc3_set {i0 : Nat} {a c f a' c' f' : Int} (hd : st[i0]? = some (dc3 a c f)) : (st.set i0 (dc3 a' c' f'))[i0]? = some (dc3 a' c' f') := by
  obtain ⟨hi, _⟩ := List.getElem?_eq_some_iff.mp hd
  exact List.getElem?_set_self hi
theorem abc_at {r : Int} (h0 : 0 ≤ r) (h3 : r < 3) : ∃ x, x ∈ abc ∧ atI [D.str "a", .str "b", .str "c"] r = some (.str x) := by
  have : r = 0 ∨ r = 1 ∨ r = 2 := by omega
  rcases this with e | e | e <;> subst e
  · exact ⟨"a", by simp [abc], rfl⟩
  · exact ⟨"b", by simp [abc], rfl⟩
  · exact ⟨"c", by simp [abc], rfl⟩
theorem F_drawn_ok {i0 : Nat} {a c f : Int} (hd : st[i0]? = some (dc3 a c f)) (hP : ∀ (ds : List Dd) a' c' f', ds.length ≤ 39 → (∀ d ∈ ds, hasNm d = true → nm d ∈ abc) → P (.lst (ds.map encD)) (st.set i0 (dc3 a' c' f'))) : F_law_drawn C CS [.ref i0] st P Ex := by
  unfold F_law_drawn t_law_drawn
  have hbig : 1000 < sizeLine := by decide
  simp -implicitDefEqProofs [-Bool.exists_bool, -List.lookup_eq_none_iff, -u_gtup, -u_gcons, -u_gnil, -u_par, dStart, dwipe]
  refine F_roll_ok hd (by decide) fun r a1 c1 f1 h0 h1 => ?_
  simp -implicitDefEqProofs [-Bool.exists_bool, -List.lookup_eq_none_iff, -u_gtup, -u_gcons, -u_gnil, -u_par, dStart, dwipe]
  refine ⟨by omega, by omega, ?_⟩
  unfold rngD
  refine loop_range (fun i => D.int (0 + (i : Nat))) (fun k env st' => ∃ (ds : List Dd) (deep a c f : Int) (x3 x4 x5 : Option D), ds.length ≤ k ∧ (∀ d ∈ ds, hasNm d = true → nm d ∈ abc) ∧ -(k : Int) ≤ deep ∧ deep ≤ k ∧ st' = st.set i0 (dc3 a c f) ∧ env = [some (.ref i0), some (.lst (ds.map encD)), some (.int deep), x3, x4, x5]) ?_ ?_ ⟨[], 0, _, _, _, _, _, _, by simp, by simp, by simp, by simp, rfl, rfl⟩
  · rintro k env st' K hk ⟨ds, deep, a2, c2, f2, x3, x4, x5, hl, hab, hd1, hd2, rfl, rfl⟩ hK
    have hk15 : k < 15 := by omega
    have hend : ∀ (d : Dd) deep' a c f x3 x4 x5, (hasNm d = true → nm d ∈ abc) → -((k + 1 : Nat) : Int) ≤ deep' → deep' ≤ ((k + 1 : Nat) : Int) → K [some (.ref i0), some (.lst (ds.map encD ++ [encD d])), some (.int deep'), x3, x4, x5] (st.set i0 (dc3 a c f)) := fun d deep' a c f x3 x4 x5 hda g1 g2 =>
      hK _ _ ⟨ds ++ [d], deep', a, c, f, x3, x4, x5, by simp; omega, fun e he => by
        rcases List.mem_append.mp he with z | z
        · exact hab e z
        · simp at z; subst z; exact hda, g1, g2, rfl, by simp⟩
    simp -implicitDefEqProofs [-Bool.exists_bool, -List.lookup_eq_none_iff, -u_gtup, -u_gcons, -u_gnil, -u_par, dStart, dwipe]
    refine F_roll_ok (dc3_set hd) (by decide) fun s a3 c3 f3 g0 g1 => ?_
    simp -implicitDefEqProofs [-Bool.exists_bool, -List.lookup_eq_none_iff, -u_gtup, -u_gcons, -u_gnil, -u_par, dStart, dwipe]
    refine F_roll_ok (dc3_set hd) (by decide) fun q a4 c4 f4 q0 q1 => ?_
    obtain ⟨x, hx, ex⟩ := abc_at q0 q1
    have hlz : ds.length + 1 ≤ sizeLine := by omega
    simp -implicitDefEqProofs [-Bool.exists_bool, -List.lookup_eq_none_iff, -u_gtup, -u_gcons, -u_gnil, -u_par, dStart, dwipe, ex, hlz]
    split
    · exact hend (.put x) _ _ _ _ _ _ _ (fun _ => hx) (by omega) (by omega)
    · split
      · exact hend (.use x) _ _ _ _ _ _ _ (fun _ => hx) (by omega) (by omega)
      · have hin : ∀ a c f x3 x4 x5, K [some (.ref i0), some (.lst (ds.map encD ++ [.tup [.str "in"]])), some (.int (deep + 1)), x3, x4, x5] (st.set i0 (dc3 a c f)) := fun a c f x3 x4 x5 => hend .inn _ _ _ _ _ _ _ (fun z => by cases z) (by omega) (by omega)
        have hout : ∀ a c f x3 x4 x5, K [some (.ref i0), some (.lst (ds.map encD ++ [.tup [.str "out"]])), some (.int (deep - 1)), x3, x4, x5] (st.set i0 (dc3 a c f)) := fun a c f x3 x4 x5 => hend .out _ _ _ _ _ _ _ (fun z => by cases z) (by omega) (by omega)
        split
        · exact hin _ _ _ _ _ _
        · split
          · refine F_roll_ok (dc3_set hd) (by decide) fun v a5 c5 f5 w0 w1 => ?_
            simp -implicitDefEqProofs [-Bool.exists_bool, -List.lookup_eq_none_iff, -u_gtup, -u_gcons, -u_gnil, -u_par, dStart, dwipe]
            split
            · exact hin _ _ _ _ _ _
            · exact hout _ _ _ _ _ _
          · exact hout _ _ _ _ _ _
  · rintro env st' ⟨ds, deep, a2, c2, f2, x3, x4, x5, hl, hab, hd1, hd2, rfl, rfl⟩
    simp -implicitDefEqProofs [-Bool.exists_bool, -List.lookup_eq_none_iff, -u_gtup, -u_gcons, -u_gnil, -u_par, dStart, dwipe]
    refine F_roll_ok (dc3_set hd) (by decide) fun s a3 c3 f3 g0 g1 => ?_
    simp -implicitDefEqProofs [-Bool.exists_bool, -List.lookup_eq_none_iff, -u_gtup, -u_gcons, -u_gnil, -u_par, dStart, dwipe]
    generalize hk : (if (if s = 0 then (1 : Int) else 0) < deep then deep - (if s = 0 then (1 : Int) else 0) else 0) = kk
    have hkb : 0 ≤ kk ∧ kk ≤ 15 := by
      rw [← hk]
      have : (0 : Int) ≤ (if s = 0 then (1 : Int) else 0) := by split <;> omega
      split <;> omega
    refine ⟨_, kk, rfl, rfl, by simp only [Int.reducePow, Int.reduceNeg]; omega, by simp only [Int.reducePow]; omega, by simp; omega, ?_⟩
    have e : ds.map encD ++ (List.replicate kk.toNat [D.tup [.str "out"]]).flatten = (ds ++ List.replicate kk.toNat Dd.out).map encD := by
      rw [List.map_append, List.map_replicate, List.flatten_replicate_singleton]
      rfl
    show fAdd _ _ _ _
    rw [u_addL, e]
    refine ⟨by simp; omega, ?_⟩
    refine hP _ _ _ _ (by simp; omega) fun d hd hh => ?_
    rcases List.mem_append.mp hd with z | z
    · exact hab d z hh
    · have := (List.mem_replicate.mp z).2
      subst this
      cases hh
end
end FL
/-! MO: the law's chains, puts, meant. -/
namespace FL
open PySem PySem.Spec PyProof.Rows L2

section
variable {α : Type} [DecidableEq α]
theorem distinct_core : ∀ (l acc : List α), (l.foldl (fun acc k => if k ∈ acc then acc else acc ++ [k]) acc).length ≤ acc.length + l.length ∧ ((l.foldl (fun acc k => if k ∈ acc then acc else acc ++ [k]) acc).length = acc.length + l.length ↔ l.Nodup ∧ ∀ a ∈ l, a ∉ acc)
  | [], acc => by simp
  | a :: l, acc => by
    rw [List.foldl_cons]
    by_cases h : a ∈ acc
    · rw [if_pos h]
      obtain ⟨h1, _⟩ := distinct_core l acc
      refine ⟨by simp; omega, ⟨fun z => ?_, fun z => (z.2 a (by simp) h).elim⟩⟩
      simp at z
      omega
    · rw [if_neg h]
      obtain ⟨h1, h2⟩ := distinct_core l (acc ++ [a])
      simp only [List.length_append, List.length_singleton] at h1 h2
      refine ⟨by simp; omega, ?_⟩
      rw [List.length_cons, show acc.length + (l.length + 1) = acc.length + 1 + l.length by omega, h2]
      constructor
      · rintro ⟨g1, g2⟩
        refine ⟨List.nodup_cons.mpr ⟨fun z => g2 a z (by simp), g1⟩, fun b hb => ?_⟩
        rcases List.mem_cons.mp hb with e | e
        · rw [e]; exact h
        · exact fun z => g2 b e (by simp [z])
      · rintro ⟨g1, g2⟩
        obtain ⟨g3, g4⟩ := List.nodup_cons.mp g1
        refine ⟨g4, fun b hb z => ?_⟩
        rcases List.mem_append.mp z with e | e
        · exact g2 b (by simp [hb]) e
        · simp at e; subst e; exact g3 hb
theorem distinct_len {l : List α} : (distinct l).length = l.length ↔ l.Nodup := by
  have := (distinct_core l []).2
  simpa [distinct] using this
end
def chainD (ds : List Dd) (k : Nat) : D := .tpk ((cOf ds k).map fun s => .int (J (ddOf ds) ds.length s))
def chainsL (ds : List Dd) : List D := (List.range ds.length).map (chainD ds)
def putKs (ds : List Dd) : List (List Key) := (pL ds).map fun k => [.inl (J (ddOf ds) ds.length (cur (ddOf ds) k)), .inr (nm (ddOf ds k))]
section
variable {C CS : Addr} {st : SD} {b : Ob} {ds : List Dd} {P : DP} {Ex : DX}
theorem good_iff {k : Nat} : Good (ddOf ds) ds.length k ↔ GoodC (ddOf ds) ds.length k ∧ (isPut (ddOf ds k) = true → putsB (ddOf ds) (cur (ddOf ds) k) (nm (ddOf ds k)) k = []) := by
  unfold Good GoodC
  cases ddOf ds k <;> simp [isPut, nm]
theorem valid_iff : Valid (ddOf ds) ds.length ↔ (∀ k, k < ds.length → GoodC (ddOf ds) ds.length k) ∧ cur (ddOf ds) ds.length = 0 ∧ (putKs ds).Nodup := by
  have hks : (putKs ds).Nodup ↔ ∀ k, k < ds.length → isPut (ddOf ds k) = true → putsB (ddOf ds) (cur (ddOf ds) k) (nm (ddOf ds k)) k = [] := by
    unfold putKs
    constructor
    · intro h k hk hp
      rw [List.eq_nil_iff_forall_not_mem]
      intro i hi
      obtain ⟨h1, h2, h3⟩ := putsB_mem.mp hi
      have hip : i ∈ pL ds := mem_pL.mpr ⟨by omega, _, h2⟩
      have hkp : k ∈ pL ds := List.mem_filter.mpr ⟨List.mem_range.mpr hk, hp⟩
      have := List.pairwise_map.mp h
      have hpw : (pL ds).Pairwise (· < ·) := List.pairwise_lt_range.filter _
      have hh := this.and hpw
      have key : ∀ (l : List Nat), l.Pairwise (fun a c => [(.inl (J (ddOf ds) ds.length (cur (ddOf ds) a)) : Key), .inr (nm (ddOf ds a))] ≠ [.inl (J (ddOf ds) ds.length (cur (ddOf ds) c)), .inr (nm (ddOf ds c))] ∧ a < c) → i ∈ l → k ∈ l → False := by
        intro l
        induction l with
        | nil => intro _ h; cases h
        | cons a l ih =>
          intro hl hil hkl
          obtain ⟨p1, p2⟩ := List.pairwise_cons.mp hl
          have e : nm (ddOf ds i) = nm (ddOf ds k) := by rw [h2]; rfl
          rcases List.mem_cons.mp hil with e1 | e1
          · rcases List.mem_cons.mp hkl with e2 | e2
            · omega
            · have := (p1 k e2).1
              rw [← e1, h3, e] at this
              exact this rfl
          · rcases List.mem_cons.mp hkl with e2 | e2
            · have := (p1 i e1).2
              omega
            · exact ih p2 e1 e2
      exact key _ hh hip hkp
    · intro h
      refine List.pairwise_map.mpr ?_
      have hpw : (pL ds).Pairwise (· < ·) := List.pairwise_lt_range.filter _
      refine List.Pairwise.imp_of_mem ?_ hpw
      intro i k hi hk hik e
      obtain ⟨hil, x, ex⟩ := mem_pL.mp hi
      obtain ⟨hkl, y, ey⟩ := mem_pL.mp hk
      have e1 : J (ddOf ds) ds.length (cur (ddOf ds) i) = J (ddOf ds) ds.length (cur (ddOf ds) k) := by
        have := List.cons.inj e
        exact Sum.inl.inj this.1
      have e2 : nm (ddOf ds i) = nm (ddOf ds k) := by
        have := List.cons.inj (List.cons.inj e).2
        exact Sum.inr.inj this.1
      have e3 := (J_inj (cur_lt' (Nat.le_of_lt hil)) (cur_lt' (Nat.le_of_lt hkl))).mp e1
      have := h k hkl (by rw [ey]; rfl)
      have hm : i ∈ putsB (ddOf ds) (cur (ddOf ds) k) (nm (ddOf ds k)) k := putsB_mem.mpr ⟨hik, by rw [← e2, ex]; rfl, e3⟩
      rw [this] at hm
      cases hm
  unfold Valid
  rw [hks]
  constructor
  · rintro ⟨h1, h2⟩
    exact ⟨fun k hk => (good_iff.mp (h1 k hk)).1, h2, fun k hk => (good_iff.mp (h1 k hk)).2⟩
  · rintro ⟨h1, h2, h3⟩
    exact ⟨fun k hk => good_iff.mpr ⟨h1 k hk, h3 k hk⟩, h2⟩
theorem plainL_ints {n : Nat} : ∀ l : List Int, plainL n (l.map D.int) = true
  | [] => rfl
  | a :: l => by simp [plainL, plainD, plainL_ints l]
theorem chain_last {k : Nat} (hk : k ≤ ds.length) : ∃ r, chainD ds k = .tpk (r ++ [.int (J (ddOf ds) ds.length (cur (ddOf ds) k))]) ∧ ∃ r' : List Int, r = r'.map D.int := by
  obtain ⟨r, e⟩ := c_last hk
  exact ⟨r.map fun s => .int (J (ddOf ds) ds.length s), by unfold chainD; rw [e, List.map_append]; rfl, r.map fun s => J (ddOf ds) ds.length s, by rw [List.map_map]; rfl⟩
@[simp] theorem u_neF {st : SD} {l l' : List D} {neg : Bool} {P : DP} : fEqB neg st (.tpk l) (.tup l') P ↔ plainL 49 l = true ∧ plainL 49 l' = true ∧ P (.bl (cb (l = l') != neg)) st := by
  rw [u_eqB]; simp [flatD, plainD]
theorem u_addF {st : SD} {l l' : List D} {P : DP} : fAddF st (.tpk l) (.tpk l') P ↔ l ≠ [] ∧ l' ≠ [] ∧ l.length + l'.length ≤ sizeLine ∧ P (.tpk (l ++ l')) st := by simp [fAddF]
theorem cut_drop {l : List D} {x : D} : cutD (l ++ [x]) none (some (-1)) = l := by
  unfold cutD HT.sIx
  simp only [List.drop_zero, Nat.sub_zero]
  rw [if_pos (by omega)]
  have : ((-1 : Int) + ((l ++ [x]).length : Nat)).toNat = l.length := by simp only [List.length_append, List.length_singleton]; omega
  rw [this]
  simp
theorem u_lenDict {st : SD} {l : List D} {P : DP} : fLenDict st (.lst l) P ↔ ∃ ks, l.map rowN = ks.map some ∧ P (.int ((distinct ks).length : Nat)) st := by simp [fLenDict]
theorem depth_ok : ∀ {k : Nat}, k ≤ ds.length → (∀ j, j < k → GoodC (ddOf ds) ds.length j) → (A (ddOf ds) ds.length (cur (ddOf ds) k)).length ≤ 13
  | 0, _, _ => by show (A (ddOf ds) ds.length 0).length ≤ 13; rw [A_zero]; simp
  | k + 1, hk, h => by
    have ih := depth_ok (k := k) (by omega) (fun j hj => h j (by omega))
    have hg := h k (by omega)
    cases e : ddOf ds k with
    | put x => rw [cur_put e]; exact ih
    | use x => rw [cur_use e]; exact ih
    | inn =>
      rw [cur_inn e, A_inn hk e, List.length_cons]
      unfold GoodC at hg
      rw [e] at hg
      have hg : (A (ddOf ds) ds.length (cur (ddOf ds) k)).length ≤ 12 := hg
      omega
    | out =>
      unfold GoodC at hg
      rw [e] at hg
      rw [cur_out hk e hg, List.length_cons] at ih
      omega
theorem F_chains_ok (hn : ∀ d ∈ ds, NmD d) (hz : ds.length ≤ 1000) (hP : Valid (ddOf ds) ds.length → P (.lst (chainsL ds)) st) (hE : ¬ Valid (ddOf ds) ds.length → P .non st) : F_law_chains C CS [.lst (ds.map encD)] st P Ex := by
  unfold F_law_chains t_law_chains
  have hbig : 2000 < sizeLine := by decide
  simp -implicitDefEqProofs [-Bool.exists_bool, -List.lookup_eq_none_iff, -u_gtup, -u_gcons, -u_gnil, -u_par, dStart, dwipe, enum_range]
  have h0 : D.tpk [D.int (-1)] = chainD ds 0 := by
    unfold chainD cOf
    show _ = D.tpk (((A (ddOf ds) ds.length 0).reverse).map _)
    rw [A_zero]
    simp [J_zero]
  rw [h0]
  refine loop_range (fun k => D.tup [.int (k : Nat), encD (ddOf ds k)]) (fun k env st' => (∀ j, j < k → GoodC (ddOf ds) ds.length j) ∧ st' = st ∧ ∃ x3 x4, env = [some (.lst (ds.map encD)), some (chainD ds k), some (.lst ((List.range k).map (chainD ds))), x3, x4, none, none]) ?_ ?_ ⟨fun j hj => by omega, rfl, _, _, rfl⟩
  · rintro k env st' K hk ⟨hg, rfl, x3, x4, rfl⟩ hK
    have hG1 : GoodC (ddOf ds) ds.length k → ∀ j, j < k + 1 → GoodC (ddOf ds) ds.length j := fun hgi j hj => by
      by_cases e : j = k
      · rw [e]; exact hgi
      · exact hg j (by omega)
    have hbad : ¬ GoodC (ddOf ds) ds.length k → P .non st' := fun hb => hE (fun hv => hb ((valid_iff.mp hv).1 k hk))
    have hkz : k + 1 ≤ sizeLine := by omega
    have hkl := Nat.le_of_lt hk
    obtain ⟨r, er, r', er'⟩ := chain_last hkl
    have hchl : r.length + 1 = (A (ddOf ds) ds.length (cur (ddOf ds) k)).length := by
      have : chainD ds k = .tpk ((cOf ds k).map fun s => .int (J (ddOf ds) ds.length s)) := rfl
      rw [er] at this
      have := congrArg List.length (D.tpk.inj this)
      simp [cOf] at this
      omega
    have hAl := A_len (cur_lt' (dd := ddOf ds) hkl)
    have hsucc : (List.range k).map (chainD ds) ++ [chainD ds k] = (List.range (k + 1)).map (chainD ds) := by rw [List.range_succ]; simp
    have hnext : ∀ x, chainD ds (k + 1) = x → (GoodC (ddOf ds) ds.length k) → K [some (.lst (ds.map encD)), some x, some (.lst ((List.range k).map (chainD ds) ++ [chainD ds k])), some (iN k), some (encD (ddOf ds k)), none, none] st' := fun x e hgi =>
      hK _ _ ⟨hG1 hgi, rfl, _, _, by rw [e, hsucc]⟩
    have hsame : cur (ddOf ds) (k + 1) = cur (ddOf ds) k → chainD ds (k + 1) = chainD ds k := fun e => by unfold chainD; rw [cOf_same e]
    have hpl : plainL 49 (r ++ [.int (J (ddOf ds) ds.length (cur (ddOf ds) k))]) = true := by
      rw [er', show [D.int (J (ddOf ds) ds.length (cur (ddOf ds) k))] = [J (ddOf ds) ds.length (cur (ddOf ds) k)].map D.int from rfl, ← List.map_append]
      exact plainL_ints _
    have hdep := depth_ok hkl hg
    cases ex : ddOf ds k with
    | put x =>
      have hgi : GoodC (ddOf ds) ds.length k := by unfold GoodC; rw [ex]; trivial
      have hh := hnext _ rfl hgi
      rw [hsame (cur_put ex), ex, er] at hh
      rw [er]
      simp -implicitDefEqProofs [-Bool.exists_bool, -List.lookup_eq_none_iff, -u_gtup, -u_gcons, -u_gnil, -u_par, dStart, dwipe, encD, hkz, cb_eq, hpl, plainL]
      rw [if_neg (by omega)]
      exact hh
    | use x =>
      have hgi : GoodC (ddOf ds) ds.length k := by unfold GoodC; rw [ex]; trivial
      have hh := hnext _ rfl hgi
      rw [hsame (cur_use ex), ex, er] at hh
      rw [er]
      simp -implicitDefEqProofs [-Bool.exists_bool, -List.lookup_eq_none_iff, -u_gtup, -u_gcons, -u_gnil, -u_par, dStart, dwipe, encD, hkz, cb_eq, hpl, plainL]
      rw [if_neg (by omega)]
      exact hh
    | inn =>
      rw [er]
      simp -implicitDefEqProofs [-Bool.exists_bool, -List.lookup_eq_none_iff, -u_gtup, -u_gcons, -u_gnil, -u_par, dStart, dwipe, encD, hkz, u_addF, cb_eq]
      have hpl2 : plainL 49 (r ++ [D.int (J (ddOf ds) ds.length (cur (ddOf ds) k)), D.int k]) = true := by
        rw [er', show [D.int (J (ddOf ds) ds.length (cur (ddOf ds) k)), D.int k] = [J (ddOf ds) ds.length (cur (ddOf ds) k), (k : Int)].map D.int from rfl, ← List.map_append]
        exact plainL_ints _
      have hch : chainD ds (k + 1) = D.tpk (r ++ [D.int (J (ddOf ds) ds.length (cur (ddOf ds) k)), D.int k]) := by
        have e1 : chainD ds k = .tpk ((cOf ds k).map fun s => .int (J (ddOf ds) ds.length s)) := rfl
        rw [er] at e1
        unfold chainD
        rw [cOf_inn hk ex, List.map_append, ← D.tpk.inj e1]
        simp [J_inn hk ex]
      refine ⟨by omega, hpl2, rfl, ?_⟩
      by_cases hgi : GoodC (ddOf ds) ds.length k
      · have h12 : (A (ddOf ds) ds.length (cur (ddOf ds) k)).length ≤ 12 := by unfold GoodC at hgi; rw [ex] at hgi; exact hgi
        rw [if_neg (by omega)]
        have hh := hnext _ hch hgi
        rw [ex, er] at hh
        exact hh
      · have h12 : ¬ (A (ddOf ds) ds.length (cur (ddOf ds) k)).length ≤ 12 := fun z => hgi (by unfold GoodC; rw [ex]; exact z)
        rw [if_pos (by omega)]
        exact hbad hgi
    | out =>
      rw [er]
      simp -implicitDefEqProofs [-Bool.exists_bool, -List.lookup_eq_none_iff, -u_gtup, -u_gcons, -u_gnil, -u_par, dStart, dwipe, encD, hkz, u_addF, cb_eq]
      rw [cut_drop]
      refine ⟨by rw [er']; exact plainL_ints _, rfl, ?_⟩
      by_cases hgi : GoodC (ddOf ds) ds.length k
      · have h0' : cur (ddOf ds) k ≠ 0 := by unfold GoodC at hgi; rw [ex] at hgi; exact hgi
        have hAo := cur_out hk ex h0'
        have hne := A_ne (dd := ddOf ds) (n := ds.length) (cur_lt' (show k + 1 ≤ ds.length from hk))
        have hl1 : 0 < (A (ddOf ds) ds.length (cur (ddOf ds) (k + 1))).length := List.length_pos_iff.mpr hne
        have hchl2 : r.length = (A (ddOf ds) ds.length (cur (ddOf ds) (k + 1))).length := by
          have := hchl
          rw [hAo, List.length_cons] at this
          omega
        have hdep2 : (A (ddOf ds) ds.length (cur (ddOf ds) (k + 1))).length ≤ 12 := by
          have := hdep
          rw [hAo, List.length_cons] at this
          omega
        rw [if_neg (fun z => by rw [z] at hchl2; simp at hchl2; omega), if_neg (by omega)]
        have hch : chainD ds (k + 1) = D.tpk r := by
          have e1 : chainD ds k = .tpk ((cOf ds k).map fun s => .int (J (ddOf ds) ds.length s)) := rfl
          rw [er, cOf_out hk ex h0', List.map_append] at e1
          have e2 := D.tpk.inj e1
          have := List.append_inj_left' e2 rfl
          unfold chainD
          rw [← this]
        have hh := hnext _ hch hgi
        rw [ex, er] at hh
        exact hh
      · have h0' : cur (ddOf ds) k = 0 := Classical.byContradiction fun z => hgi (by unfold GoodC; rw [ex]; exact z)
        rw [h0', A_zero] at hchl
        simp at hchl
        rw [if_pos hchl]
        exact hbad hgi
  · rintro env st' ⟨hg, rfl, x3, x4, rfl⟩
    simp -implicitDefEqProofs [-Bool.exists_bool, -List.lookup_eq_none_iff, -u_gtup, -u_gcons, -u_gnil, -u_par, dStart, dwipe, enum_range]
    have hch : ∀ k, k < ds.length → atI ((List.range ds.length).map (chainD ds)) (k : Int) = some (chainD ds k) := fun k hk => at_nat (by rw [List.getElem?_map, List.getElem?_range hk]; rfl)
    refine comp_rule (fun k => D.tup [.int (k : Nat), encD (ddOf ds k)]) (fun k => isPut (ddOf ds k)) (fun k => .tup [.int (J (ddOf ds) ds.length (cur (ddOf ds) k)), .str (nm (ddOf ds k))]) trivial _ _ (fun k hk Y N hY => ?_) (by simp; omega) ?_
    · have hk := List.mem_range.mp hk
      obtain ⟨r, er, r', er'⟩ := chain_last (ds := ds) (Nat.le_of_lt hk)
      cases ex : ddOf ds k <;> simp -implicitDefEqProofs [-Bool.exists_bool, -List.lookup_eq_none_iff, -u_gtup, -u_gcons, -u_gnil, -u_par, dStart, dwipe, encD, hch k hk, er, at_last] <;> rw [ex] at hY <;> simpa [isPut, nm] using hY
    · rw [List.nil_append]
      have hlen : fLen st' [chainD ds ds.length] = fun (P : DP) => fLen st' [D.tpk ((cOf ds ds.length).map fun s => .int (J (ddOf ds) ds.length s))] P := rfl
      rw [hlen]
      have hpLe : (List.range ds.length).filter (fun k => isPut (ddOf ds k)) = pL ds := rfl
      rw [hpLe]
      have hcl : (cOf ds ds.length).length = (A (ddOf ds) ds.length (cur (ddOf ds) ds.length)).length := by simp [cOf]
      simp -implicitDefEqProofs [-Bool.exists_bool, -List.lookup_eq_none_iff, -u_gtup, -u_gcons, -u_gnil, -u_par, dStart, dwipe, hcl]
      by_cases hc0 : cur (ddOf ds) ds.length = 0
      · have h1 : (A (ddOf ds) ds.length (cur (ddOf ds) ds.length)).length = 1 := by rw [hc0, A_zero]; rfl
        rw [if_pos (by omega)]
        have hmm : (pL ds).map (fun k => D.tup [.int (J (ddOf ds) ds.length (cur (ddOf ds) k)), .str (nm (ddOf ds k))]) = (pL ds).map fun k => D.tup [.int (J (ddOf ds) ds.length (cur (ddOf ds) k)), .str (nm (ddOf ds k))] := rfl
        refine comp_rule (fun k => D.tup [.int (J (ddOf ds) ds.length (cur (ddOf ds) k)), .str (nm (ddOf ds k))]) (fun _ => true) (fun k => D.tup [D.tup [.int (J (ddOf ds) ds.length (cur (ddOf ds) k)), .str (nm (ddOf ds k))], .int 1]) trivial _ _ (fun k hk Y N hY => ?_) (by simpa using sz (Nat.le_trans pL_len hz)) ?_
        · simp -implicitDefEqProofs [-Bool.exists_bool, -List.lookup_eq_none_iff, -u_gtup, -u_gcons, -u_gnil, -u_par, dStart, dwipe]
          simpa using hY
        · rw [List.nil_append, List.filter_eq_self.mpr (fun _ _ => rfl), u_lenDict]
          refine ⟨putKs ds, by unfold putKs; rw [List.map_map, List.map_map]; rfl, ?_⟩
          have hiff : (distinct (putKs ds)).length = (pL ds).length ↔ (putKs ds).Nodup := by
            rw [← distinct_len]; simp [putKs]
          simp -implicitDefEqProofs [-Bool.exists_bool, -List.lookup_eq_none_iff, -u_gtup, -u_gcons, -u_gnil, -u_par, dStart, dwipe]
          by_cases hnd : (putKs ds).Nodup
          · rw [if_pos (by have := hiff.mpr hnd; omega)]
            exact hP (valid_iff.mpr ⟨hg, hc0, hnd⟩)
          · rw [if_neg (fun z => hnd (hiff.mp (by omega)))]
            exact hE (fun hv => hnd (valid_iff.mp hv).2.2)
      · obtain ⟨p, hp, e⟩ := A_step (dd := ddOf ds) (n := ds.length) (by omega) (cur_lt' (Nat.le_refl _))
        have hne := A_ne (dd := ddOf ds) (n := ds.length) (s := p) (by have := cur_lt' (dd := ddOf ds) (Nat.le_refl ds.length); omega)
        have hl1 : 0 < (A (ddOf ds) ds.length p).length := List.length_pos_iff.mpr hne
        rw [if_neg (by rw [e, List.length_cons]; omega)]
        exact hE (fun hv => hc0 (valid_iff.mp hv).2.1)
end
end FL
/-! MP: the law's puts, meant. -/
namespace FL
open PySem PySem.Spec PyProof.Rows L2

@[simp] theorem plD_str {n : Nat} {x : Str} : plainD n (.str x) = PyData.strOk x := by cases n <;> rfl
@[simp] theorem plD_int {n : Nat} {x : Int} : plainD n (.int x) = true := by cases n <;> rfl
@[simp] theorem plD_non {n : Nat} : plainD n .non = true := by cases n <;> rfl
section
variable {C CS : Addr} {st : SD} {b : Ob} {ds : List Dd} {P : DP} {Ex : DX}
theorem chains_at {k : Nat} (hk : k < ds.length) : atI (chainsL ds) (k : Int) = some (chainD ds k) := at_nat (by unfold chainsL; rw [List.getElem?_map, List.getElem?_range hk]; rfl)
theorem chain_m1 {k : Nat} (hk : k ≤ ds.length) : ∃ l, chainD ds k = .tpk l ∧ atI l (-1) = some (.int (J (ddOf ds) ds.length (cur (ddOf ds) k))) := by
  obtain ⟨r, er, _⟩ := chain_last hk
  exact ⟨_, er, at_last⟩
theorem plain_enc {d : Dd} (h : PyData.strOk (nm d) = true) : ∃ l, encD d = .tup l ∧ plainL 49 l = true := by
  cases d with
  | put x => exact ⟨_, rfl, by simpa [plainL, plainD, nm] using h⟩
  | use x => exact ⟨_, rfl, by simpa [plainL, plainD, nm] using h⟩
  | inn => exact ⟨_, rfl, by simp [plainL, plainD]⟩
  | out => exact ⟨_, rfl, by simp [plainL, plainD]⟩
theorem nm_all (hn : ∀ d ∈ ds, NmD d) (k : Nat) : PyData.strOk (nm (ddOf ds k)) = true := nm_ok hn k
theorem encD_inj {d e : Dd} : encD d = encD e ↔ d = e := by
  constructor
  · cases d <;> cases e <;> intro h <;> simp [encD] at h <;> first | rfl | (subst h; rfl)
  · intro h; rw [h]
theorem F_puts_law (hn : ∀ d ∈ ds, NmD d) (hz : ds.length ≤ 1000) {s : Nat} (hs : s < nsc (ddOf ds) ds.length) {x : Str} (hx : PyData.strOk x = true) (hP : P (.lst ((putsB (ddOf ds) s x ds.length).map iN)) st) :
    F_law_puts C CS [.lst (ds.map encD), .lst (chainsL ds), .int (J (ddOf ds) ds.length s), .str x] st P Ex := by
  unfold F_law_puts t_law_puts
  have hbig : 2000 < sizeLine := by decide
  simp -implicitDefEqProofs [-Bool.exists_bool, -List.lookup_eq_none_iff, -u_gtup, -u_gcons, -u_gnil, -u_par, dStart, dwipe, enum_range]
  refine comp_rule (fun k => D.tup [.int (k : Nat), encD (ddOf ds k)]) (fun k => decide (ddOf ds k = .put x ∧ cur (ddOf ds) k = s)) iN trivial _ _ (fun k hk Y N hY => ?_) (by simp; omega) ?_
  · have hk := List.mem_range.mp hk
    obtain ⟨l, el, el2⟩ := chain_m1 (ds := ds) (Nat.le_of_lt hk)
    obtain ⟨l3, el3, el4⟩ := plain_enc (nm_all hn k)
    have hJ := J_inj (dd := ddOf ds) (n := ds.length) (cur_lt' (Nat.le_of_lt hk)) hs
    have he : l3 = [.str "put", .str x] ↔ ddOf ds k = .put x := by
      rw [← encD_inj, el3]
      exact ⟨fun z => by rw [z]; rfl, fun z => D.tup.inj z⟩
    simp -implicitDefEqProofs [-Bool.exists_bool, -List.lookup_eq_none_iff, -u_gtup, -u_gcons, -u_gnil, -u_par, dStart, dwipe, el3, el4, plainL, hx, chains_at hk, el, el2, hJ, cb_eq]
    have hcb : (cb (l3 = [.str "put", .str x]) = true) ↔ ddOf ds k = .put x := by rw [cb_iff, he]
    by_cases h1 : ddOf ds k = .put x
    · rw [if_pos (by simpa [cb_iff, he] using h1)]
      by_cases h2 : cur (ddOf ds) k = s
      · simpa [h1, h2, hx] using hY
      · simpa [h1, h2, hx] using hY
    · rw [if_neg (by simpa [cb_iff, he] using h1)]
      simpa [h1, hx] using hY
  · exact hP
theorem F_meant_law (hn : ∀ d ∈ ds, NmD d) (hz : ds.length ≤ 1000) {j : Nat} (hj : j < ds.length) {x : Str} (hx : PyData.strOk x = true) (hP : P (optD (meantAt (ddOf ds) ds.length j x)) st) :
    F_law_meant C CS [.lst (ds.map encD), .lst (chainsL ds), .int j, .str x] st P Ex := by
  unfold F_law_meant t_law_meant
  have hbig : 2000 < sizeLine := by decide
  have hrev : chainD ds j = .tpk (((A (ddOf ds) ds.length (cur (ddOf ds) j)).map fun s => D.int (J (ddOf ds) ds.length s)).reverse) := by
    unfold chainD cOf; rw [List.map_reverse]
  simp -implicitDefEqProofs [-Bool.exists_bool, -List.lookup_eq_none_iff, -u_gtup, -u_gcons, -u_gnil, -u_par, dStart, dwipe, chains_at hj, hrev]
  have hc := cur_lt' (dd := ddOf ds) (n := ds.length) (Nat.le_of_lt hj)
  refine loop_list (fun s => D.int (J (ddOf ds) ds.length s)) (fun rest env st' => (∀ s ∈ rest, s < nsc (ddOf ds) ds.length) ∧ (rest.findSome? fun s => (putsB (ddOf ds) s x j).head?) = meantAt (ddOf ds) ds.length j x ∧ st' = st ∧ ∃ x4 x5 x6, env = [some (.lst (ds.map encD)), some (.lst (chainsL ds)), some (.int j), some (.str x), x4, x5, x6]) ?_ ?_ _ _ _ ⟨fun s hs => by have := A_mem hc hs; omega, rfl, rfl, _, _, _, rfl⟩
  · rintro s rest env st' K ⟨hlt, hfs, rfl, x4, x5, x6, rfl⟩ hK
    simp -implicitDefEqProofs [-Bool.exists_bool, -List.lookup_eq_none_iff, -u_gtup, -u_gcons, -u_gnil, -u_par, dStart, dwipe]
    refine F_puts_law hn hz (hlt s (by simp)) hx ?_
    simp only [u_iat3]
    refine comp_rule iN (fun i => decide (i < j)) iN trivial _ _ (fun i hi Y N hY => ?_) (by simpa using sz (Nat.le_trans putsB_len hz)) ?_
    · simp -implicitDefEqProofs [-Bool.exists_bool, -List.lookup_eq_none_iff, -u_gtup, -u_gcons, -u_gnil, -u_par, dStart, dwipe]
      simpa using hY
    · rw [mine_lt (Nat.le_of_lt hj), List.nil_append]
      cases hh : (putsB (ddOf ds) s x j).head? with
      | none =>
        have e0 := List.head?_eq_none_iff.mp hh
        simp -implicitDefEqProofs [-Bool.exists_bool, -List.lookup_eq_none_iff, -u_gtup, -u_gcons, -u_gnil, -u_par, dStart, dwipe, e0, plainL, cb_eq]
        refine hK _ _ ⟨fun t ht => hlt t (by simp [ht]), ?_, rfl, _, _, _, rfl⟩
        rw [← hfs, List.findSome?_cons, hh]
      | some p =>
        have e0 : putsB (ddOf ds) s x j ≠ [] := fun z => by rw [z] at hh; cases hh
        have hp : meantAt (ddOf ds) ds.length j x = some p := by rw [← hfs, List.findSome?_cons, hh]
        rw [hp] at hP
        simp -implicitDefEqProofs [-Bool.exists_bool, -List.lookup_eq_none_iff, -u_gtup, -u_gcons, -u_gnil, -u_par, dStart, dwipe, plainL_iN, plainL, e0, cb_eq, head_at hh]
        exact hP
  · rintro env st' ⟨hlt, hfs, rfl, x4, x5, x6, rfl⟩
    simp -implicitDefEqProofs [-Bool.exists_bool, -List.lookup_eq_none_iff, -u_gtup, -u_gcons, -u_gnil, -u_par, dStart, dwipe]
    rw [← hfs] at hP
    exact hP
end
end FL
/-! MQ: the law's own account of names of their own. -/
namespace FL
open PySem PySem.Spec PyProof.Rows L2

theorem u_invals {st : SD} {x : D} {j : Nat} {neg : Bool} {P : DP} : fInVals neg st x (.ref j) P ↔ ∃ l, dctD st j = some l ∧ atomD x = true ∧ (l.map (·.2)).all atomD = true ∧ P (.bl (cb (x ∈ l.map (·.2)) != neg)) st := by
  unfold fInVals
  simp only [all_bool (Q := fun r => P (.bl (r != neg)) st)]
  exact ⟨fun ⟨_, l, e, h⟩ => by cases e; exact ⟨l, h⟩, fun ⟨l, h⟩ => ⟨_, l, rfl, h⟩⟩
theorem exists_andr {α : Type} {p q : α → Prop} {c : Prop} : (∃ a, (p a ∧ q a) ∧ c) ↔ ∃ a, p a ∧ q a ∧ c := by simp only [and_assoc]
@[simp] theorem ad_int {i : Int} : atomD (.int i) = true := rfl
@[simp] theorem ad_str {x : Str} : atomD (.str x) = true := rfl
@[simp] theorem ad_non : atomD .non = true := rfl
theorem u_stri {st : SD} {i : Int} {P : DP} : fStrI st [.int i] P ↔ i.natAbs.log2 < 1920 ∧ P (.str (toString i)) st := by simp [fStrI]
def usedL (ds : List Dd) : List D := (ds.filter hasNm).map fun d => .str (nm d)
def dueV (ds : List Dd) (done : List Nat) : List D := (namesL ds done).map (·.2)
theorem usedL_atom {ds : List Dd} : (usedL ds).all atomD = true := by simp [usedL]
theorem usedL_mem {ds : List Dd} {z : Str} : D.str z ∈ usedL ds ↔ ∃ d ∈ ds, hasNm d = true ∧ nm d = z := by simp [usedL, and_assoc]
theorem dueV_atom {ds : List Dd} {done : List Nat} : (dueV ds done).all atomD = true := by simp [dueV, namesL]
theorem dueV_atom2 {ds : List Dd} {done : List Nat} : (namesL ds done).all (atomD ∘ fun x => x.2) = true := by simp [namesL]
theorem dueV_mem {ds : List Dd} {done : List Nat} {z : Str} : D.str z ∈ dueV ds done ↔ ∃ q ∈ done, frk ds q = z := by simp [dueV, namesL]
theorem dueV_eq {ds : List Dd} {done : List Nat} : (namesL ds done).map (fun x => x.2) = dueV ds done := rfl
theorem cb_pos {p : Prop} (h : p) : cb p = true := cb_iff.mpr h
theorem cb_neg {p : Prop} (h : ¬ p) : cb p = false := by
  cases hc : cb p with
  | false => rfl
  | true => exact (h (cb_iff.mp hc)).elim
def sameL (ds : List Dd) (p : Nat) : List Nat := (pL ds).filter fun q => decide (ddOf ds q = ddOf ds p)
section
variable {C CS : Addr} {st : SD} {b : Ob} {ds : List Dd} {P : DP} {Ex : DX}
theorem same_head {p : Nat} (hp : p ∈ pL ds) : ∃ q r, sameL ds p = q :: r ∧ (q = p ↔ cnt ds p = 1) := by
  obtain ⟨hpl, x, ex⟩ := mem_pL.mp hp
  cases hs : sameL ds p with
  | nil =>
    have : p ∈ sameL ds p := List.mem_filter.mpr ⟨hp, by simp⟩
    rw [hs] at this
    cases this
  | cons q r =>
    refine ⟨q, r, rfl, ?_⟩
    have hq : q ∈ sameL ds p := by rw [hs]; simp
    obtain ⟨hq1, hq2⟩ := List.mem_filter.mp hq
    have hq2 : ddOf ds q = ddOf ds p := of_decide_eq_true hq2
    have hpw : (sameL ds p).Pairwise (· < ·) := (List.pairwise_lt_range.filter _).filter _
    rw [hs] at hpw
    have hmin : ∀ i ∈ sameL ds p, q ≤ i := fun i hi => by
      rw [hs] at hi
      rcases List.mem_cons.mp hi with e | e
      · omega
      · have := (List.pairwise_cons.mp hpw).1 i e; omega
    constructor
    · intro e
      subst e
      have h0 : cntB ds (nm (ddOf ds q)) q = 0 := by
        unfold cntB
        rw [List.length_eq_zero_iff, List.filter_eq_nil_iff]
        intro i hi hh
        obtain ⟨h1, y, h2⟩ := mem_putL.mp hi
        have hh : nm (ddOf ds i) = nm (ddOf ds q) := of_decide_eq_true hh
        have : i ∈ sameL ds q := List.mem_filter.mpr ⟨mem_pL.mpr ⟨by omega, y, h2⟩, decide_eq_true (by rw [h2, ex] at hh ⊢; simp [nm] at hh; rw [hh])⟩
        have := hmin i this
        omega
      unfold cnt
      omega
    · intro hc
      rcases Nat.lt_trichotomy q p with g | g | g
      · have := cnt_lt (ds := ds) (i := q) (k := p) (by rw [hq2, ex]; rfl) g (by rw [hq2])
        have := (cnt_bnd (ds := ds) (k := q)).1
        omega
      · exact g
      · have := hmin p (List.mem_filter.mpr ⟨hp, by simp⟩)
        omega
def firstsL (ds : List Dd) : List Nat := (pL ds).filter fun p => decide (cnt ds p = 1)
theorem abc_nm (hab : ∀ d ∈ ds, hasNm d = true → nm d ∈ abc) {k : Nat} (hk : k < ds.length) (h : hasNm (ddOf ds k) = true) : nm (ddOf ds k) ∈ abc := by
  have e : ddOf ds k = ds[k] := by unfold ddOf; rw [List.getD_eq_getElem?_getD, List.getElem?_eq_getElem hk]; rfl
  rw [e] at h ⊢
  exact hab _ (List.getElem_mem _) h
theorem frk_inj (hab : ∀ d ∈ ds, hasNm d = true → nm d ∈ abc) (hz : ds.length ≤ 39) {i k : Nat} (hi : i ∈ pL ds) (hk : k ∈ pL ds) (e : frk ds i = frk ds k) : i = k := by
  obtain ⟨hil, x, ex⟩ := mem_pL.mp hi
  obtain ⟨hkl, y, ey⟩ := mem_pL.mp hk
  have h1 := abc_nm hab hil (by rw [ex]; rfl)
  have h2 := abc_nm hab hkl (by rw [ey]; rfl)
  have b1 := cnt_bnd (ds := ds) (k := i)
  have b2 := cnt_bnd (ds := ds) (k := k)
  obtain ⟨g1, g2⟩ := fr_inj h1 h2 ⟨b1.1, by omega⟩ ⟨b2.1, by omega⟩ e
  exact cnt_inj (by rw [ex]; rfl) (by rw [ey]; rfl) g1 g2
theorem frk_ok (hab : ∀ d ∈ ds, hasNm d = true → nm d ∈ abc) (hz : ds.length ≤ 39) {k : Nat} (hk : k ∈ pL ds) : PyData.strOk (frk ds k) = true := by
  obtain ⟨hkl, y, ey⟩ := mem_pL.mp hk
  have b2 := cnt_bnd (ds := ds) (k := k)
  exact (fr_ok (abc_nm hab hkl (by rw [ey]; rfl)) ⟨b2.1, by omega⟩).1
theorem ownD_put {p : Nat} (hp : p ∈ pL ds) : ownD ds p = .tup [.str "put", .str (frk ds p)] := by
  obtain ⟨_, x, ex⟩ := mem_pL.mp hp
  unfold ownD; rw [ex]
theorem own_at {k : Nat} (hk : k < ds.length) : atI ((List.range ds.length).map (ownD ds)) (k : Int) = some (ownD ds k) := at_nat (by rw [List.getElem?_map, List.getElem?_range hk]; rfl)
theorem names_none {done : List Nat} {k : Nat} (h : k ∉ done) : getKD (namesL ds done) (.inl (k : Int)) = none :=
  find_none (fun k : Nat => ((.inl (k : Int), .str (frk ds k)) : Key × D)) _ _ fun q hq e => by
    have : q = k := by have := Sum.inl.inj e; omega
    exact h (this ▸ hq)
theorem plainL_all {n : Nat} : ∀ {l : List D}, (∀ d ∈ l, plainD n d = true) → plainL n l = true
  | [], _ => rfl
  | d :: l, h => by
    rw [plainL, Bool.and_eq_true]
    exact ⟨h d (by simp), plainL_all fun e he => h e (by simp [he])⟩
theorem plain_enc2 {d : Dd} (h : PyData.strOk (nm d) = true) : plainD 49 (encD d) = true := by
  cases d <;> simpa [encD, plainD, plainL, nm] using h
theorem plainL_own (hab : ∀ d ∈ ds, hasNm d = true → nm d ∈ abc) (hz : ds.length ≤ 39) (hn : ∀ d ∈ ds, NmD d) : plainL 49 ((List.range ds.length).map (ownD ds)) = true := by
  refine plainL_all fun d hd => ?_
  obtain ⟨k, hk, rfl⟩ := List.mem_map.mp hd
  have hk := List.mem_range.mp hk
  have hnk := nm_all hn k
  cases ex : ddOf ds k with
  | put x =>
    have hkm : k ∈ pL ds := mem_pL.mpr ⟨hk, x, ex⟩
    rw [ownD_put hkm]
    simp [plainD, plainL, frk_ok hab hz hkm]
  | inn =>
    have e : ownD ds k = encD .inn := by unfold ownD; rw [ex]
    rw [e]; exact plain_enc2 ok_empty
  | out =>
    have e : ownD ds k = encD .out := by unfold ownD; rw [ex]
    rw [e]; exact plain_enc2 ok_empty
  | use x =>
    rw [ex] at hnk
    rcases lim_case hk ex with ⟨p, e1, e2, e3⟩ | ⟨e1, e2⟩
    · have e : ownD ds k = .tup [.str "use", .str (frk ds p)] := by unfold ownD; rw [ex]; simp only [e1]
      rw [e]
      simp [plainD, plainL, frk_ok hab hz e3]
    · have e : ownD ds k = encD (.use x) := by unfold ownD; rw [ex]; simp only [e1]
      rw [e]; exact plain_enc2 hnk
theorem F_own_law (h : ScAt C st b ds) {im : Nat} (him : st[im]? = some (.dctR (meantE ds))) (hab : ∀ d ∈ ds, hasNm d = true → nm d ∈ abc) (hz : ds.length ≤ 39) (hn : ∀ d ∈ ds, NmD d)
    (hP : ∀ r, P (.bl true) (st ++ r)) : F_law_own C CS [.ref b.j, .lst (ds.map encD), .ref im, .lst ((pL ds).map iN)] st P Ex := by
  unfold F_law_own t_law_own
  have hbig : 100000 < sizeLine := by decide
  simp -implicitDefEqProofs [-Bool.exists_bool, -List.lookup_eq_none_iff, -u_gtup, -u_gcons, -u_gnil, -u_par, dStart, dwipe, h.ins]
  refine F_own_ok h hab hz fun r => ?_
  refine comp_rule iN (fun _ => true) (fun p => .str (frk ds p)) trivial _ _ (fun p hp Y N hY => ?_) (by have := pL_len (ds := ds); simp; omega) ?_
  · obtain ⟨hpl, _⟩ := mem_pL.mp hp
    simp -implicitDefEqProofs [-Bool.exists_bool, -List.lookup_eq_none_iff, -u_gtup, -u_gcons, -u_gnil, -u_par, dStart, dwipe, own_at hpl, ownD_put hp]
    simpa using hY
  rw [List.nil_append, List.filter_eq_self.mpr (fun _ _ => rfl)]
  simp -implicitDefEqProofs [-Bool.exists_bool, -List.lookup_eq_none_iff, -u_gtup, -u_gcons, -u_gnil, -u_par, dStart, dwipe]
  refine comp_rule iN (fun p => decide (cnt ds p = 1)) iN trivial _ _ (fun p hp Y N hY => ?_) (by have := pL_len (ds := ds); simp; omega) ?_
  · obtain ⟨hpl, x, ex⟩ := mem_pL.mp hp
    simp -implicitDefEqProofs [-Bool.exists_bool, -List.lookup_eq_none_iff, -u_gtup, -u_gcons, -u_gnil, -u_par, dStart, dwipe]
    refine comp_rule iN (fun q => decide (ddOf ds q = ddOf ds p)) iN trivial _ _ (fun q hq Y N hY => ?_) (by have := pL_len (ds := ds); simp; omega) ?_
    · obtain ⟨hql, y, ey⟩ := mem_pL.mp hq
      have h1 := nm_all hn p
      have h2 := nm_all hn q
      rw [ex] at h1 hY
      rw [ey] at h2 hY
      simp -implicitDefEqProofs [-Bool.exists_bool, -List.lookup_eq_none_iff, -u_gtup, -u_gcons, -u_gnil, -u_par, dStart, dwipe, at_deeds hpl, at_deeds hql, ex, ey, encD, plainL, cb_eq, show PyData.strOk x = true from h1, show PyData.strOk y = true from h2]
      simpa using hY
    · obtain ⟨q, rr, e1, e2⟩ := same_head hp
      have e1 : (pL ds).filter (fun q => decide (ddOf ds q = ddOf ds p)) = q :: rr := e1
      rw [List.nil_append, e1]
      simp -implicitDefEqProofs [-Bool.exists_bool, -List.lookup_eq_none_iff, -u_gtup, -u_gcons, -u_gnil, -u_par, dStart, dwipe, Int.natCast_inj]
      by_cases hc : cnt ds p = 1
      · rw [if_pos (e2.mpr hc).symm]
        simpa [hc] using hY
      · rw [if_neg (fun z => hc (e2.mp z.symm))]
        simpa [hc] using hY
  rw [List.nil_append]
  refine comp_rule (fun p => D.str (frk ds p)) (fun _ => true) (fun p => D.tup [.str (frk ds p), .int 1]) trivial _ _ (fun p hp Y N hY => ?_) (by have := pL_len (ds := ds); simp; omega) ?_
  · simp -implicitDefEqProofs [-Bool.exists_bool, -List.lookup_eq_none_iff, -u_gtup, -u_gcons, -u_gnil, -u_par, dStart, dwipe]
    simpa using hY
  rw [List.nil_append, List.filter_eq_self.mpr (fun _ _ => rfl)]
  have hndk : (((pL ds).map fun p => ((.inr (frk ds p) : Key), D.int 1)).map (·.1)).Nodup := by
    rw [List.map_map]
    refine List.pairwise_map.mpr ?_
    have hnd : (pL ds).Nodup := List.nodup_range.filter _
    exact List.Pairwise.imp_of_mem (fun {a c} ha hc hac e => hac (frk_inj hab hz ha hc (Sum.inr.inj e))) hnd
  refine ⟨_, _, (pL ds).map fun p => ((.inr (frk ds p) : Key), D.int 1), rfl, rfl, by rw [List.map_map, List.map_map]; rfl, ?_⟩
  rw [mergeKD_nodup (by simpa using hndk), List.nil_append]
  refine .inr ⟨_, _, rfl, by rw [List.getElem?_concat_length], ?_⟩
  simp -implicitDefEqProofs [-Bool.exists_bool, -List.lookup_eq_none_iff, -u_gtup, -u_gcons, -u_gnil, -u_par, dStart, dwipe]
  refine comp_rule iN (fun p => false) iN trivial _ _ (fun p hp Y N hY => ?_) (by have := pL_len (ds := ds); have := List.length_filter_le (fun p => decide (cnt ds p = 1)) (pL ds); simp; omega) ?_
  · obtain ⟨hp1, hp2⟩ := List.mem_filter.mp hp
    have hp2 : cnt ds p = 1 := of_decide_eq_true hp2
    obtain ⟨hpl, x, ex⟩ := mem_pL.mp hp1
    have hx : PyData.strOk x = true := by have := nm_all hn p; rw [ex] at this; exact this
    have hf : frk ds p = x := by unfold frk; rw [hp2, ex]; rfl
    simp -implicitDefEqProofs [-Bool.exists_bool, -List.lookup_eq_none_iff, -u_gtup, -u_gcons, -u_gnil, -u_par, dStart, dwipe, own_at hpl, ownD_put hp1, at_deeds hpl, ex, encD, hf, plainL, hx, cb_eq]
    simpa using hY
  rw [List.nil_append, List.filter_eq_nil_iff.mpr (fun _ _ => by simp)]
  simp -implicitDefEqProofs [-Bool.exists_bool, -List.lookup_eq_none_iff, -u_gtup, -u_gcons, -u_gnil, -u_par, dStart, dwipe, plainL, cb_eq]
  refine comp_rule encD hasNm (fun d => .str (nm d)) trivial _ _ (fun d hd Y N hY => ?_) (by simp; omega) ?_
  · cases d <;> simp -implicitDefEqProofs [-Bool.exists_bool, -List.lookup_eq_none_iff, -u_gtup, -u_gcons, -u_gnil, -u_par, dStart, dwipe, encD] <;> simpa [hasNm, isPut, isUse, nm] using hY
  rw [List.nil_append]
  obtain ⟨s0, hs0, hlen⟩ : ∃ s0 : SD, s0 = st ++ (r ++ [DO.dct ((pL ds).map fun p => ((.inr (frk ds p) : Key), D.int 1))]) ∧ s0.length = st.length + (r.length + 1) := ⟨_, rfl, by simp⟩
  rw [← hlen, show st ++ (r ++ [DO.dct ((pL ds).map fun p => ((.inr (frk ds p) : Key), D.int 1)), DO.dct []]) = s0 ++ [DO.dct []] by rw [hs0]; simp]
  have hP' : ∀ r, P (.bl true) (s0 ++ r) := fun r2 => by rw [hs0, List.append_assoc]; exact hP _
  have him' : s0[im]? = some (.dctR (meantE ds)) := by rw [hs0]; exact get_app him
  have hu1 : ((ds.filter hasNm).map fun d => D.str (nm d)) = usedL ds := rfl
  rw [hu1]
  have hf1 : (pL ds).filter (fun p => decide (cnt ds p = 1)) = firstsL ds := rfl
  rw [hf1]
  refine loop_list iN (fun rest env st' => ∃ done x9 x10 x11 x12, done ++ rest = pL ds ∧ st' = s0 ++ [.dct (namesL ds done)] ∧ env = [some (.ref b.j), some (.lst (ds.map encD)), some (.ref im), some (.lst ((pL ds).map iN)), some (.tup ((List.range ds.length).map (ownD ds))), some (.lst ((pL ds).map fun p => D.str (frk ds p))), some (.lst ((firstsL ds).map iN)), some (.ref s0.length), some (.lst (usedL ds)), x9, x10, x11, x12, none, none, none]) ?_ ?_ _ _ _ ⟨[], _, _, _, _, rfl, rfl, rfl⟩
  · rintro p rest env st' K ⟨done, x9, x10, x11, x12, hd, rfl, rfl⟩ hK
    obtain ⟨hdone, hpn, hpp⟩ := putL_split hd
    have hpm : p ∈ pL ds := by rw [← hd]; simp
    obtain ⟨hpl, x, ex⟩ := mem_pL.mp hpm
    have hxa : x ∈ abc := by have := abc_nm hab hpl (by rw [ex]; rfl); rw [ex] at this; exact this
    have hcb := cnt_bnd (ds := ds) (k := p)
    have hcl : cnt ds p ≤ 40 := by omega
    have hfk : frk ds p = fr x (cnt ds p) := by unfold frk; rw [ex]; rfl
    have hx : PyData.strOk x = true := (abc_ok hxa).1
    have hfirst : p ∈ firstsL ds ↔ cnt ds p = 1 := by
      unfold firstsL; rw [List.mem_filter]; simp [hpm]
    have hfm : (∃ a, a ∈ firstsL ds ∧ (a : Int) = (p : Int)) ↔ cnt ds p = 1 := by
      rw [← hfirst]
      refine ⟨fun ⟨a, h1, h2⟩ => ?_, fun h1 => ⟨p, h1, rfl⟩⟩
      have : a = p := by omega
      rw [← this]; exact h1
    have hat : ((firstsL ds).map iN).all atomD = true := by simp [atomD]
    have hNz2 : (namesL ds done).length < sizeLine := by
      have h1 := congrArg List.length hd
      have h2 := pL_len (ds := ds)
      unfold namesL
      simp at h1 ⊢
      omega
    have hnk : (.inl (p : Int) : Key) ∉ (namesL ds done).map (·.1) := by
      intro hm
      simp only [namesL, List.map_map, List.mem_map] at hm
      obtain ⟨q, hq, e⟩ := hm
      have h1 : q < p := by rw [hdone] at hq; exact (mem_putL.mp hq).1
      have : (q : Int) = p := Sum.inl.inj e
      omega
    have hnames : putKD (namesL ds done) (.inl (p : Int)) (.str (frk ds p)) = namesL ds (done ++ [p]) := by
      rw [putKD_new hnk]; simp [namesL]
    simp -implicitDefEqProofs [-Bool.exists_bool, -List.lookup_eq_none_iff, -u_gtup, -u_gcons, -u_gnil, -u_par, dStart, dwipe, at_deeds hpl, ex, encD]
    refine while_rule (fun m env st' => st' = s0 ++ [.dct (namesL ds done)] ∧ ∃ c, 1 ≤ c ∧ c ≤ cnt ds p ∧ m = cnt ds p - c ∧ env = [some (.ref b.j), some (.lst (ds.map encD)), some (.ref im), some (.lst ((pL ds).map iN)), some (.tup ((List.range ds.length).map (ownD ds))), some (.lst ((pL ds).map fun p => D.str (frk ds p))), some (.lst ((firstsL ds).map iN)), some (.ref s0.length), some (.lst (usedL ds)), some (iN p), some (.str x), some (.int ((c : Int) + 1)), some (.str (fr x c)), none, none, none]) (m := cnt ds p - 1) ⟨rfl, 1, by omega, hcb.1, rfl, rfl⟩ ?_
    rintro m env st' R ⟨rfl, c, hc1, hc2, rfl, rfl⟩ hR
    have hcb1 : cb (iN p ∈ (firstsL ds).map iN) = decide (cnt ds p = 1) := by
      rw [Bool.eq_iff_iff, cb_iff, decide_eq_true_iff, ← hfm]
      simp
    have hdct : dctD (s0 ++ [.dct (namesL ds done)]) s0.length = some (namesL ds done) := by simp [dctD]
    by_cases hcc : c = cnt ds p
    · subst hcc
      have hfin : K [some (.ref b.j), some (.lst (ds.map encD)), some (.ref im), some (.lst ((pL ds).map iN)), some (.tup ((List.range ds.length).map (ownD ds))), some (.lst ((pL ds).map fun p => D.str (frk ds p))), some (.lst ((firstsL ds).map iN)), some (.ref s0.length), some (.lst (usedL ds)), some (iN p), some (.str x), some (.int ((cnt ds p : Int) + 1)), some (.str (fr x (cnt ds p))), none, none, none] (s0 ++ [.dct (putKD (namesL ds done) (.inl (p : Int)) (.str (fr x (cnt ds p))))]) :=
        hK _ _ ⟨done ++ [p], _, _, _, _, by rw [← hd]; simp, by rw [← hfk, hnames], rfl⟩
      by_cases h1 : cnt ds p = 1
      · simp -implicitDefEqProofs [-Bool.exists_bool, -List.lookup_eq_none_iff, -u_gtup, -u_gcons, -u_gnil, -u_par, dStart, dwipe, u_inB, hat, -List.all_eq_true, -List.mem_map, hcb1, eq_true h1, hNz2]
        exact hfin
      · have c1 : cb (D.str (fr x (cnt ds p)) ∈ usedL ds) = false := cb_neg fun z => by
          obtain ⟨d, g1, g2, g3⟩ := usedL_mem.mp z
          have := (fr_inj (hab d g1 g2) hxa (c := 1) (d := cnt ds p) ⟨by omega, by omega⟩ ⟨by omega, hcl⟩ (by rw [fr_one, g3])).2
          exact h1 this.symm
        have c2 : cb (D.str (fr x (cnt ds p)) ∈ dueV ds done) = false := cb_neg fun z => by
          obtain ⟨q, hq, e⟩ := dueV_mem.mp z
          have hqp : q ∈ pL ds := by rw [← hd]; simp [hq]
          have := frk_inj hab hz hqp hpm (by rw [e, hfk])
          subst this
          rw [hdone] at hq
          have := (mem_putL.mp hq).1
          omega
        simp -implicitDefEqProofs [-Bool.exists_bool, -List.lookup_eq_none_iff, -u_gtup, -u_gcons, -u_gnil, -u_par, dStart, dwipe, u_inB, hat, usedL_atom, dueV_atom, dueV_atom2, u_invals, hdct, dueV_eq, c1, c2, -List.all_eq_true, -List.mem_map, hcb1, eq_false h1, hNz2]
        exact hfin
    · have h1 : ¬ cnt ds p = 1 := by omega
      have hlt : c < cnt ds p := by omega
      have c2 : cb (D.str (fr x c) ∈ dueV ds done) = true := cb_pos (dueV_mem.mpr (by
        have hcn : cnt ds p = cntB ds x p + 1 := by unfold cnt; rw [ex]; rfl
        obtain ⟨i, g1, g2, g3, g4⟩ := cnt_onto (ds := ds) (x := x) (j := p) hc1 (by omega)
        refine ⟨i, by rw [hdone]; exact List.mem_filter.mpr ⟨List.mem_range.mpr g1, g2⟩, ?_⟩
        unfold frk
        rw [g3, g4]))
      have hfo := fr_ok hxa (c := c + 1) ⟨by omega, by omega⟩
      have hsf : fr x (c + 1) = sfx x (c + 1) := by unfold fr; rw [if_neg (by omega)]
      have hfl := hfo.2.1
      rw [hsf] at hfl
      unfold sfx at hfl
      rw [str_len, str_len] at hfl
      have hlg : ((c : Int) + 1).natAbs.log2 < 1920 := by
        have := Nat.log2_le_self ((c : Int) + 1).natAbs
        omega
      have hcast : ((c + 1 : Nat) : Int) = (c : Int) + 1 := by omega
      rw [hcast] at hfl
      have hz1 : x.length + ("_" : Str).length ≤ sizeLine := by omega
      have hz3 : (x ++ ("_" : Str)).length + ((toString ((c : Int) + 1) : String) : Str).length ≤ sizeLine := by rw [str_len]; omega
      have hval : x ++ ("_" : Str) ++ ((toString ((c : Int) + 1) : String) : Str) = fr x (c + 1) := by rw [hsf]; unfold sfx; rw [hcast]
      have hN := hR (fun env' st'' => st'' = s0 ++ [.dct (namesL ds done)] ∧ env' = [some (.ref b.j), some (.lst (ds.map encD)), some (.ref im), some (.lst ((pL ds).map iN)), some (.tup ((List.range ds.length).map (ownD ds))), some (.lst ((pL ds).map fun p => D.str (frk ds p))), some (.lst ((firstsL ds).map iN)), some (.ref s0.length), some (.lst (usedL ds)), some (iN p), some (.str x), some (.int ((c : Int) + 1 + 1)), some (.str (fr x (c + 1))), none, none, none]) (fun env' st'' hh => ⟨cnt ds p - (c + 1), by omega, hh.1, c + 1, by omega, by omega, rfl, by rw [hh.2, hcast]⟩)
      simp -implicitDefEqProofs [-Bool.exists_bool, -List.lookup_eq_none_iff, -u_gtup, -u_gcons, -u_gnil, -u_par, dStart, dwipe, u_inB, hat, usedL_atom, dueV_atom, dueV_atom2, u_invals, hdct, dueV_eq, c2, -List.all_eq_true, -List.mem_map, hcb1, eq_false h1, u_stri, hlg, hz1]
      have hb := And.intro hN (And.intro hz3 (And.intro (rfl : s0 ++ [DO.dct (namesL ds done)] = s0 ++ [DO.dct (namesL ds done)]) (show [some (D.ref b.j), some (.lst (ds.map encD)), some (.ref im), some (.lst ((pL ds).map iN)), some (.tup ((List.range ds.length).map (ownD ds))), some (.lst ((pL ds).map fun p => D.str (frk ds p))), some (.lst ((firstsL ds).map iN)), some (.ref s0.length), some (.lst (usedL ds)), some (iN p), some (.str x), some (.int ((c : Int) + 1 + 1)), some (.str (x ++ ("_" : Str) ++ ((toString ((c : Int) + 1) : String) : Str))), none, none, none] = _ by rw [hval])))
      exact ⟨_, hb⟩
  · rintro env st' ⟨done, x9, x10, x11, x12, hd, rfl, rfl⟩
    rw [List.append_nil] at hd
    subst hd
    simp -implicitDefEqProofs [-Bool.exists_bool, -List.lookup_eq_none_iff, -u_gtup, -u_gcons, -u_gnil, -u_par, dStart, dwipe, fList, enum_range]
    have hpo : plainL 49 ((List.range ds.length).map (ownD ds)) = true := plainL_own hab hz hn
    refine comp_rule (fun k => D.tup [.int (k : Nat), encD (ddOf ds k)]) (fun _ => true) (ownD ds) trivial _ _ (fun k hk Y N hY => ?_) (by simp; omega) ?_
    · have hk := List.mem_range.mp hk
      rw [if_pos rfl] at hY
      have hdct : dctD (s0 ++ [.dct (namesL ds (pL ds))]) s0.length = some (namesL ds (pL ds)) := by simp [dctD]
      have him2 : dctD (s0 ++ [.dct (namesL ds (pL ds))]) im = some (meantE ds) := dctR_ref (get_app him')
      cases ex : ddOf ds k with
      | put x =>
        have hkm : k ∈ pL ds := mem_pL.mpr ⟨hk, x, ex⟩
        rw [ownD_put hkm] at hY
        simp -implicitDefEqProofs [-Bool.exists_bool, -List.lookup_eq_none_iff, -u_gtup, -u_gcons, -u_gnil, -u_par, dStart, dwipe, hdct, names_get hkm]
        exact hY
      | inn =>
        have hkn : k ∉ pL ds := fun z => by obtain ⟨_, y, e⟩ := mem_pL.mp z; rw [ex] at e; cases e
        have hno : getKD (meantE ds) (.inl (k : Int)) = none := mt_none fun p hq => by
          obtain ⟨_, y, g1, _⟩ := mem_mL.mp hq
          rw [ex] at g1
          cases g1
        simp -implicitDefEqProofs [-Bool.exists_bool, -List.lookup_eq_none_iff, -u_gtup, -u_gcons, -u_gnil, -u_par, dStart, dwipe, hdct, him2, names_none hkn, hno]
        unfold ownD at hY
        rw [ex] at hY
        exact hY
      | out =>
        have hkn : k ∉ pL ds := fun z => by obtain ⟨_, y, e⟩ := mem_pL.mp z; rw [ex] at e; cases e
        have hno : getKD (meantE ds) (.inl (k : Int)) = none := mt_none fun p hq => by
          obtain ⟨_, y, g1, _⟩ := mem_mL.mp hq
          rw [ex] at g1
          cases g1
        simp -implicitDefEqProofs [-Bool.exists_bool, -List.lookup_eq_none_iff, -u_gtup, -u_gcons, -u_gnil, -u_par, dStart, dwipe, hdct, him2, names_none hkn, hno]
        unfold ownD at hY
        rw [ex] at hY
        exact hY
      | use x =>
        have hkn : k ∉ pL ds := fun z => by obtain ⟨_, y, e⟩ := mem_pL.mp z; rw [ex] at e; cases e
        rcases lim_case hk ex with ⟨p, e1, e2, e3⟩ | ⟨e1, e2⟩
        · simp -implicitDefEqProofs [-Bool.exists_bool, -List.lookup_eq_none_iff, -u_gtup, -u_gcons, -u_gnil, -u_par, dStart, dwipe, hdct, him2, names_none hkn, e2, names_get e3]
          unfold ownD at hY
          rw [ex] at hY
          simp only [e1] at hY
          exact hY
        · simp -implicitDefEqProofs [-Bool.exists_bool, -List.lookup_eq_none_iff, -u_gtup, -u_gcons, -u_gnil, -u_par, dStart, dwipe, hdct, him2, names_none hkn, e2]
          unfold ownD at hY
          rw [ex] at hY
          simp only [e1] at hY
          exact hY
    · rw [List.nil_append, List.filter_eq_self.mpr (fun _ _ => rfl)]
      refine ⟨hpo, hpo, ?_⟩
      rw [cb_pos rfl]
      exact hP' _
end
end FL
/-! MR: deeds_of. -/
namespace FL
open PySem PySem.Spec PyProof.Rows L2

def wd : Dd → Str
  | .put x => "+" ++ x
  | .use x => "" ++ x
  | .inn => "{"
  | .out => "}"
theorem wd_put : ∀ x ∈ abc, PyData.strOk (("+" : Str) ++ x) = true ∧ ("+" : Str) ++ x ≠ "{" ∧ ("+" : Str) ++ x ≠ "}" ∧ ("+" : Str) ++ x ≠ "" ∧ ("+" : Str) ++ x ≠ "+" ∧ (("+" : Str) ++ x).length ≤ 2 ∧ atI (("+" : Str) ++ x).cps.toList 0 = some 43 ∧ cutS (("+" : Str) ++ x) (some 1) none = x := by decide +kernel
theorem wd_use : ∀ x ∈ abc, PyData.strOk (("" : Str) ++ x) = true ∧ ("" : Str) ++ x ≠ "{" ∧ ("" : Str) ++ x ≠ "}" ∧ ("" : Str) ++ x ≠ "" ∧ ("" : Str) ++ x ≠ "+" ∧ (("" : Str) ++ x).length ≤ 2 ∧ (∃ c ∈ [97, 98, 99], atI (("" : Str) ++ x).cps.toList 0 = some c) ∧ ("" : Str) ++ x = x := by decide +kernel
theorem u_ixs {st : SD} {z : Str} {i : Int} {P : DP} : fIxS st (.str z) (.int i) P ↔ z.length ≤ sizeLine ∧ ∃ c, atI z.cps.toList i = some c ∧ P (.str ⟨#[c]⟩) st := by
  unfold fIxS
  exact ⟨fun ⟨_, _, c, e1, e2, h⟩ => by cases e1; cases e2; exact ⟨h.1, c, h.2⟩, fun ⟨h1, c, h2⟩ => ⟨_, _, c, rfl, rfl, h1, h2⟩⟩
theorem u_split {to te : TD} {env : DV} {st : SD} {P : DP} {Ex : DX} : dSplit to te env st P Ex = to env st (fun x st1 => ∃ a, x = .str a ∧ te env st1 (fun y st2 => ∃ b, y = .str b ∧ (b.length == 0) = false ∧ a.length + 2 ≤ sizeLine ∧ P (.lst (strsD (Txt.split a b))) st2) Ex) Ex := rfl
theorem ok43 : PyData.strOk ⟨#[43]⟩ = true := by decide +kernel
theorem eq43 : ((⟨#[43]⟩ : Str) = "+") = True := by simp only [eq_iff_iff, iff_true]; decide +kernel
theorem len_bl : ((" " : Str).length == 0) = false := by decide +kernel
theorem ok9x : ∀ c ∈ [97, 98, 99], PyData.strOk ⟨#[c]⟩ = true ∧ ¬ (⟨#[c]⟩ : Str) = "+" := by decide +kernel
theorem wne1 : (("{" : Str) = "}") = False := by simp only [eq_iff_iff, iff_false]; decide +kernel
theorem wne2 : (("}" : Str) = "{") = False := by simp only [eq_iff_iff, iff_false]; decide +kernel
section
variable {C CS : Addr} {st : SD} {b : Ob} {ds : List Dd} {P : DP} {Ex : DX}
theorem F_deeds_ok {text : Str} (hs : Txt.split text " " = ds.map wd) (hab : ∀ d ∈ ds, hasNm d = true → nm d ∈ abc) (hz : ds.length ≤ 1000) (hl : text.length + 2 ≤ sizeLine) (hP : ∀ r, P (.tup (ds.map encD)) (st ++ r)) : F_deeds_of C CS [.str text] st P Ex := by
  unfold F_deeds_of t_deeds_of
  have hbig : 2000 < sizeLine := by decide
  simp -implicitDefEqProofs [-Bool.exists_bool, -List.lookup_eq_none_iff, -u_gtup, -u_gcons, -u_gnil, -u_par, dStart, dwipe, u_split, len_bl, hl]
  rw [hs]
  unfold strsD
  rw [List.map_map]
  refine ⟨by decide +kernel, ?_⟩
  refine loop_list (fun d => D.str (wd d)) (fun rest env st' => ∃ done x2, done ++ rest = ds ∧ st' = st ++ [.lst (done.map encD)] ∧ env = [some (.str text), some (.ref st.length), x2]) ?_ ?_ _ _ _ ⟨[], _, rfl, rfl, rfl⟩
  · rintro d rest env st' K ⟨done, x2, hd, rfl, rfl⟩ hK
    have hdz : done.length < sizeLine := by
      have := congrArg List.length hd
      simp at this
      omega
    have hda : hasNm d = true → nm d ∈ abc := hab d (by rw [← hd]; simp)
    have hnext : ∀ x2, K [some (.str text), some (.ref st.length), x2] (st ++ [.lst (done.map encD ++ [encD d])]) := fun x2 => hK _ _ ⟨done ++ [d], x2, by rw [← hd]; simp, by simp, rfl⟩
    cases d with
    | put x =>
      obtain ⟨h1, h2, h3, h4, h5, h6, h7, h8⟩ := wd_put x (hda rfl)
      have h6' : (("+" : Str) ++ x).length ≤ sizeLine := by omega
      have hxo := (abc_ok (hda rfl)).1
      simp -implicitDefEqProofs [-Bool.exists_bool, -List.lookup_eq_none_iff, -u_gtup, -u_gcons, -u_gnil, -u_par, dStart, dwipe, u_inB, cb_eq, wd, h1, h2, h3, h4, h5, u_ixs, h6', h7, ok43, eq43, fSl, h8, hdz]
      exact hnext _
    | use x =>
      obtain ⟨h1, h2, h3, h4, h5, h6, ⟨c, hc, h7⟩, h8⟩ := wd_use x (hda rfl)
      rw [h8] at h1 h2 h3 h4 h5 h6 h7
      have h6' : x.length ≤ sizeLine := by omega
      have hxo := (abc_ok (hda rfl)).1
      obtain ⟨o1, o2⟩ := ok9x c hc
      simp -implicitDefEqProofs [-Bool.exists_bool, -List.lookup_eq_none_iff, -u_gtup, -u_gcons, -u_gnil, -u_par, dStart, dwipe, u_inB, cb_eq, wd, h8, h1, h2, h3, h4, h5, u_ixs, h6', h7, o1, o2, hdz]
      exact hnext _
    | inn =>
      simp -implicitDefEqProofs [-Bool.exists_bool, -List.lookup_eq_none_iff, -u_gtup, -u_gcons, -u_gnil, -u_par, dStart, dwipe, u_inB, cb_eq, wd, hdz]
      exact hnext _
    | out =>
      simp -implicitDefEqProofs [-Bool.exists_bool, -List.lookup_eq_none_iff, -u_gtup, -u_gcons, -u_gnil, -u_par, dStart, dwipe, u_inB, cb_eq, wd, hdz, wne2]
      exact hnext _
  · rintro env st' ⟨done, x2, hd, rfl, rfl⟩
    rw [List.append_nil] at hd
    subst hd
    simp -implicitDefEqProofs [-Bool.exists_bool, -List.lookup_eq_none_iff, -u_gtup, -u_gcons, -u_gnil, -u_par, dStart, dwipe, fTuple, seqD]
    exact hP _
/-- a text without a name -/
theorem F_deeds_err1 (hP : ∀ r, Ex CS (st ++ r)) : F_deeds_of C CS [.str "+"] st P Ex := by
  unfold F_deeds_of t_deeds_of
  have h1 : Txt.split ("+" : Str) " " = [("+" : Str)] := by decide +kernel
  have h2 : ("+" : Str).length + 2 ≤ sizeLine := by decide +kernel
  have h3 : (("+" : Str) = "{") = False := by simp only [eq_iff_iff, iff_false]; decide +kernel
  have h4 : (("+" : Str) = "}") = False := by simp only [eq_iff_iff, iff_false]; decide +kernel
  simp -implicitDefEqProofs [-Bool.exists_bool, -List.lookup_eq_none_iff, -u_gtup, -u_gcons, -u_gnil, -u_par, dStart, dwipe, u_split, h1, h2, strsD, dLoop, u_inB, cb_eq, h3, h4]
  exact ⟨by decide +kernel, hP _⟩
theorem F_deeds_err2 (hP : ∀ r, Ex CS (st ++ r)) : F_deeds_of C CS [.str "a  b"] st P Ex := by
  unfold F_deeds_of t_deeds_of
  have h1 : Txt.split ("a  b" : Str) " " = [("a" : Str), "", "b"] := by decide +kernel
  have h2 : ("a  b" : Str).length + 2 ≤ sizeLine := by decide +kernel
  have h3 : (("a" : Str) = "{") = False := by simp only [eq_iff_iff, iff_false]; decide +kernel
  have h4 : (("a" : Str) = "}") = False := by simp only [eq_iff_iff, iff_false]; decide +kernel
  have h5 : (("a" : Str) = "+") = False := by simp only [eq_iff_iff, iff_false]; decide +kernel
  have h6 : (("a" : Str) = "") = False := by simp only [eq_iff_iff, iff_false]; decide +kernel
  have h7 : (("" : Str) = "{") = False := by simp only [eq_iff_iff, iff_false]; decide +kernel
  have h8 : (("" : Str) = "}") = False := by simp only [eq_iff_iff, iff_false]; decide +kernel
  have h9 : atI ("a" : Str).cps.toList 0 = some 97 := by decide +kernel
  have h10 : PyData.strOk ⟨#[97]⟩ = true ∧ ¬ (⟨#[97]⟩ : Str) = "+" := ok9x 97 (by simp)
  have h11 : ("a" : Str).length ≤ sizeLine := by decide +kernel
  simp -implicitDefEqProofs [-Bool.exists_bool, -List.lookup_eq_none_iff, -u_gtup, -u_gcons, -u_gnil, -u_par, dStart, dwipe, u_split, h2]
  rw [h1]
  unfold strsD
  refine ⟨by decide +kernel, ?_⟩
  refine loop_list D.str (fun rest env st' => (rest = [("a" : Str), "", "b"] ∧ st' = st ++ [.lst []] ∧ ∃ x2, env = [some (.str "a  b"), some (.ref st.length), x2]) ∨ (rest = [("" : Str), "b"] ∧ ∃ z x2, st' = st ++ [.lst z] ∧ env = [some (.str "a  b"), some (.ref st.length), x2])) ?_ ?_ _ _ _ (.inl ⟨rfl, rfl, _, rfl⟩)
  · rintro w rest env st' K (⟨e, rfl, x2, rfl⟩ | ⟨e, z, x2, rfl, rfl⟩) hK
    · cases e
      have hz0 : 0 < sizeLine := by decide
      simp -implicitDefEqProofs [-Bool.exists_bool, -List.lookup_eq_none_iff, -u_gtup, -u_gcons, -u_gnil, -u_par, dStart, dwipe, u_inB, cb_eq, h3, h4, h5, h6, u_ixs, h9, h10, h11, hz0]
      exact hK _ _ (.inr ⟨rfl, _, _, rfl, rfl⟩)
    · cases e
      simp -implicitDefEqProofs [-Bool.exists_bool, -List.lookup_eq_none_iff, -u_gtup, -u_gcons, -u_gnil, -u_par, dStart, dwipe, u_inB, cb_eq, h7, h8]
      exact hP _
  · rintro env st' (⟨e, _⟩ | ⟨e, _⟩) <;> cases e
end
end FL
/-! MS: rules for _law_told_on. -/
namespace FL
open PySem PySem.Spec PyProof.Rows L2

section
variable {G : SD → Prop} {g : TDG} {tt : TDB} {te : TD} {env0 : DV} {fin : List FL.D → SD → Prop}
theorem comp_ext {α : Type} (enc : α → D) (c : α → Bool) (e : α → D) {st : SD} (hG : ∀ r, G (st ++ r)) : ∀ (l : List α) (ys : List D) (r : SD),
    (∀ a ∈ l, ∀ r (Y : D → SD → Prop) (N : SD → Prop), (if c a = true then ∀ r', Y (e a) (st ++ r') else ∀ r', N (st ++ r')) → g (enc a) env0 (st ++ r) fun env1 st1 => tt env1 st1 (fun b st2 => if b = true then te env1 st2 Y noX else N st2) noX) →
    ys.length + l.length ≤ sizeLine → (∀ r', fin (ys ++ (l.filter c).map e) (st ++ r')) → dComp G g tt te env0 fin (l.map enc) ys (st ++ r)
  | [], ys, r, _, _, hf => ⟨hG _, by simpa using hf r⟩
  | a :: l, ys, r, h, hz, hf => ⟨hG _, h a (by simp) r (fun y st3 => ys.length < sizeLine ∧ dComp G g tt te env0 fin (l.map enc) (ys ++ [y]) st3) (fun st2 => dComp G g tt te env0 fin (l.map enc) ys st2) (by
      have hz' : ys.length + l.length + 1 ≤ sizeLine := by simpa [Nat.add_assoc] using hz
      by_cases hc : c a = true
      · rw [if_pos hc]
        refine fun r' => ⟨by omega, comp_ext enc c e hG l (ys ++ [e a]) r' (fun b hb => h b (by simp [hb])) (by simp; omega) fun r'' => ?_⟩
        have := hf r''
        rw [List.filter_cons_of_pos hc] at this
        simpa using this
      · rw [if_neg hc]
        refine fun r' => comp_ext enc c e hG l ys r' (fun b hb => h b (by simp [hb])) (by omega) fun r'' => ?_
        have := hf r''
        rw [List.filter_cons_of_neg hc] at this
        exact this)⟩
end
/-- the store while the law asks -/
structure LawSt (C : Addr) (st : SD) (b : Ob) (ds : List Dd) (im iu i0 : Nat) : Prop where
  h : ScAt C st b ds
  m : st[im]? = some (.dctR (meantE ds))
  u : st[iu]? = some (.dctR ((uL ds).map fun k => (.inl ((k : Nat) : Int), optD (meantAt (ddOf ds) ds.length k (nm (ddOf ds k))))))
  d : ∃ a c f, st[i0]? = some (dc3 a c f)
  nl : i0 ≠ b.l
  ns : i0 ≠ b.s
def usesE (ds : List Dd) : List (Key × D) := (uL ds).map fun k => (.inl ((k : Nat) : Int), optD (meantAt (ddOf ds) ds.length k (nm (ddOf ds k))))
section
variable {C CS : Addr} {st : SD} {b : Ob} {ds : List Dd} {im iu i0 : Nat} {P : DP} {Ex : DX}
theorem LawSt.app (H : LawSt C st b ds im iu i0) (r : SD) : LawSt C (st ++ r) b ds im iu i0 :=
  let ⟨a, c, f, e⟩ := H.d
  ⟨H.h.app r, get_app H.m, get_app H.u, ⟨a, c, f, get_app e⟩, H.nl, H.ns⟩
theorem LawSt.ne (H : LawSt C st b ds im iu i0) {i : Nat} {o : DO} (e : st[i]? = some o) (h : ∀ l, o ≠ .lst l) : i0 ≠ i := fun z => by
  obtain ⟨a, c, f, e2⟩ := H.d
  rw [z, e] at e2
  exact h _ (Option.some.inj e2)
theorem LawSt.roll (H : LawSt C st b ds im iu i0) (a c f : Int) : LawSt C (st.set i0 (dc3 a c f)) b ds im iu i0 := by
  obtain ⟨a0, c0, f0, e⟩ := H.d
  have h := H.h
  exact ⟨⟨get_set h.ins (H.ne h.ins (by intro l z; cases z)), get_set h.m (H.ne h.m (by intro l z; cases z)), get_set h.l H.nl, get_set h.o (H.ne h.o (by intro l z; cases z)), get_set h.s H.ns, h.v, h.z, h.nk⟩,
    get_set H.m (H.ne H.m (by intro l z; cases z)), get_set H.u (H.ne H.u (by intro l z; cases z)), ⟨a, c, f, dc3_set e⟩, H.nl, H.ns⟩
theorem F_roll_ls (H : LawSt C st b ds im iu i0) {m : Int} (hm : 0 < m ∧ m ≤ 1000) (hP : ∀ r st', 0 ≤ r → r < m → LawSt C st' b ds im iu i0 → P (.int r) st') : F_law_roll C CS [.ref i0, .int m] st P Ex := by
  obtain ⟨a, c, f, e⟩ := H.d
  exact F_roll_ok e hm fun r a' c' f' h0 h1 => hP r _ h0 h1 (H.roll a' c' f')
/-! ### places in chains -/
theorem idxOf_rev {l : List Nat} (hnd : l.Nodup) {c : Nat} (hc : c ∈ l) : l.reverse.idxOf c = l.length - 1 - l.idxOf c := by
  have hi : l.idxOf c < l.length := List.idxOf_lt_length_iff.mpr hc
  have h1 : l.reverse[l.length - 1 - l.idxOf c]? = some c := by
    rw [List.getElem?_reverse (by omega), show l.length - 1 - (l.length - 1 - l.idxOf c) = l.idxOf c by omega, List.getElem?_eq_getElem hi, List.getElem_idxOf]
  have hnr : l.reverse.Nodup := (List.reverse_perm l).nodup_iff.mpr hnd
  have hcr : c ∈ l.reverse := by simp [hc]
  have hir : l.reverse.idxOf c < l.reverse.length := List.idxOf_lt_length_iff.mpr hcr
  have h2 : l.reverse[l.reverse.idxOf c]? = some c := by rw [List.getElem?_eq_getElem hir, List.getElem_idxOf]
  have hlr : l.reverse.length = l.length := List.length_reverse
  have e1 : l.reverse[l.length - 1 - l.idxOf c]'(by omega) = c := by
    have := h1
    rw [List.getElem?_eq_getElem (by omega)] at this
    exact Option.some.inj this
  have e2 : l.reverse[l.reverse.idxOf c]'hir = c := List.getElem_idxOf hir
  exact (List.getElem_inj hnr).mp (e2.trans e1.symm)
theorem idxOf_map {f : Nat → Int} {l : List Nat} {c : Nat} (hf : ∀ a ∈ l, f a = f c ↔ a = c) : (l.map f).idxOf (f c) = l.idxOf c := by
  induction l with
  | nil => rfl
  | cons a l ih =>
    rw [List.map_cons, List.idxOf_cons, List.idxOf_cons, ih fun b hb => hf b (by simp [hb])]
    have := hf a (by simp)
    by_cases e : a = c
    · subst e; simp
    · have e2 : ¬ f a = f c := fun z => e (this.mp z)
      have h1 : (a == c) = false := by simpa using e
      have h2 : (f a == f c) = false := by simpa using e2
      rw [h1, h2]
theorem chain_idx {k c : Nat} (hk : k < ds.length) (hc : c ∈ A (ddOf ds) ds.length (cur (ddOf ds) k)) : ∃ ns : List Int, chainD ds k = .tpk (ns.map D.int) ∧ J (ddOf ds) ds.length c ∈ ns ∧ ns.length = (A (ddOf ds) ds.length (cur (ddOf ds) k)).length ∧
    (ns.length : Int) - 1 - (ns.idxOf (J (ddOf ds) ds.length c) : Nat) = ((A (ddOf ds) ds.length (cur (ddOf ds) k)).idxOf c : Nat) := by
  have hcu := cur_lt' (dd := ddOf ds) (n := ds.length) (Nat.le_of_lt hk)
  have hlt : ∀ a ∈ A (ddOf ds) ds.length (cur (ddOf ds) k), a < nsc (ddOf ds) ds.length := fun a ha => by have := A_mem hcu ha; omega
  refine ⟨(cOf ds k).map fun s => J (ddOf ds) ds.length s, by unfold chainD; rw [List.map_map]; rfl, List.mem_map.mpr ⟨c, List.mem_reverse.mpr hc, rfl⟩, by simp [cOf], ?_⟩
  unfold cOf
  rw [idxOf_map (f := fun s => J (ddOf ds) ds.length s) (l := (A (ddOf ds) ds.length (cur (ddOf ds) k)).reverse) (c := c) fun a ha => J_inj (hlt a (List.mem_reverse.mp ha)) (hlt c hc)]
  rw [idxOf_rev (A_nodup hcu) hc]
  have hi : (A (ddOf ds) ds.length (cur (ddOf ds) k)).idxOf c < (A (ddOf ds) ds.length (cur (ddOf ds) k)).length := List.idxOf_lt_length_iff.mpr hc
  simp
  omega
theorem u_indexT {to te : TD} {env : DV} : dIndexT to te env st P Ex = to env st (fun x st1 => ∃ l, x = .tpk l ∧ te env st1 (fun d st2 => ∃ (ns : List Int) (k : Int), l = ns.map FL.D.int ∧ d = .int k ∧ k ∈ ns ∧ P (.int (ns.idxOf k : Nat)) st2) Ex) Ex := rfl
end
end FL
/-! MT: _law_told_on. -/
namespace FL
open PySem PySem.Spec PyProof.Rows L2

def orderL (ds : List Dd) : List D := (List.range (nsc (ddOf ds) ds.length)).map fun s => .int (J (ddOf ds) ds.length s)
section
variable {C CS : Addr} {st : SD} {b : Ob} {ds : List Dd} {im iu i0 : Nat} {P : DP} {Ex : DX}
theorem LawSt.dm (H : LawSt C st b ds im iu i0) : dctD st im = some (meantE ds) := dctR_ref H.m
theorem LawSt.du (H : LawSt C st b ds im iu i0) : dctD st iu = some (usesE ds) := dctR_ref H.u
theorem plain_step (hz : ds.length ≤ 1000) (hn : ∀ d ∈ ds, NmD d) : plainL 49 ((List.range ds.length).map (stepD ds)) = true := by
  refine plainL_all fun d hd => ?_
  obtain ⟨k, hk, rfl⟩ := List.mem_map.mp hd
  have hk := List.mem_range.mp hk
  rcases step_case (ds := ds) hk with ⟨_, e⟩ | ⟨x, p, _, _, _, _, e⟩
  · rw [e]; exact plain_enc2 (nm_all hn k)
  · rw [e]; simp [plainD, plainL]
theorem abcz_at {r : Int} (h0 : 0 ≤ r) (h3 : r < 4) : ∃ x, PyData.strOk x = true ∧ x ≠ "" ∧ atI [D.str "a", .str "b", .str "c", .str "z"] r = some (.str x) := by
  have : r = 0 ∨ r = 1 ∨ r = 2 ∨ r = 3 := by omega
  rcases this with e | e | e | e <;> subst e
  · exact ⟨"a", by decide +kernel, by decide +kernel, rfl⟩
  · exact ⟨"b", by decide +kernel, by decide +kernel, rfl⟩
  · exact ⟨"c", by decide +kernel, by decide +kernel, rfl⟩
  · exact ⟨"z", by decide +kernel, by decide +kernel, rfl⟩
theorem abc_nd : abc.Nodup := by decide +kernel
theorem abc_sort : sortedS abc = true := by decide +kernel
theorem abc_64 : abc.length < 64 := by decide
theorem chain_mem {s k : Nat} (hs : s < nsc (ddOf ds) ds.length) (hk : k < ds.length) : ∃ l, chainD ds k = .tpk l ∧ l.all atomD = true ∧ (D.int (J (ddOf ds) ds.length s) ∈ l ↔ s ∈ A (ddOf ds) ds.length (cur (ddOf ds) k)) := by
  have hcu := cur_lt' (dd := ddOf ds) (n := ds.length) (Nat.le_of_lt hk)
  refine ⟨_, rfl, by simp, ?_⟩
  rw [List.mem_map]
  constructor
  · rintro ⟨t, ht, e⟩
    have ht := List.mem_reverse.mp ht
    have := (J_inj (by have := A_mem hcu ht; omega) hs).mp (D.int.inj e)
    rw [← this]; exact ht
  · intro h
    exact ⟨s, List.mem_reverse.mpr h, rfl⟩
theorem index_gen {i : Nat} {te : TD} {env : DV} {L : List Nat} {p : Nat} (h1 : env[i]? = some (some (.lst (L.map iN)))) (hp : p ∈ L) (hte : ∀ P' : DP, P' (iN p) st → te env st P' Ex) (hP : P (.int (L.idxOf p : Nat)) st) : dIndex (dVar i) te env st P Ex :=
  ⟨_, h1, ⟨_, rfl⟩, hte _ ⟨_, _, rfl, rfl, by simp [atomD], (index_rule hp).1, (index_rule hp).2, hP⟩⟩
theorem enum_map {f : Nat → D} {n : Nat} : enumD ((List.range n).map f) = (List.range n).map fun k => .tup [.int (k : Nat), f k] := by
  unfold enumD
  rw [List.length_map, List.length_range, List.zipWith_map_right]
  apply List.ext_getElem?
  intro i
  simp only [List.getElem?_zipWith, List.getElem?_map]
  by_cases h : i < n
  · rw [List.getElem?_range h]; rfl
  · rw [List.getElem?_eq_none (by simp; omega)]; rfl
abbrev tenv (b : Ob) (ds : List Dd) (im iu i0 : Nat) (x : List (Option D)) : DV := some (.ref i0) :: some (.ref b.j) :: some (.lst (ds.map encD)) :: some (.lst (chainsL ds)) :: some (.ref im) :: some (.lst ((pL ds).map iN)) :: some (.lst (orderL ds)) :: some (.ref iu) :: x
def tB (C CS : Addr) : TDS := (dSeq (dLockS fun l2 => (dAsg (dLc (diItems l2 (dVar 4)) (dgTup 2 (dgCons (dgName 9) (dgCons (dgName 15) dgNil))) (dAndT (dCmpT (fInB false) (dVar 11) (dOp fIx (dVar 3) (dVar 9))) (dCmpT (fInB true) (dVar 11) (dOp fIx (dVar 3) (dVar 15)))) (dVar 9) [9, 15]) (dgName 14)))
    (dIfS (dCmpT fNe (dCall fList (dCons (dMeth C "taken_in" (F_taken_in C CS) (dVar 1) (dCons (dVar 13) dNil)) dNil)) (dCall fSortD (dCons (dPub (dCall fDict (dCons (dLc (diVal (dVar 14)) (dgName 9) dYes (dTupS (dCons (dOp fIx (dOp fIx (dVar 2) (dVar 9)) (dC (.int 1))) (dCons (dC (.int 1)) dNil))) [9]) dNil))) dNil))) (dRet (dC (.bl false)))
    dNext))
def tC (C CS : Addr) : TDS := (dSeq (dAsg (dOp fIx (dLstS (dCons (dC (.str "a")) (dCons (dC (.str "b")) (dCons (dC (.str "c")) (dCons (dC (.str "z")) dNil))))) (dFn (F_law_roll C CS) (dCons (dVar 0) (dCons (dC (.int 4)) dNil)))) (dgName 16))
    (dSeq (dAsg (dLc (diEnum (dVar 2)) (dgTup 2 (dgCons (dgName 9) (dgCons (dgName 10) dgNil))) dYes (dIf (dOrT (dCmpT fEq (dVar 9) (dVar 15)) (dCmpT fEq (dGet1 (dVar 4) (dVar 9)) (dVar 15))) (dTupS (dCons (dOp fIx (dVar 10) (dC (.int 0))) (dCons (dVar 16) dNil))) (dVar 10)) [9, 10]) (dgName 17))
    (dSeq (dAsg (dFn (F_law_chains C CS) (dCons (dVar 17) dNil)) (dgName 18))
    (dSeq (dAsg (dAndV (dOp fNotN (dVar 18) (dC .non)) (dOp fEq (dLock fun l1 => (dLc (diKeys l1 (dVar 7)) (dgName 9) (dCmpT fNe (dFn (F_law_meant C CS) (dCons (dVar 17) (dCons (dVar 18) (dCons (dVar 9) (dCons (dOp fIx (dOp fIx (dVar 17) (dVar 9)) (dC (.int 1))) dNil))))) (dOp fDGet (dVar 7) (dVar 9))) (dVar 9) [9])) (dLstS dNil))) (dgName 19))
    (dIfS (dCmpT fNe (dMeth C "may_be_renamed" (F_may_be_renamed C CS) (dVar 1) (dCons (dVar 15) (dCons (dVar 16) dNil))) (dVar 19)) (dRet (dC (.bl false)))
    dNext)))))
theorem mL_nm {q : Nat × Nat} (h : q ∈ mL ds) : nm (ddOf ds q.2) = nm (ddOf ds q.1) := by
  obtain ⟨_, x, h1, h2⟩ := mem_mL.mp h
  obtain ⟨_, h3, _⟩ := meant_some h2
  rw [h1, h3]; rfl
theorem loop_B {D0 : DEnds} (H : LawSt C st b ds im iu i0) (hab : ∀ d ∈ ds, hasNm d = true → nm d ∈ abc) (hz : ds.length ≤ 39) (hn : ∀ d ∈ ds, NmD d) {x8 x9 x10 x11 x12 x13 x14 x15 x16 x17 x18 x19 x20 : Option D}
    (hK : ∀ x9 x11 x13 x14 x15 st', LawSt C st' b ds im iu i0 → D0.nx (tenv b ds im iu i0 [x8, x9, x10, x11, x12, x13, x14, x15, x16, x17, x18, x19, x20]) st') :
    dLoop (fun _ => True) (dgTup 2 (dgCons (dgName 13) (dgCons (dgName 11) dgNil))) (tB C CS) D0 Ex (enumD (orderL ds)) (tenv b ds im iu i0 [x8, x9, x10, x11, x12, x13, x14, x15, x16, x17, x18, x19, x20]) st := by
  unfold orderL
  rw [enum_map]
  have hbig : 100000 < sizeLine := by decide
  refine loop_range (fun s => D.tup [.int (s : Nat), .int (J (ddOf ds) ds.length s)]) (fun s env st' => LawSt C st' b ds im iu i0 ∧ ∃ x9 x11 x13 x14 x15, env = tenv b ds im iu i0 [x8, x9, x10, x11, x12, x13, x14, x15, x16, x17, x18, x19, x20]) ?_ ?_ ⟨H, _, _, _, _, _, rfl⟩
  · rintro s env st' K hs ⟨H, x9, x11, x13, x14, x15, rfl⟩ hK2
    unfold tB
    simp -implicitDefEqProofs [-Bool.exists_bool, -List.lookup_eq_none_iff, -u_gtup, -u_gcons, -u_gnil, -u_par, dStart, dwipe]
    refine ⟨_, _, H.m, rfl, _, H.m, ?_⟩
    rw [mt_items]
    refine comp_rule (fun q : Nat × Nat => D.tup [iN q.1, iN q.2]) (fun q => decide (tkn ds s q)) (fun q => iN q.1) trivial _ _ (fun q hq Y N hY => ?_) (by have := mL_len (ds := ds); simp; omega) ?_
    · obtain ⟨hq2, hq1, _⟩ := mL_put hq
      obtain ⟨hq2l, _⟩ := mem_pL.mp hq2
      obtain ⟨l1, a1, a2, a3⟩ := chain_mem (ds := ds) hs hq1
      obtain ⟨l2, b1, b2, b3⟩ := chain_mem (ds := ds) hs hq2l
      simp -implicitDefEqProofs [-Bool.exists_bool, -List.lookup_eq_none_iff, -u_gtup, -u_gcons, -u_gnil, -u_par, dStart, dwipe, chains_at hq1, chains_at hq2l, a1, b1, u_inB, -List.all_eq_true, a2, b2]
      by_cases h1 : s ∈ A (ddOf ds) ds.length (cur (ddOf ds) q.1)
      · rw [if_pos (cb_pos (a3.mpr h1))]
        by_cases h2 : s ∈ A (ddOf ds) ds.length (cur (ddOf ds) q.2)
        · rw [cb_pos (b3.mpr h2)]
          have : ¬ tkn ds s q := fun z => z.2 h2
          simpa [this] using hY
        · rw [cb_neg (fun z => h2 (b3.mp z))]
          have : tkn ds s q := ⟨h1, h2⟩
          simpa [this] using hY
      · rw [if_neg (by rw [cb_neg (fun z => h1 (a3.mp z))]; decide)]
        have : ¬ tkn ds s q := fun z => h1 z.1
        simpa [this] using hY
    rw [List.nil_append]
    refine ⟨H.m, ?_⟩
    simp -implicitDefEqProofs [-Bool.exists_bool, -List.lookup_eq_none_iff, -u_gtup, -u_gcons, -u_gnil, -u_par, dStart, dwipe, H.h.ins]
    refine F_taken_in_ok (nms := abc) H.h hs (fun q hq => ?_) abc_nd abc_sort abc_64 fun r => ?_
    · obtain ⟨hql, y, ey⟩ := mem_pL.mp hq
      exact abc_nm hab hql (by rw [ey]; rfl)
    have H1 := H.app r
    simp -implicitDefEqProofs [-Bool.exists_bool, -List.lookup_eq_none_iff, -u_gtup, -u_gcons, -u_gnil, -u_par, dStart, dwipe, fList, seqD]
    have hcomp : (((mL ds).filter fun q => decide (tkn ds s q)).map fun q => iN q.1) = ((mL ds).filter fun q => decide (tkn ds s q)).map fun q => iN q.1 := rfl
    refine comp_rule (fun q : Nat × Nat => iN q.1) (fun _ => true) (fun q => D.tup [.str (nm (ddOf ds q.1)), .int 1]) trivial _ _ (fun q hq Y N hY => ?_) (by have := mL_len (ds := ds); have := List.length_filter_le (fun q => decide (tkn ds s q)) (mL ds); simp; omega) ?_
    · obtain ⟨hq0, _⟩ := List.mem_filter.mp hq
      obtain ⟨hql, y, ey, _⟩ := mem_mL.mp hq0
      simp -implicitDefEqProofs [-Bool.exists_bool, -List.lookup_eq_none_iff, -u_gtup, -u_gcons, -u_gnil, -u_par, dStart, dwipe, at_deeds hql, ey, encD]
      rw [ey] at hY
      simpa [nm] using hY
    rw [List.nil_append, List.filter_eq_self.mpr (fun _ _ => rfl)]
    refine ⟨_, _, ((mL ds).filter fun q => decide (tkn ds s q)).map fun q => ((.inr (nm (ddOf ds q.1)) : Key), D.int 1), rfl, rfl, by rw [List.map_map, List.map_map]; rfl, _, .refl _, ?_⟩
    have hkey := (KeyI.merge (fun q : Nat × Nat => nm (ddOf ds q.1)) (fun _ => D.int 1) (xs := (mL ds).filter fun q => decide (tkn ds s q)) (F := []) (S := fun _ => False) ⟨by simp, by simp, by simp⟩).of (S' := takenS ds s (mL ds)) fun x => ?_
    · refine sort_rule (nms := abc) hkey (fun x hx => ?_) abc_nd abc_sort abc_64 (by simp [dctD]) ?_
      · obtain ⟨q, hq, _, e⟩ := hx
        obtain ⟨hql, y, ey⟩ := mem_pL.mp (mL_put hq).1
        rw [← e]
        exact abc_nm hab hql (by rw [ey]; rfl)
      · have hpl : plainL 49 (strsD (abc.filter fun x => decide (takenS ds s (mL ds) x))) = true := plainL_all fun d hd => by
          obtain ⟨x, hx, rfl⟩ := List.mem_map.mp hd
          rw [plD_str]
          exact (abc_ok (List.mem_filter.mp hx).1).1
        show fEqB true _ _ _ _
        rw [u_eqLL]
        refine ⟨hpl, hpl, ?_⟩
        rw [cb_pos rfl]
        refine ⟨false, rfl, ?_⟩
        rw [if_neg (by decide)]
        exact hK2 _ _ ⟨H1.app _, _, _, _, _, _, rfl⟩
    · simp only [false_or]
      unfold takenS
      constructor
      · rintro ⟨q, hq, e⟩
        obtain ⟨hq0, hq1⟩ := List.mem_filter.mp hq
        refine ⟨q, hq0, of_decide_eq_true hq1, ?_⟩
        rw [← e, mL_nm hq0]
      · rintro ⟨q, hq, ht, e⟩
        exact ⟨q, List.mem_filter.mpr ⟨hq, decide_eq_true ht⟩, by rw [← mL_nm hq, e]⟩
  · rintro env st' ⟨H, x9, x11, x13, x14, x15, rfl⟩
    exact ⟨trivial, hK _ _ _ _ _ _ H⟩
theorem uses_get {k : Nat} (h : k ∈ uL ds) : getKD (usesE ds) (.inl (k : Int)) = some (optD (meantAt (ddOf ds) ds.length k (nm (ddOf ds k)))) :=
  find_map (fun k : Nat => ((.inl (k : Int), optD (meantAt (ddOf ds) ds.length k (nm (ddOf ds k)))) : Key × D)) _ _ k h rfl fun q _ e => by
    have : q = k := by have := Sum.inl.inj e; omega
    rw [this]
theorem loop_C {D0 : DEnds} (H : LawSt C st b ds im iu i0) (hab : ∀ d ∈ ds, hasNm d = true → nm d ∈ abc) (hz : ds.length ≤ 39) (hn : ∀ d ∈ ds, NmD d) {x8 x9 x10 x11 x12 x13 x14 x15 x16 x17 x18 x19 x20 : Option D}
    (hK : ∀ x9 x10 x15 x16 x17 x18 x19 st', LawSt C st' b ds im iu i0 → D0.nx (tenv b ds im iu i0 [x8, x9, x10, x11, x12, x13, x14, x15, x16, x17, x18, x19, x20]) st') :
    dLoop (fun _ => True) (dgName 15) (tC C CS) D0 Ex ((pL ds).map iN) (tenv b ds im iu i0 [x8, x9, x10, x11, x12, x13, x14, x15, x16, x17, x18, x19, x20]) st := by
  have hbig : 100000 < sizeLine := by decide
  refine loop_list iN (fun rest env st' => (∀ p ∈ rest, p ∈ pL ds) ∧ LawSt C st' b ds im iu i0 ∧ ∃ x9 x10 x15 x16 x17 x18 x19, env = tenv b ds im iu i0 [x8, x9, x10, x11, x12, x13, x14, x15, x16, x17, x18, x19, x20]) ?_ ?_ _ _ _ ⟨fun p hp => hp, H, _, _, _, _, _, _, _, rfl⟩
  · rintro p rest env st' K ⟨hsub, H, x9, x10, x15, x16, x17, x18, x19, rfl⟩ hK2
    have hp := hsub p (by simp)
    unfold tC
    simp -implicitDefEqProofs [-Bool.exists_bool, -List.lookup_eq_none_iff, -u_gtup, -u_gcons, -u_gnil, -u_par, dStart, dwipe]
    refine F_roll_ls H (by decide) fun v st2 v0 v1 H2 => ?_
    obtain ⟨x, hxo, hx0, ex⟩ := abcz_at v0 v1
    simp -implicitDefEqProofs [-Bool.exists_bool, -List.lookup_eq_none_iff, -u_gtup, -u_gcons, -u_gnil, -u_par, dStart, dwipe, ex, enum_range]
    refine comp_rule (fun k => D.tup [.int (k : Nat), encD (ddOf ds k)]) (fun _ => true) (fun k => encD (if k = p ∨ (k, p) ∈ mL ds then ren x (ddOf ds k) else ddOf ds k)) trivial _ _ (fun k hk Y N hY => ?_) (by simp; omega) ?_
    · have hk := List.mem_range.mp hk
      rw [if_pos rfl] at hY
      simp -implicitDefEqProofs [-Bool.exists_bool, -List.lookup_eq_none_iff, -u_gtup, -u_gcons, -u_gnil, -u_par, dStart, dwipe, H2.dm]
      have hren : ∀ z, (ddOf ds k = .put z ∨ ddOf ds k = .use z) → ∃ l, seqD st2 (encD (ddOf ds k)) = some l ∧ ∃ x_1, atI l 0 = some x_1 ∧ (D.tup [x_1, .str x]) = encD (ren x (ddOf ds k)) := fun z ez => by
        rcases ez with ez | ez <;> rw [ez] <;> exact ⟨_, rfl, _, at_0, rfl⟩
      by_cases hkp : k = p
      · subst hkp
        obtain ⟨_, z, ez⟩ := mem_pL.mp hp
        obtain ⟨l, l1, x1, l2, l3⟩ := hren z (.inl ez)
        rw [if_pos (.inl rfl)] at hY
        rw [if_pos rfl]
        exact ⟨l, l1, x1, l2, by rw [l3]; exact hY⟩
      · rw [if_neg (by omega)]
        rcases step_case (ds := ds) hk with ⟨hno, _⟩ | ⟨y, p', ey, e1, e2, e3, _⟩
        · have hnm : (k, p) ∉ mL ds := fun z => by have := mt_get z; rw [hno] at this; cases this
          rw [if_neg (fun z => z.elim hkp hnm)] at hY
          simp -implicitDefEqProofs [-Bool.exists_bool, -List.lookup_eq_none_iff, -u_gtup, -u_gcons, -u_gnil, -u_par, dStart, dwipe, hno]
          exact hY
        · have hm : (k, p') ∈ mL ds := mem_mL.mpr ⟨hk, y, ey, e1⟩
          simp -implicitDefEqProofs [-Bool.exists_bool, -List.lookup_eq_none_iff, -u_gtup, -u_gcons, -u_gnil, -u_par, dStart, dwipe, e2]
          by_cases hpp : p' = p
          · subst hpp
            obtain ⟨l, l1, x1, l2, l3⟩ := hren y (.inr ey)
            rw [if_pos (.inr hm)] at hY
            rw [if_pos rfl]
            exact ⟨l, l1, x1, l2, by rw [l3]; exact hY⟩
          · have hnm : (k, p) ∉ mL ds := fun z => hpp (by have := mL_fst hm z rfl; exact (Prod.mk.inj this).2)
            rw [if_neg (fun z => z.elim hkp hnm)] at hY
            rw [if_neg (by omega)]
            exact hY
    · have hrows : ([] ++ ((List.range ds.length).filter fun _ => true).map fun k => encD (if k = p ∨ (k, p) ∈ mL ds then ren x (ddOf ds k) else ddOf ds k)) = (renL ds p x).map encD := by
        rw [List.nil_append, List.filter_eq_self.mpr (fun _ _ => rfl)]
        unfold renL
        rw [List.map_map]; rfl
      rw [hrows]
      have hrl := renL_len (ds := ds) (p := p) (x := x)
      have hrn := renL_nm (p := p) hn hxo hx0
      have hgo : ∀ x9 x10 x15 x16 x17 x18 x19 st', LawSt C st' b ds im iu i0 → K (tenv b ds im iu i0 [x8, x9, x10, x11, x12, x13, x14, x15, x16, x17, x18, x19, x20]) st' := fun x9 x10 x15 x16 x17 x18 x19 st' Hs => hK2 _ _ ⟨fun q hq => hsub q (by simp [hq]), Hs, _, _, _, _, _, _, _, rfl⟩
      refine F_chains_ok hrn (by omega) (fun hv => ?_) (fun hv => ?_)
      · have hv' : Valid (ddOf (renL ds p x)) ds.length := by rw [← hrl]; exact hv
        have hNN : ∀ (l : List D) (P : DP), fNotN st2 (.lst l) .non P ↔ P (.bl true) st2 := fun l P => by simp [fNotN, isNonD]
        rw [hNN]
        refine ⟨true, rfl, ?_⟩
        rw [if_pos rfl]
        refine ⟨_, _, H2.u, rfl, _, H2.u, ?_⟩
        rw [List.map_map]
        refine comp_rule iN (fun k => !decide (meantAt (ddOf (renL ds p x)) ds.length k (nm (ddOf (renL ds p x) k)) = meantAt (ddOf ds) ds.length k (nm (ddOf ds k)))) iN trivial _ _ (fun k hk Y N hY => ?_) (by have := uL_len (ds := ds); simp; omega) ?_
        · obtain ⟨hkl, y, ey⟩ := mem_useL.mp hk
          have hke : k ∈ uL (renL ds p x) := by rw [renL_uL]; exact hk
          obtain ⟨hkl2, z, ez⟩ := mem_useL.mp hke
          have hzo : PyData.strOk z = true := by have := nm_all hrn k; rw [ez] at this; exact this
          have hat := at_deeds (ds := renL ds p x) hkl2
          rw [ez] at hat
          simp -implicitDefEqProofs [-Bool.exists_bool, -List.lookup_eq_none_iff, -u_gtup, -u_gcons, -u_gnil, -u_par, dStart, dwipe, hat, encD]
          refine F_meant_law hrn (by omega) hkl2 hzo ?_
          have hug : getKD (usesE ds) (.inl (k : Int)) = some (optD (meantAt (ddOf ds) ds.length k (nm (ddOf ds k)))) := uses_get hk
          rw [hrl]
          rw [ez] at hY
          have hY : if (!decide (meantAt (ddOf (renL ds p x)) ds.length k z = meantAt (ddOf ds) ds.length k (nm (ddOf ds k)))) = true then Y (iN k) st2 else N st2 := hY
          simp -implicitDefEqProofs [-Bool.exists_bool, -List.lookup_eq_none_iff, -u_gtup, -u_gcons, -u_gnil, -u_par, dStart, dwipe, H2.du, hug]
          revert hY
          generalize meantAt (ddOf (renL ds p x)) ds.length k z = m1
          generalize meantAt (ddOf ds) ds.length k (nm (ddOf ds k)) = m2
          intro hY
          by_cases e : m1 = m2
          · subst e
            cases m1 <;> simp -implicitDefEqProofs [-Bool.exists_bool, -List.lookup_eq_none_iff, -u_gtup, -u_gcons, -u_gnil, -u_par, dStart, dwipe, optD, Int.natCast_inj] <;> simpa using hY
          · rw [if_pos (by simpa using e)] at hY
            cases m1 <;> cases m2 <;> simp -implicitDefEqProofs [-Bool.exists_bool, -List.lookup_eq_none_iff, -u_gtup, -u_gcons, -u_gnil, -u_par, dStart, dwipe, optD, Int.natCast_inj]
            · exact (e rfl).elim
            · simpa using hY
            · simpa using hY
            · exact ⟨true, by simpa using fun z => e (by rw [z]), by simpa using hY⟩
        · refine ⟨H2.u, plainL_iN _, rfl, _, H2.h.ins, lk_may_be_renamed, ?_⟩
          refine F_may_ok H2.h hn hp hxo hx0 fun r => ?_
          have e1 : cb (([] ++ List.map iN ((uL ds).filter fun k => !decide (meantAt (ddOf (renL ds p x)) ds.length k (nm (ddOf (renL ds p x) k)) = meantAt (ddOf ds) ds.length k (nm (ddOf ds k))))) = []) = cb (RenOk ds p x) := by
            have : ([] ++ List.map iN ((uL ds).filter fun k => !decide (meantAt (ddOf (renL ds p x)) ds.length k (nm (ddOf (renL ds p x) k)) = meantAt (ddOf ds) ds.length k (nm (ddOf ds k)))) = []) ↔ RenOk ds p x := by
              rw [List.nil_append, List.map_eq_nil_iff, List.filter_eq_nil_iff]
              constructor
              · intro h
                refine ⟨hv', fun k hk => ?_⟩
                have := h k hk
                simpa using this
              · intro h k hk
                simpa using h.2 k hk
            rw [Bool.eq_iff_iff, cb_iff, cb_iff]; exact this
          rw [e1]
          show fEqB true _ _ _ _
          rw [u_eqBB]
          refine ⟨false, by simp, ?_⟩
          rw [if_neg (by decide)]
          exact hgo _ _ _ _ _ _ _ _ (H2.app r)
      · have hNN : ∀ (P : DP), fNotN st2 .non .non P ↔ P (.bl false) st2 := fun P => by simp [fNotN, isNonD]
        rw [hNN]
        refine ⟨false, rfl, ?_⟩
        rw [if_neg (by decide)]
        refine ⟨_, H2.h.ins, lk_may_be_renamed, ?_⟩
        refine F_may_ok H2.h hn hp hxo hx0 fun r => ?_
        rw [cb_neg (fun z => hv (by rw [hrl]; exact z.1))]
        show fEqB true _ _ _ _
        rw [u_eqBB]
        refine ⟨false, by simp, ?_⟩
        rw [if_neg (by decide)]
        exact hgo _ _ _ _ _ _ _ _ (H2.app r)
  · rintro env st' ⟨_, H, x9, x10, x15, x16, x17, x18, x19, rfl⟩
    exact ⟨trivial, hK _ _ _ _ _ _ _ _ H⟩
abbrev tWord : TD := (dOp fAdd (dOp fDGet (dDisp (((dC (.str "put")), (dC (.str "+"))) :: (((dC (.str "use")), (dC (.str ""))) :: (((dC (.str "in")), (dC (.str "{"))) :: (((dC (.str "out")), (dC (.str "}"))) :: []))))) (dOp fIx (dVar 10) (dC (.int 0)))) (dJoin (dC (.str "")) (dSl (dVar 10) (doSome (dC (.int 1))) doNone)))
abbrev dct4 : List (Key × D) := [(.inr "put", .str "+"), (.inr "use", .str ""), (.inr "in", .str "{"), (.inr "out", .str "}")]
theorem dct4_m : mergeKD [] dct4 = dct4 := by kernel_rfl
theorem dct4_0 : getKD dct4 (.inr "put") = some (.str "+") := by kernel_rfl
theorem dct4_1 : getKD dct4 (.inr "use") = some (.str "") := by kernel_rfl
theorem dct4_2 : getKD dct4 (.inr "in") = some (.str "{") := by kernel_rfl
theorem dct4_3 : getKD dct4 (.inr "out") = some (.str "}") := by kernel_rfl
theorem new_dctD {o : List (Key × D)} : dctD (st ++ [DO.dct o]) st.length = some o := by simp [dctD]
theorem cut1 {x y : D} : cutD [x, y] (some 1) none = [y] := by kernel_rfl
theorem cut0 {x : D} : cutD [x] (some 1) none = [] := by kernel_rfl
theorem join0 : Txt.join "" [] = "" := by decide +kernel
theorem abc_join : ∀ x ∈ abc, x.length ≤ 1 ∧ Txt.join "" [x] = x ∧ (32 : Nat) ∉ TL.tl x := by decide +kernel
theorem word_te {d : Dd} {env : DV} (hd : hasNm d = true → nm d ∈ abc) (he : env[10]? = some (some (encD d))) (hP : ∀ r, P (.str (wd d)) (st ++ r)) : tWord env st P Ex := by
  have c1 : ("+" : Str).length = 1 := by decide +kernel
  have c2 : ("" : Str).length = 0 := by decide +kernel
  cases d with
  | put x =>
    simp -implicitDefEqProofs [-Bool.exists_bool, -List.lookup_eq_none_iff, -u_gtup, -u_gcons, -u_gnil, -u_par, dStart, dwipe, he, encD, dDisp, dPairs, keysP]
    refine ⟨_, new_dctD, _, by rw [dct4_m]; exact dct4_0, ?_⟩
    simp -implicitDefEqProofs [-Bool.exists_bool, -List.lookup_eq_none_iff, -u_gtup, -u_gcons, -u_gnil, -u_par, dStart, dwipe, he, encD, dJoin, dSl, fSl, cut1]
    obtain ⟨a1, a2, a3⟩ := abc_join x (hd rfl)
    refine ⟨[x], rfl, by simp; omega, ?_, ?_⟩
    · rw [a2]; have : sizeLine > 100000 := by decide
      omega
    · rw [a2]; exact hP _
  | use x =>
    simp -implicitDefEqProofs [-Bool.exists_bool, -List.lookup_eq_none_iff, -u_gtup, -u_gcons, -u_gnil, -u_par, dStart, dwipe, he, encD, dDisp, dPairs, keysP]
    refine ⟨_, new_dctD, _, by rw [dct4_m]; exact dct4_1, ?_⟩
    simp -implicitDefEqProofs [-Bool.exists_bool, -List.lookup_eq_none_iff, -u_gtup, -u_gcons, -u_gnil, -u_par, dStart, dwipe, he, encD, dJoin, dSl, fSl, cut1]
    obtain ⟨a1, a2, a3⟩ := abc_join x (hd rfl)
    refine ⟨[x], rfl, by simp; omega, ?_, ?_⟩
    · rw [a2]; have : sizeLine > 100000 := by decide
      omega
    · rw [a2]; exact hP _
  | inn =>
    simp -implicitDefEqProofs [-Bool.exists_bool, -List.lookup_eq_none_iff, -u_gtup, -u_gcons, -u_gnil, -u_par, dStart, dwipe, he, encD, dDisp, dPairs, keysP]
    refine ⟨_, new_dctD, _, by rw [dct4_m]; exact dct4_2, ?_⟩
    simp -implicitDefEqProofs [-Bool.exists_bool, -List.lookup_eq_none_iff, -u_gtup, -u_gcons, -u_gnil, -u_par, dStart, dwipe, he, encD, dJoin, dSl, fSl, cut0]
    refine ⟨[], rfl, by simp, by decide +kernel, ?_⟩
    have := hP [DO.dct (mergeKD [] dct4)]
    rw [join0]
    exact this
  | out =>
    simp -implicitDefEqProofs [-Bool.exists_bool, -List.lookup_eq_none_iff, -u_gtup, -u_gcons, -u_gnil, -u_par, dStart, dwipe, he, encD, dDisp, dPairs, keysP]
    refine ⟨_, new_dctD, _, by rw [dct4_m]; exact dct4_3, ?_⟩
    simp -implicitDefEqProofs [-Bool.exists_bool, -List.lookup_eq_none_iff, -u_gtup, -u_gcons, -u_gnil, -u_par, dStart, dwipe, he, encD, dJoin, dSl, fSl, cut0]
    refine ⟨[], rfl, by simp, by decide +kernel, ?_⟩
    have := hP [DO.dct (mergeKD [] dct4)]
    rw [join0]
    exact this
theorem wd_len {d : Dd} (hd : hasNm d = true → nm d ∈ abc) : (wd d).length ≤ 2 ∧ (32 : Nat) ∉ TL.tl (wd d) := by
  have h1 : ∀ x ∈ abc, (("+" : Str) ++ x).length ≤ 2 ∧ (32 : Nat) ∉ TL.tl (("+" : Str) ++ x) := by decide +kernel
  have h2 : ∀ x ∈ abc, (("" : Str) ++ x).length ≤ 2 ∧ (32 : Nat) ∉ TL.tl (("" : Str) ++ x) := by decide +kernel
  cases d with
  | put x => exact h1 x (hd rfl)
  | use x => exact h2 x (hd rfl)
  | inn => decide +kernel
  | out => decide +kernel
theorem join_len {y : Str} : ∀ l : List Str, (Str.join y l).length ≤ (l.map (·.length)).sum + l.length * y.length
  | [] => by have : (Str.join y []).length = 0 := rfl
             omega
  | [x] => by show x.length ≤ _; simp
  | x :: z :: r => by
    have := join_len (y := y) (z :: r)
    show (x ++ y ++ Str.join y (z :: r)).length ≤ _
    have e : ∀ a b : Str, (a ++ b).length = a.length + b.length := fun a b => by
      show (a.cps ++ b.cps).size = _
      rw [Array.size_append]; rfl
    rw [e, e]
    simp only [List.map_cons, List.sum_cons, List.length_cons, Nat.add_mul, Nat.one_mul] at this ⊢
    omega
theorem strOk_app {a b : Str} (h1 : PyData.strOk a = true) (h2 : PyData.strOk b = true) : PyData.strOk (a ++ b) = true := by
  unfold PyData.strOk at h1 h2 ⊢
  show (a.cps ++ b.cps).all _ = true
  rw [Array.all_append, h1, h2]; rfl
theorem join_ok {y : Str} (hy : PyData.strOk y = true) : ∀ l : List Str, (∀ x ∈ l, PyData.strOk x = true) → PyData.strOk (Str.join y l) = true
  | [], _ => (by decide +kernel : PyData.strOk (⟨#[]⟩ : Str) = true)
  | [x], h => h x (by simp)
  | x :: z :: r, h => by
    show PyData.strOk (x ++ y ++ Str.join y (z :: r)) = true
    exact strOk_app (strOk_app (h x (by simp)) hy) (join_ok hy _ fun w hw => h w (by simp [hw]))
theorem wd_sok {d : Dd} (hd : hasNm d = true → nm d ∈ abc) : PyData.strOk (wd d) = true := by
  cases d with
  | put x => exact (wd_put x (hd rfl)).1
  | use x => exact (wd_use x (hd rfl)).1
  | inn => decide +kernel
  | out => decide +kernel
theorem sum_wd : ∀ l : List Dd, (∀ d ∈ l, hasNm d = true → nm d ∈ abc) → ((l.map wd).map (·.length)).sum ≤ 2 * l.length
  | [], _ => by simp
  | d :: l, h => by
    have h1 := sum_wd l fun d hd => h d (by simp [hd])
    have h2 := (wd_len (h d (by simp))).1
    simp only [List.map_cons, List.sum_cons, List.length_cons]
    omega
theorem F_told_on_ok (H : LawSt C st b ds im iu i0) (hab : ∀ d ∈ ds, hasNm d = true → nm d ∈ abc) (hz : ds.length ≤ 39) (hn : ∀ d ∈ ds, NmD d) (hP : ∀ st', P (.bl true) st') :
    F_law_told_on C CS [.ref i0, .ref b.j, .lst (ds.map encD), .lst (chainsL ds), .ref im, .lst ((pL ds).map iN), .lst (orderL ds), .ref iu] st P Ex := by
  unfold F_law_told_on t_law_told_on
  have hbig : 100000 < sizeLine := by decide
  have h := H.h
  have hz1 : ds.length ≤ 1000 := by omega
  simp -implicitDefEqProofs [-Bool.exists_bool, -List.lookup_eq_none_iff, -u_gtup, -u_gcons, -u_gnil, -u_par, dStart, dwipe, enum_range]
  refine loop_range (fun k => D.tup [.int (k : Nat), encD (ddOf ds k)]) (fun k env st' => st' = st ∧ ∃ x9 x10 x11 x12, env = [some (.ref i0), some (.ref b.j), some (.lst (ds.map encD)), some (.lst (chainsL ds)), some (.ref im), some (.lst ((pL ds).map iN)), some (.lst (orderL ds)), some (.ref iu), some (.lst ((List.range k).map (stepD ds))), x9, x10, x11, x12, none, none, none, none, none, none, none, none]) ?_ ?_ ⟨rfl, _, _, _, _, rfl⟩
  · rintro k env st' K hk ⟨rfl, x9, x10, x11, x12, rfl⟩ hK
    have hkz : k + 1 ≤ sizeLine := by omega
    have hend : ∀ x9 x10 x11 x12 z, stepD ds k = z → K [some (.ref i0), some (.ref b.j), some (.lst (ds.map encD)), some (.lst (chainsL ds)), some (.ref im), some (.lst ((pL ds).map iN)), some (.lst (orderL ds)), some (.ref iu), some (.lst ((List.range k).map (stepD ds) ++ [z])), x9, x10, x11, x12, none, none, none, none, none, none, none, none] st' := fun x9 x10 x11 x12 z e => hK _ _ ⟨rfl, x9, x10, x11, x12, by rw [List.range_succ]; simp [e]⟩
    rcases step_case (ds := ds) hk with ⟨hno, e⟩ | ⟨x, p, ex, e1, e2, e3, e⟩
    · simp -implicitDefEqProofs [-Bool.exists_bool, -List.lookup_eq_none_iff, -u_gtup, -u_gcons, -u_gnil, -u_par, dStart, dwipe, H.dm, hno]
      refine comp_rule iN (fun _ => false) iN trivial _ _ (fun q hq Y N hY => ?_) (by have := pL_len (ds := ds); simp; omega) ?_
      · obtain ⟨hql, _⟩ := mem_pL.mp hq
        obtain ⟨l, el, el2⟩ := chain_m1 (ds := ds) (Nat.le_of_lt hql)
        simp -implicitDefEqProofs [-Bool.exists_bool, -List.lookup_eq_none_iff, -u_gtup, -u_gcons, -u_gnil, -u_par, dStart, dwipe, chains_at hql, el, el2]
        simpa using hY
      · simp -implicitDefEqProofs [-Bool.exists_bool, -List.lookup_eq_none_iff, -u_gtup, -u_gcons, -u_gnil, -u_par, dStart, dwipe, H.dm, hno, hkz]
        exact hend _ _ _ _ _ e
    · obtain ⟨hpl, y, ey⟩ := mem_pL.mp e3
      obtain ⟨l, el, el2⟩ := chain_m1 (ds := ds) (Nat.le_of_lt hpl)
      obtain ⟨_, _, hpin⟩ := meant_some e1
      obtain ⟨ns, c1, c2, c3, c4⟩ := chain_idx hk hpin
      simp -implicitDefEqProofs [-Bool.exists_bool, -List.lookup_eq_none_iff, -u_gtup, -u_gcons, -u_gnil, -u_par, dStart, dwipe, H.dm, e2, chains_at hpl, el, el2]
      refine comp_rule iN (fun q => decide (cur (ddOf ds) q = cur (ddOf ds) p)) iN trivial _ _ (fun q hq Y N hY => ?_) (by have := pL_len (ds := ds); simp; omega) ?_
      · obtain ⟨hql, _⟩ := mem_pL.mp hq
        obtain ⟨l', el', el2'⟩ := chain_m1 (ds := ds) (Nat.le_of_lt hql)
        have hJ := J_inj (dd := ddOf ds) (n := ds.length) (cur_lt' (Nat.le_of_lt hql)) (cur_lt' (Nat.le_of_lt hpl))
        simp -implicitDefEqProofs [-Bool.exists_bool, -List.lookup_eq_none_iff, -u_gtup, -u_gcons, -u_gnil, -u_par, dStart, dwipe, chains_at hql, el', el2', hJ]
        simpa using hY
      · rw [List.nil_append]
        have hfl : (pL ds).filter (fun k => decide (cur (ddOf ds) k = cur (ddOf ds) p)) = putsIn ds (cur (ddOf ds) p) := rfl
        rw [hfl]
        have hpi : p ∈ putsIn ds (cur (ddOf ds) p) := List.mem_filter.mpr ⟨e3, by simp⟩
        simp -implicitDefEqProofs [-Bool.exists_bool, -List.lookup_eq_none_iff, -u_gtup, -u_gcons, -u_gnil, -u_par, dStart, dwipe, H.dm, e2, chains_at hk, c1, u_indexT]
        refine ⟨ns, rfl, c2, ?_⟩
        refine index_gen rfl hpi (fun P' hh => ?_) ⟨hkz, ?_⟩
        · simp -implicitDefEqProofs [-Bool.exists_bool, -List.lookup_eq_none_iff, -u_gtup, -u_gcons, -u_gnil, -u_par, dStart, dwipe, H.dm, e2]
          exact hh
        · rw [c4]
          exact hend _ _ _ _ _ e
  · rintro env st' ⟨rfl, x9, x10, x11, x12, rfl⟩
    simp -implicitDefEqProofs [-Bool.exists_bool, -List.lookup_eq_none_iff, -u_gtup, -u_gcons, -u_gnil, -u_par, dStart, dwipe, h.ins]
    refine F_by_steps_out_ok h fun r => ?_
    simp -implicitDefEqProofs [-Bool.exists_bool, -List.lookup_eq_none_iff, -u_gtup, -u_gcons, -u_gnil, -u_par, dStart, dwipe, fList, seqD, plain_step hz1 hn, cb_pos]
    have H2 := H.app r
    refine F_own_law H2.h H2.m hab hz hn fun r2 => ?_
    have H3 := H.app (r ++ r2)
    simp -implicitDefEqProofs [-Bool.exists_bool, -List.lookup_eq_none_iff, -u_gtup, -u_gcons, -u_gnil, -u_par, dStart, dwipe]
    refine loop_B (b := b) (im := im) (iu := iu) (i0 := i0) H3 hab hz hn fun x9 x11 x13 x14 x15 st' H4 => ?_
    simp -implicitDefEqProofs [-Bool.exists_bool, -List.lookup_eq_none_iff, -u_gtup, -u_gcons, -u_gnil, -u_par, dStart, dwipe]
    refine loop_C (b := b) (im := im) (iu := iu) (i0 := i0) H4 hab hz hn fun x9 x10 x15 x16 x17 x18 x19 st' H5 => ?_
    simp -implicitDefEqProofs [-Bool.exists_bool, -List.lookup_eq_none_iff, -u_gtup, -u_gcons, -u_gnil, -u_par, dStart, dwipe]
    have hG : ∀ r : SD, True := fun _ => trivial
    have hsum := sum_wd ds hab
    have hc1 : (" " : Str).length = 1 := by decide +kernel
    have hjl := join_len (y := " ") (ds.map wd)
    rw [List.length_map, hc1] at hjl
    simp -implicitDefEqProofs [-Bool.exists_bool, -List.lookup_eq_none_iff, -u_gtup, -u_gcons, -u_gnil, -u_par, dStart, dwipe, dJoin]
    have H6 : LawSt C (st' ++ []) b ds im iu i0 := H5.app []
    rw [← List.append_nil st']
    refine comp_ext (G := fun _ => True) encD (fun _ => true) (fun d => .str (wd d)) (fun _ => trivial) ds [] [] (fun d hd r Y N hY => ?_) (by simp; omega) fun r => ?_
    · rw [if_pos rfl] at hY
      rw [u_gname, u_yes, if_pos rfl]
      refine word_te (hab d hd) (by rfl) fun r' => ?_
      rw [List.append_assoc]
      exact hY _
    · rw [List.nil_append, List.filter_eq_self.mpr (fun _ _ => rfl)]
      have hbl : (" " : Str).length = 1 := hc1
      refine ⟨ds.map wd, by unfold strsD; rw [List.map_map]; rfl, by rw [List.length_map, hbl]; omega, ?_, ?_⟩
      · rw [TL.join_eq]
        exact join_ok (by decide +kernel) _ fun x hx => by
          obtain ⟨d, hd, rfl⟩ := List.mem_map.mp hx
          exact wd_sok (hab d hd)
      · by_cases e0 : Txt.join (" " : Str) (ds.map wd) = ""
        · exact ⟨false, by simp [e0], hP _⟩
        · refine ⟨true, by simpa using e0, ?_⟩
          rw [if_pos rfl]
          have hne : ds.map wd ≠ [] := fun z => e0 (by rw [z]; decide +kernel)
          refine F_deeds_ok (ds := ds) (TL.split_join (y := " ") (s := 32) (S := []) (by decide +kernel) (by decide +kernel) hne fun p hp => ?_) hab hz1 (by rw [TL.join_eq]; omega) fun r2 => ?_
          · obtain ⟨d, hd, rfl⟩ := List.mem_map.mp hp
            exact (wd_len (hab d hd)).2
          · simp -implicitDefEqProofs [-Bool.exists_bool, -List.lookup_eq_none_iff, -u_gtup, -u_gcons, -u_gnil, -u_par, dStart, dwipe, fList, seqD]
            exact ⟨plainL_all fun d hd => by
              obtain ⟨e, he, rfl⟩ := List.mem_map.mp hd
              have hq := hn e he
              refine plain_enc2 ?_
              cases e with
              | put x => exact hq.1
              | use x => exact hq.1
              | inn => decide +kernel
              | out => decide +kernel, hP _⟩
end
end FL
/-! MU: the law's round, cut into its steps; the making of the scopes. -/
namespace FL
open PySem PySem.Spec PyProof.Rows L2
def tR16 (C CS : Addr) : TDS := (dIfS (dNotT (dTest (dFn (F_law_told_on C CS) (dCons (dVar 1) (dCons (dVar 4) (dCons (dVar 2) (dCons (dVar 3) (dCons (dVar 6) (dCons (dVar 7) (dCons (dVar 17) (dCons (dVar 5) dNil))))))))))) (dRet (dC (.bl false)))
    dNext)
def tR15 (C CS : Addr) : TDS := dSeq (dFor (diRng1 (dCall fLen (dCons (dVar 2) dNil))) (dgName 13) (dSeq (dAsg (dLc (diVal (dLstS (dCons (dC (.str "a")) (dCons (dC (.str "b")) (dCons (dC (.str "c")) dNil))))) (dgName 23) dYes (dTupS (dCons (dVar 23) (dCons (dFn (F_law_meant C CS) (dCons (dVar 2) (dCons (dVar 3) (dCons (dVar 13) (dCons (dVar 23) dNil))))) dNil))) [23]) (dgName 18))
    (dIfS (dCmpT fNe (dUn fItemsL (dMeth C "seen_at" (F_seen_at C CS) (dVar 4) (dCons (dVar 13) dNil))) (dLc (diVal (dVar 18)) (dgTup 2 (dgCons (dgName 23) (dgCons (dgName 10) dgNil))) (dCmpT fNotN (dVar 10) (dC .non)) (dTupS (dCons (dVar 23) (dCons (dVar 10) dNil))) [23, 10])) (dRet (dC (.bl false)))
    dNext))) (tR16 C CS)
def tR14 (C CS : Addr) : TDS := dSeq (dIfS (dCmpT fNe (dLc (diRng1 (dCall fLen (dCons (dVar 2) dNil))) (dgName 13) dYes (dMeth C "scope_at" (F_scope_at C CS) (dVar 4) (dCons (dVar 13) dNil)) [13]) (dLc (diVal (dVar 3)) (dgName 22) dYes (dIndex (dVar 17) (dOp fIx (dVar 22) (dUn fNeg (dC (.int 1))))) [22])) (dRet (dC (.bl false)))
    dNext) (tR15 C CS)
def tR13 (C CS : Addr) : TDS := dSeq (dAsg (dOp fAdd (dLstS (dCons (dUn fNeg (dC (.int 1))) dNil)) (dLc (diEnum (dVar 2)) (dgTup 2 (dgCons (dgName 13) (dgCons (dgName 19) dgNil))) (dCmpT fEq (dOp fIx (dVar 19) (dC (.int 0))) (dC (.str "in"))) (dVar 13) [13, 19])) (dgName 17)) (tR14 C CS)
def tR12 (C CS : Addr) : TDS := dSeq (dIfS (dOrT (dCmpT fNe (dCall fList (dCons (dMeth C "shadowed" (F_shadowed C CS) (dVar 4) dNil) dNil)) (dVar 8)) (dCmpT fNe (dCall fList (dCons (dMeth C "told_late" (F_told_late C CS) (dVar 4) dNil) dNil)) (dVar 9))) (dRet (dC (.bl false)))
    dNext) (tR13 C CS)
def tR11 (C CS : Addr) : TDS := dSeq (dLockS fun l1 => (dFor (diItems l1 (dVar 5)) (dgTup 2 (dgCons (dgName 13) (dgCons (dgName 10) dgNil))) (dSeq (dAsg (dIf (dCmpT fNotN (dVar 10) (dC .non)) (dOp fIx (dOp fIx (dVar 3) (dVar 10)) (dUn fNeg (dC (.int 1)))) (dC .non)) (dgName 14))
    (dSeq (dAsg (dLstS dNil) (dgName 15))
    (dSeq (dFor (diVal (dRev (dOp fIx (dVar 3) (dVar 13)) (dUn fNeg (dC (.int 1))))) (dgName 16) (dSeq (dIfS (dCmpT fEq (dVar 16) (dVar 14)) dBreak
    dNext)
    (dAsg (dOp fAdd (dVar 15) (dLc (diVal (dFn (F_law_puts C CS) (dCons (dVar 2) (dCons (dVar 3) (dCons (dVar 16) (dCons (dOp fIx (dOp fIx (dVar 2) (dVar 13)) (dC (.int 1))) dNil)))))) (dgName 20) (dCmpT fGt (dVar 20) (dVar 13)) (dVar 20) [20])) (dgName 15))))
    (dAsg (dOp fAdd (dVar 9) (dIf (dCmpT fNe (dVar 15) (dLstS dNil)) (dLstS (dCons (dTupS (dCons (dVar 13) (dCons (dOp fIx (dVar 15) (dC (.int 0))) dNil))) dNil)) (dLstS dNil))) (dgName 9))))))) (tR12 C CS)
def tR10 (C CS : Addr) : TDS := dSeq (dFor (diVal (dVar 7)) (dgName 10) (dSeq (dAsg (dLc (diVal (dSlF (dOp fIx (dVar 3) (dVar 10)) doNone (doSome (dUn fNeg (dC (.int 1)))))) (dgName 16) dYes (dFn (F_law_puts C CS) (dCons (dVar 2) (dCons (dVar 3) (dCons (dVar 16) (dCons (dOp fIx (dOp fIx (dVar 2) (dVar 10)) (dC (.int 1))) dNil))))) [16]) (dgName 11))
    (dSeq (dAsg (dLc (diVal (dVar 11)) (dgName 21) (dAndT (dCmpT fNe (dVar 21) (dLstS dNil)) (dCmpT fLt (dOp fIx (dVar 21) (dC (.int 0))) (dVar 10))) (dOp fIx (dVar 21) (dC (.int 0))) [21]) (dgName 12))
    (dAsg (dOp fAdd (dVar 8) (dIf (dCmpT fNe (dVar 12) (dLstS dNil)) (dLstS (dCons (dTupS (dCons (dOp fIx (dVar 12) (dUn fNeg (dC (.int 1)))) (dCons (dVar 10) dNil))) dNil)) (dLstS dNil))) (dgName 8))))) (tR11 C CS)
def tR9 (C CS : Addr) : TDS := dSeq (dPar 8 9 (dCons (dLstS dNil) (dCons (dLstS dNil) dNil))) (tR10 C CS)
def tR8 (C CS : Addr) : TDS := dSeq (dIfS (dOrT (dCmpT fNe (dLc (diVal (dVar 7)) (dgName 10) dYes (dCall fList (dCons (dMeth C "uses_of" (F_uses_of C CS) (dVar 4) (dCons (dVar 10) dNil)) dNil)) [10]) (dLc (diVal (dVar 7)) (dgName 10) dYes (dLock fun l2 => (dLc (diItems l2 (dVar 6)) (dgTup 2 (dgCons (dgName 13) (dgCons (dgName 20) dgNil))) (dCmpT fEq (dVar 20) (dVar 10)) (dVar 13) [13, 20])) [10])) (dCmpT fNe (dCall fList (dCons (dMeth C "unused" (F_unused C CS) (dVar 4) dNil) dNil)) (dLc (diVal (dVar 7)) (dgName 10) (dTest (dOp (fInVals true) (dVar 10) (dVar 6))) (dVar 10) [10]))) (dRet (dC (.bl false)))
    dNext) (tR9 C CS)
def tR7 (C CS : Addr) : TDS := dSeq (dAsg (dLc (diEnum (dVar 2)) (dgTup 2 (dgCons (dgName 13) (dgCons (dgName 19) dgNil))) (dCmpT fEq (dOp fIx (dVar 19) (dC (.int 0))) (dC (.str "put"))) (dVar 13) [13, 19]) (dgName 7)) (tR8 C CS)
def tR6 (C CS : Addr) : TDS := dSeq (dIfS (dOrT (dCmpT (fDctEq true) (dFld C "meant" (dVar 4)) (dVar 6)) (dCmpT fNe (dFld C "lost" (dVar 4)) (dLock fun l3 => (dLc (diItems l3 (dVar 5)) (dgTup 2 (dgCons (dgName 13) (dgCons (dgName 10) dgNil))) (dCmpT fIsN (dVar 10) (dC .non)) (dVar 13) [13, 10])))) (dRet (dC (.bl false)))
    dNext) (tR7 C CS)
def tR5 (C CS : Addr) : TDS := dSeq (dAsg (dPub (dCall fDict (dCons (dLock fun l4 => (dLc (diItems l4 (dVar 5)) (dgTup 2 (dgCons (dgName 13) (dgCons (dgName 10) dgNil))) (dCmpT fNotN (dVar 10) (dC .non)) (dTupS (dCons (dVar 13) (dCons (dVar 10) dNil))) [13, 10])) dNil))) (dgName 6)) (tR6 C CS)
def tR4 (C CS : Addr) : TDS := dSeq (dAsg (dPub (dCall fDict (dCons (dLc (diEnum (dVar 2)) (dgTup 2 (dgCons (dgName 13) (dgCons (dgName 19) dgNil))) (dCmpT fEq (dOp fIx (dVar 19) (dC (.int 0))) (dC (.str "use"))) (dTupS (dCons (dVar 13) (dCons (dFn (F_law_meant C CS) (dCons (dVar 2) (dCons (dVar 3) (dCons (dVar 13) (dCons (dOp fIx (dVar 19) (dC (.int 1))) dNil))))) dNil))) [13, 19]) dNil))) (dgName 5)) (tR5 C CS)
def tR3 (C CS : Addr) : TDS := dSeq (dIfS (dCmpT fIsN (dVar 3) (dC .non)) (dSeq (dAsg (dLstS (dCons (dTupS (dCons (dC (.str "put")) (dCons (dC (.str "a")) dNil))) (dCons (dTupS (dCons (dC (.str "in")) dNil)) (dCons (dTupS (dCons (dC (.str "use")) (dCons (dC (.str "a")) dNil))) (dCons (dTupS (dCons (dC (.str "put")) (dCons (dC (.str "a")) dNil))) (dCons (dTupS (dCons (dC (.str "use")) (dCons (dC (.str "b")) dNil))) (dCons (dTupS (dCons (dC (.str "out")) dNil)) (dCons (dTupS (dCons (dC (.str "put")) (dCons (dC (.str "b")) dNil))) dNil)))))))) (dgName 2))
    (dAsg (dTupS (dCons (dFn (F_law_chains C CS) (dCons (dVar 2) dNil)) (dCons (dPub (dMake C (F_init C CS) (dCons (dVar 2) dNil))) dNil))) (dgTup 2 (dgCons (dgName 3) (dgCons (dgName 4) dgNil)))))
    dNext) (tR4 C CS)
def tR2 (C CS : Addr) : TDS := dSeq (dIfS (dCmpT fNe (dOp (fEqI C) (dVar 4) (dC (.str "ScopeError"))) (dOp fIsN (dVar 3) (dC .non))) (dRet (dC (.bl false)))
    dNext) (tR3 C CS)
def tR1 (C CS : Addr) : TDS := dSeq (dAsg (dTupS (dCons (dFn (F_law_chains C CS) (dCons (dVar 2) dNil)) (dCons (dTold CS "ScopeError" (dPub (dMake C (F_init C CS) (dCons (dVar 2) dNil)))) dNil))) (dgTup 2 (dgCons (dgName 3) (dgCons (dgName 4) dgNil)))) (tR2 C CS)
def tR0 (C CS : Addr) : TDS := dSeq (dAsg (dFn (F_law_drawn C CS) (dCons (dVar 1) dNil)) (dgName 2)) (tR1 C CS)
theorem t_law_eq (C CS : Addr) (ns : List Int) : t_law C CS ns = dSeq (dFor (diVal (dFn (F_law_rounds C CS ns) (dCons (dVar 0) (dCons (dC (.int 1)) dNil)))) (dgName 1) (tR0 C CS)) (dRet (dFn (F_law_plain C CS) dNil)) := rfl

instance {dd : Nat → Dd} {n k : Nat} : Decidable (Good dd n k) := by
  unfold Good
  split <;> infer_instance
instance {dd : Nat → Dd} {n : Nat} : Decidable (Valid dd n) := inferInstanceAs (Decidable (_ ∧ _))
theorem nmd_abc {d : Dd} (h : hasNm d = true → nm d ∈ abc) : NmD d := by
  cases d with
  | put x => exact abc_ok (h rfl)
  | use x => exact abc_ok (h rfl)
  | inn => trivial
  | out => trivial
/-- the store of a round -/
structure RSt (C : Addr) (st : SD) (b : Ob) (ds : List Dd) (i0 : Nat) : Prop where
  h : ScAt C st b ds
  d : ∃ a c f, st[i0]? = some (dc3 a c f)
  nl : i0 ≠ b.l
  ns : i0 ≠ b.s
  ab : ∀ d ∈ ds, hasNm d = true → nm d ∈ abc
  z : ds.length ≤ 39
  nm : ∀ d ∈ ds, NmD d
theorem RSt.app {C : Addr} {st : SD} {b : Ob} {ds : List Dd} {i0 : Nat} (H : RSt C st b ds i0) (r : SD) : RSt C (st ++ r) b ds i0 :=
  let ⟨a, c, f, e⟩ := H.d
  ⟨H.h.app r, ⟨a, c, f, get_app e⟩, H.nl, H.ns, H.ab, H.z, H.nm⟩
abbrev E5 (b : Ob) (ds : List Dd) (i0 : Nat) (x : List (Option D)) : DV := some (.fn 0) :: some (.ref i0) :: some (.lst (ds.map encD)) :: some (.lst (chainsL ds)) :: some (.ref b.j) :: x
def def7 : List Dd := [.put "a", .inn, .use "a", .put "a", .use "b", .out, .put "b"]
theorem def7_v : Valid (ddOf def7) def7.length := by decide +kernel
theorem def7_ab : ∀ d ∈ def7, hasNm d = true → nm d ∈ abc := by decide +kernel
section
variable {C CS : Addr} {st : SD} {ds : List Dd} {i0 : Nat} {P : DP} {Ex : DX} {D0 : DEnds}
theorem R3_nx (hd : ∃ a c f, st[i0]? = some (dc3 a c f)) {x3 x4 x5 x6 x7 x8 x9 x10 x11 x12 x13 x14 x15 x16 x17 x18 x19 x20 x21 x22 x23 : Option D}
    (hK : ∀ b ds st, RSt C st b ds i0 → tR4 C CS D0 Ex (E5 b ds i0 [x5, x6, x7, x8, x9, x10, x11, x12, x13, x14, x15, x16, x17, x18, x19, x20, x21, x22, x23]) st) (hab : ∀ d ∈ ds, hasNm d = true → nm d ∈ abc) (hz : ds.length ≤ 39) :
    tR1 C CS D0 Ex (some (.fn 0) :: some (.ref i0) :: some (.lst (ds.map encD)) :: [x3, x4, x5, x6, x7, x8, x9, x10, x11, x12, x13, x14, x15, x16, x17, x18, x19, x20, x21, x22, x23]) st := by
  have hbig : 100000 < sizeLine := by decide
  have hn : ∀ d ∈ ds, NmD d := fun d h => nmd_abc (hab d h)
  obtain ⟨a, c, f, hd⟩ := hd
  have hi : i0 < st.length := (List.getElem?_eq_some_iff.mp hd).1
  unfold tR1
  simp -implicitDefEqProofs [-Bool.exists_bool, -List.lookup_eq_none_iff, -u_gtup, -u_gcons, -u_gnil, -u_par, dStart, dwipe]
  refine F_chains_ok hn (by omega) (fun hv => ?_) (fun hv => ?_)
  · simp -implicitDefEqProofs [-Bool.exists_bool, -List.lookup_eq_none_iff, -u_gtup, -u_gcons, -u_gnil, -u_par, dStart, dwipe, dTold, dPub, dMake]
    refine F_make_ok (.inl rfl) hn (by omega) (fun _ r hs => ?_) (fun z => (z hv).elim)
    unfold tR2
    simp -implicitDefEqProofs [-Bool.exists_bool, -List.lookup_eq_none_iff, -u_gtup, -u_gcons, -u_gnil, -u_par, dStart, dwipe]
    have H : RSt C (st ++ r) (bOf st) ds i0 := ⟨hs, ⟨a, c, f, get_app hd⟩, by show i0 ≠ st.length + 2; omega, by show i0 ≠ st.length + 4; omega, hab, hz, hn⟩
    refine .inr ⟨_, _, _, rfl, rfl, hs.ins, ?_⟩
    refine ⟨rfl, by simp, ?_⟩
    show fEqB true _ _ _ _
    rw [u_eqBB]
    refine ⟨false, by simp [isNonD], ?_⟩
    rw [if_neg (by decide)]
    unfold tR3
    simp -implicitDefEqProofs [-Bool.exists_bool, -List.lookup_eq_none_iff, -u_gtup, -u_gcons, -u_gnil, -u_par, dStart, dwipe]
    refine ⟨rfl, by simp, ⟨false, by simp [isNonD], ?_⟩⟩
    rw [if_neg (by decide)]
    exact hK _ _ _ H
  · simp -implicitDefEqProofs [-Bool.exists_bool, -List.lookup_eq_none_iff, -u_gtup, -u_gcons, -u_gnil, -u_par, dStart, dwipe, dTold, dPub, dMake]
    refine F_make_ok (.inl rfl) hn (by omega) (fun z => (hv z).elim) (fun _ r => ?_)
    refine ⟨rfl, ?_⟩
    unfold tR2
    simp -implicitDefEqProofs [-Bool.exists_bool, -List.lookup_eq_none_iff, -u_gtup, -u_gcons, -u_gnil, -u_par, dStart, dwipe]
    refine .inl ?_
    show fEqB false _ _ _ _
    rw [u_eqSS]
    refine ⟨by decide +kernel, by decide +kernel, ⟨rfl, by simp, ?_⟩⟩
    show fEqB true _ _ _ _
    rw [u_eqBB]
    refine ⟨false, by simp [isNonD], ?_⟩
    rw [if_neg (by decide)]
    unfold tR3
    have hd := get_app (r := r) hd
    have hi : i0 < (st ++ r).length := (List.getElem?_eq_some_iff.mp hd).1
    revert hd hi
    generalize st ++ r = st1
    intro hd hi
    have hn7 : ∀ d ∈ def7, NmD d := fun d h => nmd_abc (def7_ab d h)
    have e7 : D.lst (def7.map encD) = .lst [D.tup [.str "put", .str "a"], .tup [.str "in"], .tup [.str "use", .str "a"], .tup [.str "put", .str "a"], .tup [.str "use", .str "b"], .tup [.str "out"], .tup [.str "put", .str "b"]] := rfl
    simp -implicitDefEqProofs [-Bool.exists_bool, -List.lookup_eq_none_iff, -u_gtup, -u_gcons, -u_gnil, -u_par, dStart, dwipe]
    refine ⟨rfl, by simp, ⟨true, by simp [isNonD], ?_⟩⟩
    rw [if_pos rfl]
    rw [← e7]
    refine F_chains_ok hn7 (by decide) (fun hv => ?_) (fun hv => (hv def7_v).elim)
    refine F_make_ok (.inl rfl) hn7 (by decide) (fun _ r hs => ?_) (fun z => (z hv).elim)
    exact hK _ _ _ ⟨hs, ⟨a, c, f, get_app hd⟩, by show i0 ≠ st1.length + 2; omega, by show i0 ≠ st1.length + 4; omega, def7_ab, by decide, hn7⟩
end
end FL
/-! MV: the law's round: what each use means. -/
namespace FL
open PySem PySem.Spec PyProof.Rows L2
section
variable {C CS : Addr} {st : SD} {ds : List Dd} {b : Ob} {i0 : Nat} {P : DP} {Ex : DX} {D0 : DEnds}
theorem usesE_nd : ((usesE ds).map (·.1)).Nodup := by
  unfold usesE
  rw [List.map_map]
  refine List.pairwise_map.mpr ((List.nodup_range.filter _ : (uL ds).Nodup).imp fun {a b} h e => h ?_)
  have : ((a : Nat) : Int) = (b : Nat) := Sum.inl.inj e
  omega
theorem meantE_nd : ((meantE ds).map (·.1)).Nodup := by
  unfold meantE
  rw [List.map_map]
  refine List.pairwise_map.mpr (List.pairwise_filterMap.mpr ((List.nodup_range.filter _ : (uL ds).Nodup).imp fun {a b} h q hq q' hq' e => h ?_))
  have e1 : q.1 = a := by
    obtain ⟨_, _, rfl⟩ := Option.map_eq_some_iff.mp hq; rfl
  have e2 : q'.1 = b := by
    obtain ⟨_, _, rfl⟩ := Option.map_eq_some_iff.mp hq'; rfl
  have : ((q.1 : Nat) : Int) = (q'.1 : Nat) := Sum.inl.inj e
  omega
theorem dict_pub {l : List D} {ps : List (Key × D)} {Q : D → SD → Prop} (hp : l.map pairK = ps.map some) (hnd : (ps.map (·.1)).Nodup) (hQ : Q (.ref st.length) (st ++ [.dctR ps])) : fDict st [.lst l] fun d st1 => ∃ st2, Pub st1 st2 ∧ Q d st2 := by
  refine ⟨_, _, ps, rfl, rfl, hp, _, .step (i := st.length) (l := mergeKD [] ps) (.refl _) (by simp), ?_⟩
  rw [set_last, mergeKD_nodup (by simpa using hnd)]
  exact hQ
theorem meant_list {l : List Nat} {m : Nat → Option Nat} : (l.filter fun k => (m k).isSome).map (fun k => D.tup [iN k, optD (m k)]) = (l.filterMap fun k => (m k).map fun p => (k, p)).map fun q => D.tup [iN q.1, iN q.2] := by
  induction l with
  | nil => rfl
  | cons k l ih =>
    cases e : m k with
    | none => rw [List.filter_cons_of_neg (by simp [e]), List.filterMap_cons_none (by rw [e]; rfl), ih]
    | some p => rw [List.filter_cons_of_pos (by simp [e]), List.filterMap_cons_some (b := (k, p)) (by rw [e]; rfl), List.map_cons, List.map_cons, ih, e]; rfl
theorem R4_nx (H : RSt C st b ds i0) {x5 x6 x7 x8 x9 x10 x11 x12 x13 x14 x15 x16 x17 x18 x19 x20 x21 x22 x23 : Option D}
    (hK : ∀ im iu st, LawSt C st b ds im iu i0 → tR6 C CS D0 Ex (E5 b ds i0 [some (.ref iu), some (.ref im), x7, x8, x9, x10, x11, x12, x13, x14, x15, x16, x17, x18, x19, x20, x21, x22, x23]) st) :
    tR4 C CS D0 Ex (E5 b ds i0 [x5, x6, x7, x8, x9, x10, x11, x12, x13, x14, x15, x16, x17, x18, x19, x20, x21, x22, x23]) st := by
  have hbig : 100000 < sizeLine := by decide
  have hz := H.z
  unfold tR4
  simp -implicitDefEqProofs [-Bool.exists_bool, -List.lookup_eq_none_iff, -u_gtup, -u_gcons, -u_gnil, -u_par, dStart, dwipe, enum_range, dPub]
  refine comp_rule (fun k => D.tup [.int (k : Nat), encD (ddOf ds k)]) (fun k => isUse (ddOf ds k)) (fun k => D.tup [iN k, optD (meantAt (ddOf ds) ds.length k (nm (ddOf ds k)))]) trivial _ _ (fun k hk Y N hY => ?_) (by simp; omega) ?_
  · have hk := List.mem_range.mp hk
    have hnmk := nm_all H.nm k
    cases e : ddOf ds k with
    | use x =>
      rw [e] at hY hnmk
      simp -implicitDefEqProofs [-Bool.exists_bool, -List.lookup_eq_none_iff, -u_gtup, -u_gcons, -u_gnil, -u_par, dStart, dwipe, encD]
      have hY : Y (D.tup [iN k, optD (meantAt (ddOf ds) ds.length k x)]) st := hY
      exact F_meant_law H.nm (by omega) hk hnmk hY
    | put x => rw [e] at hY; simp -implicitDefEqProofs [-Bool.exists_bool, -List.lookup_eq_none_iff, -u_gtup, -u_gcons, -u_gnil, -u_par, dStart, dwipe, encD]; exact hY
    | inn => rw [e] at hY; simp -implicitDefEqProofs [-Bool.exists_bool, -List.lookup_eq_none_iff, -u_gtup, -u_gcons, -u_gnil, -u_par, dStart, dwipe, encD]; exact hY
    | out => rw [e] at hY; simp -implicitDefEqProofs [-Bool.exists_bool, -List.lookup_eq_none_iff, -u_gtup, -u_gcons, -u_gnil, -u_par, dStart, dwipe, encD]; exact hY
  rw [List.nil_append]
  refine dict_pub (ps := usesE ds) (by unfold usesE; rw [List.map_map, List.map_map]; rfl) usesE_nd ?_
  have hu : (st ++ [DO.dctR (usesE ds)])[st.length]? = some (.dctR (usesE ds)) := by simp
  have H1 := H.app [DO.dctR (usesE ds)]
  revert hu H1
  generalize st ++ [DO.dctR (usesE ds)] = st1
  generalize st.length = iu
  intro hu H1
  unfold tR5
  simp -implicitDefEqProofs [-Bool.exists_bool, -List.lookup_eq_none_iff, -u_gtup, -u_gcons, -u_gnil, -u_par, dStart, dwipe, dPub]
  refine ⟨_, _, hu, rfl, _, hu, ?_⟩
  have hui : (usesE ds).map (fun p => D.tup [keyD p.1, p.2]) = (uL ds).map fun k => D.tup [iN k, optD (meantAt (ddOf ds) ds.length k (nm (ddOf ds k)))] := by
    unfold usesE; rw [List.map_map]; rfl
  rw [hui]
  refine comp_rule (fun k => D.tup [iN k, optD (meantAt (ddOf ds) ds.length k (nm (ddOf ds k)))]) (fun k => (meantAt (ddOf ds) ds.length k (nm (ddOf ds k))).isSome) (fun k => D.tup [iN k, optD (meantAt (ddOf ds) ds.length k (nm (ddOf ds k)))]) trivial _ _ (fun k hk Y N hY => ?_) (by have := uL_len (ds := ds); simp; omega) ?_
  · simp -implicitDefEqProofs [-Bool.exists_bool, -List.lookup_eq_none_iff, -u_gtup, -u_gcons, -u_gnil, -u_par, dStart, dwipe]
    cases e : meantAt (ddOf ds) ds.length k (nm (ddOf ds k)) with
    | none =>
      rw [e] at hY
      exact ⟨rfl, by simp [optD], false, rfl, hY⟩
    | some p =>
      rw [e] at hY
      exact ⟨rfl, by simp [optD], true, rfl, hY⟩
  rw [List.nil_append]
  refine ⟨hu, ?_⟩
  rw [meant_list]
  refine dict_pub (ps := meantE ds) (by unfold meantE; rw [List.map_map, List.map_map]; rfl) meantE_nd ?_
  have H2 := H1.app [DO.dctR (meantE ds)]
  exact hK _ _ _ ⟨H2.h, by simp, get_app hu, H2.d, H2.nl, H2.ns⟩
theorem R6_nx {im iu : Nat} (H : LawSt C st b ds im iu i0) (hz : ds.length ≤ 39) {x7 x8 x9 x10 x11 x12 x13 x14 x15 x16 x17 x18 x19 x20 x21 x22 x23 : Option D}
    (hK : tR7 C CS D0 Ex (E5 b ds i0 [some (.ref iu), some (.ref im), x7, x8, x9, x10, x11, x12, x13, x14, x15, x16, x17, x18, x19, x20, x21, x22, x23]) st) :
    tR6 C CS D0 Ex (E5 b ds i0 [some (.ref iu), some (.ref im), x7, x8, x9, x10, x11, x12, x13, x14, x15, x16, x17, x18, x19, x20, x21, x22, x23]) st := by
  have hbig : 100000 < sizeLine := by decide
  unfold tR6
  simp -implicitDefEqProofs [-Bool.exists_bool, -List.lookup_eq_none_iff, -u_gtup, -u_gcons, -u_gnil, -u_par, dStart, dwipe, H.h.ins]
  refine ⟨_, _, _, _, rfl, rfl, H.h.dm, H.dm, mt_atoms, mt_atoms, fun r1 hr1 => ⟨_, rfl, ?_⟩⟩
  have : r1 = true := hr1.mpr (dctEq_refl meantE_nd)
  subst this
  rw [if_neg (by decide)]
  refine ⟨_, H.h.ins, _, lk_lost, _, _, H.u, rfl, _, H.u, ?_⟩
  rw [List.map_map]
  refine comp_rule (fun k => D.tup [iN k, optD (meantAt (ddOf ds) ds.length k (nm (ddOf ds k)))]) (fun k => (meantAt (ddOf ds) ds.length k (nm (ddOf ds k))).isNone) iN trivial _ _ (fun k hk Y N hY => ?_) (by have := uL_len (ds := ds); simp; omega) ?_
  · simp -implicitDefEqProofs [-Bool.exists_bool, -List.lookup_eq_none_iff, -u_gtup, -u_gcons, -u_gnil, -u_par, dStart, dwipe]
    cases e : meantAt (ddOf ds) ds.length k (nm (ddOf ds k)) with
    | none =>
      rw [e] at hY
      exact ⟨rfl, by simp [optD], true, rfl, hY⟩
    | some p =>
      rw [e] at hY
      exact ⟨rfl, by simp [optD], false, rfl, hY⟩
  rw [List.nil_append]
  refine ⟨H.u, ?_⟩
  have hlost : ((uL ds).filter fun k => (meantAt (ddOf ds) ds.length k (nm (ddOf ds k))).isNone).map iN = lostE ds := rfl
  rw [hlost]
  show fEqB true _ _ _ _
  rw [u_eqB]
  refine .inr ⟨.lst (lostE ds), .lst (lostE ds), flat_ref H.h.l, rfl, plainLost, plainLost, ?_⟩
  rw [cb_pos rfl]
  exact ⟨false, rfl, by rw [if_neg (by decide)]; exact hK⟩
theorem R7_nx {im iu : Nat} (H : LawSt C st b ds im iu i0) (hz : ds.length ≤ 39) {x7 x8 x9 x10 x11 x12 x13 x14 x15 x16 x17 x18 x19 x20 x21 x22 x23 : Option D}
    (hK : tR8 C CS D0 Ex (E5 b ds i0 [some (.ref iu), some (.ref im), some (.lst ((pL ds).map iN)), x8, x9, x10, x11, x12, x13, x14, x15, x16, x17, x18, x19, x20, x21, x22, x23]) st) :
    tR7 C CS D0 Ex (E5 b ds i0 [some (.ref iu), some (.ref im), x7, x8, x9, x10, x11, x12, x13, x14, x15, x16, x17, x18, x19, x20, x21, x22, x23]) st := by
  have hbig : 100000 < sizeLine := by decide
  unfold tR7
  simp -implicitDefEqProofs [-Bool.exists_bool, -List.lookup_eq_none_iff, -u_gtup, -u_gcons, -u_gnil, -u_par, dStart, dwipe, enum_range]
  refine comp_rule (fun k => D.tup [.int (k : Nat), encD (ddOf ds k)]) (fun k => isPut (ddOf ds k)) iN trivial _ _ (fun k hk Y N hY => ?_) (by simp; omega) ?_
  · cases e : ddOf ds k <;> rw [e] at hY <;> simp -implicitDefEqProofs [-Bool.exists_bool, -List.lookup_eq_none_iff, -u_gtup, -u_gcons, -u_gnil, -u_par, dStart, dwipe, encD] <;> exact hY
  rw [List.nil_append]
  exact hK
theorem mta : (meantE ds).all (atomD ∘ fun x => x.2) = true := by rw [← List.all_map]; exact mt_atoms
theorem R8_nx {im iu : Nat} (H : LawSt C st b ds im iu i0) (hz : ds.length ≤ 39) {x8 x9 x10 x11 x12 x13 x14 x15 x16 x17 x18 x19 x20 x21 x22 x23 : Option D}
    (hK : tR9 C CS D0 Ex (E5 b ds i0 [some (.ref iu), some (.ref im), some (.lst ((pL ds).map iN)), x8, x9, x10, x11, x12, x13, x14, x15, x16, x17, x18, x19, x20, x21, x22, x23]) st) :
    tR8 C CS D0 Ex (E5 b ds i0 [some (.ref iu), some (.ref im), some (.lst ((pL ds).map iN)), x8, x9, x10, x11, x12, x13, x14, x15, x16, x17, x18, x19, x20, x21, x22, x23]) st := by
  have hbig : 100000 < sizeLine := by decide
  have hpl := pL_len (ds := ds)
  unfold tR8
  simp -implicitDefEqProofs [-Bool.exists_bool, -List.lookup_eq_none_iff, -u_gtup, -u_gcons, -u_gnil, -u_par, dStart, dwipe]
  refine comp_rule iN (fun _ => true) (fun p => D.lst ((usesOf ds p).map iN)) trivial _ _ (fun p hp Y N hY => ?_) (by simp; omega) ?_
  · simp -implicitDefEqProofs [-Bool.exists_bool, -List.lookup_eq_none_iff, -u_gtup, -u_gcons, -u_gnil, -u_par, dStart, dwipe, H.h.ins]
    refine F_uses_of_ok H.h hp ?_
    exact ⟨_, _, rfl, rfl, hY⟩
  rw [List.nil_append, List.filter_eq_self.mpr (fun _ _ => rfl)]
  refine comp_rule iN (fun _ => true) (fun p => D.lst ((usesOf ds p).map iN)) trivial _ _ (fun p hp Y N hY => ?_) (by simp; omega) ?_
  · simp -implicitDefEqProofs [-Bool.exists_bool, -List.lookup_eq_none_iff, -u_gtup, -u_gcons, -u_gnil, -u_par, dStart, dwipe]
    refine ⟨_, _, H.m, rfl, _, H.m, ?_⟩
    rw [mt_items]
    refine comp_rule (fun q : Nat × Nat => D.tup [iN q.1, iN q.2]) (fun q => decide (q.2 = p)) (fun q => iN q.1) trivial _ _ (fun q hq Y2 N2 hY2 => ?_) (by have := mL_len (ds := ds); simp; omega) ?_
    · simp -implicitDefEqProofs [-Bool.exists_bool, -List.lookup_eq_none_iff, -u_gtup, -u_gcons, -u_gnil, -u_par, dStart, dwipe]
      simp only [Int.natCast_inj]
      simpa using hY2
    · rw [List.nil_append]
      refine ⟨H.m, ?_⟩
      have e : ((mL ds).filter fun q => decide (q.2 = p)).map (fun q => iN q.1) = (usesOf ds p).map iN := by
        unfold usesOf; rw [List.map_map]; rfl
      rw [e]
      exact hY
  rw [List.nil_append, List.filter_eq_self.mpr (fun _ _ => rfl)]
  have hp49 : plainL 49 ((pL ds).map fun p => D.lst ((usesOf ds p).map iN)) = true := plainL_all fun d hd => by
    obtain ⟨p, _, rfl⟩ := List.mem_map.mp hd
    exact plainL_iN _
  refine ⟨hp49, hp49, false, by rw [cb_pos rfl]; rfl, ?_⟩
  rw [if_neg (by decide)]
  refine ⟨_, H.h.ins, lk_unused, ?_⟩
  refine F_unused_ok H.h ⟨_, _, rfl, rfl, ?_⟩
  refine comp_rule iN (fun p => (usesOf ds p).isEmpty) iN trivial _ _ (fun p hp Y N hY => ?_) (by simp; omega) ?_
  · simp -implicitDefEqProofs [-Bool.exists_bool, -List.lookup_eq_none_iff, -u_gtup, -u_gcons, -u_gnil, -u_par, dStart, dwipe, u_invals, H.dm, mt_atoms, -List.mem_map, -List.all_eq_true]
    have hmem : iN p ∈ (meantE ds).map (·.2) ↔ ¬ (usesOf ds p).isEmpty = true := by
      rw [List.isEmpty_iff]
      unfold usesOf meantE
      rw [List.map_map, List.map_eq_nil_iff, List.filter_eq_nil_iff, List.mem_map]
      constructor
      · rintro ⟨q, hq, e⟩ h
        have e : ((q.2 : Nat) : Int) = p := D.int.inj e
        exact h q hq (by simp; omega)
      · intro h
        refine Classical.byContradiction fun h2 => h fun q hq e => h2 ⟨q, hq, ?_⟩
        have : q.2 = p := by simpa using e
        show iN q.2 = iN p
        rw [this]
    by_cases he : (usesOf ds p).isEmpty = true
    · rw [if_pos he] at hY
      exact ⟨mta, true, by rw [cb_neg (fun z => hmem.mp z he)]; rfl, hY⟩
    · rw [if_neg he] at hY
      exact ⟨mta, false, by rw [cb_pos (hmem.mpr he)]; rfl, hY⟩
  · rw [List.nil_append]
    show fEqB true _ _ _ _
    rw [u_eqLL]
    refine ⟨plainL_iN _, plainL_iN _, ?_⟩
    have e : (unusedOf ds).map iN = ((pL ds).filter fun p => (usesOf ds p).isEmpty).map iN := rfl
    rw [cb_pos e]
    exact ⟨false, rfl, by rw [if_neg (by decide)]; exact hK⟩
end
end FL
/-! MW: the law's round: what hides what, what is told late. -/
namespace FL
open PySem PySem.Spec PyProof.Rows L2
section
variable {C CS : Addr} {st : SD} {ds : List Dd} {b : Ob} {i0 : Nat} {P : DP} {Ex : DX} {D0 : DEnds}
theorem fm_eq {f : Nat → Option Nat} {l : List Nat} : (l.filter fun s => (f s).isSome).map (fun s => iN ((f s).getD 0)) = (l.filterMap f).map iN := by
  induction l with
  | nil => rfl
  | cons k l ih =>
    cases e : f k with
    | none => rw [List.filter_cons_of_neg (by simp [e]), List.filterMap_cons_none e, ih]
    | some p => rw [List.filter_cons_of_pos (by simp [e]), List.filterMap_cons_some e, List.map_cons, List.map_cons, ih, e]; rfl
theorem chain_cut {p : Nat} (hp : p ≤ ds.length) : ∃ l, chainD ds p = .tpk l ∧ cutD l none (some (-1)) = (A (ddOf ds) ds.length (cur (ddOf ds) p)).tail.reverse.map (fun s => D.int (J (ddOf ds) ds.length s)) ∧ l.reverse = (A (ddOf ds) ds.length (cur (ddOf ds) p)).map (fun s => D.int (J (ddOf ds) ds.length s)) := by
  obtain ⟨t, e⟩ := A_hd (dd := ddOf ds) (n := ds.length) (cur_lt' hp)
  refine ⟨_, rfl, ?_, ?_⟩
  · unfold cOf
    rw [e]
    simp [cut_drop]
  · unfold cOf
    rw [← List.map_reverse, List.reverse_reverse]
theorem R9_nx {im iu : Nat} {x8 x9 x10 x11 x12 x13 x14 x15 x16 x17 x18 x19 x20 x21 x22 x23 : Option D}
    (hK : tR10 C CS D0 Ex (E5 b ds i0 [some (.ref iu), some (.ref im), some (.lst ((pL ds).map iN)), some (.lst []), some (.lst []), x10, x11, x12, x13, x14, x15, x16, x17, x18, x19, x20, x21, x22, x23]) st) :
    tR9 C CS D0 Ex (E5 b ds i0 [some (.ref iu), some (.ref im), some (.lst ((pL ds).map iN)), x8, x9, x10, x11, x12, x13, x14, x15, x16, x17, x18, x19, x20, x21, x22, x23]) st := by
  unfold tR9
  simp -implicitDefEqProofs [-Bool.exists_bool, -List.lookup_eq_none_iff, -u_gtup, -u_gcons, -u_gnil, -u_par, dStart, dwipe]
  exact hK
theorem R10_nx {im iu : Nat} (H : LawSt C st b ds im iu i0) (hz : ds.length ≤ 39) (hn : ∀ d ∈ ds, NmD d) {x9 x10 x11 x12 x13 x14 x15 x16 x17 x18 x19 x20 x21 x22 x23 : Option D}
    (hK : ∀ x10 x11 x12, tR11 C CS D0 Ex (E5 b ds i0 [some (.ref iu), some (.ref im), some (.lst ((pL ds).map iN)), some (.lst ((shadL ds (pL ds)).map encP)), x9, x10, x11, x12, x13, x14, x15, x16, x17, x18, x19, x20, x21, x22, x23]) st) :
    tR10 C CS D0 Ex (E5 b ds i0 [some (.ref iu), some (.ref im), some (.lst ((pL ds).map iN)), some (.lst []), x9, x10, x11, x12, x13, x14, x15, x16, x17, x18, x19, x20, x21, x22, x23]) st := by
  have hbig : 100000 < sizeLine := by decide
  have hpl := pL_len (ds := ds)
  unfold tR10
  simp -implicitDefEqProofs [-Bool.exists_bool, -List.lookup_eq_none_iff, -u_gtup, -u_gcons, -u_gnil, -u_par, dStart, dwipe]
  refine loop_list iN (fun rest env st' => st' = st ∧ ∃ done x10 x11 x12, pL ds = done ++ rest ∧ env = E5 b ds i0 [some (.ref iu), some (.ref im), some (.lst ((pL ds).map iN)), some (.lst ((shadL ds done).map encP)), x9, x10, x11, x12, x13, x14, x15, x16, x17, x18, x19, x20, x21, x22, x23]) ?_ ?_ _ _ _ ⟨rfl, [], _, _, _, rfl, rfl⟩
  · rintro p rest env st' K ⟨rfl, done, x10, x11, x12, hdone, rfl⟩ hK2
    have hp : p ∈ pL ds := by rw [hdone]; simp
    obtain ⟨hpl2, x, ex⟩ := mem_pL.mp hp
    have hxo : PyData.strOk x = true := by have := nm_all hn p; rw [ex] at this; exact this
    obtain ⟨l, el, el2, _⟩ := chain_cut (ds := ds) (Nat.le_of_lt hpl2)
    have hcu := cur_lt' (dd := ddOf ds) (n := ds.length) (Nat.le_of_lt hpl2)
    have hA : ∀ s ∈ (A (ddOf ds) ds.length (cur (ddOf ds) p)).tail.reverse, s < nsc (ddOf ds) ds.length := fun s hs => by
      have := A_mem hcu (List.mem_of_mem_tail (List.mem_reverse.mp hs)); omega
    have hAl : (A (ddOf ds) ds.length (cur (ddOf ds) p)).length ≤ 13 := depth_ok (Nat.le_of_lt hpl2) fun j hj => (good_iff.mp (H.h.v.1 j (by omega))).1
    obtain ⟨R, hR⟩ : ∃ R, R = (A (ddOf ds) ds.length (cur (ddOf ds) p)).tail.reverse := ⟨_, rfl⟩
    rw [← hR] at el2 hA
    simp -implicitDefEqProofs [-Bool.exists_bool, -List.lookup_eq_none_iff, -u_gtup, -u_gcons, -u_gnil, -u_par, dStart, dwipe, chains_at hpl2, el, dSlF, el2]
    generalize hT : (A (ddOf ds) ds.length (cur (ddOf ds) p)).tail = T at *
    have hTl : R.length ≤ 13 := by rw [hR, List.length_reverse, ← hT, List.length_tail]; omega
    refine comp_rule (fun s => D.int (J (ddOf ds) ds.length s)) (fun _ => true) (fun s => D.lst ((putsB (ddOf ds) s x ds.length).map iN)) trivial _ _ (fun s hs Y N hY => ?_) (by simp; omega) ?_
    · simp -implicitDefEqProofs [-Bool.exists_bool, -List.lookup_eq_none_iff, -u_gtup, -u_gcons, -u_gnil, -u_par, dStart, dwipe, at_deeds hpl2, ex, encD]
      exact F_puts_law hn (by omega) (hA s hs) hxo hY
    rw [List.nil_append, List.filter_eq_self.mpr (fun _ _ => rfl)]
    refine comp_rule (fun s => D.lst ((putsB (ddOf ds) s x ds.length).map iN)) (fun s => ((putsB (ddOf ds) s x p).getLast?).isSome) (fun s => iN (((putsB (ddOf ds) s x p).getLast?).getD 0)) trivial _ _ (fun s hs Y N hY => ?_) (by simp; omega) ?_
    · have hm := mine_lt (ds := ds) (s := s) (x := x) (Nat.le_of_lt hpl2)
      rcases puts_le_one H.h.v.1 (s := s) (x := x) (Nat.le_refl _) with e | ⟨a, e⟩
      · rw [e] at hm ⊢
        rw [← hm] at hY
        simp -implicitDefEqProofs [-Bool.exists_bool, -List.lookup_eq_none_iff, -u_gtup, -u_gcons, -u_gnil, -u_par, dStart, dwipe]
        exact ⟨rfl, by simpa using hY⟩
      · rw [e] at hm ⊢
        rw [← hm] at hY
        simp -implicitDefEqProofs [-Bool.exists_bool, -List.lookup_eq_none_iff, -u_gtup, -u_gcons, -u_gnil, -u_par, dStart, dwipe]
        refine ⟨rfl, rfl, ?_⟩
        by_cases hap : a < p
        · rw [if_pos hap]; simpa [hap] using hY
        · rw [if_neg hap]; simpa [hap] using hY
    rw [List.nil_append, fm_eq, hR, List.filterMap_reverse]
    have hone : shadOne ds p = (T.filterMap fun s => (putsB (ddOf ds) s x p).getLast?).head? := by
      unfold shadOne
      rw [hT, ex, List.head?_filterMap]; rfl
    have hend : ∀ x10 x11 x12 z, (shadL ds (done ++ [p])).map encP = z → K (E5 b ds i0 [some (.ref iu), some (.ref im), some (.lst ((pL ds).map iN)), some (.lst z), x9, x10, x11, x12, x13, x14, x15, x16, x17, x18, x19, x20, x21, x22, x23]) st' := fun x10 x11 x12 z e => hK2 _ _ ⟨rfl, done ++ [p], _, _, _, by rw [hdone]; simp, by rw [e]⟩
    rw [shadL_app] at hend
    have hsl : (shadL ds done).length ≤ 39 := by
      have h1 : (shadL ds done).length ≤ done.length := List.length_filterMap_le _ _
      have h2 : (pL ds).length = done.length + (p :: rest).length := by rw [hdone, List.length_append]
      omega
    cases hg : T.filterMap fun s => (putsB (ddOf ds) s x p).getLast? with
    | nil =>
      rw [hg] at hone
      rw [hone] at hend
      simp -implicitDefEqProofs [-Bool.exists_bool, -List.lookup_eq_none_iff, -u_gtup, -u_gcons, -u_gnil, -u_par, dStart, dwipe]
      exact ⟨rfl, by omega, hend _ _ _ _ (by simp)⟩
    | cons a t =>
      rw [hg] at hone
      rw [hone] at hend
      simp -implicitDefEqProofs [-Bool.exists_bool, -List.lookup_eq_none_iff, -u_gtup, -u_gcons, -u_gnil, -u_par, dStart, dwipe]
      refine ⟨?_, rfl, _, at_last, by omega, hend _ _ _ _ (by simp)⟩
      have := plainL_iN (n := 49) (t.reverse ++ [a])
      simpa using this
  · rintro env st' ⟨rfl, done, x10, x11, x12, hdone, rfl⟩
    rw [List.append_nil] at hdone
    subst hdone
    exact ⟨trivial, hK _ _ _⟩
def lateG (ds : List Dd) (k s : Nat) : List Nat := (putsB (ddOf ds) s (nm (ddOf ds k)) ds.length).filter fun i => decide (k < i)
theorem lateOne_eq {k : Nat} : lateOne ds k = ((upto ((meantAt (ddOf ds) ds.length k (nm (ddOf ds k))).map (cur (ddOf ds))) (A (ddOf ds) ds.length (cur (ddOf ds) k))).flatMap (lateG ds k)).head? := by
  rw [List.head?_flatMap]; rfl
theorem lateG_len {k s : Nat} : (lateG ds k s).length ≤ ds.length := Nat.le_trans (List.length_filter_le _ _) putsB_len
def lateU (ds : List Dd) (l : List Nat) : List (Nat × Nat) := l.filterMap fun k => (lateOne ds k).map fun p => (k, p)
theorem lateU_app {l : List Nat} {k : Nat} : lateU ds (l ++ [k]) = lateU ds l ++ match lateOne ds k with
    | some p => [(k, p)]
    | none => [] := by
  unfold lateU
  rw [List.filterMap_append]
  congr 1
  cases e : lateOne ds k <;> simp [e]
theorem mmk {k : Nat} {o : Option Nat} : List.map encP (match o with | some p => [(k, p)] | none => []) = match o with | some p => [D.tup [iN k, iN p]] | none => [] := by cases o <;> rfl
theorem lateU_all : lateU ds (uL ds) = lateL ds ds.length := rfl
def J14 (ds : List Dd) (o : Option Nat) : D := match o with
  | some s => .int (J (ddOf ds) ds.length s)
  | none => .non
def tNine : TDS := dAsg (dOp fAdd (dVar 9) (dIf (dCmpT fNe (dVar 15) (dLstS dNil)) (dLstS (dCons (dTupS (dCons (dVar 13) (dCons (dOp fIx (dVar 15) (dC (.int 0))) dNil))) dNil)) (dLstS dNil))) (dgName 9)
def tLate (C CS : Addr) : TDS := (dSeq (dFor (diVal (dRev (dOp fIx (dVar 3) (dVar 13)) (dUn fNeg (dC (.int 1))))) (dgName 16) (dSeq (dIfS (dCmpT fEq (dVar 16) (dVar 14)) dBreak
    dNext)
    (dAsg (dOp fAdd (dVar 15) (dLc (diVal (dFn (F_law_puts C CS) (dCons (dVar 2) (dCons (dVar 3) (dCons (dVar 16) (dCons (dOp fIx (dOp fIx (dVar 2) (dVar 13)) (dC (.int 1))) dNil)))))) (dgName 20) (dCmpT fGt (dVar 20) (dVar 13)) (dVar 20) [20])) (dgName 15))))
    tNine)
theorem nine {D1 : DEnds} {k : Nat} {z0 : List D} (hz0 : z0.length ≤ 39) {acc : List Nat} {x5 x6 x7 x8 x10 x11 x12 x14 x16 x17 x18 x19 x20 x21 x22 x23 : Option D}
    (hK : D1.nx (E5 b ds i0 [x5, x6, x7, x8, some (.lst (z0 ++ (match acc.head? with
    | some p => [D.tup [iN k, iN p]]
    | none => []))), x10, x11, x12, some (iN k), x14, some (.lst (acc.map iN)), x16, x17, x18, x19, x20, x21, x22, x23]) st) :
    tNine D1 Ex (E5 b ds i0 [x5, x6, x7, x8, some (.lst z0), x10, x11, x12, some (iN k), x14, some (.lst (acc.map iN)), x16, x17, x18, x19, x20, x21, x22, x23]) st := by
  have hbig : 100000 < sizeLine := by decide
  unfold tNine
  cases acc with
  | nil =>
    simp -implicitDefEqProofs [-Bool.exists_bool, -List.lookup_eq_none_iff, -u_gtup, -u_gcons, -u_gnil, -u_par, dStart, dwipe]
    refine ⟨rfl, by omega, ?_⟩
    simpa using hK
  | cons a r =>
    have h1 := plainL_iN (n := 49) (a :: r)
    simp -implicitDefEqProofs [-Bool.exists_bool, -List.lookup_eq_none_iff, -u_gtup, -u_gcons, -u_gnil, -u_par, dStart, dwipe]
    refine ⟨h1, rfl, by omega, ?_⟩
    simpa using hK
theorem late_in {D1 : DEnds} {im iu : Nat} (H : LawSt C st b ds im iu i0) (hz : ds.length ≤ 39) (hn : ∀ d ∈ ds, NmD d) {k : Nat} {x : Str} (hkl : k < ds.length) (ex : ddOf ds k = .use x) {o : Option Nat} (ho : ∀ s, o = some s → s < nsc (ddOf ds) ds.length) {z0 : List D} (hz0 : z0.length ≤ 39) {x7 x8 x10 x11 x12 x16 x17 x18 x19 x20 x21 x22 x23 : Option D}
    (hK : ∀ x15 x16, D1.nx (E5 b ds i0 [some (.ref iu), some (.ref im), x7, x8, some (.lst (z0 ++ (match ((upto o (A (ddOf ds) ds.length (cur (ddOf ds) k))).flatMap (lateG ds k)).head? with
    | some p => [D.tup [iN k, iN p]]
    | none => []))), x10, x11, x12, some (iN k), some (J14 ds o), x15, x16, x17, x18, x19, x20, x21, x22, x23]) st) :
    tLate C CS D1 Ex (E5 b ds i0 [some (.ref iu), some (.ref im), x7, x8, some (.lst z0), x10, x11, x12, some (iN k), some (J14 ds o), some (.lst []), x16, x17, x18, x19, x20, x21, x22, x23]) st := by
  have hbig : 100000 < sizeLine := by decide
  have hxo : PyData.strOk x = true := by have := nm_all hn k; rw [ex] at this; exact this
  obtain ⟨l, el, _, el2⟩ := chain_cut (ds := ds) (Nat.le_of_lt hkl)
  have hcu := cur_lt' (dd := ddOf ds) (n := ds.length) (Nat.le_of_lt hkl)
  have hAl : (A (ddOf ds) ds.length (cur (ddOf ds) k)).length ≤ 13 := depth_ok (Nat.le_of_lt hkl) fun j hj => (good_iff.mp (H.h.v.1 j (by omega))).1
  have hA : ∀ s ∈ A (ddOf ds) ds.length (cur (ddOf ds) k), s < nsc (ddOf ds) ds.length := fun s hs => by have := A_mem hcu hs; omega
  revert el2 hAl hA hK
  generalize A (ddOf ds) ds.length (cur (ddOf ds) k) = L
  intro hK el2 hAl hA
  unfold tLate
  simp -implicitDefEqProofs [-Bool.exists_bool, -List.lookup_eq_none_iff, -u_gtup, -u_gcons, -u_gnil, -u_par, dStart, dwipe, dRev, chains_at hkl, el, fRev, el2]
  refine loop_list (fun s => D.int (J (ddOf ds) ds.length s)) (fun rest env st' => st' = st ∧ (∀ s ∈ rest, s < nsc (ddOf ds) ds.length) ∧ ∃ acc x16, acc ++ (upto o rest).flatMap (lateG ds k) = (upto o L).flatMap (lateG ds k) ∧ acc.length + 39 * rest.length ≤ 39 * 13 ∧ env = E5 b ds i0 [some (.ref iu), some (.ref im), x7, x8, some (.lst z0), x10, x11, x12, some (iN k), some (J14 ds o), some (.lst (acc.map iN)), x16, x17, x18, x19, x20, x21, x22, x23]) ?_ ?_ _ _ _ ⟨rfl, hA, [], _, rfl, by simp; omega, rfl⟩
  · rintro s rest env st' K ⟨rfl, hA, acc, x16, hacc, hal, rfl⟩ hK2
    have hs := hA s (by simp)
    refine ⟨trivial, ?_⟩
    simp only [List.length_cons] at hal
    have h9 : ∀ x16, (upto o L).flatMap (lateG ds k) = acc → tNine D1 Ex (E5 b ds i0 [some (.ref iu), some (.ref im), x7, x8, some (.lst z0), x10, x11, x12, some (iN k), some (J14 ds o), some (.lst (acc.map iN)), x16, x17, x18, x19, x20, x21, x22, x23]) st' := fun x16 e => by
      rw [e] at hK
      exact nine hz0 (hK _ _)
    by_cases hso : some s = o
    · have hu : upto o (s :: rest) = [] := by unfold upto; rw [List.takeWhile_cons_of_neg (by simp [hso])]
      rw [hu, List.flatMap_nil, List.append_nil] at hacc
      have h9 := h9 (some (.int (J (ddOf ds) ds.length s))) hacc.symm
      subst hso
      simp -implicitDefEqProofs [-Bool.exists_bool, -List.lookup_eq_none_iff, -u_gtup, -u_gcons, -u_gnil, -u_par, dStart, dwipe, J14]
      exact h9
    · have hu : upto o (s :: rest) = s :: upto o rest := by unfold upto; rw [List.takeWhile_cons_of_pos (by simp [hso])]
      rw [hu, List.flatMap_cons, ← List.append_assoc] at hacc
      have hgo : ∀ (K' : DV → SD → Prop) (z : List D), z = (acc ++ lateG ds k s).map iN → K (E5 b ds i0 [some (.ref iu), some (.ref im), x7, x8, some (.lst z0), x10, x11, x12, some (iN k), some (J14 ds o), some (.lst z), some (.int (J (ddOf ds) ds.length s)), x17, x18, x19, x20, x21, x22, x23]) st' := fun K' z e => hK2 _ _ ⟨rfl, fun t ht => hA t (by simp [ht]), acc ++ lateG ds k s, some (.int (J (ddOf ds) ds.length s)), hacc, by have := lateG_len (ds := ds) (k := k) (s := s); rw [List.length_append]; omega, by rw [e]⟩
      have hJ : ∀ P' : DP, P' (.bl false) st' → fEq st' (.int (J (ddOf ds) ds.length s)) (J14 ds o) P' := fun P' hP' => by
        show fEqB false _ _ _ _
        cases o with
        | none =>
          show fEqB false st' (.int (J (ddOf ds) ds.length s)) .non P'
          rw [u_eqIN]; exact hP'
        | some t =>
          show fEqB false st' (.int (J (ddOf ds) ds.length s)) (.int (J (ddOf ds) ds.length t)) P'
          rw [u_eqII, decide_eq_false (fun z => hso (by rw [(J_inj hs (ho t rfl)).mp z]))]; exact hP'
      simp -implicitDefEqProofs [-Bool.exists_bool, -List.lookup_eq_none_iff, -u_gtup, -u_gcons, -u_gnil, -u_par, dStart, dwipe]
      refine hJ _ ⟨false, rfl, ?_⟩
      rw [if_neg (by decide)]
      refine ⟨_, at_deeds hkl, _, by rw [ex]; rfl, _, at_1, ?_⟩
      refine F_puts_law hn (by omega) hs hxo ?_
      have hpb := putsB_len (ds := ds) (s := s) (x := x) (k := ds.length)
      refine comp_rule iN (fun i => decide (k < i)) iN trivial _ _ (fun i hi Y N hY => ?_) (by simp; omega) ?_
      · simp -implicitDefEqProofs [-Bool.exists_bool, -List.lookup_eq_none_iff, -u_gtup, -u_gcons, -u_gnil, -u_par, dStart, dwipe]
        simpa using hY
      · rw [List.nil_append]
        have e : ((putsB (ddOf ds) s x ds.length).filter fun i => decide (k < i)).map iN = (lateG ds k s).map iN := by
          unfold lateG; rw [ex]; rfl
        rw [e]
        have := lateG_len (ds := ds) (k := k) (s := s)
        refine ⟨by rw [List.length_map]; omega, hgo K _ (by rw [List.map_append])⟩
  · rintro env st' ⟨rfl, hA, acc, x16, hacc, hal, rfl⟩
    have e0 : (upto o []).flatMap (lateG ds k) = [] := rfl
    rw [e0, List.append_nil] at hacc
    rw [← hacc] at hK
    exact ⟨trivial, nine hz0 (hK _ _)⟩
theorem R11_nx {im iu : Nat} (H : LawSt C st b ds im iu i0) (hz : ds.length ≤ 39) (hn : ∀ d ∈ ds, NmD d) {x8 x10 x11 x12 x13 x14 x15 x16 x17 x18 x19 x20 x21 x22 x23 : Option D}
    (hK : ∀ x10 x13 x14 x15 x16 x20, tR12 C CS D0 Ex (E5 b ds i0 [some (.ref iu), some (.ref im), some (.lst ((pL ds).map iN)), x8, some (.lst ((lateL ds ds.length).map encP)), x10, x11, x12, x13, x14, x15, x16, x17, x18, x19, x20, x21, x22, x23]) st) :
    tR11 C CS D0 Ex (E5 b ds i0 [some (.ref iu), some (.ref im), some (.lst ((pL ds).map iN)), x8, some (.lst []), x10, x11, x12, x13, x14, x15, x16, x17, x18, x19, x20, x21, x22, x23]) st := by
  have hbig : 100000 < sizeLine := by decide
  have hul := uL_len (ds := ds)
  unfold tR11
  simp -implicitDefEqProofs [-Bool.exists_bool, -List.lookup_eq_none_iff, -u_gtup, -u_gcons, -u_gnil, -u_par, dStart, dwipe, dLockS]
  refine ⟨_, _, H.u, rfl, _, H.u, ?_⟩
  rw [List.map_map]
  refine loop_list (fun k => D.tup [iN k, optD (meantAt (ddOf ds) ds.length k (nm (ddOf ds k)))]) (fun rest env st' => st' = st ∧ ∃ done x10 x13 x14 x15 x16 x20, uL ds = done ++ rest ∧ env = E5 b ds i0 [some (.ref iu), some (.ref im), some (.lst ((pL ds).map iN)), x8, some (.lst ((lateU ds done).map encP)), x10, x11, x12, x13, x14, x15, x16, x17, x18, x19, x20, x21, x22, x23]) ?_ ?_ _ _ _ ⟨rfl, [], _, _, _, _, _, _, rfl, rfl⟩
  · rintro k rest env st' K ⟨rfl, done, x10, x13, x14, x15, x16, x20, hdone, rfl⟩ hK2
    have hk : k ∈ uL ds := by rw [hdone]; simp
    obtain ⟨hkl, x, ex⟩ := mem_useL.mp hk
    have hxo : PyData.strOk x = true := by have := nm_all hn k; rw [ex] at this; exact this
    obtain ⟨l, el, _, el2⟩ := chain_cut (ds := ds) (Nat.le_of_lt hkl)
    have hcu := cur_lt' (dd := ddOf ds) (n := ds.length) (Nat.le_of_lt hkl)
    have hAl : (A (ddOf ds) ds.length (cur (ddOf ds) k)).length ≤ 13 := depth_ok (Nat.le_of_lt hkl) fun j hj => (good_iff.mp (H.h.v.1 j (by omega))).1
    have hend : ∀ x10 x13 x14 x15 x16 x20 z, (lateU ds (done ++ [k])).map encP = z → K (E5 b ds i0 [some (.ref iu), some (.ref im), some (.lst ((pL ds).map iN)), x8, some (.lst z), x10, x11, x12, x13, x14, x15, x16, x17, x18, x19, x20, x21, x22, x23]) st' := fun x10 x13 x14 x15 x16 x20 z e => hK2 _ _ ⟨rfl, done ++ [k], _, _, _, _, _, _, by rw [hdone]; simp, by rw [e]⟩
    rw [lateU_app, lateOne_eq] at hend
    have hsl : (lateU ds done).length ≤ 39 := by
      have h1 : (lateU ds done).length ≤ done.length := List.length_filterMap_le _ _
      have h2 : (uL ds).length = done.length + (k :: rest).length := by rw [hdone, List.length_append]
      omega
    obtain ⟨m, hm⟩ : ∃ m, m = meantAt (ddOf ds) ds.length k (nm (ddOf ds k)) := ⟨_, rfl⟩
    rw [← hm] at hend ⊢
    have hnsc : ∀ s, m.map (cur (ddOf ds)) = some s → s < nsc (ddOf ds) ds.length := fun s e => by
      obtain ⟨p, hp, rfl⟩ := Option.map_eq_some_iff.mp e
      have := meant_some (hm ▸ hp : meantAt (ddOf ds) ds.length k (nm (ddOf ds k)) = some p)
      exact cur_lt' (by omega)
    refine ⟨trivial, ?_⟩
    show dgTup 2 (dgCons (dgName 13) (dgCons (dgName 10) dgNil)) _ _ _ fun env1 st1 => dSeq _ (dSeq _ (tLate C CS)) _ Ex env1 st1
    cases m with
    | none =>
      simp -implicitDefEqProofs [-Bool.exists_bool, -List.lookup_eq_none_iff, -u_gtup, -u_gcons, -u_gnil, -u_par, dStart, dwipe, optD]
      refine ⟨rfl, by simp, false, rfl, ?_⟩
      rw [if_neg (by decide)]
      refine late_in H hz hn hkl ex hnsc (by simpa using hsl) fun x15 x16 => ?_
      exact hend _ _ _ _ _ _ _ (by rw [List.map_append, mmk])
    | some p =>
      have hpm := meant_some hm.symm
      have hpl : p < ds.length := by omega
      obtain ⟨l1, f1, f2⟩ := chain_m1 (ds := ds) (Nat.le_of_lt hpl)
      simp -implicitDefEqProofs [-Bool.exists_bool, -List.lookup_eq_none_iff, -u_gtup, -u_gcons, -u_gnil, -u_par, dStart, dwipe, optD]
      refine ⟨rfl, by simp, true, rfl, ?_⟩
      rw [if_pos rfl]
      refine ⟨_, chains_at hpl, _, by rw [f1]; rfl, _, f2, ?_⟩
      refine late_in (o := some (cur (ddOf ds) p)) H hz hn hkl ex hnsc (by simpa using hsl) fun x15 x16 => ?_
      exact hend _ _ _ _ _ _ _ (by rw [List.map_append, mmk]; rfl)
  · rintro env st' ⟨rfl, done, x10, x13, x14, x15, x16, x20, hdone, rfl⟩
    rw [List.append_nil] at hdone
    subst hdone
    exact ⟨trivial, H.u, hK _ _ _ _ _ _⟩
end
end FL
/-! MX: the law's round: its last steps. -/
namespace FL
open PySem PySem.Spec PyProof.Rows L2
section
variable {C CS : Addr} {st : SD} {ds : List Dd} {b : Ob} {i0 : Nat} {P : DP} {Ex : DX} {D0 : DEnds}
abbrev E10 (b : Ob) (ds : List Dd) (im iu i0 : Nat) (x : List (Option D)) : DV := E5 b ds i0 (some (.ref iu) :: some (.ref im) :: some (.lst ((pL ds).map iN)) :: x)
theorem plain_encP {l : List (Nat × Nat)} : plainL 49 (l.map encP) = true := plainL_all fun d hd => by
  obtain ⟨q, _, rfl⟩ := List.mem_map.mp hd
  rfl
theorem rng0 {n : Nat} : rngD 0 n = (List.range n).map iN := by unfold rngD; simp
theorem R12_nx {im iu : Nat} (H : LawSt C st b ds im iu i0) {x10 x11 x12 x13 x14 x15 x16 x17 x18 x19 x20 x21 x22 x23 : Option D}
    (hK : ∀ st, LawSt C st b ds im iu i0 → tR13 C CS D0 Ex (E10 b ds im iu i0 [some (.lst ((shadL ds (pL ds)).map encP)), some (.lst ((lateL ds ds.length).map encP)), x10, x11, x12, x13, x14, x15, x16, x17, x18, x19, x20, x21, x22, x23]) st) :
    tR12 C CS D0 Ex (E10 b ds im iu i0 [some (.lst ((shadL ds (pL ds)).map encP)), some (.lst ((lateL ds ds.length).map encP)), x10, x11, x12, x13, x14, x15, x16, x17, x18, x19, x20, x21, x22, x23]) st := by
  unfold tR12
  simp -implicitDefEqProofs [-Bool.exists_bool, -List.lookup_eq_none_iff, -u_gtup, -u_gcons, -u_gnil, -u_par, dStart, dwipe, H.h.ins]
  refine F_shadowed_ok H.h fun r => ?_
  have H1 := H.app r
  refine ⟨_, _, rfl, rfl, ?_⟩
  show fEqB true _ _ _ _
  rw [u_eqLL, cb_pos rfl]
  refine ⟨plain_encP, plain_encP, false, rfl, ?_⟩
  rw [if_neg (by decide)]
  refine ⟨_, H1.h.ins, lk_told_late, ?_⟩
  refine F_told_late_ok H1.h fun r2 => ?_
  refine ⟨_, _, rfl, rfl, ?_⟩
  show fEqB true _ _ _ _
  rw [u_eqLL, cb_pos rfl]
  refine ⟨plain_encP, plain_encP, false, rfl, ?_⟩
  rw [if_neg (by decide)]
  exact hK _ (H1.app r2)
def isInn : Dd → Bool
  | .inn => true
  | _ => false
theorem order_eq : [D.int (-1)] ++ ((List.range ds.length).filter fun k => isInn (ddOf ds k)).map iN = orderL ds := by
  have : ∀ k, k ≤ ds.length → (List.range (nsc (ddOf ds) k)).map (fun s => D.int (J (ddOf ds) ds.length s)) = [D.int (-1)] ++ ((List.range k).filter fun k => isInn (ddOf ds k)).map iN := by
    intro k
    induction k with
    | zero => intro _; show [D.int (J (ddOf ds) ds.length 0)] = _; rw [J_zero]; rfl
    | succ k ih =>
      intro hk
      have ih := ih (by omega)
      rw [List.range_succ, List.filter_append, List.map_append, ← List.append_assoc, ← ih]
      cases e : ddOf ds k with
      | put x => rw [nsc_put e]; simp [e, isInn]
      | use x => rw [nsc_use e]; simp [e, isInn]
      | out => rw [nsc_out e]; simp [e, isInn]
      | inn => rw [nsc_inn e, List.range_succ, List.map_append]; simp [e, isInn, J_inn (show k < ds.length from hk) e]
  exact (this _ (Nat.le_refl _)).symm
theorem R13_nx {im iu : Nat} (hz : ds.length ≤ 39) {x8 x9 x10 x11 x12 x13 x14 x15 x16 x17 x18 x19 x20 x21 x22 x23 : Option D}
    (hK : tR14 C CS D0 Ex (E10 b ds im iu i0 [x8, x9, x10, x11, x12, x13, x14, x15, x16, some (.lst (orderL ds)), x18, x19, x20, x21, x22, x23]) st) :
    tR13 C CS D0 Ex (E10 b ds im iu i0 [x8, x9, x10, x11, x12, x13, x14, x15, x16, x17, x18, x19, x20, x21, x22, x23]) st := by
  have hbig : 100000 < sizeLine := by decide
  unfold tR13
  simp -implicitDefEqProofs [-Bool.exists_bool, -List.lookup_eq_none_iff, -u_gtup, -u_gcons, -u_gnil, -u_par, dStart, dwipe, enum_range]
  refine comp_rule (fun k => D.tup [.int (k : Nat), encD (ddOf ds k)]) (fun k => isInn (ddOf ds k)) iN trivial _ _ (fun k hk Y N hY => ?_) (by simp; omega) ?_
  · cases e : ddOf ds k <;> rw [e] at hY <;> simp -implicitDefEqProofs [-Bool.exists_bool, -List.lookup_eq_none_iff, -u_gtup, -u_gcons, -u_gnil, -u_par, dStart, dwipe, encD] <;> exact hY
  rw [List.nil_append]
  have h1 := List.length_filter_le (fun k => isInn (ddOf ds k)) (List.range ds.length)
  rw [List.length_range] at h1
  have h2 := order_eq (ds := ds)
  rw [List.singleton_append] at h2
  rw [h2]
  exact ⟨by rw [List.length_map]; omega, hK⟩
theorem order_ix {s : Nat} (hs : s < nsc (ddOf ds) ds.length) : (orderL ds)[s]? = some (.int (J (ddOf ds) ds.length s)) ∧ ∀ n, n < s → (orderL ds)[n]? ≠ some (.int (J (ddOf ds) ds.length s)) := by
  unfold orderL
  refine ⟨by rw [List.getElem?_map, List.getElem?_range hs]; rfl, fun n hn e => ?_⟩
  rw [List.getElem?_map, List.getElem?_range (by omega)] at e
  have := (J_inj (by omega) hs).mp (D.int.inj (Option.some.inj e))
  omega
theorem R14_nx {im iu : Nat} (H : LawSt C st b ds im iu i0) (hz : ds.length ≤ 39) {x8 x9 x10 x11 x12 x13 x14 x15 x16 x18 x19 x20 x21 x22 x23 : Option D}
    (hK : tR15 C CS D0 Ex (E10 b ds im iu i0 [x8, x9, x10, x11, x12, x13, x14, x15, x16, some (.lst (orderL ds)), x18, x19, x20, x21, x22, x23]) st) :
    tR14 C CS D0 Ex (E10 b ds im iu i0 [x8, x9, x10, x11, x12, x13, x14, x15, x16, some (.lst (orderL ds)), x18, x19, x20, x21, x22, x23]) st := by
  have hbig : 100000 < sizeLine := by decide
  unfold tR14
  simp -implicitDefEqProofs [-Bool.exists_bool, -List.lookup_eq_none_iff, -u_gtup, -u_gcons, -u_gnil, -u_par, dStart, dwipe]
  refine ⟨by omega, ?_⟩
  rw [rng0]
  refine comp_rule iN (fun _ => true) (fun k => iN (cur (ddOf ds) k)) trivial _ _ (fun k hk Y N hY => ?_) (by simp; omega) ?_
  · have hk := List.mem_range.mp hk
    simp -implicitDefEqProofs [-Bool.exists_bool, -List.lookup_eq_none_iff, -u_gtup, -u_gcons, -u_gnil, -u_par, dStart, dwipe, H.h.ins]
    exact F_scope_at_ok H.h hk hY
  rw [List.nil_append, List.filter_eq_self.mpr (fun _ _ => rfl)]
  refine comp_rule (chainD ds) (fun _ => true) (fun k => iN (cur (ddOf ds) k)) trivial _ _ (fun k hk Y N hY => ?_) (by simp; omega) ?_
  · have hk := List.mem_range.mp hk
    obtain ⟨l, e1, e2⟩ := chain_m1 (ds := ds) (Nat.le_of_lt hk)
    have hcu := cur_lt' (dd := ddOf ds) (n := ds.length) (Nat.le_of_lt hk)
    rw [u_gname, u_yes, if_pos rfl]
    refine ⟨_, rfl, ⟨_, rfl⟩, ?_⟩
    simp -implicitDefEqProofs [-Bool.exists_bool, -List.lookup_eq_none_iff, -u_gtup, -u_gcons, -u_gnil, -u_par, dStart, dwipe, e1, e2]
    refine ⟨fun d hd => ?_, _, (order_ix hcu).1, (order_ix hcu).2, hY⟩
    unfold orderL at hd
    obtain ⟨s, _, rfl⟩ := List.mem_map.mp hd
    rfl
  rw [List.nil_append, List.filter_eq_self.mpr (fun _ _ => rfl)]
  have e : ((List.range ds.length).map fun k => iN (cur (ddOf ds) k)) = ((List.range ds.length).map (cur (ddOf ds))).map iN := by rw [List.map_map]; rfl
  rw [e]
  refine ⟨plainL_iN _, plainL_iN _, false, by rw [cb_pos rfl]; rfl, ?_⟩
  rw [if_neg (by decide)]
  exact hK
theorem R15_nx {im iu : Nat} (H : LawSt C st b ds im iu i0) (hz : ds.length ≤ 39) (hn : ∀ d ∈ ds, NmD d) (hab : ∀ d ∈ ds, hasNm d = true → nm d ∈ abc) {x8 x9 x10 x11 x12 x13 x14 x15 x16 x17 x18 x19 x20 x21 x22 x23 : Option D}
    (hK : ∀ x10 x13 x18 x23 st, LawSt C st b ds im iu i0 → tR16 C CS D0 Ex (E10 b ds im iu i0 [x8, x9, x10, x11, x12, x13, x14, x15, x16, x17, x18, x19, x20, x21, x22, x23]) st) :
    tR15 C CS D0 Ex (E10 b ds im iu i0 [x8, x9, x10, x11, x12, x13, x14, x15, x16, x17, x18, x19, x20, x21, x22, x23]) st := by
  have hbig : 100000 < sizeLine := by decide
  unfold tR15
  simp -implicitDefEqProofs [-Bool.exists_bool, -List.lookup_eq_none_iff, -u_gtup, -u_gcons, -u_gnil, -u_par, dStart, dwipe]
  refine ⟨by omega, ?_⟩
  rw [rng0]
  refine loop_range iN (fun k env st' => LawSt C st' b ds im iu i0 ∧ ∃ x10 x13 x18 x23, env = E10 b ds im iu i0 [x8, x9, x10, x11, x12, x13, x14, x15, x16, x17, x18, x19, x20, x21, x22, x23]) ?_ ?_ ⟨H, _, _, _, _, rfl⟩
  · rintro k env st' K hk ⟨H, x10, x13, x18, x23, rfl⟩ hK2
    refine ⟨trivial, ?_⟩
    have e3 : [D.str "a", .str "b", .str "c"] = abc.map D.str := rfl
    simp -implicitDefEqProofs [-Bool.exists_bool, -List.lookup_eq_none_iff, -u_gtup, -u_gcons, -u_gnil, -u_par, dStart, dwipe]
    rw [e3]
    refine comp_rule D.str (fun _ => true) (fun x => D.tup [.str x, optD (meantAt (ddOf ds) ds.length k x)]) trivial _ _ (fun x hx Y N hY => ?_) (by decide) ?_
    · simp -implicitDefEqProofs [-Bool.exists_bool, -List.lookup_eq_none_iff, -u_gtup, -u_gcons, -u_gnil, -u_par, dStart, dwipe]
      exact F_meant_law hn (by omega) hk (abc_ok hx).1 hY
    rw [List.nil_append, List.filter_eq_self.mpr (fun _ _ => rfl)]
    refine ⟨_, H.h.ins, lk_seen_at, ?_⟩
    refine F_seen_at_ok (nms := abc) H.h hk (fun q hq => ?_) abc_nd abc_sort abc_64 fun i r hi => ?_
    · obtain ⟨hql, y, ey⟩ := mem_pL.mp hq
      exact abc_nm hab hql (by rw [ey]; rfl)
    have H2 := H.app r
    refine ⟨_, _, rfl, hi, ?_⟩
    have hpx : ∀ l : List (Nat × Str), True := fun _ => trivial
    refine comp_rule (fun x => D.tup [.str x, optD (meantAt (ddOf ds) ds.length k x)]) (fun x => (meantAt (ddOf ds) ds.length k x).isSome) (fun x => D.tup [.str x, optD (meantAt (ddOf ds) ds.length k x)]) trivial _ _ (fun x hx Y N hY => ?_) (by decide) ?_
    · simp -implicitDefEqProofs [-Bool.exists_bool, -List.lookup_eq_none_iff, -u_gtup, -u_gcons, -u_gnil, -u_par, dStart, dwipe]
      cases e : meantAt (ddOf ds) ds.length k x with
      | none =>
        rw [e] at hY
        exact ⟨rfl, by simp [optD], false, rfl, hY⟩
      | some p =>
        rw [e] at hY
        exact ⟨rfl, by simp [optD], true, rfl, hY⟩
    · rw [List.nil_append]
      have e : (seenE ds abc k).map (fun p => D.tup [keyD p.1, p.2]) = ((abc.filter fun x => (meantAt (ddOf ds) ds.length k x).isSome).map fun x => D.tup [.str x, optD (meantAt (ddOf ds) ds.length k x)]) := by
        unfold seenE
        generalize abc = L
        induction L with
        | nil => rfl
        | cons x l ih =>
          cases e : meantAt (ddOf ds) ds.length k x with
          | none => rw [List.filter_cons_of_neg (by simp [e]), List.filterMap_cons_none (by rw [e]; rfl), ih]
          | some p => rw [List.filter_cons_of_pos (by simp [e]), List.filterMap_cons_some (b := (.inr x, iN p)) (by rw [e]; rfl), List.map_cons, List.map_cons, ih, e]; rfl
      have hpl : plainL 49 ((abc.filter fun x => (meantAt (ddOf ds) ds.length k x).isSome).map fun x => D.tup [.str x, optD (meantAt (ddOf ds) ds.length k x)]) = true := plainL_all fun d hd => by
        obtain ⟨x, hx, rfl⟩ := List.mem_map.mp hd
        have hx := (abc_ok (List.mem_filter.mp hx).1).1
        cases meantAt (ddOf ds) ds.length k x <;> simp [plainD, plainL, optD, hx]
      rw [e]
      show fEqB true _ _ _ _
      rw [u_eqLL, cb_pos rfl]
      refine ⟨hpl, hpl, false, rfl, ?_⟩
      rw [if_neg (by decide)]
      exact hK2 _ _ ⟨H2, _, _, _, _, rfl⟩
  · rintro env st' ⟨H, x10, x13, x18, x23, rfl⟩
    exact ⟨trivial, hK _ _ _ _ _ H⟩
theorem R16_nx {im iu : Nat} (H : LawSt C st b ds im iu i0) (hz : ds.length ≤ 39) (hn : ∀ d ∈ ds, NmD d) (hab : ∀ d ∈ ds, hasNm d = true → nm d ∈ abc) {x8 x9 x10 x11 x12 x13 x14 x15 x16 x18 x19 x20 x21 x22 x23 : Option D}
    (hK : ∀ st, D0.nx (E10 b ds im iu i0 [x8, x9, x10, x11, x12, x13, x14, x15, x16, some (.lst (orderL ds)), x18, x19, x20, x21, x22, x23]) st) :
    tR16 C CS D0 Ex (E10 b ds im iu i0 [x8, x9, x10, x11, x12, x13, x14, x15, x16, some (.lst (orderL ds)), x18, x19, x20, x21, x22, x23]) st := by
  unfold tR16
  simp -implicitDefEqProofs [-Bool.exists_bool, -List.lookup_eq_none_iff, -u_gtup, -u_gcons, -u_gnil, -u_par, dStart, dwipe]
  refine F_told_on_ok H hab hz hn fun st' => ?_
  simp -implicitDefEqProofs [-Bool.exists_bool, -List.lookup_eq_none_iff, -u_gtup, -u_gcons, -u_gnil, -u_par, dStart, dwipe]
  exact hK _
theorem rounds_nx {ns : List Int} (hPl : ∀ st, F_law_plain C CS [] st P Ex) : F_law C CS ns [.fn 0] st P Ex := by
  unfold F_law
  show fdOf 24 1 (t_law C CS ns) [.fn 0] st P Ex
  rw [t_law_eq]
  simp -implicitDefEqProofs [-Bool.exists_bool, -List.lookup_eq_none_iff, -u_gtup, -u_gcons, -u_gnil, -u_par, dStart, dwipe]
  refine F_rounds_ok fun a c f => ?_
  simp -implicitDefEqProofs [-Bool.exists_bool, -List.lookup_eq_none_iff, -u_gtup, -u_gcons, -u_gnil, -u_par, dStart, dwipe, dLoop]
  have hd : (st ++ [dc3 a c f])[st.length]? = some (dc3 a c f) := by simp
  unfold tR0
  simp -implicitDefEqProofs [-Bool.exists_bool, -List.lookup_eq_none_iff, -u_gtup, -u_gcons, -u_gnil, -u_par, dStart, dwipe]
  refine F_drawn_ok hd fun ds a' c' f' hz hab => ?_
  have hd2 := dc3_set (a' := a') (c' := c') (f' := f') hd
  refine R3_nx ⟨_, _, _, hd2⟩ (fun b ds st H => ?_) hab hz
  refine R4_nx H fun im iu st H2 => ?_
  refine R6_nx H2 H.z ?_
  refine R7_nx H2 H.z ?_
  refine R8_nx H2 H.z ?_
  refine R9_nx ?_
  refine R10_nx H2 H.z H.nm fun x10 x11 x12 => ?_
  refine R11_nx H2 H.z H.nm fun x10 x13 x14 x15 x16 x20 => ?_
  refine R12_nx H2 fun st H3 => ?_
  refine R13_nx H.z ?_
  refine R14_nx H3 H.z ?_
  refine R15_nx H3 H.z H.nm H.ab fun x10 x13 x18 x23 st H4 => ?_
  refine R16_nx H4 H.z H.nm H.ab fun st => ?_
  exact hPl _
end
end FL
/-! MY: the law's plain half: what is refused. -/
namespace FL
open PySem PySem.Spec PyProof.Rows L2
def ds0 : List Dd := [.put "a", .inn, .use "a", .put "a", .use "a", .use "b", .out, .use "a", .put "b"]
section
variable {C CS : Addr} {st : SD} {b : Ob} {P : DP} {Ex : DX} {env : DV}
theorem ds0_v : Valid (ddOf ds0) ds0.length := by decide +kernel
theorem ds0_ab : ∀ d ∈ ds0, hasNm d = true → nm d ∈ abc := by decide +kernel
theorem ds0_n : ∀ d ∈ ds0, NmD d := fun d h => nmd_abc (ds0_ab d h)
theorem ds0_split : Txt.split "+a { a +a a b } a +b" " " = ds0.map wd := by decide +kernel
theorem make_bad {ds : List Dd} {t : TD} (ht : ∀ Q : DP, Q (.tup (ds.map encD)) st → t env st Q Ex) (hn : ∀ d ∈ ds, hasNm d = true → nm d ∈ abc) (hz : ds.length ≤ 1000) (hv : ¬ Valid (ddOf ds) ds.length) (hE : ∀ r, Ex CS (st ++ r)) :
    (dPub (dMake C (F_init C CS) (dCons t dNil))) env st P Ex := by
  simp -implicitDefEqProofs [-Bool.exists_bool, -List.lookup_eq_none_iff, -u_gtup, -u_gcons, -u_gnil, -u_par, dStart, dwipe, dPub, dMake]
  refine ht _ ?_
  exact F_make_ok (.inr (.inl rfl)) (fun d h => nmd_abc (hn d h)) hz (fun z => (hv z).elim) fun _ r => hE r
theorem bad4 (hE : ∀ r, Ex CS (st ++ r)) : (dPub (dMake C (F_init C CS) (dCons (dTupS (dCons (dTupS (dCons (dC (.str "out")) dNil)) dNil)) dNil))) env st P Ex :=
  make_bad (ds := [.out]) (fun Q q => by simp -implicitDefEqProofs [-Bool.exists_bool, -List.lookup_eq_none_iff, -u_gtup, -u_gcons, -u_gnil, -u_par, dStart, dwipe]; exact q) (by decide +kernel) (by decide) (by decide +kernel) hE
theorem bad5 (hE : ∀ r, Ex CS (st ++ r)) : (dPub (dMake C (F_init C CS) (dCons (dTupS (dCons (dTupS (dCons (dC (.str "in")) dNil)) dNil)) dNil))) env st P Ex :=
  make_bad (ds := [.inn]) (fun Q q => by simp -implicitDefEqProofs [-Bool.exists_bool, -List.lookup_eq_none_iff, -u_gtup, -u_gcons, -u_gnil, -u_par, dStart, dwipe]; exact q) (by decide +kernel) (by decide) (by decide +kernel) hE
theorem bad6 (hE : ∀ r, Ex CS (st ++ r)) : (dPub (dMake C (F_init C CS) (dCons (dTupS (dCons (dTupS (dCons (dC (.str "put")) (dCons (dC (.str "a")) dNil))) (dCons (dTupS (dCons (dC (.str "put")) (dCons (dC (.str "a")) dNil))) dNil))) dNil))) env st P Ex :=
  make_bad (ds := [.put "a", .put "a"]) (fun Q q => by simp -implicitDefEqProofs [-Bool.exists_bool, -List.lookup_eq_none_iff, -u_gtup, -u_gcons, -u_gnil, -u_par, dStart, dwipe]; exact q) (by decide +kernel) (by decide) (by decide +kernel) hE
theorem bad7 (hE : ∀ r, Ex CS (st ++ r)) : (dPub (dMake C (F_init C CS) (dCons (dOp fAdd (dOp fRepT (dTupS (dCons (dTupS (dCons (dC (.str "in")) dNil)) dNil)) (dC (.int 13))) (dOp fRepT (dTupS (dCons (dTupS (dCons (dC (.str "out")) dNil)) dNil)) (dC (.int 13)))) dNil))) env st P Ex := by
  refine make_bad (ds := List.replicate 13 .inn ++ List.replicate 13 .out) (fun Q q => ?_) (by decide +kernel) (by decide) (by decide +kernel) hE
  simp -implicitDefEqProofs [-Bool.exists_bool, -List.lookup_eq_none_iff, -u_gtup, -u_gcons, -u_gnil, -u_par, dStart, dwipe, fRepT]
  exact ⟨by decide, q⟩
theorem chk0 {v : D} (hE : Ex CS st) : F_check_deed C CS [v, .tup [.str "odd"]] st P Ex := by
  unfold F_check_deed t_check_deed
  simp -implicitDefEqProofs [-Bool.exists_bool, -List.lookup_eq_none_iff, -u_gtup, -u_gcons, -u_gnil, -u_par, dStart, dwipe, u_inB, atomD]
  exact ⟨true, by rw [cb_neg (by decide +kernel)]; rfl, hE⟩
theorem chk1 {v : D} (hE : Ex CS st) : F_check_deed C CS [v, .tup [.str "put"]] st P Ex := by
  unfold F_check_deed t_check_deed
  simp -implicitDefEqProofs [-Bool.exists_bool, -List.lookup_eq_none_iff, -u_gtup, -u_gcons, -u_gnil, -u_par, dStart, dwipe, u_inB, atomD]
  exact hE
theorem chk2 {v : D} (hE : Ex CS st) : F_check_deed C CS [v, .tup [.str "put", .str ""]] st P Ex := by
  unfold F_check_deed t_check_deed
  simp -implicitDefEqProofs [-Bool.exists_bool, -List.lookup_eq_none_iff, -u_gtup, -u_gcons, -u_gnil, -u_par, dStart, dwipe, u_inB, atomD]
  exact hE
theorem chk3 {v : D} (hE : Ex CS st) : F_check_deed C CS [v, .tup [.str "in", .str "a"]] st P Ex := by
  unfold F_check_deed t_check_deed
  simp -implicitDefEqProofs [-Bool.exists_bool, -List.lookup_eq_none_iff, -u_gtup, -u_gcons, -u_gnil, -u_par, dStart, dwipe, u_inB, atomD]
  exact hE
theorem bad0 (hE : ∀ r, Ex CS (st ++ r)) : (dPub (dMake C (F_init C CS) (dCons (dTupS (dCons (dTupS (dCons (dC (.str "odd")) dNil)) dNil)) dNil))) env st P Ex := by
  simp -implicitDefEqProofs [-Bool.exists_bool, -List.lookup_eq_none_iff, -u_gtup, -u_gcons, -u_gnil, -u_par, dStart, dwipe, dPub, dMake]
  unfold F_init t_init
  simp -implicitDefEqProofs [-Bool.exists_bool, -List.lookup_eq_none_iff, -u_gtup, -u_gcons, -u_gnil, -u_par, dStart, dwipe, fTuple, dComp]
  simp -implicitDefEqProofs [-Bool.exists_bool, -List.lookup_eq_none_iff, -u_gtup, -u_gcons, -u_gnil, -u_par, dStart, dwipe, get_off, get_off0, set_off, set_off0, Nat.add_assoc, enumD, dLoop]
  exact ⟨by decide, rfl, chk0 (hE _)⟩
theorem bad1 (hE : ∀ r, Ex CS (st ++ r)) : (dPub (dMake C (F_init C CS) (dCons (dTupS (dCons (dTupS (dCons (dC (.str "put")) dNil)) dNil)) dNil))) env st P Ex := by
  simp -implicitDefEqProofs [-Bool.exists_bool, -List.lookup_eq_none_iff, -u_gtup, -u_gcons, -u_gnil, -u_par, dStart, dwipe, dPub, dMake]
  unfold F_init t_init
  simp -implicitDefEqProofs [-Bool.exists_bool, -List.lookup_eq_none_iff, -u_gtup, -u_gcons, -u_gnil, -u_par, dStart, dwipe, fTuple, dComp]
  simp -implicitDefEqProofs [-Bool.exists_bool, -List.lookup_eq_none_iff, -u_gtup, -u_gcons, -u_gnil, -u_par, dStart, dwipe, get_off, get_off0, set_off, set_off0, Nat.add_assoc, enumD, dLoop]
  exact ⟨by decide, rfl, chk1 (hE _)⟩
theorem bad2 (hE : ∀ r, Ex CS (st ++ r)) : (dPub (dMake C (F_init C CS) (dCons (dTupS (dCons (dTupS (dCons (dC (.str "put")) (dCons (dC (.str "")) dNil))) dNil)) dNil))) env st P Ex := by
  simp -implicitDefEqProofs [-Bool.exists_bool, -List.lookup_eq_none_iff, -u_gtup, -u_gcons, -u_gnil, -u_par, dStart, dwipe, dPub, dMake]
  unfold F_init t_init
  simp -implicitDefEqProofs [-Bool.exists_bool, -List.lookup_eq_none_iff, -u_gtup, -u_gcons, -u_gnil, -u_par, dStart, dwipe, fTuple, dComp]
  simp -implicitDefEqProofs [-Bool.exists_bool, -List.lookup_eq_none_iff, -u_gtup, -u_gcons, -u_gnil, -u_par, dStart, dwipe, get_off, get_off0, set_off, set_off0, Nat.add_assoc, enumD, dLoop]
  exact ⟨by decide, rfl, chk2 (hE _)⟩
end
end FL
/-! MYb: .. the fourth of them. -/
namespace FL
open PySem PySem.Spec PyProof.Rows L2
section
variable {C CS : Addr} {st : SD} {b : Ob} {P : DP} {Ex : DX} {env : DV}
theorem bad3 (hE : ∀ r, Ex CS (st ++ r)) : (dPub (dMake C (F_init C CS) (dCons (dTupS (dCons (dTupS (dCons (dC (.str "in")) (dCons (dC (.str "a")) dNil))) (dCons (dTupS (dCons (dC (.str "out")) dNil)) dNil))) dNil))) env st P Ex := by
  simp -implicitDefEqProofs [-Bool.exists_bool, -List.lookup_eq_none_iff, -u_gtup, -u_gcons, -u_gnil, -u_par, dStart, dwipe, dPub, dMake]
  unfold F_init t_init
  simp -implicitDefEqProofs [-Bool.exists_bool, -List.lookup_eq_none_iff, -u_gtup, -u_gcons, -u_gnil, -u_par, dStart, dwipe, fTuple, dComp]
  simp -implicitDefEqProofs [-Bool.exists_bool, -List.lookup_eq_none_iff, -u_gtup, -u_gcons, -u_gnil, -u_par, dStart, dwipe, get_off, get_off0, set_off, set_off0, Nat.add_assoc, enumD, dLoop]
  refine ⟨by decide, by decide, by decide, ?_⟩
  show dLoop _ _ _ _ _ [D.tup [.int 0, .tup [.str "in", .str "a"]], .tup [.int 1, .tup [.str "out"]]] _ _
  refine ⟨trivial, ?_⟩
  show dgTup _ _ _ _ _ fun env1 st1 => dSeq (dDrop (dMeth C "check_deed" (F_check_deed C CS) (dVar 0) (dCons (dVar 6) dNil))) _ _ _ _ _
  rw [v_gtup]
  refine ⟨rfl, ?_⟩
  rw [v_gcons, u_gname, v_gcons, u_gname, v_gnil]
  refine ⟨_, rfl, _, _, rfl, get_off0, rfl, _, rfl, ?_⟩
  exact chk3 (hE _)
end
end FL
/-! MZ: the law's plain half. -/
namespace FL
open PySem PySem.Spec PyProof.Rows L2
section
variable {C CS : Addr} {st : SD} {b : Ob} {P : DP} {Ex : DX} {env : DV}
theorem bads (h : ScAt C st b ds0) {x1 x2 : Option D} {fin : SD → Prop} (hf : ∀ st, ScAt C st b ds0 → fin st) :
    dBadT (fun _ => True) (ts_law_plain C CS) CS "ScopeError" [some (.ref b.j), x1, x2] fin [.fn 0, .fn 1, .fn 2, .fn 3, .fn 4, .fn 5, .fn 6, .fn 7, .fn 8, .fn 9, .fn 10, .fn 11, .fn 12, .fn 13, .fn 14, .fn 15] st := by
  refine ⟨trivial, 0, _, rfl, rfl, bad0 fun r => ⟨rfl, rfl, ?_⟩⟩
  replace h := h.app r; revert h; generalize st ++ r = st; intro h
  refine ⟨trivial, 1, _, rfl, rfl, bad1 fun r => ⟨rfl, rfl, ?_⟩⟩
  replace h := h.app r; revert h; generalize st ++ r = st; intro h
  refine ⟨trivial, 2, _, rfl, rfl, bad2 fun r => ⟨rfl, rfl, ?_⟩⟩
  replace h := h.app r; revert h; generalize st ++ r = st; intro h
  refine ⟨trivial, 3, _, rfl, rfl, bad3 fun r => ⟨rfl, rfl, ?_⟩⟩
  replace h := h.app r; revert h; generalize st ++ r = st; intro h
  refine ⟨trivial, 4, _, rfl, rfl, bad4 fun r => ⟨rfl, rfl, ?_⟩⟩
  replace h := h.app r; revert h; generalize st ++ r = st; intro h
  refine ⟨trivial, 5, _, rfl, rfl, bad5 fun r => ⟨rfl, rfl, ?_⟩⟩
  replace h := h.app r; revert h; generalize st ++ r = st; intro h
  refine ⟨trivial, 6, _, rfl, rfl, bad6 fun r => ⟨rfl, rfl, ?_⟩⟩
  replace h := h.app r; revert h; generalize st ++ r = st; intro h
  refine ⟨trivial, 7, _, rfl, rfl, bad7 fun r => ⟨rfl, rfl, ?_⟩⟩
  replace h := h.app r; revert h; generalize st ++ r = st; intro h
  refine ⟨trivial, 8, _, rfl, rfl, ?_⟩
  simp -implicitDefEqProofs [-Bool.exists_bool, -List.lookup_eq_none_iff, -u_gtup, -u_gcons, -u_gnil, -u_par, dStart, dwipe, h.ins]
  refine F_uses_of_err (p := 1) h (by decide +kernel) ⟨rfl, ?_⟩
  refine ⟨trivial, 9, _, rfl, rfl, ?_⟩
  simp -implicitDefEqProofs [-Bool.exists_bool, -List.lookup_eq_none_iff, -u_gtup, -u_gcons, -u_gnil, -u_par, dStart, dwipe, h.ins]
  refine F_scope_at_err h (by decide +kernel) ⟨rfl, ?_⟩
  refine ⟨trivial, 10, _, rfl, rfl, ?_⟩
  simp -implicitDefEqProofs [-Bool.exists_bool, -List.lookup_eq_none_iff, -u_gtup, -u_gcons, -u_gnil, -u_par, dStart, dwipe, h.ins]
  have hseen : ∀ {P : DP} {Ex : DX}, Ex CS st → F_seen_at C CS [.ref b.j, .int (-1)] st P Ex := fun {P Ex} hE => by
    unfold F_seen_at t_seen_at
    simp -implicitDefEqProofs [-Bool.exists_bool, -List.lookup_eq_none_iff, -u_gtup, -u_gcons, -u_gnil, -u_par, dStart, dwipe, h.ins]
    exact F_scope_at_err h (by decide +kernel) hE
  refine hseen ⟨rfl, ?_⟩
  refine ⟨trivial, 11, _, rfl, rfl, ?_⟩
  simp -implicitDefEqProofs [-Bool.exists_bool, -List.lookup_eq_none_iff, -u_gtup, -u_gcons, -u_gnil, -u_par, dStart, dwipe, h.ins]
  refine F_taken_in_err h (by decide +kernel) ⟨rfl, ?_⟩
  refine ⟨trivial, 12, _, rfl, rfl, ?_⟩
  simp -implicitDefEqProofs [-Bool.exists_bool, -List.lookup_eq_none_iff, -u_gtup, -u_gcons, -u_gnil, -u_par, dStart, dwipe, h.ins]
  refine F_may_err1 (p := 1) h (by decide +kernel) ⟨rfl, ?_⟩
  refine ⟨trivial, 13, _, rfl, rfl, ?_⟩
  simp -implicitDefEqProofs [-Bool.exists_bool, -List.lookup_eq_none_iff, -u_gtup, -u_gcons, -u_gnil, -u_par, dStart, dwipe, h.ins]
  refine F_may_err2 (p := 0) h (by decide +kernel) ⟨rfl, ?_⟩
  refine ⟨trivial, 14, _, rfl, rfl, ?_⟩
  simp -implicitDefEqProofs [-Bool.exists_bool, -List.lookup_eq_none_iff, -u_gtup, -u_gcons, -u_gnil, -u_par, dStart, dwipe]
  refine F_deeds_err2 fun r => ⟨rfl, ?_⟩
  replace h := h.app r; revert h; generalize st ++ r = st; intro h
  refine ⟨trivial, 15, _, rfl, rfl, ?_⟩
  simp -implicitDefEqProofs [-Bool.exists_bool, -List.lookup_eq_none_iff, -u_gtup, -u_gcons, -u_gnil, -u_par, dStart, dwipe]
  refine F_deeds_err1 fun r => ⟨rfl, ?_⟩
  exact ⟨trivial, hf _ (h.app r)⟩
end
end FL
/-! NA: _law_plain, law. -/
namespace FL
open PySem PySem.Spec PyProof.Rows L2
section
variable {C CS : Addr} {st : SD} {b : Ob} {P : DP} {Ex : DX} {env : DV}
theorem z_mL : mL ds0 = [(2, 0), (4, 3), (7, 0)] := by decide +kernel
theorem z_lost : lostL (ddOf ds0) ds0.length ds0.length = [5] := by decide +kernel
theorem z_unused : unusedOf ds0 = [8] := by decide +kernel
theorem z_shad : shadL ds0 (pL ds0) = [(0, 3)] := by decide +kernel
theorem z_late : lateL ds0 ds0.length = [(2, 3), (5, 8)] := by decide +kernel
theorem z_pL : pL ds0 = [0, 3, 8] := by decide +kernel
theorem z_own : (pL ds0).map (cur (ddOf ds0)) = [0, 1, 0] := by decide +kernel
theorem z_m4a : meantAt (ddOf ds0) ds0.length 4 "a" = some 3 := by decide +kernel
theorem z_m4b : meantAt (ddOf ds0) ds0.length 4 "b" = none := by decide +kernel
theorem z_m4c : meantAt (ddOf ds0) ds0.length 4 "c" = none := by decide +kernel
theorem z_A1 : A (ddOf ds0) ds0.length 1 = [1, 0] := by decide +kernel
theorem z_A0 : A (ddOf ds0) ds0.length 0 = [0] := by decide +kernel
theorem z_puts : putsB (ddOf ds0) 0 "a" ds0.length = [0] := by decide +kernel
theorem z_nsc : nsc (ddOf ds0) ds0.length = 2 := by decide +kernel
instance {ds : List Dd} {p : Nat} {x : Str} : Decidable (RenOk ds p x) := inferInstanceAs (Decidable (_ ∧ _))
theorem z_ren1 : RenOk ds0 3 "c" := by decide +kernel
theorem z_ren2 : ¬ RenOk ds0 0 "b" := by decide +kernel
theorem z_meantE : meantE ds0 = [(.inl 2, .int 0), (.inl 4, .int 3), (.inl 7, .int 0)] := by unfold meantE; rw [z_mL]; rfl
theorem z_lostE : lostE ds0 = [.int 5] := by unfold lostE; rw [z_lost]; rfl
theorem z_seen : seenE ds0 abc 4 = [(.inr "a", .int 3)] := by
  unfold seenE abc
  rw [List.filterMap_cons_some (b := (.inr "a", iN 3)) (by rw [z_m4a]; rfl), List.filterMap_cons_none (by rw [z_m4b]; rfl), List.filterMap_cons_none (by rw [z_m4c]; rfl)]
  rfl
theorem z_taken : (abc.filter fun x => decide (takenS ds0 1 (mL ds0) x)) = [("a" : Str)] := by decide +kernel
theorem z_frk : frk ds0 3 = "a_2" := by decide +kernel
theorem z_own3 : atI ((List.range ds0.length).map (ownD ds0)) 3 = some (.tup [.str "put", .str "a_2"]) := by
  rw [← z_frk]
  exact at_nat (k := 3) rfl
theorem z_step : atI ((List.range ds0.length).map (stepD ds0)) 2 = some (.tup [.str "use", .int 1, .int 0]) := by
  have e : ddOf ds0 2 = .use "a" := rfl
  have m : meantAt (ddOf ds0) ds0.length 2 "a" = some 0 := by decide +kernel
  have a1 : (A (ddOf ds0) ds0.length (cur (ddOf ds0) 2)).idxOf (cur (ddOf ds0) 0) = 1 := by decide +kernel
  have a2 : (putsIn ds0 (cur (ddOf ds0) 0)).idxOf 0 = 0 := by decide +kernel
  have h : stepD ds0 2 = .tup [.str "use", .int 1, .int 0] := by
    unfold stepD
    rw [e]
    show (match meantAt (ddOf ds0) ds0.length 2 "a" with
      | some p => D.tup [.str "use", .int ((A (ddOf ds0) ds0.length (cur (ddOf ds0) 2)).idxOf (cur (ddOf ds0) p) : Nat), .int ((putsIn ds0 (cur (ddOf ds0) p)).idxOf p : Nat)]
      | none => encD (.use "a")) = _
    rw [m]
    show D.tup [.str "use", .int ((A (ddOf ds0) ds0.length (cur (ddOf ds0) 2)).idxOf (cur (ddOf ds0) 0) : Nat), .int ((putsIn ds0 (cur (ddOf ds0) 0)).idxOf 0 : Nat)] = _
    rw [a1, a2]; rfl
  rw [← h]
  exact at_nat (k := 2) rfl
theorem dct_at2 {i : Nat} {l : List (Key × D)} (h : st[i]? = some (.dct l)) : dctD st i = some l := by unfold dctD; rw [h]
theorem fEq_tt {a b : List D} (h1 : plainL 49 a = true) (h2 : a = b) (hP : P (.bl true) st) : fEq st (.tup a) (.tup b) P := by
  show fEqB false _ _ _ _
  rw [u_eqTT, cb_pos h2]
  exact ⟨h1, h2 ▸ h1, hP⟩
theorem fEq_ll {a b : List D} (h1 : plainL 49 a = true) (h2 : a = b) (hP : P (.bl true) st) : fEq st (.lst a) (.lst b) P := by
  show fEqB false _ _ _ _
  rw [u_eqLL, cb_pos h2]
  exact ⟨h1, h2 ▸ h1, hP⟩
theorem z_ownE : ownE ds0 = [(.inl 0, .int 0), (.inl 3, .int 1), (.inl 8, .int 0)] := by
  have e : (pL ds0).map (fun k => (k, cur (ddOf ds0) k)) = [(0, 0), (3, 1), (8, 0)] := by decide +kernel
  have : ownE ds0 = ((pL ds0).map (fun k => (k, cur (ddOf ds0) k))).map fun q : Nat × Nat => ((.inl (q.1 : Int), iN q.2) : Key × D) := by
    unfold ownE; rw [List.map_map]; rfl
  rw [this, e]; rfl
theorem u_lam {k : Nat} : dLam k env st P Ex = P (.fn k) st := rfl
theorem F_plain_ok (hP : P (.bl true) st) : F_law_plain C CS [] st P Ex := by
  unfold F_law_plain t_law_plain fdOwn
  refine ⟨rfl, ?_⟩
  simp -implicitDefEqProofs [-Bool.exists_bool, -List.lookup_eq_none_iff, -u_gtup, -u_gcons, -u_gnil, -u_par, dStart, dwipe, dPub, dMake, u_lam]
  refine F_deeds_ok (ds := ds0) ds0_split ds0_ab (by decide) (by decide +kernel) fun r => ?_
  refine F_make_ok (.inr (.inl rfl)) ds0_n (by decide) (fun _ r2 hs => ?_) (fun z => (z ds0_v).elim)
  generalize hb : bOf _ = b at hs
  have hj : b.j = ([] ++ r).length := by rw [← hb]; rfl
  rw [← hj]
  revert hs
  generalize ([] ++ r) ++ r2 = s1
  intro hs
  refine ⟨show 2 < 3 by decide, _, rfl, bads hs fun s1 hs => ?_⟩
  show fEqB true _ _ _ _
  rw [u_eqLL, cb_pos rfl]
  refine ⟨rfl, rfl, false, rfl, ?_⟩
  rw [if_neg (by decide)]
  refine ⟨by decide +kernel, ?_⟩
  refine ⟨_, hs.ins, _, lk_meant, _, hs.ins, _, lk_lost, _, hs.ins, lk_unused, ?_⟩
  refine F_unused_ok hs ?_
  simp -implicitDefEqProofs [-Bool.exists_bool, -List.lookup_eq_none_iff, -u_gtup, -u_gcons, -u_gnil, -u_par, dStart, dwipe, dDisp, dPairs, keysP]
  have hmm : b.m ≠ s1.length := by have := (List.getElem?_eq_some_iff.mp hs.m).1; omega
  have hs2 := hs.app [DO.dct [(.inl 2, .int 0), (.inl 4, .int 3), (.inl 7, .int 0)]]
  rw [mergeKD_nodup (by decide), List.nil_append]
  refine ⟨_, _, rfl, rfl, ⟨_, _, rfl, .inr ⟨_, _, _, _, rfl, rfl, hmm, hs2.dm, new_dctD, mt_atoms, rfl, by rw [z_meantE]; exact dctEq_refl (by decide)⟩, ⟨_, _, rfl, .inl ⟨.lst (lostE ds0), flat_ref hs2.l, by rw [z_lostE]; rfl, plainLost⟩, ⟨_, _, rfl, .inl ⟨_, rfl, by rw [z_unused]; rfl, plainL_iN _⟩, rfl⟩⟩⟩, ?_⟩
  refine ⟨false, rfl, ?_⟩
  rw [if_neg (by decide)]
  revert hs2
  generalize s1 ++ [DO.dct [(Sum.inl 2, D.int 0), (.inl 4, .int 3), (.inl 7, .int 0)]] = s2
  intro hs
  refine ⟨_, hs.ins, lk_shadowed, ?_⟩
  refine F_shadowed_ok hs fun r => ?_
  replace hs := hs.app r; revert hs; generalize s2 ++ r = s1; intro hs
  rw [z_shad]
  refine fEq_tt (by decide +kernel) rfl ⟨true, rfl, ?_⟩
  rw [if_pos rfl]
  refine ⟨_, hs.ins, lk_told_late, ?_⟩
  refine F_told_late_ok hs fun r => ?_
  replace hs := hs.app r; revert hs; generalize s1 ++ r = s1; intro hs
  rw [z_late]
  refine fEq_tt (by decide +kernel) rfl ⟨true, rfl, ?_⟩
  rw [if_pos rfl]
  refine ⟨_, hs.ins, lk_seen_at, ?_⟩
  refine F_seen_at_ok (k := 4) hs (by decide) (nms := abc) (by decide +kernel) abc_nd abc_sort abc_64 fun i r hi => ?_
  replace hs := hs.app r; revert hs hi; generalize s1 ++ r = s1; intro hi hs
  refine ⟨_, _, _, _, rfl, rfl, dct_at2 (get_app hi), new_dctD, by rw [z_seen]; rfl, rfl, fun r1 hr1 => ?_⟩
  have : r1 = true := hr1.mpr (by rw [z_seen]; exact dctEq_refl (by decide +kernel))
  subst this
  refine ⟨true, rfl, ?_⟩
  rw [if_pos rfl]
  replace hs := hs.app [DO.dct (mergeKD [] [(.inr "a", .int 3)])]; revert hs; generalize s1 ++ [DO.dct (mergeKD [] [(Sum.inr "a", D.int 3)])] = s1; intro hs
  refine ⟨_, hs.ins, lk_each_its_own, ?_⟩
  refine F_own_ok hs ds0_ab (by decide) fun r => ?_
  refine ⟨_, rfl, _, z_own3, ?_⟩
  replace hs := hs.app r; revert hs; generalize s1 ++ r = s1; intro hs
  refine fEq_tt (by decide +kernel) rfl ⟨true, rfl, ?_⟩
  rw [if_pos rfl]
  refine ⟨_, hs.ins, lk_by_steps_out, ?_⟩
  refine F_by_steps_out_ok hs fun r => ?_
  refine ⟨_, rfl, _, z_step, ?_⟩
  replace hs := hs.app r; revert hs; generalize s1 ++ r = s1; intro hs
  refine fEq_tt (by decide +kernel) rfl ⟨true, rfl, ?_⟩
  rw [if_pos rfl]
  refine ⟨_, hs.ins, lk_taken_in, ?_⟩
  refine F_taken_in_ok (s := 1) (nms := abc) hs (by rw [z_nsc]; decide) (by decide +kernel) abc_nd abc_sort abc_64 fun r => ?_
  replace hs := hs.app r; revert hs; generalize s1 ++ r = s1; intro hs
  rw [z_taken]
  refine fEq_tt (by decide +kernel) rfl ⟨true, rfl, ?_⟩
  rw [if_pos rfl]
  refine ⟨_, hs.ins, lk_may_be_renamed, ?_⟩
  refine F_may_ok (p := 3) hs ds0_n (by rw [z_pL]; decide) (by decide +kernel) (by decide +kernel) fun r => ?_
  rw [cb_pos z_ren1]
  replace hs := hs.app r; revert hs; generalize s1 ++ r = s1; intro hs
  refine ⟨true, rfl, ?_⟩
  rw [if_pos rfl]
  refine ⟨_, hs.ins, lk_may_be_renamed, ?_⟩
  refine F_may_ok (p := 0) hs ds0_n (by rw [z_pL]; decide) (by decide +kernel) (by decide +kernel) fun r => ?_
  rw [cb_neg z_ren2]
  replace hs := hs.app r; revert hs; generalize s1 ++ r = s1; intro hs
  refine ⟨false, rfl, true, rfl, ?_⟩
  rw [if_pos rfl]
  refine ⟨_, hs.ins, lk_is_within, ?_⟩
  refine F_is_within_ok (s := 1) (o := 0) hs (by rw [z_nsc]; decide) ?_
  rw [z_A1]
  refine ⟨true, rfl, ?_⟩
  rw [if_pos rfl]
  refine ⟨_, hs.ins, lk_is_within, ?_⟩
  refine F_is_within_ok (s := 0) (o := 1) hs (by rw [z_nsc]; decide) ?_
  rw [z_A0]
  refine ⟨false, rfl, true, rfl, ?_⟩
  rw [if_pos rfl]
  refine ⟨_, hs.ins, lk_puts_of, ?_⟩
  refine F_puts_of_ok (s := 0) hs (by decide +kernel) ?_
  rw [z_puts]
  refine fEq_ll (by decide +kernel) rfl ⟨true, rfl, ?_⟩
  rw [if_pos rfl]
  have hs2 := hs.app [DO.dct (mergeKD [] [(.inl 0, .int 0), (.inl 3, .int 1), (.inl 8, .int 0)])]
  refine ⟨_, hs.ins, _, lk_owners, _, _, _, _, rfl, rfl, hs2.dw, new_dctD, by rw [z_ownE]; rfl, rfl, fun r1 hr1 => ?_⟩
  have : r1 = true := hr1.mpr (by rw [z_ownE, mergeKD_nodup (by decide), List.nil_append]; exact dctEq_refl (by decide))
  subst this
  refine ⟨true, rfl, ?_⟩
  rw [if_pos rfl]
  refine F_make_ok (ds := []) (.inr (.inl rfl)) (fun _ h => nomatch h) (by decide) (fun _ r h0 => ?_) (fun z => (z (by decide +kernel)).elim)
  refine ⟨_, h0.ins, lk_unused, ?_⟩
  refine F_unused_ok h0 ?_
  refine fEq_tt rfl rfl ⟨true, rfl, hP⟩
theorem F_law_ok {ns : List Int} (hP : ∀ st, P (.bl true) st) : F_law C CS ns [.fn 0] st P Ex := rounds_nx fun _ => F_plain_ok (hP _)
end
end FL
/-! NB: what the top has written, by a Hook. -/
namespace FL
open PySem PySem.Spec PyProof.Rows L2
def mth (m : Str) (q : Str) (st : Stmt) : He.DefD := ⟨("Scopes", some m), m, q, defArgs st, defBody st, defScope st, [], []⟩
def fnc (m : Str) (st : Stmt) : He.DefD := ⟨(m, none), m, m, defArgs st, defBody st, defScope st, [], []⟩
def hFn : List He.DefD := [mth "__init__" "Scopes.__init__" s_init, mth "check_deed" "Scopes.check_deed" s_check_deed, mth "put_or_use" "Scopes.put_or_use" s_put_or_use, mth "uses_of" "Scopes.uses_of" s_uses_of, mth "unused" "Scopes.unused" s_unused, mth "shadowed" "Scopes.shadowed" s_shadowed, mth "puts_of" "Scopes.puts_of" s_puts_of, mth "told_late" "Scopes.told_late" s_told_late, mth "scope_at" "Scopes.scope_at" s_scope_at, mth "seen_at" "Scopes.seen_at" s_seen_at, mth "each_its_own" "Scopes.each_its_own" s_each_its_own, mth "by_steps_out" "Scopes.by_steps_out" s_by_steps_out, mth "taken_in" "Scopes.taken_in" s_taken_in, mth "is_within" "Scopes.is_within" s_is_within, mth "may_be_renamed" "Scopes.may_be_renamed" s_may_be_renamed,
  fnc "deeds_of" s_deeds_of, fnc "_law_dice" s_law_dice, fnc "_law_roll" s_law_roll, fnc "_law_rounds" s_law_rounds, fnc "_law_told" s_law_told, fnc "_law_drawn" s_law_drawn, fnc "_law_chains" s_law_chains, fnc "_law_puts" s_law_puts, fnc "_law_meant" s_law_meant, fnc "_law_own" s_law_own, fnc "_law_plain" s_law_plain, fnc "_law_told_on" s_law_told_on, fnc "law" s_law]
def mNames : List Str := ["check_deed", "put_or_use", "uses_of", "unused", "shadowed", "puts_of", "told_late", "scope_at", "seen_at", "each_its_own", "by_steps_out", "taken_in", "is_within", "may_be_renamed"]
def gNames : List Str := ["Scopes", "ScopeError", "KINDS_OF_DEED", "deeds_of", "_law_dice", "_law_roll", "_law_rounds", "_law_told", "_law_drawn", "_law_chains", "_law_puts", "_law_meant", "_law_own", "_law_plain", "_law_told_on", "law"]
def bNames : List Str := ["len", "tuple", "list", "dict", "sorted", "enumerate", "range", "int", "abs", "max", "str"]
def fNames : List Str := ["deeds", "meant", "lost", "owners", "scopes"]
def hFa : List He.Fa := gNames.map He.Fa.glo ++ (bNames.map He.Fa.free ++ (fNames.map (He.Fa.noat "Scopes") ++ (mNames.map (He.Fa.meth "Scopes") ++ [.int "MOST_DEEP" 12, .cls "Scopes", .mkr "Scopes", .exc "ScopeError", .exm "ScopeError" "ScopeError" true])))
def hTf : List He.Defn := [("Scopes", some "__init__"), ("Scopes", some "uses_of"), ("Scopes", some "unused"), ("_law_plain", none), ("law", none)]
def hEx (K : PySem.W.Frag) : Bool := He.tupB K "KINDS_OF_DEED" [.str "put", .str "use", .str "in", .str "out"] && (He.eqO (PySem.W.findIn K (.ref (He.ga K "Scopes")) "__eq__") (some (some (.builtin "object.__eq__"))) && (decide (PySem.W.mroIn K (He.ga K "Scopes") (.type "object") = some true) && (decide (PySem.W.subIn K (.type "str") (.ref (He.ga K "Scopes")) = some false) && decide ((hTf.map fun p => (He.cT K p).2).Nodup))))
abbrev hR : PySem.W.OpenRow := PySem.W.OpenLaw.row PySem.Challenge.rw_parsestack_k12_scopes_of_names
abbrev hk : PySem.W.Hook := He.hookX 4 hFa hFn [] hTf hEx
def hOb (s : PySem.W.SharedT) : He.AlX := He.obsX 4 hFa hFn [] hTf hEx (HandSHeadRun.getT s)
theorem hOb_eq (s : PySem.W.SharedT) : hOb s = hk.obs s.abs := He.obsX_eq (HandSHeadRun.getT_eq s)
def hLoose : List PySem.Str := ["ParseFault", "ScopeError", "MOST_DEEP", "KINDS_OF_DEED", "Scopes", "deeds_of", "_law_dice", "_law_roll", "_law_rounds", "_law_told", "_law_drawn", "_law_chains", "_law_puts", "_law_meant", "_law_own", "_law_plain", "_law_told_on"]
theorem hRun (w : World) : HandSHeadRun.RunEq hR (PySem.W.view hR.prog [20]) hk hOb 4000 hLoose w := by
  intro os
  kernel_rfl
end FL
/-! NC: from the head's facts to the law's promise; the body printed by gen_end.py -/
namespace FL
open PySem PySem.Spec PyProof.Rows L2
section
variable {P : Program} {w : World} {K : PySem.W.Frag} {mg : Str → Option Value} {base h : Heap}
theorem funC_of (c : He.SaysD hFa hFn K) {d : He.DefD} (hd : d ∈ hFn) {at_ : Str × Option Str} {x qual : Str} {st : Stmt} (e : d = ⟨at_, x, qual, defArgs st, defBody st, defScope st, [], []⟩) : ∃ fd, FunC K x qual st (He.fAd K at_) fd (He.codeOf K at_) := by
  obtain ⟨fd, ⟨oc, od, dV, kV, doc, pm, an, cdv, ct, osl, e1, lk, hcd, hdf, hkw⟩, kp⟩ := c.defs hd
  subst e
  obtain ⟨c', rfl⟩ := He.codeIn_ref hcd
  have hdn : dV = .none := by
    rcases hdf with ⟨_, z⟩ | ⟨z, _⟩
    · exact z
    · exact (z rfl).elim
  subst hdn
  subst e1
  have ec := He.codeOf_eq lk rfl
  show ∃ fd, FunC K x qual st (He.fAd K at_) fd (He.codeOf K at_)
  rw [ec]
  exact ⟨_, ⟨oc, od, kV, doc, pm, an, ct, osl, rfl, lk, hcd⟩, kp⟩
def hTg_ (K : PySem.W.Frag) : List Addr := [(He.cT K ("Scopes", some "__init__")).2, (He.cT K ("Scopes", some "uses_of")).2, (He.cT K ("Scopes", some "unused")).2]
def hTl_ (K : PySem.W.Frag) : List (Addr × Str) := [((He.cT K ("_law_plain", none)).2, ("_law_plain" : Str) ++ ".<locals>." ++ "<lambda>"), ((He.cT K ("law", none)).2, ("law" : Str) ++ ".<locals>." ++ "<lambda>")]
def lawW (K : PySem.W.Frag) (ns : List Int) : Wd where
  K := K
  tg := hTg_ K
  tl := hTl_ K
  fnp := fun k v m H => scrP K ns v m H
  fnm := fun k v m m' H H' _ hz hl ⟨a, ev, hs⟩ => ⟨a, ev, by
    rcases hs with ⟨hs, hn⟩ | ⟨o, hs⟩ | hs
    · exact .inl (hl a _ hs hn)
    · exact .inr (.inl ⟨o, hz a o _ hs⟩)
    · exact .inr (.inr hs)⟩
  lk := []
theorem law_hS (ns : List Int) : ∀ v m H, (lawW K ns).fnp 0 v m H → ∃ a, v = .ref a ∧ SqL (lawW K ns).K H a (ns.map V.int) := fun v m H ⟨a, e, h⟩ => ⟨a, e, by
  rcases h with ⟨h, _⟩ | ⟨o, h⟩ | ((h | ⟨o, h⟩) | h)
  · exact .inl (.inl h)
  · exact .inl (.inr ⟨o, h⟩)
  · cases h
  · cases h
  · exact .inr h⟩
theorem law_script {ns : List Int} {H : Hp} {a : Addr} (h : SqL K H a (ns.map V.int)) : (lawW K ns).fnp 0 (.ref a) [] H := ⟨a, rfl, by
  rcases h with (h | ⟨o, h⟩) | h
  · exact .inl ⟨h, by simp⟩
  · exact .inr (.inl ⟨o, h⟩)
  · exact .inr (.inr (.inr h))⟩
theorem tx_of (S : He.SaysX hFa hFn [] hTf hEx w h K) (X : K.In base) (G : base.Ns mainGlobals mg) : Tx K mg (He.ga K "Scopes") (He.ga K "ScopeError") := by
  have f : ∀ f : He.Fa, f ∈ hFa → f.ok K = true := fun f hf => S.t.d.facts hf
  obtain ⟨x1, x2, x3, x4⟩ := He.exc_ok (f (.exc "ScopeError") (by simp [hFa]))
  obtain ⟨y1, y⟩ := He.ba S.more
  obtain ⟨y2, y⟩ := He.ba y
  obtain ⟨y3, y⟩ := He.ba y
  obtain ⟨y4, y5⟩ := He.ba y
  exact {
    cl := He.cls_ok (f (.cls "Scopes") (by simp [hFa]))
    na := fun g hg => He.noat_ok (f (.noat "Scopes" g) (List.mem_append_right _ (List.mem_append_right _ (List.mem_append_left _ (List.mem_map.mpr ⟨g, hg, rfl⟩)))))
    b := fun x hx => He.free_ok X G (f (.free x) (List.mem_append_right _ (List.mem_append_left _ (List.mem_map.mpr ⟨x, hx, rfl⟩))))
    mC := He.glo_ok X G (f (.glo "Scopes") (by simp [hFa, gNames]))
    mS := He.glo_ok X G (f (.glo "ScopeError") (by simp [hFa, gNames]))
    deep := He.int_ok X G (f (.int "MOST_DEEP" 12) (by simp [hFa]))
    kinds := ⟨_, He.glo_ok X G (f (.glo "KINDS_OF_DEED") (by simp [hFa, gNames])), fun W m H e => by
      refine ⟨_, _, rfl, (by rw [e]; exact He.tupB_ok y1 H), ?_⟩
      exact ⟨_, _, rfl, rfl, _, _, rfl, rfl, _, _, rfl, rfl, _, _, rfl, rfl, rfl⟩⟩
    neq := ⟨He.eqO_ok y2, of_decide_eq_true y3, of_decide_eq_true y4⟩
    exm := He.exm_ok (f (.exm "ScopeError" "ScopeError" true) (by simp [hFa]))
    kS := x2
    excS := x1
    subS := x3
    tyS := x4 }
theorem tabs_nd (S : He.SaysX hFa hFn [] hTf hEx w h K) : (hTf.map fun p => (He.cT K p).2).Nodup := by
  obtain ⟨y1, y⟩ := He.ba S.more
  obtain ⟨y2, y⟩ := He.ba y
  obtain ⟨y3, y⟩ := He.ba y
  obtain ⟨y4, y5⟩ := He.ba y
  exact of_decide_eq_true y5
theorem tabs_ne (nd : (hTf.map fun p => (He.cT K p).2).Nodup) :
    (∀ p ∈ hTl_ K, p.1 ≠ (He.cT K ("Scopes", some "__init__")).2) ∧ (∀ p ∈ hTl_ K, p.1 ≠ (He.cT K ("Scopes", some "uses_of")).2) ∧ (∀ p ∈ hTl_ K, p.1 ≠ (He.cT K ("Scopes", some "unused")).2) ∧
    (∀ p ∈ hTl_ K, p.1 = (He.cT K ("_law_plain", none)).2 → p.2 = ("_law_plain" : Str) ++ ".<locals>." ++ "<lambda>") ∧ (∀ p ∈ hTl_ K, p.1 = (He.cT K ("law", none)).2 → p.2 = ("law" : Str) ++ ".<locals>." ++ "<lambda>") := by
  simp only [hTf, List.map_cons, List.map_nil, List.nodup_cons, List.mem_cons, List.mem_nil_iff, or_false, not_or] at nd
  obtain ⟨⟨a1, a2, a3, a4⟩, ⟨b1, b2, b3⟩, ⟨c1, c2⟩, d1, _⟩ := nd
  refine ⟨fun p hp => ?_, fun p hp => ?_, fun p hp => ?_, fun p hp => ?_, fun p hp => ?_⟩ <;> simp only [hTl_, List.mem_cons, List.mem_nil_iff, or_false] at hp <;> rcases hp with rfl | rfl
  · exact fun z => a3 z.symm
  · exact fun z => a4 z.symm
  · exact fun z => b2 z.symm
  · exact fun z => b3 z.symm
  · exact fun z => c1 z.symm
  · exact fun z => c2 z.symm
  · exact fun _ => rfl
  · exact fun z => (d1 z.symm).elim
  · exact fun z => (d1 z).elim
  · exact fun _ => rfl
/-- all that the laws lean on, def by def -/
theorem law_fn (S : He.SaysX hFa hFn [] hTf hEx w h K) (X : K.In base) (G : base.Ns mainGlobals mg) (TB : ∀ p ∈ hTf.map (He.cT K), LamX.TabB base mg p.1 p.2) (ns : List Int) {fd_law : FuncData} (C_law : FunC K "law" "law" s_law (He.fAd K ("law", none)) fd_law (He.codeOf K ("law", none))) :
    FnOk P w K mg base (L2.CX P w) 20 (He.fAd K ("law", none)) fd_law ["script"] (spOf (lawW K ns) 1 (F_law (He.ga K "Scopes") (He.ga K "ScopeError") ns)) := by
  have T : Tx K mg (He.ga K "Scopes") (He.ga K "ScopeError") := tx_of S X G
  have hTg : ∀ p : He.Defn, p ∈ hTf → LamX.TabB base mg (He.codeOf K p) (He.cT K p).2 := fun p hp => TB (He.cT K p) (List.mem_map.mpr ⟨p, hp, rfl⟩)
  have hG : ∀ p : He.Defn, p ∈ hTf → GxR.TabB base mg (He.codeOf K p) (He.cT K p).2 := fun p hp => ⟨(hTg p hp).code, (hTg p hp).bm, (hTg p hp).gP⟩
  have nd : (hTf.map fun p => (He.cT K p).2).Nodup := tabs_nd S
  have neT := tabs_ne nd
  have told : ∃ fd, FunC K "_law_told" "_law_told" s_law_told (He.fAd K ("_law_told", none)) fd (He.codeOf K ("_law_told", none)) := funC_of S.t.d (d := fnc "_law_told" s_law_told) (by simp [hFn]) rfl
  obtain ⟨fdT, FT⟩ := told
  have mT : mg "_law_told" = some (.ref (He.fAd K ("_law_told", none))) := He.glo_ok X G (S.t.d.facts (f := .glo "_law_told") (by simp [hFa, gNames]))
  obtain ⟨fd_check_deed, C_check_deed⟩ : ∃ fd, FunC K "check_deed" "Scopes.check_deed" s_check_deed (He.fAd K ("Scopes", some "check_deed")) fd (He.codeOf K ("Scopes", some "check_deed")) := funC_of S.t.d (d := mth "check_deed" "Scopes.check_deed" s_check_deed) (by simp [hFn]) rfl
  have B_check_deed : L2.Binds K fd_check_deed ["self", "deed"] [] := C_check_deed.fn.binds (ps := ["self", "deed"]) fun _ _ _ _ _ _ us hl => match us, hl with | [_, _], _ => rfl
  have G_check_deed : CalM P w K mg base (hTg_ K) (hTl_ K) (He.ga K "Scopes") 1 "check_deed" ["self", "deed"] (F_check_deed (He.ga K "Scopes") (He.ga K "ScopeError")) := ⟨⟨_, _, fun W hW => ok_check_deed (tg := hTg_ K) (tl := hTl_ K) hW (T := T) (F := C_check_deed) , He.meth_ok (S.t.d.facts (f := .meth "Scopes" "check_deed") (by simp [hFa, mNames])), B_check_deed⟩, fd_len⟩
  obtain ⟨fd_put_or_use, C_put_or_use⟩ : ∃ fd, FunC K "put_or_use" "Scopes.put_or_use" s_put_or_use (He.fAd K ("Scopes", some "put_or_use")) fd (He.codeOf K ("Scopes", some "put_or_use")) := funC_of S.t.d (d := mth "put_or_use" "Scopes.put_or_use" s_put_or_use) (by simp [hFn]) rfl
  have B_put_or_use : L2.Binds K fd_put_or_use ["self", "number", "deed", "open_ones", "stack"] [] := C_put_or_use.fn.binds (ps := ["self", "number", "deed", "open_ones", "stack"]) fun _ _ _ _ _ _ us hl => match us, hl with | [_, _, _, _, _], _ => rfl
  have G_put_or_use : CalM P w K mg base (hTg_ K) (hTl_ K) (He.ga K "Scopes") 1 "put_or_use" ["self", "number", "deed", "open_ones", "stack"] (F_put_or_use (He.ga K "Scopes") (He.ga K "ScopeError")) := ⟨⟨_, _, fun W hW => ok_put_or_use (tg := hTg_ K) (tl := hTl_ K) hW (T := T) (F := C_put_or_use) , He.meth_ok (S.t.d.facts (f := .meth "Scopes" "put_or_use") (by simp [hFa, mNames])), B_put_or_use⟩, fd_len⟩
  obtain ⟨fd_init, C_init⟩ : ∃ fd, FunC K "__init__" "Scopes.__init__" s_init (He.fAd K ("Scopes", some "__init__")) fd (He.codeOf K ("Scopes", some "__init__")) := funC_of S.t.d (d := mth "__init__" "Scopes.__init__" s_init) (by simp [hFn]) rfl
  have B_init : L2.Binds K fd_init ["self", "deeds"] [] := C_init.fn.binds (ps := ["self", "deeds"]) fun _ _ _ _ _ _ us hl => match us, hl with | [_, _], _ => rfl
  have G_init : CalI P w K mg base (hTg_ K) (hTl_ K) (He.ga K "Scopes") 8 ["self", "deeds"] (F_init (He.ga K "Scopes") (He.ga K "ScopeError")) := ⟨⟨_, _, fun W hW => ok_init (tg := hTg_ K) (tl := hTl_ K) hW (T := T) (F := C_init) (G_put_or_use := G_put_or_use) (G_check_deed := G_check_deed) (Pt := (He.cT K ("Scopes", some "__init__")).2) (TB := hG ("Scopes", some "__init__") (by simp [hTf])) (hP0 := by simp [hTg_]) (hl0 := neT.1), He.mkr_ok (S.t.d.facts (f := .mkr "Scopes") (by simp [hFa])), B_init⟩, fd_len⟩
  obtain ⟨fd_uses_of, C_uses_of⟩ : ∃ fd, FunC K "uses_of" "Scopes.uses_of" s_uses_of (He.fAd K ("Scopes", some "uses_of")) fd (He.codeOf K ("Scopes", some "uses_of")) := funC_of S.t.d (d := mth "uses_of" "Scopes.uses_of" s_uses_of) (by simp [hFn]) rfl
  have B_uses_of : L2.Binds K fd_uses_of ["self", "number"] [] := C_uses_of.fn.binds (ps := ["self", "number"]) fun _ _ _ _ _ _ us hl => match us, hl with | [_, _], _ => rfl
  have G_uses_of : CalM P w K mg base (hTg_ K) (hTl_ K) (He.ga K "Scopes") 7 "uses_of" ["self", "number"] (F_uses_of (He.ga K "Scopes") (He.ga K "ScopeError")) := ⟨⟨_, _, fun W hW => ok_uses_of (tg := hTg_ K) (tl := hTl_ K) hW (T := T) (F := C_uses_of)  (Pt := (He.cT K ("Scopes", some "uses_of")).2) (TB := hG ("Scopes", some "uses_of") (by simp [hTf])) (hP0 := by simp [hTg_]) (hl0 := neT.2.1), He.meth_ok (S.t.d.facts (f := .meth "Scopes" "uses_of") (by simp [hFa, mNames])), B_uses_of⟩, fd_len⟩
  obtain ⟨fd_unused, C_unused⟩ : ∃ fd, FunC K "unused" "Scopes.unused" s_unused (He.fAd K ("Scopes", some "unused")) fd (He.codeOf K ("Scopes", some "unused")) := funC_of S.t.d (d := mth "unused" "Scopes.unused" s_unused) (by simp [hFn]) rfl
  have B_unused : L2.Binds K fd_unused ["self"] [] := C_unused.fn.binds (ps := ["self"]) fun _ _ _ _ _ _ us hl => match us, hl with | [_], _ => rfl
  have G_unused : CalM P w K mg base (hTg_ K) (hTl_ K) (He.ga K "Scopes") 14 "unused" ["self"] (F_unused (He.ga K "Scopes") (He.ga K "ScopeError")) := ⟨⟨_, _, fun W hW => ok_unused (tg := hTg_ K) (tl := hTl_ K) hW (T := T) (F := C_unused) (G_uses_of := G_uses_of) (Pt := (He.cT K ("Scopes", some "unused")).2) (TB := hG ("Scopes", some "unused") (by simp [hTf])) (hP0 := by simp [hTg_]) (hl0 := neT.2.2.1), He.meth_ok (S.t.d.facts (f := .meth "Scopes" "unused") (by simp [hFa, mNames])), B_unused⟩, fd_len⟩
  obtain ⟨fd_puts_of, C_puts_of⟩ : ∃ fd, FunC K "puts_of" "Scopes.puts_of" s_puts_of (He.fAd K ("Scopes", some "puts_of")) fd (He.codeOf K ("Scopes", some "puts_of")) := funC_of S.t.d (d := mth "puts_of" "Scopes.puts_of" s_puts_of) (by simp [hFn]) rfl
  have B_puts_of : L2.Binds K fd_puts_of ["self", "scope", "name"] [] := C_puts_of.fn.binds (ps := ["self", "scope", "name"]) fun _ _ _ _ _ _ us hl => match us, hl with | [_, _, _], _ => rfl
  have G_puts_of : CalM P w K mg base (hTg_ K) (hTl_ K) (He.ga K "Scopes") 1 "puts_of" ["self", "scope", "name"] (F_puts_of (He.ga K "Scopes") (He.ga K "ScopeError")) := ⟨⟨_, _, fun W hW => ok_puts_of (tg := hTg_ K) (tl := hTl_ K) hW (T := T) (F := C_puts_of) , He.meth_ok (S.t.d.facts (f := .meth "Scopes" "puts_of") (by simp [hFa, mNames])), B_puts_of⟩, fd_len⟩
  obtain ⟨fd_shadowed, C_shadowed⟩ : ∃ fd, FunC K "shadowed" "Scopes.shadowed" s_shadowed (He.fAd K ("Scopes", some "shadowed")) fd (He.codeOf K ("Scopes", some "shadowed")) := funC_of S.t.d (d := mth "shadowed" "Scopes.shadowed" s_shadowed) (by simp [hFn]) rfl
  have B_shadowed : L2.Binds K fd_shadowed ["self"] [] := C_shadowed.fn.binds (ps := ["self"]) fun _ _ _ _ _ _ us hl => match us, hl with | [_], _ => rfl
  have G_shadowed : CalM P w K mg base (hTg_ K) (hTl_ K) (He.ga K "Scopes") 2 "shadowed" ["self"] (F_shadowed (He.ga K "Scopes") (He.ga K "ScopeError")) := ⟨⟨_, _, fun W hW => ok_shadowed (tg := hTg_ K) (tl := hTl_ K) hW (T := T) (F := C_shadowed) (G_puts_of := G_puts_of), He.meth_ok (S.t.d.facts (f := .meth "Scopes" "shadowed") (by simp [hFa, mNames])), B_shadowed⟩, fd_len⟩
  obtain ⟨fd_scope_at, C_scope_at⟩ : ∃ fd, FunC K "scope_at" "Scopes.scope_at" s_scope_at (He.fAd K ("Scopes", some "scope_at")) fd (He.codeOf K ("Scopes", some "scope_at")) := funC_of S.t.d (d := mth "scope_at" "Scopes.scope_at" s_scope_at) (by simp [hFn]) rfl
  have B_scope_at : L2.Binds K fd_scope_at ["self", "number"] [] := C_scope_at.fn.binds (ps := ["self", "number"]) fun _ _ _ _ _ _ us hl => match us, hl with | [_, _], _ => rfl
  have G_scope_at : CalM P w K mg base (hTg_ K) (hTl_ K) (He.ga K "Scopes") 1 "scope_at" ["self", "number"] (F_scope_at (He.ga K "Scopes") (He.ga K "ScopeError")) := ⟨⟨_, _, fun W hW => ok_scope_at (tg := hTg_ K) (tl := hTl_ K) hW (T := T) (F := C_scope_at) , He.meth_ok (S.t.d.facts (f := .meth "Scopes" "scope_at") (by simp [hFa, mNames])), B_scope_at⟩, fd_len⟩
  obtain ⟨fd_told_late, C_told_late⟩ : ∃ fd, FunC K "told_late" "Scopes.told_late" s_told_late (He.fAd K ("Scopes", some "told_late")) fd (He.codeOf K ("Scopes", some "told_late")) := funC_of S.t.d (d := mth "told_late" "Scopes.told_late" s_told_late) (by simp [hFn]) rfl
  have B_told_late : L2.Binds K fd_told_late ["self"] [] := C_told_late.fn.binds (ps := ["self"]) fun _ _ _ _ _ _ us hl => match us, hl with | [_], _ => rfl
  have G_told_late : CalM P w K mg base (hTg_ K) (hTl_ K) (He.ga K "Scopes") 2 "told_late" ["self"] (F_told_late (He.ga K "Scopes") (He.ga K "ScopeError")) := ⟨⟨_, _, fun W hW => ok_told_late (tg := hTg_ K) (tl := hTl_ K) hW (T := T) (F := C_told_late) (G_puts_of := G_puts_of) (G_scope_at := G_scope_at), He.meth_ok (S.t.d.facts (f := .meth "Scopes" "told_late") (by simp [hFa, mNames])), B_told_late⟩, fd_len⟩
  obtain ⟨fd_seen_at, C_seen_at⟩ : ∃ fd, FunC K "seen_at" "Scopes.seen_at" s_seen_at (He.fAd K ("Scopes", some "seen_at")) fd (He.codeOf K ("Scopes", some "seen_at")) := funC_of S.t.d (d := mth "seen_at" "Scopes.seen_at" s_seen_at) (by simp [hFn]) rfl
  have B_seen_at : L2.Binds K fd_seen_at ["self", "number"] [] := C_seen_at.fn.binds (ps := ["self", "number"]) fun _ _ _ _ _ _ us hl => match us, hl with | [_, _], _ => rfl
  have G_seen_at : CalM P w K mg base (hTg_ K) (hTl_ K) (He.ga K "Scopes") 2 "seen_at" ["self", "number"] (F_seen_at (He.ga K "Scopes") (He.ga K "ScopeError")) := ⟨⟨_, _, fun W hW => ok_seen_at (tg := hTg_ K) (tl := hTl_ K) hW (T := T) (F := C_seen_at) (G_scope_at := G_scope_at), He.meth_ok (S.t.d.facts (f := .meth "Scopes" "seen_at") (by simp [hFa, mNames])), B_seen_at⟩, fd_len⟩
  obtain ⟨fd_each_its_own, C_each_its_own⟩ : ∃ fd, FunC K "each_its_own" "Scopes.each_its_own" s_each_its_own (He.fAd K ("Scopes", some "each_its_own")) fd (He.codeOf K ("Scopes", some "each_its_own")) := funC_of S.t.d (d := mth "each_its_own" "Scopes.each_its_own" s_each_its_own) (by simp [hFn]) rfl
  have B_each_its_own : L2.Binds K fd_each_its_own ["self"] [] := C_each_its_own.fn.binds (ps := ["self"]) fun _ _ _ _ _ _ us hl => match us, hl with | [_], _ => rfl
  have G_each_its_own : CalM P w K mg base (hTg_ K) (hTl_ K) (He.ga K "Scopes") 1 "each_its_own" ["self"] (F_each_its_own (He.ga K "Scopes") (He.ga K "ScopeError")) := ⟨⟨_, _, fun W hW => ok_each_its_own (tg := hTg_ K) (tl := hTl_ K) hW (T := T) (F := C_each_its_own) , He.meth_ok (S.t.d.facts (f := .meth "Scopes" "each_its_own") (by simp [hFa, mNames])), B_each_its_own⟩, fd_len⟩
  obtain ⟨fd_by_steps_out, C_by_steps_out⟩ : ∃ fd, FunC K "by_steps_out" "Scopes.by_steps_out" s_by_steps_out (He.fAd K ("Scopes", some "by_steps_out")) fd (He.codeOf K ("Scopes", some "by_steps_out")) := funC_of S.t.d (d := mth "by_steps_out" "Scopes.by_steps_out" s_by_steps_out) (by simp [hFn]) rfl
  have B_by_steps_out : L2.Binds K fd_by_steps_out ["self"] [] := C_by_steps_out.fn.binds (ps := ["self"]) fun _ _ _ _ _ _ us hl => match us, hl with | [_], _ => rfl
  have G_by_steps_out : CalM P w K mg base (hTg_ K) (hTl_ K) (He.ga K "Scopes") 2 "by_steps_out" ["self"] (F_by_steps_out (He.ga K "Scopes") (He.ga K "ScopeError")) := ⟨⟨_, _, fun W hW => ok_by_steps_out (tg := hTg_ K) (tl := hTl_ K) hW (T := T) (F := C_by_steps_out) (G_scope_at := G_scope_at), He.meth_ok (S.t.d.facts (f := .meth "Scopes" "by_steps_out") (by simp [hFa, mNames])), B_by_steps_out⟩, fd_len⟩
  obtain ⟨fd_is_within, C_is_within⟩ : ∃ fd, FunC K "is_within" "Scopes.is_within" s_is_within (He.fAd K ("Scopes", some "is_within")) fd (He.codeOf K ("Scopes", some "is_within")) := funC_of S.t.d (d := mth "is_within" "Scopes.is_within" s_is_within) (by simp [hFn]) rfl
  have B_is_within : L2.Binds K fd_is_within ["self", "scope", "other"] [] := C_is_within.fn.binds (ps := ["self", "scope", "other"]) fun _ _ _ _ _ _ us hl => match us, hl with | [_, _, _], _ => rfl
  have G_is_within : CalM P w K mg base (hTg_ K) (hTl_ K) (He.ga K "Scopes") 1 "is_within" ["self", "scope", "other"] (F_is_within (He.ga K "Scopes") (He.ga K "ScopeError")) := ⟨⟨_, _, fun W hW => ok_is_within (tg := hTg_ K) (tl := hTl_ K) hW (T := T) (F := C_is_within) , He.meth_ok (S.t.d.facts (f := .meth "Scopes" "is_within") (by simp [hFa, mNames])), B_is_within⟩, fd_len⟩
  obtain ⟨fd_taken_in, C_taken_in⟩ : ∃ fd, FunC K "taken_in" "Scopes.taken_in" s_taken_in (He.fAd K ("Scopes", some "taken_in")) fd (He.codeOf K ("Scopes", some "taken_in")) := funC_of S.t.d (d := mth "taken_in" "Scopes.taken_in" s_taken_in) (by simp [hFn]) rfl
  have B_taken_in : L2.Binds K fd_taken_in ["self", "scope"] [] := C_taken_in.fn.binds (ps := ["self", "scope"]) fun _ _ _ _ _ _ us hl => match us, hl with | [_, _], _ => rfl
  have G_taken_in : CalM P w K mg base (hTg_ K) (hTl_ K) (He.ga K "Scopes") 2 "taken_in" ["self", "scope"] (F_taken_in (He.ga K "Scopes") (He.ga K "ScopeError")) := ⟨⟨_, _, fun W hW => ok_taken_in (tg := hTg_ K) (tl := hTl_ K) hW (T := T) (F := C_taken_in) (G_is_within := G_is_within) (G_scope_at := G_scope_at), He.meth_ok (S.t.d.facts (f := .meth "Scopes" "taken_in") (by simp [hFa, mNames])), B_taken_in⟩, fd_len⟩
  obtain ⟨fd_may_be_renamed, C_may_be_renamed⟩ : ∃ fd, FunC K "may_be_renamed" "Scopes.may_be_renamed" s_may_be_renamed (He.fAd K ("Scopes", some "may_be_renamed")) fd (He.codeOf K ("Scopes", some "may_be_renamed")) := funC_of S.t.d (d := mth "may_be_renamed" "Scopes.may_be_renamed" s_may_be_renamed) (by simp [hFn]) rfl
  have B_may_be_renamed : L2.Binds K fd_may_be_renamed ["self", "number", "fresh"] [] := C_may_be_renamed.fn.binds (ps := ["self", "number", "fresh"]) fun _ _ _ _ _ _ us hl => match us, hl with | [_, _, _], _ => rfl
  have G_may_be_renamed : CalM P w K mg base (hTg_ K) (hTl_ K) (He.ga K "Scopes") 10 "may_be_renamed" ["self", "number", "fresh"] (F_may_be_renamed (He.ga K "Scopes") (He.ga K "ScopeError")) := ⟨⟨_, _, fun W hW => ok_may_be_renamed (tg := hTg_ K) (tl := hTl_ K) hW (T := T) (F := C_may_be_renamed) (G_init := G_init) (G_uses_of := G_uses_of), He.meth_ok (S.t.d.facts (f := .meth "Scopes" "may_be_renamed") (by simp [hFa, mNames])), B_may_be_renamed⟩, fd_len⟩
  obtain ⟨fd_deeds_of, C_deeds_of⟩ : ∃ fd, FunC K "deeds_of" "deeds_of" s_deeds_of (He.fAd K ("deeds_of", none)) fd (He.codeOf K ("deeds_of", none)) := funC_of S.t.d (d := fnc "deeds_of" s_deeds_of) (by simp [hFn]) rfl
  have B_deeds_of : L2.Binds K fd_deeds_of ["text"] [] := C_deeds_of.fn.binds (ps := ["text"]) fun _ _ _ _ _ _ us hl => match us, hl with | [_], _ => rfl
  have G_deeds_of : CalF P w K mg base (hTg_ K) (hTl_ K) 1 "deeds_of" ["text"] (F_deeds_of (He.ga K "Scopes") (He.ga K "ScopeError")) := ⟨⟨_, _, fun W hW => ok_deeds_of (tg := hTg_ K) (tl := hTl_ K) hW (T := T) (F := C_deeds_of) , He.glo_ok X G (S.t.d.facts (f := .glo "deeds_of") (by simp [hFa, gNames])), C_deeds_of.kp, B_deeds_of⟩, fd_len⟩
  obtain ⟨fd_law_dice, C_law_dice⟩ : ∃ fd, FunC K "_law_dice" "_law_dice" s_law_dice (He.fAd K ("_law_dice", none)) fd (He.codeOf K ("_law_dice", none)) := funC_of S.t.d (d := fnc "_law_dice" s_law_dice) (by simp [hFn]) rfl
  have B_law_dice : L2.Binds K fd_law_dice ["cell"] [] := C_law_dice.fn.binds (ps := ["cell"]) fun _ _ _ _ _ _ us hl => match us, hl with | [_], _ => rfl
  have G_law_dice : CalF P w K mg base (hTg_ K) (hTl_ K) 1 "_law_dice" ["cell"] (F_law_dice (He.ga K "Scopes") (He.ga K "ScopeError")) := ⟨⟨_, _, fun W hW => ok_law_dice (tg := hTg_ K) (tl := hTl_ K) hW (T := T) (F := C_law_dice) , He.glo_ok X G (S.t.d.facts (f := .glo "_law_dice") (by simp [hFa, gNames])), C_law_dice.kp, B_law_dice⟩, fd_len⟩
  obtain ⟨fd_law_roll, C_law_roll⟩ : ∃ fd, FunC K "_law_roll" "_law_roll" s_law_roll (He.fAd K ("_law_roll", none)) fd (He.codeOf K ("_law_roll", none)) := funC_of S.t.d (d := fnc "_law_roll" s_law_roll) (by simp [hFn]) rfl
  have B_law_roll : L2.Binds K fd_law_roll ["dice", "many"] [] := C_law_roll.fn.binds (ps := ["dice", "many"]) fun _ _ _ _ _ _ us hl => match us, hl with | [_, _], _ => rfl
  have G_law_roll : CalF P w K mg base (hTg_ K) (hTl_ K) 1 "_law_roll" ["dice", "many"] (F_law_roll (He.ga K "Scopes") (He.ga K "ScopeError")) := ⟨⟨_, _, fun W hW => ok_law_roll (tg := hTg_ K) (tl := hTl_ K) hW (T := T) (F := C_law_roll) , He.glo_ok X G (S.t.d.facts (f := .glo "_law_roll") (by simp [hFa, gNames])), C_law_roll.kp, B_law_roll⟩, fd_len⟩
  obtain ⟨fd_law_rounds, C_law_rounds⟩ : ∃ fd, FunC K "_law_rounds" "_law_rounds" s_law_rounds (He.fAd K ("_law_rounds", none)) fd (He.codeOf K ("_law_rounds", none)) := funC_of S.t.d (d := fnc "_law_rounds" s_law_rounds) (by simp [hFn]) rfl
  have B_law_rounds : L2.Binds K fd_law_rounds ["script", "most"] [] := C_law_rounds.fn.binds (ps := ["script", "most"]) fun _ _ _ _ _ _ us hl => match us, hl with | [_, _], _ => rfl
  have G_law_rounds : ∃ (f : Addr) (fd : FuncData), FnOk P w K mg base (L2.CX P w) 2 f fd ["script", "most"] (spOf (lawW K ns) 2 (F_law_rounds (He.ga K "Scopes") (He.ga K "ScopeError") ns)) ∧ mg "_law_rounds" = some (.ref f) ∧ PySem.W.keepIn K (.ref f) = true ∧ L2.Binds K fd ["script", "most"] [] :=
    ⟨_, _, ok_law_rounds (W := lawW K ns) (tg := hTg_ K) (tl := hTl_ K) ⟨rfl, rfl, rfl⟩ (T := T) (F := C_law_rounds) (G_law_dice := G_law_dice) (ns := ns) (hS := law_hS ns), He.glo_ok X G (S.t.d.facts (f := .glo "_law_rounds") (by simp [hFa, gNames])), C_law_rounds.kp, B_law_rounds⟩
  obtain ⟨fd_law_drawn, C_law_drawn⟩ : ∃ fd, FunC K "_law_drawn" "_law_drawn" s_law_drawn (He.fAd K ("_law_drawn", none)) fd (He.codeOf K ("_law_drawn", none)) := funC_of S.t.d (d := fnc "_law_drawn" s_law_drawn) (by simp [hFn]) rfl
  have B_law_drawn : L2.Binds K fd_law_drawn ["dice"] [] := C_law_drawn.fn.binds (ps := ["dice"]) fun _ _ _ _ _ _ us hl => match us, hl with | [_], _ => rfl
  have G_law_drawn : CalF P w K mg base (hTg_ K) (hTl_ K) 2 "_law_drawn" ["dice"] (F_law_drawn (He.ga K "Scopes") (He.ga K "ScopeError")) := ⟨⟨_, _, fun W hW => ok_law_drawn (tg := hTg_ K) (tl := hTl_ K) hW (T := T) (F := C_law_drawn) (G_law_roll := G_law_roll), He.glo_ok X G (S.t.d.facts (f := .glo "_law_drawn") (by simp [hFa, gNames])), C_law_drawn.kp, B_law_drawn⟩, fd_len⟩
  obtain ⟨fd_law_chains, C_law_chains⟩ : ∃ fd, FunC K "_law_chains" "_law_chains" s_law_chains (He.fAd K ("_law_chains", none)) fd (He.codeOf K ("_law_chains", none)) := funC_of S.t.d (d := fnc "_law_chains" s_law_chains) (by simp [hFn]) rfl
  have B_law_chains : L2.Binds K fd_law_chains ["deeds"] [] := C_law_chains.fn.binds (ps := ["deeds"]) fun _ _ _ _ _ _ us hl => match us, hl with | [_], _ => rfl
  have G_law_chains : CalF P w K mg base (hTg_ K) (hTl_ K) 1 "_law_chains" ["deeds"] (F_law_chains (He.ga K "Scopes") (He.ga K "ScopeError")) := ⟨⟨_, _, fun W hW => ok_law_chains (tg := hTg_ K) (tl := hTl_ K) hW (T := T) (F := C_law_chains) , He.glo_ok X G (S.t.d.facts (f := .glo "_law_chains") (by simp [hFa, gNames])), C_law_chains.kp, B_law_chains⟩, fd_len⟩
  obtain ⟨fd_law_puts, C_law_puts⟩ : ∃ fd, FunC K "_law_puts" "_law_puts" s_law_puts (He.fAd K ("_law_puts", none)) fd (He.codeOf K ("_law_puts", none)) := funC_of S.t.d (d := fnc "_law_puts" s_law_puts) (by simp [hFn]) rfl
  have B_law_puts : L2.Binds K fd_law_puts ["deeds", "chains", "scope", "name"] [] := C_law_puts.fn.binds (ps := ["deeds", "chains", "scope", "name"]) fun _ _ _ _ _ _ us hl => match us, hl with | [_, _, _, _], _ => rfl
  have G_law_puts : CalF P w K mg base (hTg_ K) (hTl_ K) 1 "_law_puts" ["deeds", "chains", "scope", "name"] (F_law_puts (He.ga K "Scopes") (He.ga K "ScopeError")) := ⟨⟨_, _, fun W hW => ok_law_puts (tg := hTg_ K) (tl := hTl_ K) hW (T := T) (F := C_law_puts) , He.glo_ok X G (S.t.d.facts (f := .glo "_law_puts") (by simp [hFa, gNames])), C_law_puts.kp, B_law_puts⟩, fd_len⟩
  obtain ⟨fd_law_meant, C_law_meant⟩ : ∃ fd, FunC K "_law_meant" "_law_meant" s_law_meant (He.fAd K ("_law_meant", none)) fd (He.codeOf K ("_law_meant", none)) := funC_of S.t.d (d := fnc "_law_meant" s_law_meant) (by simp [hFn]) rfl
  have B_law_meant : L2.Binds K fd_law_meant ["deeds", "chains", "number", "name"] [] := C_law_meant.fn.binds (ps := ["deeds", "chains", "number", "name"]) fun _ _ _ _ _ _ us hl => match us, hl with | [_, _, _, _], _ => rfl
  have G_law_meant : CalF P w K mg base (hTg_ K) (hTl_ K) 2 "_law_meant" ["deeds", "chains", "number", "name"] (F_law_meant (He.ga K "Scopes") (He.ga K "ScopeError")) := ⟨⟨_, _, fun W hW => ok_law_meant (tg := hTg_ K) (tl := hTl_ K) hW (T := T) (F := C_law_meant) (G_law_puts := G_law_puts), He.glo_ok X G (S.t.d.facts (f := .glo "_law_meant") (by simp [hFa, gNames])), C_law_meant.kp, B_law_meant⟩, fd_len⟩
  obtain ⟨fd_law_own, C_law_own⟩ : ∃ fd, FunC K "_law_own" "_law_own" s_law_own (He.fAd K ("_law_own", none)) fd (He.codeOf K ("_law_own", none)) := funC_of S.t.d (d := fnc "_law_own" s_law_own) (by simp [hFn]) rfl
  have B_law_own : L2.Binds K fd_law_own ["scopes", "deeds", "meant", "puts"] [] := C_law_own.fn.binds (ps := ["scopes", "deeds", "meant", "puts"]) fun _ _ _ _ _ _ us hl => match us, hl with | [_, _, _, _], _ => rfl
  have G_law_own : CalF P w K mg base (hTg_ K) (hTl_ K) 2 "_law_own" ["scopes", "deeds", "meant", "puts"] (F_law_own (He.ga K "Scopes") (He.ga K "ScopeError")) := ⟨⟨_, _, fun W hW => ok_law_own (tg := hTg_ K) (tl := hTl_ K) hW (T := T) (F := C_law_own) (G_each_its_own := G_each_its_own), He.glo_ok X G (S.t.d.facts (f := .glo "_law_own") (by simp [hFa, gNames])), C_law_own.kp, B_law_own⟩, fd_len⟩
  obtain ⟨fd_law_told_on, C_law_told_on⟩ : ∃ fd, FunC K "_law_told_on" "_law_told_on" s_law_told_on (He.fAd K ("_law_told_on", none)) fd (He.codeOf K ("_law_told_on", none)) := funC_of S.t.d (d := fnc "_law_told_on" s_law_told_on) (by simp [hFn]) rfl
  have B_law_told_on : L2.Binds K fd_law_told_on ["dice", "scopes", "deeds", "chains", "meant", "puts", "order", "uses"] [] := C_law_told_on.fn.binds (ps := ["dice", "scopes", "deeds", "chains", "meant", "puts", "order", "uses"]) fun _ _ _ _ _ _ us hl => match us, hl with | [_, _, _, _, _, _, _, _], _ => rfl
  have G_law_told_on : CalF P w K mg base (hTg_ K) (hTl_ K) 11 "_law_told_on" ["dice", "scopes", "deeds", "chains", "meant", "puts", "order", "uses"] (F_law_told_on (He.ga K "Scopes") (He.ga K "ScopeError")) := ⟨⟨_, _, fun W hW => ok_law_told_on (tg := hTg_ K) (tl := hTl_ K) hW (T := T) (F := C_law_told_on) (G_deeds_of := G_deeds_of) (G_may_be_renamed := G_may_be_renamed) (G_law_meant := G_law_meant) (G_law_chains := G_law_chains) (G_law_roll := G_law_roll) (G_taken_in := G_taken_in) (G_law_own := G_law_own) (G_by_steps_out := G_by_steps_out), He.glo_ok X G (S.t.d.facts (f := .glo "_law_told_on") (by simp [hFa, gNames])), C_law_told_on.kp, B_law_told_on⟩, fd_len⟩
  obtain ⟨fd_law_plain, C_law_plain⟩ : ∃ fd, FunC K "_law_plain" "_law_plain" s_law_plain (He.fAd K ("_law_plain", none)) fd (He.codeOf K ("_law_plain", none)) := funC_of S.t.d (d := fnc "_law_plain" s_law_plain) (by simp [hFn]) rfl
  have B_law_plain : L2.Binds K fd_law_plain [] [] := C_law_plain.fn.binds (ps := []) fun _ _ _ _ _ _ us hl => match us, hl with | [], _ => by kernel_rfl
  have G_law_plain : CalF P w K mg base (hTg_ K) (hTl_ K) 17 "_law_plain" [] (F_law_plain (He.ga K "Scopes") (He.ga K "ScopeError")) := ⟨⟨_, _, fun W hW => ok_law_plain (tg := hTg_ K) (tl := hTl_ K) hW (T := T) (F := C_law_plain) (G_init := G_init) (G_uses_of := G_uses_of) (G_scope_at := G_scope_at) (G_seen_at := G_seen_at) (G_taken_in := G_taken_in) (G_may_be_renamed := G_may_be_renamed) (G_deeds_of := G_deeds_of) (G_unused := G_unused) (G_puts_of := G_puts_of) (G_is_within := G_is_within) (G_by_steps_out := G_by_steps_out) (G_each_its_own := G_each_its_own) (G_told_late := G_told_late) (G_shadowed := G_shadowed) (FT := FT) (mT := mT) (Pt := (He.cT K ("_law_plain", none)).2) (TL := hTg ("_law_plain", none) (by simp [hTf])) (hmT0 := by simp [hTl_]) (hu0 := neT.2.2.2.1), He.glo_ok X G (S.t.d.facts (f := .glo "_law_plain") (by simp [hFa, gNames])), C_law_plain.kp, B_law_plain⟩, fdOwn_len⟩
  exact ok_law (W := lawW K ns) (tg := hTg_ K) (tl := hTl_ K) ⟨rfl, rfl, rfl⟩ (T := T) (F := C_law) (G_law_plain := G_law_plain) (G_law_rounds := G_law_rounds) (G_law_told_on := G_law_told_on) (G_seen_at := G_seen_at) (G_law_meant := G_law_meant) (G_scope_at := G_scope_at) (G_told_late := G_told_late) (G_shadowed := G_shadowed) (G_law_puts := G_law_puts) (G_unused := G_unused) (G_uses_of := G_uses_of) (G_init := G_init) (G_law_chains := G_law_chains) (G_law_drawn := G_law_drawn) (FT := FT) (mT := mT) (Pt := (He.cT K ("law", none)).2) (TL := hTg ("law", none) (by simp [hTf])) (hmT0 := by simp [hTl_]) (hu0 := neT.2.2.2.2) (ns := ns)
/-- the law, as the end wants it -/
theorem law_at {h : Heap} {fa : Addr} (S : He.SaysX hFa hFn [] hTf hEx w h K) (KX : K.In h) (G : h.Ns mainGlobals mg) (hm : mg ("law" : Str) = some (.ref fa)) :
    LamX.LawAtS PySem.Challenge.rw_parsestack_k12_scopes_of_names w K (L2.CX PySem.Challenge.rw_parsestack_k12_scopes_of_names.prog w) 20 63 "script" mg fa h := by
  have e := hm.symm.trans (He.glo_ok KX G (S.t.d.facts (f := .glo "law") (by simp [hFa, gNames])))
  have efa : fa = He.fAd K ("law", none) := by
    injection e with e
    injection e with e
  subst efa
  obtain ⟨fd_law, C_law⟩ : ∃ fd, FunC K "law" "law" s_law (He.fAd K ("law", none)) fd (He.codeOf K ("law", none)) := funC_of S.t.d (d := fnc "law" s_law) (by simp [hFn]) rfl
  have B_law : L2.Binds K fd_law ["script"] [] := C_law.fn.binds (ps := ["script"]) fun _ _ _ _ _ _ us hl => match us, hl with | [_], _ => rfl
  refine ⟨fd_law, hTf.map (He.cT K), fun vs H Q E => ∃ ns, spOf (lawW K ns) 1 (F_law (He.ga K "Scopes") (He.ga K "ScopeError") ns) vs H Q E, ?_, ?_, ?_, ?_, ?_, ?_⟩
  · intro p hp
    obtain ⟨q, hq, rfl⟩ := List.mem_map.mp hp
    exact S.empty q hq
  · intro p hp
    obtain ⟨q, hq, rfl⟩ := List.mem_map.mp hp
    exact S.out q hq
  · intro p hp
    obtain ⟨q, hq, rfl⟩ := List.mem_map.mp hp
    exact PySem.W.codeHd_of_K KX (S.hd q hq)
  · intro s u
    obtain ⟨oc, od, kV, doc, pm, an, ct, osl, rfl, lk, hcd⟩ := C_law.ex
    exact .of_eq rfl
  · intro H a ns hl hb hT hS
    refine ⟨ns, rfl, [], [], [.fn 0], _, fun _ _ => False, ?_, ⟨.ref a, [], rfl, law_script hS, rfl⟩, F_law_ok (P := fun d _ => d = .bl true) (fun _ => rfl), fun d st' m' H' v p S2 O hv => ?_, exn_all fun _ _ h => h⟩
    · refine ⟨rfl, List.nodup_nil, fun i o a e => by simp at e, fun P hP => ?_, fun p hp => ?_, fun i hi => by simp [lawW] at hi⟩
      · have h3 : P ∈ hTg_ K := hP
        simp only [hTg_, List.mem_cons, List.mem_nil_iff, or_false] at h3
        rcases h3 with rfl | rfl | rfl
        · exact ⟨#[], hT (He.cT K ("Scopes", some "__init__")) (by simp [hTf]), trivial⟩
        · exact ⟨#[], hT (He.cT K ("Scopes", some "uses_of")) (by simp [hTf]), trivial⟩
        · exact ⟨#[], hT (He.cT K ("Scopes", some "unused")) (by simp [hTf]), trivial⟩
      · have h3 : p ∈ hTl_ K := hp
        simp only [hTl_, List.mem_cons, List.mem_nil_iff, or_false] at h3
        rcases h3 with rfl | rfl
        · exact LamX.TabS.nil (hT (He.cT K ("_law_plain", none)) (by simp [hTf]))
        · exact LamX.TabS.nil (hT (He.cT K ("law", none)) (by simp [hTf]))
    · subst p
      exact hv
  · intro base KXb Gb TB
    have key : ∀ ns, FnOk PySem.Challenge.rw_parsestack_k12_scopes_of_names.prog w K mg base (L2.CX PySem.Challenge.rw_parsestack_k12_scopes_of_names.prog w) 20 (He.fAd K ("law", none)) fd_law ["script"] (spOf (lawW K ns) 1 (F_law (He.ga K "Scopes") (He.ga K "ScopeError") ns)) := fun ns => law_fn S KXb Gb TB ns C_law
    exact ⟨fun vs H Q E ⟨ns, q⟩ => (key ns).len vs H Q E q, fun A outer s H args us vs Q E hr he hb hv ⟨ns, q⟩ => (key ns).run A outer s H args us vs Q E hr he hb hv q⟩
end
end FL
/-! ND: the law. -/
namespace FL
open PySem PySem.Spec PyProof.Rows L2
theorem cx_no (P : Program) (w : World) (H : Hp) (s : Shared) (e : Value) (s' : Shared) : L2.CX P w [] H s (fun _ _ _ => False) e s' → False := by
  rintro ⟨a, B, H', cls, d, _, _, _, _, _, _, _, hE⟩
  exact hE
end FL
open PySem PySem.W PySem.Calls PyProof.Rows
theorem PySem.Challenge.cw_parsestack_k12_scopes_of_names_holds : PySem.Challenge.rw_parsestack_k12_scopes_of_names.Holds := by
  w_on; o_law
  refine HandSHeadRun.head_any (r := OpenLaw.row PySem.Challenge.rw_parsestack_k12_scopes_of_names) (q := view (OpenLaw.row PySem.Challenge.rw_parsestack_k12_scopes_of_names).prog [20]) (H := FL.hk) (ob := FL.hOb) (M := 4000) (loose := FL.hLoose) (d := HandSHeadRun.topDef (OpenLaw.row PySem.Challenge.rw_parsestack_k12_scopes_of_names).prog 20) (kwd := []) FL.hOb_eq
    (by kernel_rfl) (fun s => by kernel_rfl) FL.hRun (by kernel_rfl) (by kernel_rfl) (by kernel_rfl) (by rfl) (by first | assumption | decide +kernel) (by decide +kernel) ⟨rfl, rfl, rfl, rfl, rfl, by decide +kernel⟩ ?hw ?hc
  case hw => w_witness2
  case hc =>
    refine LamX.walk_ofTsE (l := PySem.Challenge.rw_parsestack_k12_scopes_of_names) (n := 63) (k := 20) (x := "script") (CX := fun w => L2.CX PySem.Challenge.rw_parsestack_k12_scopes_of_names.prog w) rfl (by decide) (by kernel_rfl) ⟨rfl, by decide, by decide⟩ ?F (fun w H s e s' => FL.cx_no _ w H s e s')
    intro w mg fa h Y G hmg0
    obtain ⟨K, KX, c⟩ := Y
    have hmg : mg ("law" : PySem.Str) = some (.ref fa) := by
      have e : (HandSHeadRun.topDef (OpenLaw.row PySem.Challenge.rw_parsestack_k12_scopes_of_names).prog 20).name = ("law" : PySem.Str) := by kernel_rfl
      rw [← e]
      exact hmg0
    exact ⟨K, KX, FL.law_at c KX G hmg⟩
