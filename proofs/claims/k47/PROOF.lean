import PyProof.Rows.All
import Wide.All
import OpenK.AllK
import Wide.FinOn
import HandS.ForMost
import HandS.GenOver
import HandS.AnyAll
import PyProof.GenRules
import PyProof.GenQ
import HandS.Lambda
import HandS.Gcd
import HandS.Wide
import HandS.IsInst
import HandS.Zip
import HandS.Conv
import HandS.ForExc
import HandS.Flow
import HandS.TupAny
import HandS.Star
import HandS.More
import HandS.Style
import HandS.Iter
import HandS.Comp
import HandS.Defaults
import HandS.Words
import HandS.EndTab
import HandS.HeadHook4
import HandS.Head2
import KE.KStateDown
import HandS.HeadEnd
import HandS.TupMul
import HandS.SortInts
import HandS.Head3
import KE.GoesMore
import KE.GoesZip
import KE.GoesEnum
import HandS.Deep
import PyProof.WalkInts
import PyProof.ConsumeWalk
import KE.DataAny
import HandS.ExcIs
import HandS.Small
import PyProof.Rows.IntBool
import HandS.TupLe
import HandS.WordsDict
import KE.KDictList
import PySem.Challenge.RW_actuarium_k47_whole_ruin_within
set_option Elab.async false
set_option linter.all false
set_option maxRecDepth 100000
set_option maxHeartbeats 4000000
/-! generator expressions over anything that a for walks, inside any, all, sum -/
namespace GX
open PySem PySem.Spec PyProof.Rows L2 GenW GxR
open Sem (wp)

/-- the scope of a generator expression -/
structure GBlk (N : List Str) (sc scope : Scope) (own : List (Str × Nat)) : Prop where
  blk : BlkOk N sc scope own
  co : scope.isCoroutine = false
  cell : ∀ y ∈ scope.names, y.2 ≠ .cell
  dot : scope.names.lookup (".0" : Str) = some NameKind.local
def gblkC (N : List Str) (sc scope : Scope) (own : List (Str × Nat)) : Bool :=
  blkC N sc scope own && !scope.isCoroutine && scope.names.all (fun y => y.2 != .cell) && (scope.names.lookup (".0" : Str) == some NameKind.local)
theorem gblk_by {N : List Str} {sc scope : Scope} {own : List (Str × Nat)} (h : gblkC N sc scope own = true) : GBlk N sc scope own := by
  unfold gblkC at h
  simp only [Bool.and_eq_true, Bool.not_eq_true', List.all_eq_true, bne_iff_ne, beq_iff_eq] at h
  exact ⟨blkOk_by h.1.1.1, h.1.1.2, h.1.2, h.2⟩

/-- the context of a generator expression's frame -/
abbrev gcx (X : Cx) (A' : Around) (s : Shared) (H : Hp) (ge : Env) (fp : List Addr) : Cx :=
  { X with A := A', s_0 := s, H_0 := H, env := ge, outer := X.stack, stack := ge :: X.stack, ex := fp, fn := fun _ => false, pn := [], xe := fun _ _ => False }
/-- its env -/
abbrev gEnv (X : Cx) (scope : Scope) (C : Addr) (code : Value) : Env := genEnv scope (cloFrom X.env.cells scope.names []) C code builtinsNs X.env

section
variable {X : Cx} {pins : List (Addr × Obj)} {σ : L2.St} {H : Hp} {s : Shared}
theorem gen_inv {scope : Scope} {own : List (Str × Nat)} {fp : List Addr} {code it : Value} {A' : Around} {h5 : Heap} {g5 : Array GenState} {t5 : Nat} (I : Inv X pins σ H s) (ok : GBlk X.N X.env.scope scope own) (hN : X.N.Nodup)
    (hfp : ∀ b ∈ fp, FpOk X pins H b ∧ b < s.heap.objs.size) (hfr : A'.frames = some (gEnv X scope s.heap.objs.size code :: X.stack)) (hh : A'.handled = none)
    (hns : h5.Ns s.heap.objs.size (fun y => if y = ".0" then some it else none)) (kp : ∀ b o, s.heap.get? b = some o → h5.get? b = some o) (hg : AllBare g5) :
    Inv (gcx X A' s H (gEnv X scope s.heap.objs.size code) fp) [] (wipe σ (own.map (·.2))) H { s with heap := h5, gens := g5, toks := t5 } := by
  have ob := ok.blk
  have cm : ∀ {y c}, (gEnv X scope s.heap.objs.size code).cells.lookup y = some c → X.env.cells.lookup y = some c ∧ scope.names.lookup y = some .free := fun {y c} e => by
    rcases cloFrom_mem (PySem.mem_of_lookup e) with hm | ⟨h1, rfl⟩
    · cases hm
    · have hf : ∃ c, X.env.cells.lookup y = some c := by
        rcases ob.free _ h1 rfl with k | k
        · exact I.ok.has _ (.inl k)
        · exact I.ok.has _ (.inr k)
      obtain ⟨c, hc⟩ := hf
      rw [hc]
      exact ⟨rfl, ob.uniq _ h1⟩
  have look : ∀ {y}, scope.names.lookup y = some .free → ∃ c, (gEnv X scope s.heap.objs.size code).cells.lookup y = some c := fun {y} hl =>
    mem_lookup (cloFrom_has (cells := X.env.cells) (acc := []) (PySem.mem_of_lookup hl))
  have clt : ∀ {y c}, X.env.cells.lookup y = some c → c < s.heap.objs.size := fun {y c} e => by
    obtain ⟨w, z⟩ := I.cell _ _ e
    exact z.lt
  have okB : (gcx X A' s H (gEnv X scope s.heap.objs.size code) fp).Ok := by
    refine ⟨I.ok.mod, ob.kind, I.ok.glob, rfl, Nat.le_refl _, fun y z c e1 e2 => I.ok.inj y z c (cm e1).1 (cm e2).1, fun y hy => ?_, fun y c z _ => Bool.noConfusion (show false = true from z), fun _ => hh, hfr, .inr ⟨rfl, rfl⟩,
      fun b hb => ⟨Nat.ne_of_lt (hfp b hb).2, fun y c e => (hfp b hb).1.2.2.2.2.1 y c (cm e).1⟩, I.bs, Nat.le_trans I.ok.bsz I.sz, fun b o e hb => ?_, fun b hb z => ?_, I.stack, I.stkFree⟩
    · have hy : scope.names.lookup y = some .cell ∨ scope.names.lookup y = some .free := hy
      rcases hy with hy | hy
      · exact absurd rfl (ok.cell _ (PySem.mem_of_lookup hy))
      · exact look hy
    · rcases (hfp b hb).1.2.2.2.1 with z | z
      · exact I.ok.noex b o e z
      · exact absurd (Nat.lt_of_lt_of_le (Heap.lt_size e) (Nat.le_trans I.ok.bsz z)) (Nat.lt_irrefl _)
    · rcases List.mem_cons.mp (I.stkSub b z) with z | z
      · exact (hfp b hb).1.2.1 z
      · exact (hfp b hb).1.2.2.1 z
  refine ⟨okB, rfl, hg, Un.kept kp, ⟨_, hns, fun i y av e1 e2 e3 => ?_⟩, fun y c e => ?_, I.hok.fresh (Nat.le_refl _), fun y c e => I.freeC y c (cm e).1, fun p hp => absurd (show p ∈ ([] : List (Addr × Obj)) ++ [] from hp) (by simp), I.hok.kept kp, by rw [wipe_length]; exact I.len⟩
  · obtain ⟨e2, hne⟩ := wipe_some e2
    have e3 : Vis scope y := e3
    have no : ∀ k, scope.names.lookup y = some k → k = .local ∨ k = .cell → False := fun k hk hk' => by
      rcases ob.own _ (PySem.mem_of_lookup hk) hk' with e' | e'
      · obtain ⟨p, hp, hpy⟩ := List.mem_map.mp e'
        have e3 := ob.ix p hp
        have q : p.1 = y := hpy
        rw [q] at e3
        exact hne (List.mem_map.mpr ⟨p, hp, nodup_ix hN e3 e1⟩)
      · exact e' (List.mem_of_getElem? e1)
    have hfr : scope.names.lookup y = some .free := by
      rcases e3 with e3 | e3 | e3
      · exact (no _ e3 (.inl rfl)).elim
      · exact (no _ e3 (.inr rfl)).elim
      · exact e3
    obtain ⟨m, hn, hl⟩ := I.loc
    have hvis : Vis X.env.scope y := (ob.free _ (PySem.mem_of_lookup hfr) rfl).elim (fun k => .inr (.inl k)) (fun k => .inr (.inr k))
    obtain ⟨w, r, q⟩ := hl i y av e1 e2 hvis
    refine ⟨w, r, .inr ⟨.inr hfr, ?_⟩⟩
    obtain ⟨c, h1⟩ := look hfr
    rcases q with ⟨k, _⟩ | ⟨_, c', e', z⟩
    · have k : X.env.scope.names.lookup y = some .local := k
      rcases ob.free _ (PySem.mem_of_lookup hfr) rfl with k' | k' <;> rw [show X.env.scope.names.lookup y = _ from k'] at k <;> cases k
    · have h2 := (cm h1).1
      rw [h2] at e'; cases e'
      exact ⟨c, h1, z.keeps kp⟩
  · obtain ⟨w, z⟩ := I.cell y c (cm e).1
    exact ⟨w, z.keeps kp⟩
end
end GX
namespace GX
open PySem PySem.Spec PyProof.Rows L2 GenW GxR
open Sem (wp)

/-- what the turns hand out -/
structure GTurns (J : It) (g : TG) (tt : TT) (te : TE) (vs : List Nat) (σ0 : L2.St) (n : Nat) (out : Nat → Option V) (Pi : Nat → Hp → Prop) : Prop where
  turn : ∀ i H, i < n → Pi i H → J.go i H ∧ ∀ x H', J.yld i H x H' → g x σ0 H' fun σ2 H2 => wipe σ2 vs = σ0 ∧ tt σ2 H2 fun b H3 =>
    if b = true then te σ2 H3 fun y H4 => out i = some y ∧ Pi (i + 1) H4 else out i = none ∧ Pi (i + 1) H3
  stop : ∀ H, Pi n H → J.stop n H
def outs (n : Nat) (out : Nat → Option V) (i : Nat) : List V := ((List.range n).drop i).filterMap out
theorem outs_end (n : Nat) (out : Nat → Option V) : outs n out n = [] := by
  unfold outs; rw [List.drop_of_length_le (by simp)]; rfl
theorem outs_none {n i : Nat} {out : Nat → Option V} (h : i < n) (e : out i = none) : outs n out i = outs n out (i + 1) := by
  unfold outs; rw [range_drop h, List.filterMap_cons_none e]
theorem outs_some {n i : Nat} {out : Nat → Option V} {y : V} (h : i < n) (e : out i = some y) : outs n out i = y :: outs n out (i + 1) := by
  unfold outs; rw [range_drop h, List.filterMap_cons_some e]

section
variable {X : Cx}
/-- a yield; Cs: what the consumer holds -/
def GYp (X' : Cx) (Cs fp : List Addr) (tn : Nat → Heap → Prop) (σ0 : L2.St) (n : Nat) (out : Nat → Option V) (Pi : Nat → Hp → Prop) : Protocol := fun m s₀ v s kap =>
  ∃ i y H, i < n ∧ out i = some y ∧ (outs n out (i + 1)).length = m ∧ RelV y v ∧ Inv X' (pinsAt Cs s₀.heap) σ0 H s ∧ tn (i + 1) s.heap ∧ (∀ b ∈ fp, H b = none) ∧ Pi (i + 1) H ∧
    ∀ s'' : Shared, Inv X' (pinsAt Cs s''.heap) σ0 H s'' → tn (i + 1) s''.heap → kap (.send .none) s''
def GRp (X' : Cx) (Cs : List Addr) (σ0 : L2.St) (n : Nat) (Pi : Nat → Hp → Prop) : GenEnd := fun m s₀ r s => r = .ok .next ∧ m = 0 ∧ ∃ H, Inv X' (pinsAt Cs s₀.heap) σ0 H s ∧ Pi n H

theorem seg_loop {K : PySem.W.Frag} {P : Program} {w : World} {elt tg iter : Expr} {ifs : List Expr} {scope : Scope} {pos : Pos} {it : Addr} {fp Cs : List Addr} {tn : Nat → Heap → Prop} {J : It} {g : TG} {tt : TT} {te : TE} {vs : List Nat} {σ0 : L2.St} {n : Nat} {out : Nat → Option V} {Pi : Nat → Hp → Prop}
    {X' : Cx} {A : Around} (hP : X'.prog = P) (hw : X'.w = w) (hK : X'.K = K) (T : Turn P w K tg J fp it tn) (hc : X'.calm = true) (hx : X'.xe = fun _ _ => False) (hfpx : ∀ b ∈ fp, b ∈ X'.ex) (hpn : X'.pn = []) (hCsf : ∀ b ∈ fp, b ∉ Cs)
    (hA : A.over (.compLoop (.GeneratorExp elt [⟨tg, iter, ifs, 0⟩] scope pos) 0 (.ref it) .none X'.env) [] = X'.A) (hco : X'.env.scope.isCoroutine = false)
    (hg : PG X' tg g) (ht : PTs X' ifs tt) (he : PE X' elt te) (G : GTurns J g tt te vs σ0 n out Pi) (hw0 : wipe σ0 vs = σ0) :
    ∀ (k i : Nat) (s₀ s : Shared) (H : Hp), n - i = k → i ≤ n → Inv X' (pinsAt Cs s₀.heap) σ0 H s → tn i s.heap → (∀ b ∈ fp, H b = none) → Pi i H →
      Seg (model P w) A (GRp X' Cs σ0 n Pi) (GYp X' Cs fp tn σ0 n out Pi) (outs n out i).length s₀
        (.compLoop (.GeneratorExp elt [⟨tg, iter, ifs, 0⟩] scope pos) 0 (.ref it) .none X'.env)
        ((model P w).den (.compLoop (.GeneratorExp elt [⟨tg, iter, ifs, 0⟩] scope pos) 0 (.ref it) .none X'.env)) [] s := by
  subst hP hw hK
  have stat : ∀ {pins : List (Addr × Obj)} {σ' : L2.St} {H' : Hp} {s' : Shared}, (∀ p ∈ pins, p.1 ∈ Cs) → Inv X' pins σ' H' s' → (∀ b ∈ fp, H' b = none) → ∀ b ∈ fp, FpOk X' pins H' b := fun {pins σ' H' s'} hp I' hn b hb =>
    ⟨hn b hb, (I'.ok.exf b (hfpx b hb)).1, I'.ok.exfs b (hfpx b hb), .inl (hfpx b hb), fun x c e => (I'.ok.exf b (hfpx b hb)).2 x c e, fun p q z => by
      rw [hpn, List.nil_append] at q
      exact hCsf b hb (z ▸ hp p q)⟩
  have pinC : ∀ {h : Heap} {p : Addr × Obj}, p ∈ pinsAt Cs h → p.1 ∈ Cs := fun q => (of_pinsAt q).1
  have noE : ∀ {α : Type} {t : Sem α} {Q Q' : α → Shared → Prop} {E' : Value → Shared → Prop} {s : Shared}, wpAny (model X'.prog X'.w) X'.A t Q X'.xe s → (∀ a s, Q a s → Q' a s) → wpAny (model X'.prog X'.w) X'.A t Q' E' s :=
    fun {α t Q Q' E' s} h hQ => by
      rw [hx] at h
      exact wpAny_mono h hQ fun _ _ z => z.elim
  intro k
  induction k with
  | zero =>
    intro i s₀ s H hk hi I st fn p
    have hin : i = n := by omega
    subst hin
    show Seg _ A _ _ _ s₀ _ ((compTurn (.GeneratorExp elt [⟨tg, iter, ifs, 0⟩] scope pos) 0 (.ref it) .none X'.env).onRaise (leaving X'.env)) [] s
    rw [compTurn_gen, Sem.onRaise_eq_wrap]
    refine seg_bind_wrap (wpAny_standAt ?_)
    refine seg_bind_wrap ?_
    rw [hA]
    refine noE (T.done X' rfl rfl rfl hc i _ s σ0 H X'.xe I (stat (fun p q => pinC q) I fn) st (G.stop H p)) fun r s1 ⟨hr, I1⟩ => ?_
    subst hr
    exact seg_end (.ok .next) ⟨rfl, by rw [outs_end]; rfl, H, I1, p⟩
  | succ k ih =>
    intro i s₀ s H hk hi I st fn p
    have hlt : i < n := by omega
    obtain ⟨go, step⟩ := G.turn i H hlt p
    show Seg _ A _ _ _ s₀ _ ((compTurn (.GeneratorExp elt [⟨tg, iter, ifs, 0⟩] scope pos) 0 (.ref it) .none X'.env).onRaise (leaving X'.env)) [] s
    rw [compTurn_gen, Sem.onRaise_eq_wrap]
    refine seg_bind_wrap (wpAny_standAt ?_)
    refine seg_bind_wrap ?_
    rw [hA]
    refine noE (T.item X' rfl rfl rfl hc i _ s σ0 H X'.xe I (stat (fun p q => pinC q) I fn) st go) fun r s1 ⟨u, hr, h1⟩ => ?_
    subst hr
    refine seg_bind_wrap ?_
    rw [hA]
    refine noE h1 fun _ s2 ⟨x, H2, I2, r2, y2, st2, fn2⟩ => ?_
    have I2' := I2.pinned (stat (fun p q => pinC q) I2 fn2) (T.obj _ _ st2)
    refine seg_bind_wrap ?_
    rw [hA]
    refine noE (hg.run _ s2 σ0 H2 x u _ I2' r2 (step x H2 y2)) fun _ s3 ⟨σ3, H3, I3, hw3, q3⟩ => ?_
    refine seg_bind_wrap ?_
    rw [hA]
    refine noE (ht.run _ s3 σ3 H3 _ I3 q3) fun b s4 ⟨H4, I4, q4⟩ => ?_
    have fin : ∀ {s' : Shared} {H' : Hp}, Inv X' (pinsAt Cs s₀.heap ++ pinsAt fp s2.heap) σ3 H' s' → Inv X' (pinsAt Cs s₀.heap) σ0 H' s' ∧ tn (i + 1) s'.heap ∧ ∀ b ∈ fp, H' b = none := fun {s' H'} I' => by
      have pin' : ∀ b ∈ fp, ∀ o, s2.heap.get? b = some o → s'.heap.get? b = some o ∧ H' b = none := fun b hb o e =>
        let z := I'.pin (b, o) (List.mem_append_right _ (List.mem_append_right _ (mem_pinsAt hb e)))
        ⟨z.1, z.2.1⟩
      have hl : σ0.length = σ3.length := by rw [← hw3, wipe_length]
      refine ⟨I'.unpinned.weak hl (fun j v e => ?_), T.keep _ _ _ st2 fun b hb o e => (pin' b hb o e).1, fun b hb => ?_⟩
      · rw [← hw3] at e
        exact (wipe_some e).1
      · obtain ⟨o, e, _⟩ := T.obj _ _ st2 b hb
        exact (pin' b hb o e).2
    cases b with
    | false =>
      simp only [Bool.false_eq_true, if_false] at q4 ⊢
      rw [outs_none hlt q4.1]
      obtain ⟨I5, st5, fn5⟩ := fin I4
      exact seg_again rfl (ih (i + 1) s₀ _ H4 (by omega) hlt I5 st5 fn5 q4.2)
    | true =>
      simp only [if_true] at q4 ⊢
      have hy : ∀ v, yieldOut X'.env v = yieldValue v := fun v => by simp only [yieldOut, hco, Bool.false_eq_true, if_false]
      simp only [hy]
      rw [Sem.bind_eq_wrap', Sem.bind_eq_wrap', Sem.wrap_wrap, Sem.wrap_wrap]
      refine seg_wrap ?_
      rw [hA]
      refine noE (he.run _ s4 σ3 H4 _ I4 q4) fun v s5 ⟨y, H5, I5, r5, hy5, p5⟩ => ?_
      rw [outs_some hlt hy5, List.length_cons]
      obtain ⟨I6, st6, fn6⟩ := fin I5
      refine seg_at (seg_yield rfl rfl rfl ⟨i, y, H5, hlt, hy5, rfl, r5, I6, st6, fn6, p5, fun s'' I'' st'' => ?_⟩)
      exact seg_again rfl (ih (i + 1) s'' s'' H5 (by omega) hlt I'' st'' fn6 p5)

theorem seg_start {K : PySem.W.Frag} {P : Program} {w : World} {elt tg iter : Expr} {ifs : List Expr} {scope : Scope} {pos : Pos} {it : Addr} {fp : List Addr} {tn : Nat → Heap → Prop} {J : It}
    {cenv : Env} {A : Around} {R : GenEnd} {Y : Protocol} {n : Nat} {s₀ s : Shared} (T : Turn P w K tg J fp it tn) (st : tn 0 s.heap)
    (loop : Seg (model P w) A R Y n s₀ (.compLoop (.GeneratorExp elt [⟨tg, iter, ifs, 0⟩] scope pos) 0 (.ref it) .none cenv) ((model P w).den (.compLoop (.GeneratorExp elt [⟨tg, iter, ifs, 0⟩] scope pos) 0 (.ref it) .none cenv)) [] s) :
    Seg (model P w) A R Y n s₀ (.compStart (.GeneratorExp elt [⟨tg, iter, ifs, 0⟩] scope pos) 0 (.ref it) .none cenv)
      ((model P w).den (.compStart (.GeneratorExp elt [⟨tg, iter, ifs, 0⟩] scope pos) 0 (.ref it) .none cenv)) [] s := by
  show Seg _ A _ _ _ s₀ _ ((compStart (.GeneratorExp elt [⟨tg, iter, ifs, 0⟩] scope pos) 0 (.ref it) .none cenv).onRaise (leaving cenv)) [] s
  unfold compStart
  rw [Sem.onRaise_eq_wrap]
  show Seg _ A _ _ _ s₀ _ ((ask >>= _).wrap _ _ _ _) [] s
  refine seg_bind_wrap (wpAny_askSetting ?_)
  split
  · exact seg_again rfl loop
  · first
      | exact seg_bind_wrap (wpAny_rule (seg_bind_wrap (wpAny_standAt (seg_bind_wrap (T.self _ 0 s _ _ st (seg_again rfl loop))))))
      | (refine seg_bind_wrap (wpAny_rule ?_)
         show Seg _ A _ _ _ s₀ _ ((standAt iter.pos >>= _).wrap _ _ _ _) [] s
         exact seg_bind_wrap (wpAny_standAt (seg_bind_wrap (T.self _ 0 s _ _ st (seg_again rfl loop)))))
end
end GX
namespace GX
open PySem PySem.Spec PyProof.Rows L2 GenW GxR
open Sem (wp)

theorem inv_gens {X : Cx} {pins : List (Addr × Obj)} {σ : L2.St} {H : Hp} {s : Shared} {G : Array GenState} (I : Inv X pins σ H s) (hg : AllBare G) : Inv X pins σ H { s with gens := G } :=
  ⟨I.ok, I.os, hg, I.base, I.loc, I.cell, I.free, I.freeC, I.pin, I.hok, I.len⟩
theorem bare_setGen {s : Shared} {g : Nat} {x : GenState} (h : AllBare s.gens) (hx : x.bare = true) : AllBare (s.setGen g x).gens := fun y hy => by
  have hy : y ∈ (s.gens.setIfInBounds g x) := hy
  rcases Array.mem_or_eq_of_mem_setIfInBounds hy with z | z
  · exact h y z
  · rw [z]; exact hx
theorem inv_setGen {X : Cx} {pins : List (Addr × Obj)} {σ : L2.St} {H : Hp} {s : Shared} {g : Nat} {x : GenState} (I : Inv X pins σ H s) (hx : x.bare = true) : Inv X pins σ H (s.setGen g x) := inv_gens I (bare_setGen I.bare hx)
theorem inv_repin {X : Cx} {pins pins' : List (Addr × Obj)} {σ : L2.St} {H : Hp} {s : Shared} (I : Inv X pins σ H s) (h : ∀ p ∈ pins', p ∈ pins) : Inv X pins' σ H s :=
  I.pins_of fun p hp => I.pin p (List.mem_append_right _ (h p hp))
/-- the pinned objects stand -/
theorem pins_eq {X : Cx} {Cs : List Addr} {h : Heap} {σ : L2.St} {H : Hp} {s : Shared} (I : Inv X (pinsAt Cs h) σ H s) (there : ∀ b ∈ Cs, ∃ o, h.get? b = some o) : pinsAt Cs s.heap = pinsAt Cs h ∧ ∀ b ∈ Cs, s.heap.get? b = h.get? b := by
  have key : ∀ b ∈ Cs, s.heap.get? b = h.get? b := fun b hb => by
    obtain ⟨o, e⟩ := there b hb
    rw [e]
    exact (I.pin (b, o) (List.mem_append_right _ (mem_pinsAt hb e))).1
  refine ⟨?_, key⟩
  unfold pinsAt
  have go : ∀ l : List Addr, (∀ b ∈ l, s.heap.get? b = h.get? b) → (l.filterMap fun b => (s.heap.get? b).map fun o => (b, o)) = l.filterMap fun b => (h.get? b).map fun o => (b, o) := by
    intro l
    induction l with
    | nil => intro _; rfl
    | cons b r ih =>
      intro hl
      rw [List.filterMap_cons, List.filterMap_cons, hl b List.mem_cons_self, ih fun c hc => hl c (List.mem_cons_of_mem _ hc)]
  exact go Cs key

section
variable {X' : Cx} {B : Around} {a gi n : Nat} {Cs fp : List Addr} {tn : Nat → Heap → Prop} {σ0 : L2.St} {out : Nat → Option V} {Pi : Nat → Hp → Prop}
/-- the generator at a waits ahead of turn i -/
def CI (X' : Cx) (B : Around) (a : Addr) (gi : Nat) (Cs fp : List Addr) (tn : Nat → Heap → Prop) (σ0 : L2.St) (n : Nat) (out : Nat → Option V) (Pi : Nat → Hp → Prop) (i : Nat) (s : Shared) : Prop :=
  ∃ H gs, Inv X' (pinsAt Cs s.heap) σ0 H s ∧ (∀ b ∈ Cs, ∃ o, s.heap.get? b = some o) ∧ tn i s.heap ∧ Pi i H ∧ a ∈ Cs ∧ s.heap.IsGen a gi ∧ s.gens[gi]? = some gs ∧
    ∀ s'' : Shared, Inv X' (pinsAt Cs s''.heap) σ0 H s'' → tn i s''.heap → gs.Goes (model X'.prog X'.w) B.in1 (GRp X' Cs σ0 n Pi) (GYp X' Cs fp tn σ0 n out Pi) (outs n out i).length (.send .none) s''
/-- it is over -/
def CE' (X' : Cx) (Cs : List Addr) (σ0 : L2.St) (Pi : Nat → Hp → Prop) (s : Shared) : Prop := ∃ i H, Inv X' (pinsAt Cs s.heap) σ0 H s ∧ (∀ b ∈ Cs, ∃ o, s.heap.get? b = some o) ∧ Pi i H
theorem CI.over {i : Nat} {s : Shared} (h : CI X' B a gi Cs fp tn σ0 n out Pi i s) : CE' X' Cs σ0 Pi s :=
  let ⟨H, _, I, th, _, p, _⟩ := h
  ⟨i, H, I, th, p⟩
theorem isGen_at {h h' : Heap} {a : Addr} {g : Nat} (x : h.IsGen a g) (e : h'.get? a = h.get? a) : h'.IsGen a g := by
  obtain ⟨o, nm, qn, ho, r⟩ := x
  exact ⟨o, nm, qn, e.trans ho, r⟩
theorem ci_item (hh : B.handled = none) (hroom : B.depth < recursionLimit) {i : Nat} {s : Shared} {y : V} {rest : List V} {Q : Option Value → Shared → Prop} {E : Value → Shared → Prop} (h : CI X' B a gi Cs fp tn σ0 n out Pi i s) (ho : outs n out i = y :: rest)
    (hQ : ∀ v s' i', RelV y v → outs n out i' = rest → i' ≤ n → CI X' B a gi Cs fp tn σ0 n out Pi i' s' → (∀ b ∈ Cs, s'.heap.get? b = s.heap.get? b) → Q (some v) s') : wpAny (model X'.prog X'.w) B (pyNext (.ref a)) Q E s := by
  obtain ⟨H, gs, I, th, st, p, ha, hg, hgs, go⟩ := h
  have hgi : gi < s.gens.size := by
    rcases Nat.lt_or_ge gi s.gens.size with z | z
    · exact z
    · rw [Array.getElem?_eq_none z] at hgs; cases hgs
  refine wpAny_gsz (n := gi + 1) hgi ?_
  have go' := go (s.setGen gi .running) (inv_setGen I rfl) st
  refine wpAny_pyNext_genexpQ (P := fun m s₀ s₁ => m = 0 ∧ ∃ H, Inv X' (pinsAt Cs s₀.heap) σ0 H s₁ ∧ Pi n H) hh I.nolimit hroom hg hgs go' (fun v s1 gs' hb hv => ?_) (fun s1 hp => ?_)
  · intro hsz
    obtain ⟨i1, y1, H1, hlt, hy1, hlen, r1, I1, st1, fn1, p1, kap⟩ := hv
    rw [ho, List.length_cons, Nat.add_sub_cancel] at hlen
    -- the same place
    have I1 : Inv X' (pinsAt Cs s.heap) σ0 H1 s1 := I1
    obtain ⟨e1, e2⟩ := pins_eq I1 th
    have hsuf : ∃ pre, outs n out i = pre ++ outs n out i1 ∨ outs n out i1 = pre ++ outs n out i := by
      unfold outs
      rcases Nat.le_total i i1 with z | z
      · refine ⟨(((List.range n).drop i).take (i1 - i)).filterMap out, .inl ?_⟩
        rw [← List.filterMap_append]
        congr 1
        have q := (List.take_append_drop (i1 - i) ((List.range n).drop i)).symm
        rw [List.drop_drop, show i + (i1 - i) = i1 by omega] at q
        exact q
      · refine ⟨(((List.range n).drop i1).take (i - i1)).filterMap out, .inr ?_⟩
        rw [← List.filterMap_append]
        congr 1
        have q := (List.take_append_drop (i - i1) ((List.range n).drop i1)).symm
        rw [List.drop_drop, show i1 + (i - i1) = i by omega] at q
        exact q
    have e4 : outs n out i1 = y1 :: outs n out (i1 + 1) := outs_some hlt hy1
    have e5 : outs n out i = outs n out i1 := by
      obtain ⟨pre, z | z⟩ := hsuf
      · have z2 := congrArg List.length z
        rw [ho, List.length_cons, List.length_append, e4, List.length_cons, hlen] at z2
        have : pre = [] := by
          cases pre with
          | nil => rfl
          | cons _ _ => rw [List.length_cons] at z2; omega
        rw [z, this]; rfl
      · have z2 := congrArg List.length z
        rw [ho, List.length_append, e4, List.length_cons, List.length_cons, hlen] at z2
        have : pre = [] := by
          cases pre with
          | nil => rfl
          | cons _ _ => rw [List.length_cons] at z2; omega
        rw [z, this]; rfl
    rw [ho, e4] at e5
    have ey : y = y1 := (List.cons.inj e5).1
    subst ey
    have er : rest = outs n out (i1 + 1) := (List.cons.inj e5).2
    rw [ho, List.length_cons] at kap
    have hsz1 : gi < s1.gens.size := by
      have : gi + 1 ≤ (s1.setGen gi gs').gens.size := hsz
      rw [setGen_size] at this
      exact this
    refine hQ v _ (i1 + 1) r1 er.symm hlt ⟨H1, gs', ?_, fun b hb => ?_, st1, p1, ha, isGen_at hg (e2 a ha), ?_, fun s'' I'' st'' => ?_⟩ e2
    · show Inv X' (pinsAt Cs s1.heap) σ0 H1 _
      rw [e1]
      exact inv_setGen I1 hb
    · obtain ⟨o, q⟩ := th b hb
      exact ⟨o, (e2 b hb).trans q⟩
    · simp [Shared.setGen, hsz1]
    · have := kap s'' I'' st''
      rw [← er]
      exact this
  · rw [ho] at hp
    exact absurd hp.1 (by simp)
theorem ci_end (hh : B.handled = none) (hroom : B.depth < recursionLimit) {i : Nat} {s : Shared} {Q : Option Value → Shared → Prop} {E : Value → Shared → Prop} (h : CI X' B a gi Cs fp tn σ0 n out Pi i s) (ho : outs n out i = [])
    (hQ : ∀ s', CE' X' Cs σ0 Pi s' → (∀ b ∈ Cs, s'.heap.get? b = s.heap.get? b) → Q none s') : wpAny (model X'.prog X'.w) B (pyNext (.ref a)) Q E s := by
  obtain ⟨H, gs, I, th, st, p, ha, hg, hgs, go⟩ := h
  have go' := go (s.setGen gi .running) (inv_setGen I rfl) st
  refine wpAny_pyNext_genexpQ (P := fun m s₀ s₁ => m = 0 ∧ ∃ H, Inv X' (pinsAt Cs s₀.heap) σ0 H s₁ ∧ Pi n H) hh I.nolimit hroom hg hgs go' (fun v s1 gs' hb hv => ?_) (fun s1 hp h' hk => ?_)
  · obtain ⟨i1, y1, H1, hlt, hy1, hlen, r1, I1, st1, fn1, p1, kap⟩ := hv
    rw [ho] at kap
    exfalso
    have I1 : Inv X' (pinsAt Cs s.heap) σ0 H1 s1 := I1
    obtain ⟨e1, e2⟩ := pins_eq I1 th
    exact kap s1 (by rw [e1]; exact I1) st1
  · obtain ⟨_, H1, I1, p1⟩ := hp
    have I1 : Inv X' (pinsAt Cs s.heap) σ0 H1 s1 := I1
    have I2 : Inv X' (pinsAt Cs s.heap) σ0 H1 { s1.setGen gi .finished with heap := h' } := Inv.kept (t' := s1.toks) (inv_setGen (g := gi) (x := .finished) I1 rfl) hk
    obtain ⟨e1, e2⟩ := pins_eq I2 th
    refine hQ _ ⟨n, H1, by rw [e1]; exact I2, fun b hb => ?_, p1⟩ e2
    obtain ⟨o, q⟩ := th b hb
    exact ⟨o, (e2 b hb).trans q⟩
end

/-! ### all, any -/
def blOf : V → Option Bool
  | .bl b => some b
  | _ => none
section
variable {X' : Cx} {A0 : Around} {a gi n : Nat} {Cs fp : List Addr} {tn : Nat → Heap → Prop} {σ0 : L2.St} {out : Nat → Option V} {Pi : Nat → Hp → Prop}
theorem ci_all (hh : A0.handled = none) (hroom : A0.depth < recursionLimit) {R : Result → Shared → Prop} : ∀ (bs : List Bool) (i : Nat) (s : Shared), CI X' A0.in1 a gi Cs fp tn σ0 n out Pi i s → outs n out i = bs.map V.bl →
    (∀ s', CE' X' Cs σ0 Pi s' → R (.ok (.ret (.bool (bs.all id)))) s') → codeAny (model X'.prog X'.w) A0 (.builtin "all.loop" ⟨[.ref a], []⟩) R s := by
  intro bs
  induction bs with
  | nil =>
    intro i s h ho hR
    refine codeAny_builtin F.entry_all_loop ?_
    rw [Around.under_plainId F.plain_all_loop _]
    show wpAny _ A0.in1 (pyNext (.ref a) >>= _) _ _ s
    refine wpAny_bind (ci_end (B := A0.in1) hh hroom h ho fun s' e _ => ?_)
    exact wpAny_bind (wpAny_rule (wpAny_pure (hR s' e)))
  | cons b bs ih =>
    intro i s h ho hR
    refine codeAny_builtin F.entry_all_loop ?_
    rw [Around.under_plainId F.plain_all_loop _]
    show wpAny _ A0.in1 (pyNext (.ref a) >>= _) _ _ s
    refine wpAny_bind (ci_item (B := A0.in1) hh hroom h ho fun v s' i' r e _ c _ => ?_)
    obtain rfl : v = Value.bool b := r
    refine wpAny_bind (wpAny_holding (wpAny_truthy_bool ?_))
    refine wpAny_bind (wpAny_letGo ?_)
    cases b with
    | true =>
      simp only [if_true]
      exact wpAny_pure ⟨plainId_quiet F.plain_all_loop _, ih i' s' c e fun s'' z => hR s'' z⟩
    | false =>
      simp only [Bool.false_eq_true, if_false]
      exact wpAny_bind (wpAny_rule (wpAny_pure (hR s' c.over)))
theorem ci_any (hh : A0.handled = none) (hroom : A0.depth < recursionLimit) {R : Result → Shared → Prop} : ∀ (bs : List Bool) (i : Nat) (s : Shared), CI X' A0.in1 a gi Cs fp tn σ0 n out Pi i s → outs n out i = bs.map V.bl →
    (∀ s', CE' X' Cs σ0 Pi s' → R (.ok (.ret (.bool (bs.any id)))) s') → codeAny (model X'.prog X'.w) A0 (.builtin "any.loop" ⟨[.ref a], []⟩) R s := by
  intro bs
  induction bs with
  | nil =>
    intro i s h ho hR
    refine codeAny_builtin F.entry_any_loop ?_
    rw [Around.under_plainId F.plain_any_loop _]
    show wpAny _ A0.in1 (pyNext (.ref a) >>= _) _ _ s
    refine wpAny_bind (ci_end (B := A0.in1) hh hroom h ho fun s' e _ => ?_)
    exact wpAny_bind (wpAny_rule (wpAny_pure (hR s' e)))
  | cons b bs ih =>
    intro i s h ho hR
    refine codeAny_builtin F.entry_any_loop ?_
    rw [Around.under_plainId F.plain_any_loop _]
    show wpAny _ A0.in1 (pyNext (.ref a) >>= _) _ _ s
    refine wpAny_bind (ci_item (B := A0.in1) hh hroom h ho fun v s' i' r e _ c _ => ?_)
    obtain rfl : v = Value.bool b := r
    refine wpAny_bind (wpAny_holding (wpAny_truthy_bool ?_))
    refine wpAny_bind (wpAny_letGo ?_)
    cases b with
    | false =>
      simp only [Bool.false_eq_true, if_false]
      exact wpAny_pure ⟨plainId_quiet F.plain_any_loop _, ih i' s' c e fun s'' z => hR s'' z⟩
    | true =>
      simp only [if_true]
      exact wpAny_bind (wpAny_rule (wpAny_pure (hR s' c.over)))
end
end GX
namespace GX
open PySem PySem.Spec PyProof.Rows L2 GenW GxR
open Sem (wp)

/-! ### tables of code objects whose code objects are known, with their own tables -/
def U0 : HO := .ext fun _ => True
def CodeObj (o : Obj) (c P : Addr) : Prop := ∃ vs file tf flags tg inF text tt, o.cls = .type "code" ∧ o.data = .fields vs ∧ vs[11]? = some (.ref P) ∧ vs.getD 11 .none = .ref P ∧ vs.getD 18 .none = .str file tf ∧
    vs.getD 7 .none = .int flags tg ∧ vs.getD 9 .none = .bool inF ∧ vs.getD 10 .none = .int text tt ∧ c ≠ P ∧ ∃ q tq, vs[1]? = some (.str q tq)
theorem CodeObj.hd {h : Heap} {o : Obj} {c P : Addr} (x : CodeObj o c P) (e : h.get? c = some o) : PySem.W.CodeHd h c P :=
  let ⟨vs, file, tf, flags, tg, inF, text, tt, a1, a2, a3, a4, a5, a6, a7, a8, a9, _⟩ := x; ⟨o, vs, file, tf, flags, tg, inF, text, tt, e, a1, a2, a3, a4, a5, a6, a7, a8, a9⟩
theorem CodeObj.ne {o : Obj} {c P : Addr} (x : CodeObj o c P) : c ≠ P := by
  obtain ⟨_, _, _, _, _, _, _, _, _, _, _, _, _, _, _, _, q, _⟩ := x
  exact q
theorem CodeObj.of {h : Heap} {c P : Addr} {q : Str} (x : PySem.W.CodeHd h c P) (y : h.CodeRec (.ref c) q) : ∃ o, h.get? c = some o ∧ CodeObj o c P := by
  obtain ⟨o, vs, file, tf, flags, tg, inF, text, tt, e, a1, a2, a3, a4, a5, a6, a7, a8, a9⟩ := x
  obtain ⟨c2, o2, vs2, t2, e2, g2, d2, r2⟩ := y
  cases e2
  rw [e] at g2
  cases g2
  rw [a2] at d2
  cases d2
  exact ⟨o, e, vs, file, tf, flags, tg, inF, text, tt, a1, a2, a3, a4, a5, a6, a7, a8, a9, q, t2, r2⟩
theorem u0_ne (ps : Array Value) (o : Obj) : HO.frz o U0 ≠ .tbl ps := fun z => by cases z
inductive TabW (H : Hp) : Addr → Prop
  | mk (P : Addr) (ps : Array Value) (h : H P = some (.tbl ps)) (t : TriplesOk ps.toList) (cs : ∀ pos cv, codeAmong pos ps.toList = some cv → ∃ c, cv = .ref c ∧ ∃ oc P', H c = some (.frz oc U0) ∧ CodeObj oc c P')
      (sub : ∀ pos c oc P', codeAmong pos ps.toList = some (.ref c) → H c = some (.frz oc U0) → CodeObj oc c P' → TabW H P') : TabW H P
theorem TabW.tab {H : Hp} {P : Addr} (h : TabW H P) : TabG H P := by
  cases h with
  | mk _ ps h t cs sub => exact ⟨ps, h, t⟩
theorem TabW.nil {H : Hp} {P : Addr} (h : H P = some (.tbl #[])) : TabW H P :=
  ⟨P, #[], h, trivial, fun pos cv hc => by
    have z : codeAmong pos [] = some cv := hc
    simp [codeAmong] at z, fun pos c oc P' hc => by
    have z : codeAmong pos [] = some (.ref c) := hc
    simp [codeAmong] at z⟩
theorem TabW.keep {H H' : Hp} (k1 : ∀ b ps, H b = some (.tbl ps) → H' b = some (.tbl ps)) (k2 : ∀ b o u, H b = some (.frz o u) → H' b = some (.frz o u)) {P : Addr} (h : TabW H P) : TabW H' P := by
  induction h with
  | mk P ps h t cs sub ih =>
    refine ⟨P, ps, k1 _ _ h, t, fun pos cv hc => ?_, fun pos c oc P' hc ho co => ?_⟩
    · obtain ⟨c, e, oc, P', h1, h2⟩ := cs pos cv hc
      exact ⟨c, e, oc, P', k2 _ _ _ h1, h2⟩
    · obtain ⟨c', e, oc', P'', h1, h2⟩ := cs pos _ hc
      cases e
      have z := k2 _ _ _ h1
      rw [ho] at z
      cases z
      exact ih pos c oc P' hc h1 co
/-- the table at P has grown, or not; the code cv is in it, P' is its table -/
structure Grown (P : Addr) (H H' : Hp) (cv : Value) (P' : Addr) : Prop where
  same : ∀ b o, H b = some o → b ≠ P → H' b = some o
  tabs : ∀ q, TabW H q → TabW H' q
  self : TabW H' P
  code : ∃ c oc, cv = .ref c ∧ H' c = some (.frz oc U0) ∧ CodeObj oc c P'
  tab : TabW H' P'
theorem Grown.dom {P P' : Addr} {H H' : Hp} {cv : Value} (g : Grown P H H' cv P') : ∀ b, H' b = none → H b = none := fun b e => by
  cases q : H b with
  | none => rfl
  | some o =>
    by_cases hb : b = P
    · obtain ⟨ps, z, _⟩ := g.self.tab
      rw [hb, z] at e; cases e
    · rw [g.same b o q hb] at e; cases e
/-- a code found -/
theorem Grown.hit {P : Addr} {H : Hp} (h : TabW H P) {ps : Array Value} (hP : H P = some (.tbl ps)) {pos : Pos} {cv : Value} (hc : codeAmong pos ps.toList = some cv) : ∃ P', Grown P H H cv P' := by
  cases h with
  | mk _ ps' h t cs sub =>
    rw [hP] at h; cases h
    obtain ⟨c, e, oc, P', h1, h2⟩ := cs pos cv hc
    subst e
    exact ⟨P', fun _ _ e _ => e, fun _ z => z, ⟨P, ps, hP, t, cs, sub⟩, ⟨c, oc, rfl, h1, h2⟩, sub pos c oc P' hc h1 h2⟩
/-- a code made -/
theorem Grown.made {P c P' : Addr} {H : Hp} (h : TabW H P) {ps : Array Value} (hP : H P = some (.tbl ps)) {pos : Pos} {oc : Obj} (nc : H c = none) (np : H P' = none) (hcp : c ≠ P') (co : CodeObj oc c P') :
    Grown P H (upd (upd (upd H P (.tbl (ps ++ #[rawInt pos.line, rawInt pos.col, .ref c]))) c (.frz oc U0)) P' (.tbl #[])) (.ref c) P' := by
  have pc : P ≠ c := ne_of_none hP nc
  have pp : P ≠ P' := ne_of_none hP np
  have at_ : ∀ b, b ≠ P → b ≠ c → b ≠ P' → upd (upd (upd H P (.tbl (ps ++ #[rawInt pos.line, rawInt pos.col, .ref c]))) c (.frz oc U0)) P' (.tbl #[]) b = H b := fun b h1 h2 h3 => by rw [upd_ne h3, upd_ne h2, upd_ne h1]
  have sm : ∀ b o, H b = some o → b ≠ P → upd (upd (upd H P (.tbl (ps ++ #[rawInt pos.line, rawInt pos.col, .ref c]))) c (.frz oc U0)) P' (.tbl #[]) b = some o := fun b o e hb => by
    rw [at_ b hb (ne_of_none e nc) (ne_of_none e np)]; exact e
  have fz : ∀ b o u, H b = some (.frz o u) → upd (upd (upd H P (.tbl (ps ++ #[rawInt pos.line, rawInt pos.col, .ref c]))) c (.frz oc U0)) P' (.tbl #[]) b = some (.frz o u) := fun b o u e => sm b _ e fun z => by rw [z, hP] at e; cases e
  have atP : upd (upd (upd H P (.tbl (ps ++ #[rawInt pos.line, rawInt pos.col, .ref c]))) c (.frz oc U0)) P' (.tbl #[]) P = some (.tbl (ps ++ #[rawInt pos.line, rawInt pos.col, .ref c])) := by rw [upd_ne pp, upd_ne pc, upd_same]
  have atc : upd (upd (upd H P (.tbl (ps ++ #[rawInt pos.line, rawInt pos.col, .ref c]))) c (.frz oc U0)) P' (.tbl #[]) c = some (.frz oc U0) := by rw [upd_ne hcp, upd_same]
  have new : TabW (upd (upd (upd H P (.tbl (ps ++ #[rawInt pos.line, rawInt pos.col, .ref c]))) c (.frz oc U0)) P' (.tbl #[])) P' := .nil upd_same
  have uniq : ∀ P'', CodeObj oc c P'' → P'' = P' := fun P'' co2 => by
    obtain ⟨vs, _, _, _, _, _, _, _, _, e1, e2, _⟩ := co
    obtain ⟨vs', _, _, _, _, _, _, _, _, f1, f2, _⟩ := co2
    rw [e1] at f1; cases f1
    rw [e2] at f2; cases f2; rfl
  have eL : (ps ++ #[rawInt pos.line, rawInt pos.col, Value.ref c]).toList = ps.toList ++ [rawInt pos.line, rawInt pos.col, .ref c] := by simp
  have all : ∀ q, TabW H q → TabW (upd (upd (upd H P (.tbl (ps ++ #[rawInt pos.line, rawInt pos.col, .ref c]))) c (.frz oc U0)) P' (.tbl #[])) q := fun q hq => by
    induction hq with
    | mk q qs h t cs sub ih =>
      have old : ∀ pos c' oc' P'', codeAmong pos qs.toList = some (.ref c') → upd (upd (upd H P (.tbl (ps ++ #[rawInt _, rawInt _, .ref c]))) c (.frz oc U0)) P' (.tbl #[]) c' = some (.frz oc' U0) → CodeObj oc' c' P'' → TabW _ P'' := fun pos' c' oc' P'' hc ho co' => by
        obtain ⟨c2, e, oc2, P2, h1, h2⟩ := cs pos' _ hc
        cases e
        have z := fz _ _ _ h1
        rw [ho] at z
        cases z
        exact ih pos' c' oc' P'' hc h1 co'
      by_cases hb : q = P
      · rw [hb, hP] at h
        cases h
        rw [hb]
        refine ⟨_, _, atP, by rw [eL]; exact TriplesOk_snoc _ _ _ _ t, fun pos' cv hc => ?_, fun pos' c' oc' P'' hc ho co' => ?_⟩
        · rw [eL] at hc
          rcases LamX.among_app _ t hc with z | z
          · obtain ⟨c2, e, oc2, P2, h1, h2⟩ := cs pos' _ z
            exact ⟨c2, e, oc2, P2, fz _ _ _ h1, h2⟩
          · exact ⟨c, z, oc, P', atc, co⟩
        · rw [eL] at hc
          rcases LamX.among_app _ t hc with z | z
          · exact old pos' c' oc' P'' z ho co'
          · cases z
            rw [atc] at ho
            cases ho
            rw [uniq P'' co']; exact new
      · refine ⟨q, qs, sm _ _ h hb, t, fun pos' cv hc => ?_, old⟩
        obtain ⟨c2, e, oc2, P2, h1, h2⟩ := cs pos' _ hc
        exact ⟨c2, e, oc2, P2, fz _ _ _ h1, h2⟩
  exact ⟨sm, all, all P h, ⟨c, oc, rfl, atc, co⟩, new⟩
section
variable {X : Cx} {pins : List (Addr × Obj)} {σ : L2.St} {H : Hp} {s : Shared}
/-- what the making of a generator asks of the maker's code object and its table at P -/
structure TabC (X : Cx) (P : Addr) : Prop where
  ex : ∃ c, X.env.code = .ref c ∧ ∀ (pins : List (Addr × Obj)) (σ : L2.St) (H : Hp) (s : Shared), Inv X pins σ H s → PySem.W.CodeHd s.heap c P
  bm : X.base.BuiltinsAt X.mg P
theorem tc_of {c P : Addr} (TB : TabB X.base X.mg c P) (hcode : X.env.code = .ref c) : TabC X P :=
  ⟨⟨c, hcode, fun pins σ H s I => TB.code.keeps fun b u e => I.bk b u e⟩, TB.bm⟩
/-- what is known of the code of a generator -/
def InfoC (X : Cx) (H : Hp) (code : Value) (P' : Addr) : Prop := (∃ c oc, code = .ref c ∧ H c = some (.frz oc U0) ∧ CodeObj oc c P') ∧ X.base.BuiltinsAt X.mg P'
theorem InfoC.tc {A' : Around} {scope : Scope} {C P' : Addr} {code : Value} {fp : List Addr} (h : InfoC X H code P') : TabC (gcx X A' s H (gEnv X scope C code) fp) P' := by
  obtain ⟨⟨c, oc, e, hc, co⟩, bm⟩ := h
  refine ⟨⟨c, e, fun pins σ H' s' I => ?_⟩, bm⟩
  have z : H' c = some (.frz oc U0) := I.base.frzs c oc U0 hc
  exact co.hd (I.hok c _ z).1
theorem inv_code {P c P' : Addr} {oc : Obj} {ps more : Array Value} {h' : Heap} {g' : Array GenState} {d' : Drawn} {t' : Nat} (I : Inv X pins σ H s) (hP : H P = some (.tbl ps)) (k : ∀ b o, b ≠ P → s.heap.get? b = some o → h'.get? b = some o)
    (hm : h'.get? P = some { cls := .none, data := .fields (ps ++ more) }) (hc : s.heap.objs.size ≤ c) (hp : s.heap.objs.size ≤ P') (hcp : c ≠ P') (ho : h'.get? c = some oc) (hq : h'.get? P' = some { cls := .none, data := .fields #[] }) (hg : AllBare g') :
    Inv X pins σ (upd (upd (upd H P (.tbl (ps ++ more))) c (.frz oc U0)) P' (.tbl #[])) { s with heap := h', gens := g', drawn := d', toks := t' } := by
  have nC : H c = none := I.hok.fresh hc
  have nQ : H P' = none := I.hok.fresh hp
  have nPc : P ≠ c := ne_of_none hP nC
  have nPq : P ≠ P' := ne_of_none hP nQ
  have at_ : ∀ b, b ≠ P → b ≠ c → b ≠ P' → upd (upd (upd H P (.tbl (ps ++ more))) c (.frz oc U0)) P' (.tbl #[]) b = H b := fun b h1 h2 h3 => by rw [upd_ne h3, upd_ne h2, upd_ne h1]
  have atP : upd (upd (upd H P (.tbl (ps ++ more))) c (.frz oc U0)) P' (.tbl #[]) P = some (.tbl (ps ++ more)) := by rw [upd_ne nPq, upd_ne nPc, upd_same]
  have atc : upd (upd (upd H P (.tbl (ps ++ more))) c (.frz oc U0)) P' (.tbl #[]) c = some (.frz oc U0) := by rw [upd_ne hcp, upd_same]
  have nP : ∀ b u, H b = some u → (∀ q, u ≠ .tbl q) → b ≠ P := fun b u e q z => by
    rw [z, hP] at e
    exact q ps (Option.some.inj e).symm
  have nN : ∀ b, H b = none → b ≠ P := fun b e z => by
    rw [z, hP] at e
    cases e
  have lt1 : ∀ b o, s.heap.get? b = some o → b ≠ c := fun b o e z => by
    rw [z] at e
    exact Nat.lt_irrefl _ (Nat.lt_of_lt_of_le (Heap.lt_size e) hc)
  have lt2 : ∀ b o, s.heap.get? b = some o → b ≠ P' := fun b o e z => by
    rw [z] at e
    exact Nat.lt_irrefl _ (Nat.lt_of_lt_of_le (Heap.lt_size e) hp)
  have keepH : ∀ b u, H b = some u → b ≠ P → upd (upd (upd H P (.tbl (ps ++ more))) c (.frz oc U0)) P' (.tbl #[]) b = some u := fun b u e hb => by
    rw [at_ b hb (ne_of_none e nC) (ne_of_none e nQ)]; exact e
  refine I.step (g' := g') (d' := d') (ch := []) (fun b hb => absurd hb (by simp)) (fun b o _ _ _ e n => k b o (nN b n) e) (fun b o _ _ _ e n => ⟨o.slots, k b o (nN b n) e⟩)
    (fun b o _ e n => by rw [at_ b (nN b n) (lt1 b o e) (lt2 b o e)]; exact n) (fun b o _ e => ?_) (fun b xs e => keepH b _ e (nP b _ e (fun q z => by cases z))) (fun b o u e => keepH b _ e (nP b _ e (fun q z => by cases z))) (fun b qs e => ?_) (fun m hn => ?_) (fun b u e => ?_) hg
  · by_cases hb : b = P
    · rw [hb]
      exact ⟨_, hm⟩
    · exact ⟨o, k b o hb e⟩
  · by_cases hb : b = P
    · rw [hb, hP] at e
      cases e
      rw [hb, atP]
      exact ⟨more, rfl⟩
    · rw [keepH b _ e hb]
      exact ⟨#[], by simp⟩
  · obtain ⟨ob, es, ep, ho, r⟩ := hn
    exact ⟨ob, es, ep, k _ ob (nN _ I.free) ho, r⟩
  · by_cases hb : b = P'
    · rw [hb, upd_same] at e
      cases e
      rw [hb]
      exact hq
    · by_cases hb1 : b = c
      · rw [hb1, atc] at e
        cases e
        rw [hb1]
        exact ⟨ho, trivial, ⟨oc, ho⟩, fun _ _ _ _ => trivial⟩
      · by_cases hb2 : b = P
        · rw [hb2, atP] at e
          cases e
          rw [hb2]
          exact hm
        · rw [at_ b hb2 hb1 hb] at e
          refine (I.hok b u e).stay (fun d v hd q => k d v ?_ q) (fun d q => keepH d _ q (nP d _ q (fun q z => by cases z))) fun d xs q => keepH d _ q (nP d _ q (fun q z => by cases z))
          rcases hd with z | z
          · rw [z]
            exact hb2
          · exact nP d _ z (fun q z => by cases z)
theorem gen_make {P : Addr} {elt iter tg : Expr} {ifs : List Expr} {gpos : Pos} {scope : Scope} {own : List (Str × Nat)} {wi : TI} {Q' : Value → Shared → Prop} {R : It → Hp → Addr → Prop}
    (hh : X.A.handled = none) (hroom : X.A.depth < recursionLimit) (TB : TabC X P) (ok : GBlk X.N X.env.scope scope own) (hi : PI X tg iter wi)
    (hs : ∀ v, genFold iter X.env v = pure v) (I : Inv X pins σ H s) (h : wi σ H fun J H1 => TabW H1 P ∧ ∀ H2 cv P', Grown P H1 H2 cv P' → R J H2 P')
    (hQ : ∀ (J : It) (H2 : Hp) (P' : Addr) (s4 : Shared) (code : Value) (fp : List Addr) (tn : Nat → Heap → Prop) (it a : Addr) (h5 : Heap) (tk : Nat), R J H2 P' → InfoC X H2 code P' → Inv X pins σ H2 s4 → Turn X.prog X.w X.K tg J fp it tn → tn 0 s4.heap → (∀ b ∈ fp, FpOk X pins H2 b ∧ b < s4.heap.objs.size) →
      h5.Ns s4.heap.objs.size (fun y => if y = ".0" then some (.ref it) else none) → (∀ b o, s4.heap.get? b = some o → h5.get? b = some o) → s4.heap.objs.size < a → h5.objs.size = a + 1 → h5.IsGen a s4.gens.size → (∃ o, h5.get? a = some o ∧ ∀ v, o.data ≠ .cell v) →
      Q' (.ref a) { s4 with gens := s4.gens.push (.fresh (.compStart (.GeneratorExp elt [⟨tg, iter, ifs, 0⟩] scope gpos) 0 (.ref it) .none (gEnv X scope s4.heap.objs.size code))), heap := h5, toks := tk }) :
    wpAny (model X.prog X.w) X.A (eval (.GeneratorExp elt [⟨tg, iter, ifs, 0⟩] scope gpos) X.env) Q' X.xe s := by
  obtain ⟨⟨c, hcode, hcd⟩, bmm⟩ := TB
  have hfree : ∀ y ∈ scope.names, y.2 = .free → ∃ c, X.env.cells.lookup y.1 = some c := fun y hy e => by
    rcases ok.blk.free y hy e with k | k
    · exact I.ok.has _ (.inl k)
    · exact I.ok.has _ (.inr k)
  refine wpAny_GeneratorExp_make ok.co (closure_ok hfree) ok.cell ok.dot ok.blk.kind hroom ?_ hs
  refine thn (hi.run pins s σ H _ I h) fun xv s1 h1 => thn h1 fun itv s2 h2 => ?_
  obtain ⟨it, fp, tn, J, H1, rfl, I2, T, st2, f2, hW, hR⟩ := h2
  refine ⟨I2.nolimit, ?_⟩
  obtain ⟨ps, hP, htp⟩ := hW.tab
  have hPs : s2.heap.get? P = some { cls := .none, data := .fields ps } := I2.hok P _ hP
  have sz : ∀ b ∈ fp, b < s2.heap.objs.size := fun b hb => by
    obtain ⟨o, e, _⟩ := T.obj _ _ st2 b hb
    exact Heap.lt_size e
  have nfP : ∀ b ∈ fp, b ≠ P := fun b hb z => by
    have q := (f2 b hb).1
    rw [z, hP] at q; cases q
  have cd : PySem.W.CodeHd s2.heap c P := hcd pins σ H1 s2 I2
  obtain ⟨bm, ob, e1, e2, e3, e4, e5, e6, e7, e8⟩ := bmm
  have cont : ∀ (code : Value) (h3 : Heap) (tk : Nat) (H3 : Hp) (P' : Addr), Inv X pins σ H3 { s2 with heap := h3, toks := tk } → Grown P H1 H3 code P' → bm ≠ P' → (∀ b ∈ fp, H3 b = none) → Heap.ExtBut P s2.heap h3 → s2.heap.objs.size ≤ h3.objs.size →
      wpAny (model X.prog X.w) X.A (builtinsFor X.env.globals X.env.builtins) (fun bi s₄ =>
        ∀ h', h'.Ns s₄.heap.objs.size (fun y => if y = ".0" then some (.ref it) else none) → Heap.SameBut s₄.heap.objs.size (s₄.heap.push { cls := .type "frame", data := .dict #[] }) h' →
          Q' (.ref h'.objs.size) { s₄ with
            gens := s₄.gens.push (.fresh (.compStart (.GeneratorExp elt [⟨tg, iter, ifs, 0⟩] scope gpos) 0 (.ref it) .none (genEnv scope (cloFrom X.env.cells scope.names []) s₄.heap.objs.size code bi X.env))),
            toks := s₄.toks + 1 + 1 + 1,
            heap := h'.push { cls := .type "generator", data := .fields #[.int s₄.gens.size 0, .str "<genexpr>" (s₄.toks + 1), .str (X.env.qual ++ "<genexpr>") (s₄.toks + 1 + 1)] } }) X.xe { s2 with heap := h3, toks := tk } := by
    intro code h3 tk H3 P' I3 gr nb hfn hx hsz
    refine wpAny_builtinsFor (m := X.mg) (by rw [I3.ok.glob]; exact I3.mod.glob.keeps I3.bk) e1 e2 (I3.bk _ _ e5) e6 e7 e8 ?_
    intro h' hn' hs'
    have hsz' : h'.objs.size = h3.objs.size + 1 := by
      have q := hs'.1
      rw [Heap.size_push] at q
      exact q
    have keep' : ∀ b o, h3.get? b = some o → h'.get? b = some o := fun b o e => hs'.extBut b o (Nat.ne_of_lt (Heap.lt_size e)) (Heap.get?_push_of_some _ e)
    refine hQ J H3 P' { s2 with heap := h3, toks := tk } code fp tn it h'.objs.size _ _ (hR _ _ _ gr) ⟨gr.code, bm, ob, e1, e2, e3, nb, e5, e6, e7, e8⟩ I3 T (T.keep _ _ _ st2 fun b hb o e => hx b o (nfP b hb) e) (fun b hb => ⟨⟨hfn b hb, (f2 b hb).2⟩, Nat.lt_of_lt_of_le (sz b hb) hsz⟩)
      (hn'.push _) (fun b o e => Heap.get?_push_of_some _ (keep' b o e)) ?_ (by rw [Heap.size_push]) ⟨_, _, _, Heap.get?_push_size _ rfl, rfl, rfl, rfl⟩ ⟨_, Heap.get?_push_size _ rfl, fun v z => by cases z⟩
    show h3.objs.size < h'.objs.size
    omega
  have hbm : s2.heap.get? bm = some ob := I2.bk _ _ e5
  cases hf : codeAmong gpos ps.toList with
  | none =>
    refine wpAny_genexprCodeX hcode (cd.code hPs htp) (cd.tab hPs) hf fun c' h' tk hx hge hlt hco' hrecc htab' ⟨P', hgeP, hcoP, htabP⟩ => ?_
    obtain ⟨oc, hoc, hcoo⟩ := CodeObj.of (PySem.W.CodeHd.of hcoP htabP) hrecc
    have ncp : c' ≠ P' := hcoo.ne
    have nC : H1 c' = none := I2.hok.fresh hge
    have nQ : H1 P' = none := I2.hok.fresh hgeP
    have I3 := inv_code (t' := tk) (g' := s2.gens) (d' := s2.drawn) (h' := h') I2 hP (fun b o hb e => hx b o hb e) htab'.2 hge hgeP ncp hoc htabP.2 I2.bare
    have gr := Grown.made (pos := gpos) hW hP nC nQ ncp hcoo
    refine cont _ h' tk _ P' I3 gr (fun z => ?_) (fun b hb => ?_) hx (Nat.le_trans hge (Nat.le_of_lt hlt))
    · rw [z] at hbm
      exact Nat.lt_irrefl _ (Nat.lt_of_lt_of_le (Heap.lt_size hbm) hgeP)
    · have hlt := sz b hb
      rw [upd_ne (Nat.ne_of_lt (Nat.lt_of_lt_of_le hlt hgeP)), upd_ne (Nat.ne_of_lt (Nat.lt_of_lt_of_le hlt hge)), upd_ne (nfP b hb)]
      exact (f2 b hb).1
  | some cv =>
    obtain ⟨P', gr⟩ := Grown.hit hW hP hf
    refine wpAny_genexprCode_hit hcode (cd.code hPs htp) hf ?_
    refine cont cv s2.heap s2.toks H1 P' I2 gr (fun z => ?_) (fun b hb => (f2 b hb).1) (Heap.ExtBut.refl _ _) (Nat.le_refl _)
    obtain ⟨ps', hp', _⟩ := gr.tab.tab
    have q : s2.heap.get? P' = some { cls := .none, data := .fields ps' } := I2.hok P' _ hp'
    rw [← z, hbm] at q
    cases q
    cases e6

/-- the around of the turns -/
theorem over_comp {A : Around} {elt tg iter : Expr} {ifs : List Expr} {scope : Scope} {pos : Pos} {it : Value} {C : Addr} {env : Env} (hf : env.frame = some C) {l : List Env} (hA : A.frames = some l) :
    (A.over (.compLoop (.GeneratorExp elt [⟨tg, iter, ifs, 0⟩] scope pos) 0 it .none env) []).frames = some (env :: l) ∧
    (A.over (.compLoop (.GeneratorExp elt [⟨tg, iter, ifs, 0⟩] scope pos) 0 it .none env) []).handled = A.handled ∧
    (A.over (.compLoop (.GeneratorExp elt [⟨tg, iter, ifs, 0⟩] scope pos) 0 it .none env) []).depth = A.depth + 1 ∧
    (A.over (.compLoop (.GeneratorExp elt [⟨tg, iter, ifs, 0⟩] scope pos) 0 it .none env) []).units = A.units + 3 := by
  refine ⟨?_, rfl, rfl, rfl⟩
  unfold Around.over
  dsimp only
  rw [hA]
  rfl
end
end GX
namespace GX
open PySem PySem.Spec PyProof.Rows L2 GenW GxR
open Sem (wp)

/-- a consumer's reading: res tells the answer from what is handed out -/
def tGen (res : List V → V → Prop) (P : Addr) (wi : TI) (g : TG) (tt : Addr → TT) (te : Addr → TE) (vs : List Nat) : TE := fun σ H Q => wi σ H fun J H1 => TabW H1 P ∧ ∀ H2 cv P', Grown P H1 H2 cv P' →
  ∃ (n : Nat) (out : Nat → Option V) (Pi : Nat → Hp → Prop), Pi 0 H2 ∧ GTurns J g (tt P') (te P') vs (wipe σ vs) n out Pi ∧ ∃ r, res (outs n out 0) r ∧ ∀ i H3, Pi i H3 → Q r H3
def resAll (ys : List V) (r : V) : Prop := ∃ bs : List Bool, ys = bs.map V.bl ∧ r = .bl (bs.all id)
def resAny (ys : List V) (r : V) : Prop := ∃ bs : List Bool, ys = bs.map V.bl ∧ r = .bl (bs.any id)
theorem wipe_wipe (σ : L2.St) (vs : List Nat) : wipe (wipe σ vs) vs = wipe σ vs := by
  apply List.ext_getElem?
  intro i
  by_cases hi : i ∈ vs
  · have one : ∀ (τ : L2.St) (ws : List Nat), i ∈ ws → (wipe τ ws)[i]? = if i < τ.length then some none else none := by
      intro τ ws
      induction ws with
      | nil => intro h; cases h
      | cons w ws ih =>
        intro h
        show ((wipe τ ws).set w none)[i]? = _
        by_cases e : w = i
        · subst e
          by_cases hl : w < τ.length
          · rw [if_pos hl, List.getElem?_set_self (by rw [wipe_length]; exact hl)]
          · rw [if_neg hl, List.getElem?_eq_none (by rw [List.length_set, wipe_length]; omega)]
        · rw [List.getElem?_set_ne e]
          rcases List.mem_cons.mp h with z | z
          · exact absurd z.symm e
          · exact ih z
    rw [one _ _ hi, one _ _ hi, wipe_length]
  · rw [wipe_out hi]

abbrev ownIx (own : List (Str × Nat)) : List Nat := own.map (·.2)
section
variable {X : Cx} {pins : List (Addr × Obj)} {σ : L2.St} {H : Hp} {s : Shared}
abbrev compC (elt tg iter : Expr) (ifs : List Expr) (scope : Scope) (gpos : Pos) (it : Addr) (ge : Env) : Code := .compLoop (.GeneratorExp elt [⟨tg, iter, ifs, 0⟩] scope gpos) 0 (.ref it) .none ge
theorem ci_start {elt tg iter : Expr} {ifs : List Expr} {gpos : Pos} {scope : Scope} {own : List (Str × Nat)} {g : TG} {tt : TT} {te : TE} {J : It} {H2 : Hp} {s4 s5 : Shared} {code : Value} {fp Cs : List Addr} {tn : Nat → Heap → Prop} {it a gi n : Nat} {out : Nat → Option V} {Pi : Nat → Hp → Prop} {B : Around}
    (hc : X.calm = true) (ok : GBlk X.N X.env.scope scope own) (T : Turn X.prog X.w X.K tg J fp it tn) (f4 : ∀ b ∈ fp, FpOk X pins H2 b ∧ b < s4.heap.objs.size) (hCsf : ∀ b ∈ fp, b ∉ Cs)
    (hg : ∀ A', PG (gcx X A' s4 H2 (gEnv X scope s4.heap.objs.size code) fp) tg g) (ht : PTs (gcx X (B.in1.over (compC elt tg iter ifs scope gpos it (gEnv X scope s4.heap.objs.size code)) []) s4 H2 (gEnv X scope s4.heap.objs.size code) fp) ifs tt)
    (he : PE (gcx X (B.in1.over (compC elt tg iter ifs scope gpos it (gEnv X scope s4.heap.objs.size code)) []) s4 H2 (gEnv X scope s4.heap.objs.size code) fp) elt te)
    (G : GTurns J g tt te (ownIx own) (wipe σ (ownIx own)) n out Pi) (p0 : Pi 0 H2)
    (I : Inv (gcx X (B.in1.over (compC elt tg iter ifs scope gpos it (gEnv X scope s4.heap.objs.size code)) []) s4 H2 (gEnv X scope s4.heap.objs.size code) fp) (pinsAt Cs s5.heap) (wipe σ (ownIx own)) H2 s5)
    (th : ∀ b ∈ Cs, ∃ o, s5.heap.get? b = some o) (st : tn 0 s5.heap) (ha : a ∈ Cs) (hga : s5.heap.IsGen a gi)
    (hgs : s5.gens[gi]? = some (.fresh (.compStart (.GeneratorExp elt [⟨tg, iter, ifs, 0⟩] scope gpos) 0 (.ref it) .none (gEnv X scope s4.heap.objs.size code)))) :
    CI (gcx X (B.in1.over (compC elt tg iter ifs scope gpos it (gEnv X scope s4.heap.objs.size code)) []) s4 H2 (gEnv X scope s4.heap.objs.size code) fp) B a gi Cs fp tn (wipe σ (ownIx own)) n out Pi 0 s5 := by
  refine ⟨H2, _, I, th, st, p0, ha, hga, hgs, fun s'' I'' st'' => ⟨rfl, seg_start T st'' ?_⟩⟩
  exact seg_loop (X' := gcx X (B.in1.over (compC elt tg iter ifs scope gpos it (gEnv X scope s4.heap.objs.size code)) []) s4 H2 (gEnv X scope s4.heap.objs.size code) fp) rfl rfl rfl T hc rfl (fun b hb => hb) rfl hCsf rfl ok.co (hg _) ht he G (wipe_wipe _ _) n 0 s'' s'' H2 (Nat.sub_zero _) (Nat.zero_le _) I'' st'' (fun b hb => (f4 b hb).1.1) p0

/-- what the parts must be in the generator's frame -/
structure GParts (X : Cx) (k : Nat) (elt tg : Expr) (ifs : List Expr) (scope : Scope) (g : TG) (tt : Addr → TT) (te : Addr → TE) : Prop where
  g : ∀ A' s H code C fp, PG (gcx X A' s H (gEnv X scope C code) fp) tg g
  t : ∀ A' s H code C fp P', Room k A' → InfoC X H code P' → PTs (gcx X A' s H (gEnv X scope C code) fp) ifs (tt P')
  e : ∀ A' s H code C fp P', Room k A' → InfoC X H code P' → PE (gcx X A' s H (gEnv X scope C code) fp) elt (te P')

theorem over_room {k : Nat} {A : Around} {elt tg iter : Expr} {ifs : List Expr} {scope : Scope} {pos : Pos} {it : Addr} {env : Env} {l : List Env} (hr : Room (k + 1) A) (hA : A.frames = some l) (hf : env.frame.isSome = true) :
    Room k (A.in1.in1.over (compC elt tg iter ifs scope pos it env) []) ∧ (A.in1.in1.over (compC elt tg iter ifs scope pos it env) []).frames = some (env :: l) ∧ (A.in1.in1.over (compC elt tg iter ifs scope pos it env) []).handled = none := by
  obtain ⟨C, hC⟩ := Option.isSome_iff_exists.mp hf
  obtain ⟨e1, e2, e3, e4⟩ := over_comp (A := A.in1.in1) (elt := elt) (tg := tg) (iter := iter) (ifs := ifs) (scope := scope) (pos := pos) (it := .ref it) (C := C) (env := env) hC (l := l) hA
  refine ⟨⟨e2.trans hr.hd, ?_, ?_⟩, e1, e2.trans hr.hd⟩
  · have e3 : (A.in1.in1.over (compC elt tg iter ifs scope pos it env) []).depth = A.depth + 1 := e3
    have := hr.dp
    omega
  · have e4 : (A.in1.in1.over (compC elt tg iter ifs scope pos it env) []).units = A.units + 1 + 1 + 3 := e4
    have := hr.un
    omega

/-- an object of the consumer's own stands apart -/
structure SOk (X' : Cx) (a : Addr) (fp : List Addr) (tn : Nat → Heap → Prop) (S : Addr) : Prop where
  tn : ∀ i h h', tn i h → (∀ b ∈ fp, ∀ o, h.get? b = some o → h'.get? b = some o) → tn i h'
  fp : ∀ b ∈ fp, b ≠ S
  big : X'.s_0.heap.objs.size ≤ S
  pn : X'.pn = []
  cell : ∀ x c, X'.env.cells.lookup x = some c → c ≠ S
  loc : S ≠ X'.env.locals
  ne : a ≠ S

/-- the generator, ready for a consumer that calls pyNext at X.A.in1.in1 -/
theorem gen_ready {P : Addr} {k : Nat} {elt iter tg : Expr} {ifs : List Expr} {gpos : Pos} {scope : Scope} {own : List (Str × Nat)} {wi : TI} {g : TG} {tt : Addr → TT} {te : Addr → TE} {res : List V → V → Prop} {Q : VK} {Q' : Value → Shared → Prop}
    (hc : X.calm = true) (hN : X.N.Nodup) (hr : Room (k + 1) X.A) (TB : TabC X P) (ok : GBlk X.N X.env.scope scope own) (hi : PI X tg iter wi) (hp : GParts X k elt tg ifs scope g tt te)
    (hs : ∀ v, genFold iter X.env v = pure v) (I : Inv X pins σ H s) (h : tGen res P wi g tt te (ownIx own) σ H Q)
    (hQ : ∀ (X' : Cx) (a gi : Nat) (fp : List Addr) (tn : Nat → Heap → Prop) (n : Nat) (out : Nat → Option V) (Pi : Nat → Hp → Prop) (s5 : Shared) (r : V), X'.prog = X.prog → X'.w = X.w → (∀ H' s' Cs, Inv X' (pinsAt Cs s'.heap) (wipe σ (ownIx own)) H' s' → Inv X pins σ H' s') → s5.heap.IsGen a gi → (∀ S, s5.heap.objs.size ≤ S → SOk X' a fp tn S) → res (outs n out 0) r → (∀ i H3, Pi i H3 → Q r H3) →
      (∀ (S : List Addr) (s6 : Shared), (∀ b ∈ S, s5.heap.objs.size ≤ b ∧ ∃ o, s6.heap.get? b = some o ∧ ∀ v, o.data ≠ .cell v) → (∀ b o, s5.heap.get? b = some o → s6.heap.get? b = some o) → s6.gens = s5.gens → s6.os = s5.os →
        CI X' X.A.in1 a gi (a :: S) fp tn (wipe σ (ownIx own)) n out Pi 0 s6) → Q' (.ref a) s5) :
    wpAny (model X.prog X.w) X.A (eval (.GeneratorExp elt [⟨tg, iter, ifs, 0⟩] scope gpos) X.env) Q' X.xe s := by
  refine gen_make (R := fun J H2 P' => ∃ (n : Nat) (out : Nat → Option V) (Pi : Nat → Hp → Prop), Pi 0 H2 ∧ GTurns J g (tt P') (te P') (ownIx own) (wipe σ (ownIx own)) n out Pi ∧ ∃ r, res (outs n out 0) r ∧ ∀ i H3, Pi i H3 → Q r H3) hr.hd hr.depth TB ok hi hs I h ?_
  intro J H2 P' s4 code fp tn it a h5 tk ⟨n, out, Pi, p0, G, r, hres, hPQ⟩ info I4 T st4 f4 hns kp hCa hsz hga ⟨oa, hoa, hnc⟩
  obtain ⟨rm, fr, hd⟩ := over_room (elt := elt) (tg := tg) (iter := iter) (ifs := ifs) (scope := scope) (pos := gpos) (it := it) (env := gEnv X scope s4.heap.objs.size code) hr I4.ok.frames rfl
  have hg5 : AllBare (s4.gens.push (.fresh (.compStart (.GeneratorExp elt [⟨tg, iter, ifs, 0⟩] scope gpos) 0 (.ref it) .none (gEnv X scope s4.heap.objs.size code)))) := AllBare.push I4.bare rfl
  refine hQ (gcx X (X.A.in1.in1.over (compC elt tg iter ifs scope gpos it (gEnv X scope s4.heap.objs.size code)) []) s4 H2 (gEnv X scope s4.heap.objs.size code) fp) a s4.gens.size fp tn n out Pi _ r rfl rfl (fun H' s' Cs I' => ?_) hga (fun S hS => ?_) hres hPQ fun S s6 hS k6 g6 o6 => ?_
  · exact I4.call' (ch := fp) I'.os I'.base I'.hok I'.bare fun b hb => ⟨(f4 b hb).1.2.2.2.1, (f4 b hb).1.2.1, (f4 b hb).1.2.2.2.2.1, (f4 b hb).1.2.2.2.2.2⟩
  · have hS : h5.objs.size ≤ S := hS
    have ha1 : (a : Nat) + 1 ≤ S := Nat.le_trans (Nat.le_of_eq hsz.symm) hS
    have h1 : s4.heap.objs.size < S := Nat.lt_of_lt_of_le hCa (Nat.le_trans (Nat.le_succ a) ha1)
    refine ⟨T.keep, fun b hb z => ?_, Nat.le_of_lt h1, rfl, fun x c e z => ?_, Nat.ne_of_gt h1, fun z => ?_⟩
    · exact absurd (Nat.lt_trans (f4 b hb).2 (z ▸ h1)) (Nat.lt_irrefl _)
    · rcases cloFrom_mem (PySem.mem_of_lookup e) with hm | ⟨h2, h3⟩
      · cases hm
      · have hf : ∃ c, X.env.cells.lookup x = some c := by
          rcases ok.blk.free _ h2 rfl with k | k
          · exact I4.ok.has _ (.inl k)
          · exact I4.ok.has _ (.inr k)
        obtain ⟨c', hc'⟩ := hf
        rw [hc'] at h3
        obtain ⟨w, zz⟩ := I4.cell _ _ hc'
        have h3 : c = c' := h3
        exact absurd (Nat.lt_trans zz.lt (by rw [← h3, z]; exact h1)) (Nat.lt_irrefl _)
    · have q : S + 1 ≤ S := by
        rw [z] at ha1; exact ha1
      exact absurd q (Nat.not_succ_le_self _)
  · obtain ⟨hh6, gg6, d6, t6, os6⟩ := s6
    obtain rfl : gg6 = _ := g6
    obtain rfl : os6 = _ := o6
    have k4 : ∀ b o, s4.heap.get? b = some o → hh6.get? b = some o := fun b o e => k6 b o (kp b o e)
    have nsz : ∀ b ∈ a :: S, s4.heap.objs.size < b := fun b hb => by
      rcases List.mem_cons.mp hb with z | z
      · rw [z]; exact hCa
      · have q : h5.objs.size ≤ b := (hS b z).1
        rw [hsz] at q
        exact Nat.lt_of_lt_of_le hCa (Nat.le_trans (Nat.le_succ a) q)
    have hns6 : hh6.Ns s4.heap.objs.size (fun y => if y = ".0" then some (.ref it) else none) := hns.at' fun o e => k6 _ o e
    have I6 := gen_inv (A' := X.A.in1.in1.over (compC elt tg iter ifs scope gpos it (gEnv X scope s4.heap.objs.size code)) []) (g5 := s4.gens.push (.fresh (.compStart (.GeneratorExp elt [⟨tg, iter, ifs, 0⟩] scope gpos) 0 (.ref it) .none (gEnv X scope s4.heap.objs.size code)))) (t5 := t6) I4 ok hN f4 fr hd hns6 k4 hg5
    have I6' : Inv (gcx X (X.A.in1.in1.over (compC elt tg iter ifs scope gpos it (gEnv X scope s4.heap.objs.size code)) []) s4 H2 (gEnv X scope s4.heap.objs.size code) fp) [] (wipe σ (ownIx own)) H2 { s4 with heap := hh6, gens := _, drawn := d6, toks := t6 } :=
      ⟨I6.ok, I6.os, I6.bare, I6.base, I6.loc, I6.cell, I6.free, I6.freeC, I6.pin, I6.hok, I6.len⟩
    have thS : ∀ b ∈ a :: S, ∃ o, hh6.get? b = some o ∧ ∀ v, o.data ≠ .cell v := fun b hb => by
      rcases List.mem_cons.mp hb with z | z
      · rw [z]; exact ⟨oa, k6 a oa hoa, hnc⟩
      · exact (hS b z).2
    have nofs : ∀ b, s4.heap.objs.size < b → b ∉ frs X.stack := fun b hb z => by
      rcases List.mem_cons.mp (I4.stkSub b z) with q | q
      · exact absurd (Nat.lt_trans I4.lt (q ▸ hb)) (Nat.lt_irrefl _)
      · exact I4.nofs (Nat.le_of_lt hb) q
    refine ci_start (J := J) (hc := hc) (ok := ok) (T := T) (f4 := f4) (hCsf := fun b hb z => absurd (Nat.lt_trans (f4 b hb).2 (nsz b z)) (Nat.lt_irrefl _)) (hg := fun A' => hp.g _ _ _ _ _ _) (ht := hp.t _ _ _ _ _ _ P' rm info) (he := hp.e _ _ _ _ _ _ P' rm info) (G := G) (p0 := p0)
      (I := I6'.pins_of fun q hq => ?_) (th := fun b hb => let ⟨o, e, _⟩ := thS b hb; ⟨o, e⟩) (st := T.keep _ _ _ st4 fun b _ o e => k4 b o e) (ha := List.mem_cons_self) (hga := isGen_at hga ((k6 a oa hoa).trans hoa.symm)) (hgs := Array.getElem?_push_size ..)
    obtain ⟨hb, e⟩ := of_pinsAt hq
    have hlt := nsz _ hb
    obtain ⟨o, e', nc⟩ := thS _ hb
    have e2 : hh6.get? q.1 = some q.2 := e
    rw [e2] at e'; cases e'
    exact ⟨e2, I4.hok.fresh (Nat.le_of_lt hlt), Nat.ne_of_gt hlt, nofs _ hlt, nc⟩
end

/-! ### all(..), any(..) -/
section
variable {X : Cx}
theorem pe_all {P : Addr} {k : Nat} {elt iter tg : Expr} {ifs : List Expr} {p pos gpos : Pos} {scope : Scope} {own : List (Str × Nat)} {wi : TI} {g : TG} {tt : Addr → TT} {te : Addr → TE}
    (hr : Room (k + 1) X.A) (hgl : Gl X "all") (hm : X.mg "all" = none) (hc : X.calm = true) (hN : X.N.Nodup) (TB : TabC X P) (ok : GBlk X.N X.env.scope scope own) (hi : PI X tg iter wi) (hp : GParts X k elt tg ifs scope g tt te)
    (hs : ∀ v, genFold iter X.env v = pure v := by intro _; rfl)
    (he : starEach [.GeneratorExp elt [⟨tg, iter, ifs, 0⟩] scope gpos] X.env = (false, eval (.GeneratorExp elt [⟨tg, iter, ifs, 0⟩] scope gpos) X.env) :: starEach [] X.env := by rfl) :
    PE X (.Call (.Name "all" p) [.GeneratorExp elt [⟨tg, iter, ifs, 0⟩] scope gpos] [] pos) (tGen resAll P wi g tt te (ownIx own)) := by
  refine ⟨fun pins s σ H Q I h => ?_⟩
  refine wpAny_Call_Name_kw (ld_blt I hgl hm (by decide +kernel : bootBuiltins "all" = some (.builtin "all")) ?_)
  refine PyProof.Rows.callWith_builtin1 ?_ he (by rfl)
  rw [he]
  show wpAny _ _ (spliced ((false, eval (.GeneratorExp elt [⟨tg, iter, ifs, 0⟩] scope gpos) X.env) :: backTo pos (starEach [] X.env))) _ _ s
  refine Calls.spliced_cons (gen_ready hc hN hr TB ok hi hp hs I h fun X' a gi fp tn n out Pi s5 r eP eW back hga so hres hPQ ci => ?_)
  refine Calls.spliced_nil ?_
  refine call_function_tree F.kind_all F.plain_all F.entry_all (F.args_all1 _) ?_
  unfold Builtin.«all»
  refine wpAny_bind (m := oneArg "all" _) (wpAny_pure ?_)
  refine wpAny_bind (wpAny_pyIter_gen hga ?_)
  obtain ⟨bs, eb, rfl⟩ := hres
  have C0 := ci [] s5 (fun b hb => absurd hb (by simp)) (fun _ _ e => e) rfl rfl
  rw [← eP, ← eW]
  refine wpAny_pure ⟨plainId_quiet F.plain_all_loop _, ci_all (A0 := X.A) hr.hd hr.depth bs 0 s5 C0 eb fun s' ⟨i, H3, I3, _, p3⟩ => ?_⟩
  exact ⟨.bl _, H3, back H3 s' _ I3, rfl, hPQ i H3 p3⟩
theorem pe_any {P : Addr} {k : Nat} {elt iter tg : Expr} {ifs : List Expr} {p pos gpos : Pos} {scope : Scope} {own : List (Str × Nat)} {wi : TI} {g : TG} {tt : Addr → TT} {te : Addr → TE}
    (hr : Room (k + 1) X.A) (hgl : Gl X "any") (hm : X.mg "any" = none) (hc : X.calm = true) (hN : X.N.Nodup) (TB : TabC X P) (ok : GBlk X.N X.env.scope scope own) (hi : PI X tg iter wi) (hp : GParts X k elt tg ifs scope g tt te)
    (hs : ∀ v, genFold iter X.env v = pure v := by intro _; rfl)
    (he : starEach [.GeneratorExp elt [⟨tg, iter, ifs, 0⟩] scope gpos] X.env = (false, eval (.GeneratorExp elt [⟨tg, iter, ifs, 0⟩] scope gpos) X.env) :: starEach [] X.env := by rfl) :
    PE X (.Call (.Name "any" p) [.GeneratorExp elt [⟨tg, iter, ifs, 0⟩] scope gpos] [] pos) (tGen resAny P wi g tt te (ownIx own)) := by
  refine ⟨fun pins s σ H Q I h => ?_⟩
  refine wpAny_Call_Name_kw (ld_blt I hgl hm boot_any ?_)
  refine PyProof.Rows.callWith_builtin1 ?_ he (by rfl)
  rw [he]
  show wpAny _ _ (spliced ((false, eval (.GeneratorExp elt [⟨tg, iter, ifs, 0⟩] scope gpos) X.env) :: backTo pos (starEach [] X.env))) _ _ s
  refine Calls.spliced_cons (gen_ready hc hN hr TB ok hi hp hs I h fun X' a gi fp tn n out Pi s5 r eP eW back hga so hres hPQ ci => ?_)
  refine Calls.spliced_nil ?_
  refine call_function_tree F.kind_any F.plain_any F.entry_any (F.args_any1 _) ?_
  unfold Builtin.«any»
  refine wpAny_bind (m := oneArg "any" _) (wpAny_pure ?_)
  refine wpAny_bind (wpAny_pyIter_gen hga ?_)
  obtain ⟨bs, eb, rfl⟩ := hres
  have C0 := ci [] s5 (fun b hb => absurd hb (by simp)) (fun _ _ e => e) rfl rfl
  rw [← eP, ← eW]
  refine wpAny_pure ⟨plainId_quiet F.plain_any_loop _, ci_any (A0 := X.A) hr.hd hr.depth bs 0 s5 C0 eb fun s' ⟨i, H3, I3, _, p3⟩ => ?_⟩
  exact ⟨.bl _, H3, back H3 s' _ I3, rfl, hPQ i H3 p3⟩
end
end GX
namespace GX
open PySem PySem.Spec PyProof.Rows L2 GenW GxR
open Sem (wp)

/-- a consumer's own list at S with the items acc -/
abbrev accObj (acc : Array Value) (c : Nat) : Obj := { cls := .type "list", dict := none, data := .seq acc c, slots := #[] }
section
variable {X' : Cx} {B A0 : Around} {a gi n : Nat} {Cs fp : List Addr} {tn : Nat → Heap → Prop} {σ0 : L2.St} {out : Nat → Option V} {Pi : Nat → Hp → Prop}
/-- the consumer's list is turned -/
theorem CI.turned {S : Addr} {i : Nat} {s : Shared} {f : Obj → Obj} {o : Obj} {tk : Nat} (T0 : ∀ i h h', tn i h → (∀ b ∈ fp, ∀ o, h.get? b = some o → h'.get? b = some o) → tn i h') (hfS : ∀ b ∈ fp, b ≠ S) (hS1 : X'.s_0.heap.objs.size ≤ S) (hpn : X'.pn = []) (hcell : ∀ x c, X'.env.cells.lookup x = some c → c ≠ S) (hSL : S ≠ X'.env.locals) (haS : a ≠ S) (hSC : S ∈ Cs)
    (h : CI X' B a gi Cs fp tn σ0 n out Pi i s) (ho : s.heap.get? S = some o) (hf : ∀ v, (f o).data ≠ .cell v) (hfree : (f o).isFreed = false) : CI X' B a gi Cs fp tn σ0 n out Pi i { s with heap := s.heap.update S f, toks := tk } := by
  obtain ⟨H, gs, I, th, st, p, ha, hg, hgs, go⟩ := h
  have oth : ∀ b, b ≠ S → (s.heap.update S f).get? b = s.heap.get? b := fun b hb => Heap.get?_update_other _ _ (Ne.symm hb)
  have slf : (s.heap.update S f).get? S = some (f o) := Heap.get?_update_self _ ho hfree
  have pS := I.pin (S, o) (List.mem_append_right _ (mem_pinsAt hSC ho))
  have I0 : Inv X' (pinsAt (Cs.filter fun b => decide (b ≠ S)) s.heap) σ0 H s := inv_repin I fun q hq => by
    obtain ⟨hb, e⟩ := of_pinsAt hq
    exact mem_pinsAt (List.mem_filter.mp hb).1 e
  have I1 : Inv X' (pinsAt (Cs.filter fun b => decide (b ≠ S)) s.heap) σ0 H { s with heap := s.heap.update S f, toks := tk } :=
    I0.turned (it := S) (fun b o' hb e => (oth b hb).trans e) pS.2.1 hSL (.inr hS1) hcell fun q hq => by
      rw [hpn, List.nil_append] at hq
      obtain ⟨hb, _⟩ := of_pinsAt hq
      exact of_decide_eq_true (List.mem_filter.mp hb).2
  refine ⟨H, gs, I1.pins_of fun q hq => ?_, fun b hb => ?_, T0 _ _ _ st fun b hb o' e => (oth b (hfS b hb)).trans e, p, ha, isGen_at hg (oth a haS), hgs, go⟩
  · obtain ⟨hb, e⟩ := of_pinsAt hq
    by_cases hbS : q.1 = S
    · have e' : (s.heap.update S f).get? q.1 = some q.2 := e
      rw [hbS, slf] at e'
      have q2 : f o = q.2 := Option.some.inj e'
      refine ⟨e, ?_, ?_, ?_, fun v => ?_⟩
      · rw [hbS]; exact pS.2.1
      · rw [hbS]; exact pS.2.2.1
      · rw [hbS]; exact pS.2.2.2.1
      · rw [← q2]; exact hf v
    · have e' : s.heap.get? q.1 = some q.2 := (oth _ hbS).symm.trans e
      have z := I.pin q (List.mem_append_right _ (mem_pinsAt hb e'))
      exact ⟨e, z.2⟩
  · by_cases hbS : b = S
    · rw [hbS]; exact ⟨_, slf⟩
    · obtain ⟨o', e⟩ := th b hb
      exact ⟨o', (oth b hbS).trans e⟩
/-- partial sums within 64 bits -/
def sumsIn : Int → List Int → Prop
  | _, [] => True
  | c, x :: r => InLong x ∧ InLong (c + x) ∧ sumsIn (c + x) r
theorem ci_sum (hh : A0.handled = none) (hroom : A0.depth < recursionLimit) {R : Result → Shared → Prop} {S : Addr} (so : SOk X' a fp tn S) (mem : S ∈ Cs) : ∀ (ns : List Int) (c0 : Int) (t0 : Tok) (c : Nat) (i : Nat) (s : Shared), CI X' A0.in1 a gi Cs fp tn σ0 n out Pi i s → outs n out i = ns.map V.int → sumsIn c0 ns →
    s.heap.get? S = some (accObj #[.int c0 t0] c) → (∀ s' t, CE' X' Cs σ0 Pi s' → R (.ok (.ret (.int (c0 + ns.sum) t))) s') → codeAny (model X'.prog X'.w) A0 (.builtin "sum.loop" ⟨[.ref a, .ref S, rawInt 0, rawInt 0], []⟩) R s := by
  intro ns
  induction ns with
  | nil =>
    intro c0 t0 c i s h ho hs hS hR
    refine codeAny_builtin F.entry_sum_loop ?_
    rw [Around.under_plainId F.plain_sum_loop _]
    show wpAny _ A0.in1 (seqItems? (.ref S) >>= _) _ _ s
    refine wpAny_bind (wpAny_seqItems hS rfl ?_)
    show wpAny _ A0.in1 (tryCatch (pyNext (.ref a)) _ >>= _) _ _ s
    refine wpAny_bind (wpAny_tryCatch (ci_end (B := A0.in1) hh hroom h ho fun s' e _ => ?_))
    have q := hR s' t0 e
    rw [List.sum_nil, Int.add_zero] at q
    exact wpAny_pure q
  | cons x ns ih =>
    intro c0 t0 c i s h ho hs hS hR
    obtain ⟨hx, hcx, hs'⟩ := hs
    refine codeAny_builtin F.entry_sum_loop ?_
    rw [Around.under_plainId F.plain_sum_loop _]
    show wpAny _ A0.in1 (seqItems? (.ref S) >>= _) _ _ s
    refine wpAny_bind (wpAny_seqItems hS rfl ?_)
    show wpAny _ A0.in1 (tryCatch (pyNext (.ref a)) _ >>= _) _ _ s
    refine wpAny_bind (wpAny_tryCatch (ci_item (B := A0.in1) hh hroom h ho fun v s' i' r e _ ci st => ?_))
    obtain ⟨t, rfl⟩ : ∃ t, v = Value.int x t := r
    have hS' : s'.heap.get? S = some (accObj #[.int c0 t0] c) := (st S mem).trans hS
    obtain ⟨f1, f2⟩ := hx
    obtain ⟨f3, f4⟩ := hcx
    have hc : ((decide (-(2 ^ 63) ≤ x) && decide (x < 2 ^ 63)) && (decide (-(2 ^ 63) ≤ c0 + x) && decide (c0 + x < 2 ^ 63))) = true := by
      simp only [Bool.and_eq_true, decide_eq_true_eq]
      exact ⟨⟨f1, f2⟩, f3, f4⟩
    show wpAny _ A0.in1 (if (_ : Bool) = true then (mkInt (c0 + x) >>= _) else _) _ _ _
    split
    · refine wpAny_bind (wpAny_mkInt ?_)
      show wpAny _ A0.in1 (updateSeq S (fun _ => #[.int (c0 + x) s'.toks]) >>= _) _ _ _
      refine wpAny_bind ?_
      refine wpAny_updateSeq hS' rfl (wpAny_pure ⟨plainId_quiet F.plain_sum_loop _, ?_⟩)
      refine ih (c0 + x) s'.toks _ i' _ (CI.turned (s := s') (tk := s'.toks + 1) so.tn so.fp so.big so.pn so.cell so.loc so.ne mem ci hS' (fun v z => by cases z) rfl) e hs' (Heap.get?_update_self _ hS' rfl) fun s'' t' z => ?_
      have q := hR s'' t' z
      rw [List.sum_cons] at q
      rw [Int.add_assoc]
      exact q
    · rename_i hneg
      exact absurd hc hneg
end

def resSum (ys : List V) (r : V) : Prop := ∃ ns : List Int, ys = ns.map V.int ∧ sumsIn 0 ns ∧ r = .int ns.sum
section
variable {X : Cx}
theorem pe_sum {P : Addr} {k : Nat} {elt iter tg : Expr} {ifs : List Expr} {p pos gpos : Pos} {scope : Scope} {own : List (Str × Nat)} {wi : TI} {g : TG} {tt : Addr → TT} {te : Addr → TE}
    (hr : Room (k + 1) X.A) (hgl : Gl X "sum") (hm : X.mg "sum" = none) (hc : X.calm = true) (hN : X.N.Nodup) (TB : TabC X P) (ok : GBlk X.N X.env.scope scope own) (hi : PI X tg iter wi) (hp : GParts X k elt tg ifs scope g tt te)
    (hs : ∀ v, genFold iter X.env v = pure v := by intro _; rfl)
    (he : starEach [.GeneratorExp elt [⟨tg, iter, ifs, 0⟩] scope gpos] X.env = (false, eval (.GeneratorExp elt [⟨tg, iter, ifs, 0⟩] scope gpos) X.env) :: starEach [] X.env := by rfl) :
    PE X (.Call (.Name "sum" p) [.GeneratorExp elt [⟨tg, iter, ifs, 0⟩] scope gpos] [] pos) (tGen resSum P wi g tt te (ownIx own)) := by
  refine ⟨fun pins s σ H Q I h => ?_⟩
  refine wpAny_Call_Name_kw (ld_blt I hgl hm boot_sum ?_)
  refine PyProof.Rows.callWith_builtin1 ?_ he (by rfl)
  rw [he]
  show wpAny _ _ (spliced ((false, eval (.GeneratorExp elt [⟨tg, iter, ifs, 0⟩] scope gpos) X.env) :: backTo pos (starEach [] X.env))) _ _ s
  refine Calls.spliced_cons (gen_ready hc hN hr TB ok hi hp hs I h fun X' a gi fp tn n out Pi s5 r eP eW back hga so hres hPQ ci => ?_)
  refine Calls.spliced_nil ?_
  obtain ⟨ns, eb, hsi, rfl⟩ := hres
  refine call_function_tree F.kind_sum F.plain_sum F.entry_sum (F.args_sum1 _) ?_
  unfold Builtin.«sum»
  simp only [List.length_cons, List.length_nil]
  rw [if_neg (by decide)]
  refine wpAny_bind (wpAny_of_eq (show Builtin.Builtins.bindParams "sum" ["start"] 0 { } = pure [none] from rfl) ?_)
  refine wpAny_bind (wpAny_pyIter_gen hga ?_)
  refine wpAny_bind (wpAny_mkInt (wpAny_bind (wpAny_pure ?_)))
  simp only [List.forIn_cons, List.forIn_nil]
  refine wpAny_bind (wpAny_bind (wpAny_bind (wpAny_isInstance (T := "int") (b := false) (typeIs_int _ _ _) PySem.sub_int_str ?_)))
  simp only [Bool.false_eq_true, if_false]
  refine wpAny_pure (wpAny_bind (wpAny_bind (wpAny_isInstance (T := "int") (b := false) (typeIs_int _ _ _) PySem.sub_int_bytes ?_)))
  simp only [Bool.false_eq_true, if_false]
  refine wpAny_pure (wpAny_bind (wpAny_bind (wpAny_isInstance (T := "int") (b := false) (typeIs_int _ _ _) PySem.sub_int_bytearray ?_)))
  simp only [Bool.false_eq_true, if_false]
  refine wpAny_pure (wpAny_pure ?_)
  refine wpAny_bind (wpAny_newObj_type ?_)
  have C0 := ci [s5.heap.objs.size] { s5 with heap := s5.heap.push (accObj #[.int 0 s5.toks] 0), toks := s5.toks + 1 } (fun b hb => ?_) (fun b o e => Heap.get?_push_of_some _ e) rfl rfl
  · rw [← eP, ← eW]
    refine wpAny_pure ⟨plainId_quiet F.plain_sum_loop _, ci_sum (A0 := X.A) hr.hd hr.depth (so _ (Nat.le_refl _)) (List.mem_cons_of_mem _ List.mem_cons_self) ns 0 s5.toks 0 0 _ C0 eb hsi (Heap.get?_push_size _ rfl) fun s' t ⟨i, H3, I3, _, p3⟩ => ?_⟩
    exact ⟨.int _, H3, back H3 s' _ I3, ⟨t, by rw [Int.zero_add]⟩, hPQ i H3 p3⟩
  · rw [List.mem_singleton.mp hb]
    exact ⟨Nat.le_refl _, _, Heap.get?_push_size _ rfl, fun v z => by cases z⟩
end
end GX
/-! values as data: what a def computes, without the heap -/
namespace DL
open PySem PySem.Spec PyProof.Rows L2 GX GxR

abbrev D := PyData
/-- the law's row of draws, as data -/
def rowD : D := .dict [(.none, .none)]

/-- a dict's key, as data -/
def kD : Key → D
  | .inl i => .int i
  | .inr x => .str x
/-- a dict's data -/
def dD (ps : List (Key × D)) : List (D × D) := ps.map fun p => (kD p.1, p.2)
mutual
/-- v is the data d; its lists and dicts lie at addresses of P -/
inductive Rep (K : PySem.W.Frag) (r : Addr) (H : Hp) (P : Addr → Prop) : V → D → Prop
  | non : Rep K r H P .non .none
  | bl {b : Bool} : Rep K r H P (.bl b) (.bool b)
  | int {i : Int} : Rep K r H P (.int i) (.int i)
  | str {x : Str} : Rep K r H P (.str x) (.str x)
  | tup {a : Addr} {xs : List V} {ds : List D} : SqT K H a xs → Reps K r H P xs ds → Rep K r H P (.ref a) (.tuple ds)
  | lst {a : Addr} {xs : List V} {ds : List D} : P a → H a = some (.lst xs) → Reps K r H P xs ds → Rep K r H P (.ref a) (.list ds)
  | row : Rep K r H P (.ref r) rowD
  | dic {a : Addr} {kvs : List (Key × V)} {ps : List (Key × D)} {ds : List (D × D)} : P a → Rd H a (.dK kvs) → kvs.map (·.1) = ps.map (·.1) → ds = dD ps → Reps K r H P (kvs.map (·.2)) (ps.map (·.2)) → Rep K r H P (.ref a) (.dict ds)
inductive Reps (K : PySem.W.Frag) (r : Addr) (H : Hp) (P : Addr → Prop) : List V → List D → Prop
  | nil : Reps K r H P [] []
  | cons {v : V} {vs : List V} {d : D} {ds : List D} : Rep K r H P v d → Reps K r H P vs ds → Reps K r H P (v :: vs) (d :: ds)
end

/-- what stays: all but the tables and the row -/
structure Ext (r : Addr) (H H' : Hp) : Prop where
  keep : ∀ b o, H b = some o → (∃ ps, o = .tbl ps) ∨ (b = r ∧ ∃ xs, o = .lst xs) ∨ H' b = some o
  dom : ∀ b, H' b = none → H b = none
  tab : ∀ q, TabW H q → TabW H' q
theorem Ext.refl (r : Addr) (H : Hp) : Ext r H H := ⟨fun _ _ h => .inr (.inr h), fun _ h => h, fun _ h => h⟩
theorem Ext.trans {r : Addr} {H H1 H2 : Hp} (a : Ext r H H1) (b : Ext r H1 H2) : Ext r H H2 := ⟨fun c o h => by
  rcases a.keep c o h with z | z | z
  · exact .inl z
  · exact .inr (.inl z)
  · exact b.keep c o z, fun c h => a.dom c (b.dom c h), fun q h => b.tab q (a.tab q h)⟩
theorem Ext.of_same {r : Addr} {H H' : Hp} (s : Same H H') : Ext r H H' := ⟨fun b o h => .inr (.inr (s b o h)), fun b h => s.free h, fun q h => h.keep (fun b ps e => s _ _ e) fun b o u e => s _ _ e⟩
theorem Ext.upd {r p : Addr} {H : Hp} {o : HO} (h : H p = none) : Ext r H (upd H p o) := Ext.of_same fun b x e => by
  rw [upd_ne (ne_of_none e h)]
  exact e
theorem Ext.tup {r : Addr} {H H' : Hp} (e : Ext r H H') {a : Addr} {xs : List V} (h : H a = some (.tup xs)) : H' a = some (.tup xs) := by
  rcases e.keep a _ h with ⟨ps, z⟩ | ⟨_, ys, z⟩ | z
  · cases z
  · cases z
  · exact z
theorem Ext.frz {r : Addr} {H H' : Hp} (e : Ext r H H') {a : Addr} {o : Obj} {u : HO} (h : H a = some (.frz o u)) : H' a = some (.frz o u) := by
  rcases e.keep a _ h with ⟨ps, z⟩ | ⟨_, ys, z⟩ | z
  · cases z
  · cases z
  · exact z
theorem Ext.lst {r : Addr} {H H' : Hp} (e : Ext r H H') {a : Addr} {xs : List V} (hr : a ≠ r) (h : H a = some (.lst xs)) : H' a = some (.lst xs) := by
  rcases e.keep a _ h with ⟨ps, z⟩ | ⟨q, _⟩ | z
  · cases z
  · exact absurd q hr
  · exact z
theorem Ext.dk {r : Addr} {H H' : Hp} (e : Ext r H H') {a : Addr} {kvs : List (Key × V)} (h : H a = some (.dK kvs)) : H' a = some (.dK kvs) := by
  rcases e.keep a _ h with ⟨ps, z⟩ | ⟨_, ys, z⟩ | z
  · cases z
  · cases z
  · exact z
theorem Ext.rd {r : Addr} {H H' : Hp} (e : Ext r H H') {a : Addr} {kvs : List (Key × V)} (h : Rd H a (.dK kvs)) : Rd H' a (.dK kvs) := h.elim (fun z => .inl (e.dk z)) fun ⟨o, z⟩ => .inr ⟨o, e.frz z⟩
theorem rd_there {H : Hp} {a : Addr} {u : HO} (h : Rd H a u) : H a ≠ none := h.elim (fun z => by rw [z]; simp) fun ⟨o, z⟩ => by rw [z]; simp
theorem Ext.sqT {r : Addr} {H H' : Hp} (e : Ext r H H') {K : PySem.W.Frag} {a : Addr} {xs : List V} (h : SqT K H a xs) : SqT K H' a xs := by
  rcases h with (h | ⟨o, h⟩) | h
  · exact .inl (.inl (e.tup h))
  · exact .inl (.inr ⟨o, e.frz h⟩)
  · exact .inr h
theorem Ext.sqL {r : Addr} {H H' : Hp} (e : Ext r H H') {K : PySem.W.Frag} {a : Addr} {xs : List V} (hr : a ≠ r) (h : SqL K H a xs) : SqL K H' a xs := by
  rcases h with (h | ⟨o, h⟩) | h
  · exact .inl (.inl (e.lst hr h))
  · exact .inl (.inr ⟨o, e.frz h⟩)
  · exact .inr h

section
variable {K : PySem.W.Frag} {r : Addr} {H H' : Hp} {P P' : Addr → Prop}
mutual
/-- every list and dict of P stays as it is, every tuple stays -/
theorem Rep.lift (ht : ∀ a xs, SqT K H a xs → SqT K H' a xs) (hl : ∀ a xs, P a → H a = some (.lst xs) → H' a = some (.lst xs)) (hd : ∀ a kvs, P a → Rd H a (.dK kvs) → Rd H' a (.dK kvs)) (hp : ∀ a, P a → H a ≠ none → P' a) : ∀ {v : V} {d : D}, Rep K r H P v d → Rep K r H' P' v d
  | _, _, .non => .non
  | _, _, .bl => .bl
  | _, _, .int => .int
  | _, _, .str => .str
  | _, _, .tup h hs => .tup (ht _ _ h) (Reps.lift ht hl hd hp hs)
  | _, _, .lst p h hs => .lst (hp _ p (by rw [h]; simp)) (hl _ _ p h) (Reps.lift ht hl hd hp hs)
  | _, _, .row => .row
  | _, _, .dic p h k e hs => .dic (hp _ p (rd_there h)) (hd _ _ p h) k e (Reps.lift ht hl hd hp hs)
theorem Reps.lift (ht : ∀ a xs, SqT K H a xs → SqT K H' a xs) (hl : ∀ a xs, P a → H a = some (.lst xs) → H' a = some (.lst xs)) (hd : ∀ a kvs, P a → Rd H a (.dK kvs) → Rd H' a (.dK kvs)) (hp : ∀ a, P a → H a ≠ none → P' a) : ∀ {vs : List V} {ds : List D}, Reps K r H P vs ds → Reps K r H' P' vs ds
  | _, _, .nil => .nil
  | _, _, .cons h t => .cons (Rep.lift ht hl hd hp h) (Reps.lift ht hl hd hp t)
end
theorem Rep.ext (e : Ext r H H') (hP : ∀ a, P a → a ≠ r) (hp : ∀ a, P a → P' a) {v : V} {d : D} (h : Rep K r H P v d) : Rep K r H' P' v d := h.lift (fun _ _ x => e.sqT x) (fun _ _ p x => e.lst (hP _ p) x) (fun _ _ _ x => e.rd x) fun _ p _ => hp _ p
theorem Reps.ext (e : Ext r H H') (hP : ∀ a, P a → a ≠ r) (hp : ∀ a, P a → P' a) {v : List V} {d : List D} (h : Reps K r H P v d) : Reps K r H' P' v d := h.lift (fun _ _ x => e.sqT x) (fun _ _ p x => e.lst (hP _ p) x) (fun _ _ _ x => e.rd x) fun _ p _ => hp _ p
theorem Rep.mono (hp : ∀ a, P a → P' a) {v : V} {d : D} (h : Rep K r H P v d) : Rep K r H P' v d := h.lift (fun _ _ x => x) (fun _ _ _ x => x) (fun _ _ _ x => x) fun _ p _ => hp _ p
theorem Reps.mono (hp : ∀ a, P a → P' a) {v : List V} {d : List D} (h : Reps K r H P v d) : Reps K r H P' v d := h.lift (fun _ _ x => x) (fun _ _ _ x => x) (fun _ _ _ x => x) fun _ p _ => hp _ p
theorem Reps.length : ∀ {vs : List V} {ds : List D}, Reps K r H P vs ds → vs.length = ds.length
  | _, _, .nil => rfl
  | _, _, .cons _ t => by rw [List.length_cons, List.length_cons, t.length]
theorem Reps.get : ∀ {vs : List V} {ds : List D} {i : Nat} {d : D}, Reps K r H P vs ds → ds[i]? = some d → ∃ v, vs[i]? = some v ∧ Rep K r H P v d
  | _, _, _, _, .nil, h => by simp at h
  | _, _, 0, _, .cons h _, e => by
    simp at e; subst e; exact ⟨_, rfl, h⟩
  | _, _, i + 1, _, .cons _ t, e => by
    obtain ⟨v, h1, h2⟩ := Reps.get (i := i) t (by simpa using e)
    exact ⟨v, by simpa using h1, h2⟩
theorem Reps.get' : ∀ {vs : List V} {ds : List D} {i : Nat} {v : V}, Reps K r H P vs ds → vs[i]? = some v → ∃ d, ds[i]? = some d ∧ Rep K r H P v d
  | _, _, _, _, .nil, h => by simp at h
  | _, _, 0, _, .cons h _, e => by
    simp at e; subst e; exact ⟨_, rfl, h⟩
  | _, _, i + 1, _, .cons _ t, e => by
    obtain ⟨v, h1, h2⟩ := Reps.get' (i := i) t (by simpa using e)
    exact ⟨v, by simpa using h1, h2⟩
theorem Reps.append : ∀ {vs ws : List V} {ds es : List D}, Reps K r H P vs ds → Reps K r H P ws es → Reps K r H P (vs ++ ws) (ds ++ es)
  | _, _, _, _, .nil, h => h
  | _, _, _, _, .cons h t, h2 => .cons h (t.append h2)
theorem Reps.take : ∀ {vs : List V} {ds : List D} (n : Nat), Reps K r H P vs ds → Reps K r H P (vs.take n) (ds.take n)
  | _, _, 0, _ => .nil
  | _, _, _ + 1, .nil => .nil
  | _, _, n + 1, .cons h t => .cons h (t.take n)
theorem Reps.drop : ∀ {vs : List V} {ds : List D} (n : Nat), Reps K r H P vs ds → Reps K r H P (vs.drop n) (ds.drop n)
  | _, _, 0, h => h
  | _, _, _ + 1, .nil => .nil
  | _, _, n + 1, .cons _ t => t.drop n
theorem Reps.set {v : V} {d : D} (h : Rep K r H P v d) : ∀ {vs : List V} {ds : List D} (n : Nat), Reps K r H P vs ds → Reps K r H P (vs.set n v) (ds.set n d)
  | _, _, _, .nil => .nil
  | _, _, 0, .cons _ t => .cons h t
  | _, _, n + 1, .cons x t => .cons x (t.set h n)
theorem Reps.reverse {vs : List V} {ds : List D} (h : Reps K r H P vs ds) : Reps K r H P vs.reverse ds.reverse := by
  have go : ∀ {vs ws : List V} {ds es : List D}, Reps K r H P vs ds → Reps K r H P ws es → Reps K r H P (vs.reverse ++ ws) (ds.reverse ++ es) := by
    intro vs
    induction vs with
    | nil => intro ws ds es h h2; cases h; exact h2
    | cons v vs ih =>
      intro ws ds es h h2
      cases h with
      | cons a b =>
        rw [List.reverse_cons, List.reverse_cons, List.append_assoc, List.append_assoc]
        exact ih b (.cons a h2)
  simpa using go h .nil
theorem Reps.rep {vs : List V} {ds : List D} (h : Reps K r H P vs ds) : ∀ n : Nat, Reps K r H P (List.replicate n vs).flatten (List.replicate n ds).flatten
  | 0 => .nil
  | n + 1 => by rw [List.replicate_succ, List.replicate_succ]; exact h.append (h.rep n)
theorem Reps.dropLast {vs : List V} {ds : List D} (h : Reps K r H P vs ds) : Reps K r H P vs.dropLast ds.dropLast := by
  rw [List.dropLast_eq_take, List.dropLast_eq_take, h.length]
  exact h.take _
theorem Reps.eraseIdx : ∀ {vs : List V} {ds : List D} (n : Nat), Reps K r H P vs ds → Reps K r H P (vs.eraseIdx n) (ds.eraseIdx n)
  | _, _, _, .nil => .nil
  | _, _, 0, .cons _ t => t
  | _, _, n + 1, .cons x t => .cons x (t.eraseIdx n)
/-- ints -/
theorem Reps.ints : ∀ {ns : List Int} {vs : List V}, Reps K r H P vs (ns.map PyData.int) → vs = ns.map V.int
  | [], _, h => by cases h; rfl
  | n :: ns, _, h => by
    cases h with
    | cons a b =>
      cases a
      rw [b.ints]; rfl
theorem Reps.of_ints : ∀ (ns : List Int), Reps K r H P (ns.map V.int) (ns.map PyData.int)
  | [] => .nil
  | _ :: ns => .cons .int (Reps.of_ints ns)
theorem Reps.bools : ∀ {ns : List Bool} {vs : List V}, Reps K r H P vs (ns.map PyData.bool) → vs = ns.map V.bl
  | [], _, h => by cases h; rfl
  | n :: ns, _, h => by
    cases h with
    | cons a b =>
      cases a
      rw [b.bools]; rfl
end

/-! ### flat data: no lists -/
mutual
def flat : D → Bool
  | .none => true
  | .bool _ => true
  | .int _ => true
  | .str _ => true
  | .tuple ds => flats ds
  | .list _ => false
  | .dict _ => false
def flats : List D → Bool
  | [] => true
  | d :: ds => flat d && flats ds
end
section
variable {K : PySem.W.Frag} {r : Addr} {H H' : Hp} {P P' : Addr → Prop}
mutual
theorem Rep.flat : ∀ {v : V} {d : D}, Rep K r H P v d → DL.flat d = true → Rep K r H P' v d
  | _, _, .non, _ => .non
  | _, _, .bl, _ => .bl
  | _, _, .int, _ => .int
  | _, _, .str, _ => .str
  | _, _, .tup h hs, f => .tup h (Reps.flats hs (by simpa [DL.flat] using f))
  | _, _, .lst p h hs, f => by simp [DL.flat] at f
  | _, _, .row, f => by simp [DL.flat, rowD] at f
  | _, _, .dic .., f => by simp [DL.flat] at f
theorem Reps.flats : ∀ {vs : List V} {ds : List D}, Reps K r H P vs ds → DL.flats ds = true → Reps K r H P' vs ds
  | _, _, .nil, _ => .nil
  | _, _, .cons h t, f => by
    simp only [DL.flats, Bool.and_eq_true] at f
    exact .cons (Rep.flat h f.1) (Reps.flats t f.2)
end
end

/-! ### the row, what is good -/
/-- the script's list: locked, or of the module -/
def SqF (K : PySem.W.Frag) (H : Hp) (a : Addr) (xs : List V) : Prop :=
  (∃ o, H a = some (.frz o (.lst xs))) ∨
    ∃ (o : Obj) (its : Array Value) (n : Nat), K.lookup a = some o ∧ o.cls = .type "list" ∧ o.dict = none ∧ o.data = .seq its n ∧ its.size ≤ sizeLine ∧ Vals xs its.toList
theorem SqF.sql {K : PySem.W.Frag} {H : Hp} {a : Addr} {xs : List V} (h : SqF K H a xs) : SqL K H a xs := h.elim (fun ⟨o, e⟩ => .inl (.inr ⟨o, e⟩)) .inr
theorem SqF.same {K : PySem.W.Frag} {H H' : Hp} {a : Addr} {xs : List V} (h : SqF K H a xs) (s : ∀ b o u, H b = some (.frz o u) → H' b = some (.frz o u)) : SqF K H' a xs := h.elim (fun ⟨o, e⟩ => .inl ⟨o, s _ _ _ e⟩) .inr
def RowOk (K : PySem.W.Frag) (r : Addr) (H : Hp) : Prop := ∃ (a : Addr) (ns : List Int) (i x z : Int), SqF K H a (ns.map V.int) ∧ ns.length ≤ 63 ∧ H r = some (.lst [.ref a, .int i, .int x, .int z]) ∧ 0 ≤ i ∧ 0 ≤ x ∧ x < 2147483647 ∧ 0 ≤ z
structure Good (C : List Addr) (K : PySem.W.Frag) (r : Addr) (H : Hp) : Prop where
  row : RowOk K r H
  tab : ∀ p ∈ C, TabW H p
section
variable {C : List Addr} {K : PySem.W.Frag} {r p : Addr} {H H' : Hp}
theorem Good.there (g : Good C K r H) : H r ≠ none := by
  obtain ⟨_, _, _, _, _, _, _, e, _⟩ := g.row
  rw [e]; simp
theorem Good.new (g : Good C K r H) (h : H p = none) : p ≠ r := fun e => g.there (e ▸ h)
theorem Good.same (g : Good C K r H) (s : Same H H') : Good C K r H' := by
  obtain ⟨a, ns, i, x, z, h2, h3, h4, h5⟩ := g.row
  exact ⟨⟨a, ns, i, x, z, h2.same fun b o u e => s _ _ e, h3, s _ _ h4, h5⟩, fun p hp => (g.tab p hp).keep (fun b ps e => s _ _ e) fun b o u e => s _ _ e⟩
theorem Good.upd {o : HO} (g : Good C K r H) (h : H p = none) : Good C K r (upd H p o) := g.same fun b x e => by
  rw [upd_ne (ne_of_none e h)]
  exact e
theorem tabW_write {q : Addr} {xs : List V} {o : HO} (hp : H p = some (.lst xs)) (h : TabW H q) : TabW (L2.upd H p o) q :=
  h.keep (fun b ps e => by rw [upd_ne (fun z => by rw [z, hp] at e; cases e)]; exact e) fun b o u e => by rw [upd_ne (fun z => by rw [z, hp] at e; cases e)]; exact e
/-- a list of one's own is changed -/
theorem Good.write {xs ys : List V} (g : Good C K r H) (hp : H p = some (.lst xs)) (hr : p ≠ r) : Good C K r (L2.upd H p (.lst ys)) := by
  obtain ⟨a, ns, i, x, z, h2, h3, h4, h5⟩ := g.row
  refine ⟨⟨a, ns, i, x, z, h2.same fun b o u e => by rw [upd_ne (fun z => by rw [z, hp] at e; cases e)]; exact e, h3, by rw [upd_ne (Ne.symm hr)]; exact h4, h5⟩, fun q hq => tabW_write hp (g.tab q hq)⟩
theorem Good.grown {P P' : Addr} {cv : Value} (g : Good C K r H) (t : Grown P H H' cv P') (hP : TabW H P) : Good C K r H' := by
  obtain ⟨ps0, q0, _⟩ := hP.tab
  obtain ⟨a, ns, i, x, z, h2, h3, h4, h5⟩ := g.row
  have ne : ∀ {b o}, H b = some o → (∀ ps, o ≠ .tbl ps) → H' b = some o := fun {b o} e n => t.same b o e fun z => by
    rw [z, q0] at e; exact n _ (Option.some.inj e).symm
  exact ⟨⟨a, ns, i, x, z, h2.same fun b o u e => ne e (fun ps z => by cases z), h3, ne h4 (fun ps z => by cases z), h5⟩, fun p hp => t.tabs p (g.tab p hp)⟩
/-- one table more -/
theorem Good.cons {P : Addr} (g : Good C K r H) (h : TabW H P) : Good (P :: C) K r H := ⟨g.row, fun p hp => by
  rcases List.mem_cons.mp hp with z | z
  · rw [z]; exact h
  · exact g.tab p z⟩
theorem Good.less {P : Addr} (g : Good (P :: C) K r H) : Good C K r H := ⟨g.row, fun p hp => g.tab p (List.mem_cons_of_mem _ hp)⟩
end
theorem Ext.grown {r P P' : Addr} {H H' : Hp} {cv : Value} (t : Grown P H H' cv P') (hP : TabW H P) : Ext r H H' := by
  obtain ⟨ps0, q0, _⟩ := hP.tab
  refine ⟨fun b o h => ?_, t.dom, t.tabs⟩
  by_cases hb : b = P
  · rw [hb, q0] at h
    exact .inl ⟨ps0, (Option.some.inj h).symm⟩
  · exact .inr (.inr (t.same b o h hb))
end DL
namespace DL
open PySem PySem.Spec PyProof.Rows L2 GX GxR
/-! ### the slots as data -/
inductive SD where
  | no
  | val (d : D)
  /-- a list of one's own: it may be changed -/
  | own (ds : List D)
  /-- a dict of one's own -/
  | dic (ps : List (Key × D))
abbrev SDs := List SD
def Pv (O : Nat → Option Addr) (r : Addr) : Addr → Prop := fun a => a ≠ r ∧ ∀ j, O j ≠ some a
def Po (O : Nat → Option Addr) (r : Addr) (H0 : Hp) : Addr → Prop := fun a => a ≠ r ∧ (∀ j, O j ≠ some a) ∧ H0 a = none
/-- what stands at an address of one's own -/
def ObjR (K : PySem.W.Frag) (r : Addr) (H : Hp) (P : Addr → Prop) (a : Addr) : SD → Prop
  | .own ds => ∃ vs, H a = some (.lst vs) ∧ Reps K r H P vs ds
  | .dic ps => ∃ kvs, H a = some (.dK kvs) ∧ kvs.map (·.1) = ps.map (·.1) ∧ Reps K r H (fun _ => False) (kvs.map (·.2)) (ps.map (·.2))
  | _ => False
def OwnS : SD → Prop
  | .own _ => True
  | .dic _ => True
  | _ => False
/-- a list or a dict -/
def LD : HO → Prop
  | .lst _ => True
  | .dK _ => True
  | _ => False
section
variable {K : PySem.W.Frag} {r a : Addr} {H H' : Hp} {P P' : Addr → Prop} {sd : SD}
theorem ObjR.there (h : ObjR K r H P a sd) : ∃ o, H a = some o ∧ LD o := by
  cases sd with
  | own ds => obtain ⟨vs, h, _⟩ := h; exact ⟨_, h, trivial⟩
  | dic ps => obtain ⟨vs, h, _⟩ := h; exact ⟨_, h, trivial⟩
  | _ => exact h.elim
theorem ObjR.owns (h : ObjR K r H P a sd) : OwnS sd := by
  cases sd with
  | own ds => trivial
  | dic ps => trivial
  | _ => exact h.elim
theorem ObjR.lift (hk : ∀ o, H a = some o → LD o → H' a = some o) (ht : ∀ a xs, SqT K H a xs → SqT K H' a xs) (hl : ∀ a xs, P a → H a = some (.lst xs) → H' a = some (.lst xs)) (hd : ∀ a kvs, P a → Rd H a (.dK kvs) → Rd H' a (.dK kvs)) (hp : ∀ a, P a → H a ≠ none → P' a)
    (h : ObjR K r H P a sd) : ObjR K r H' P' a sd := by
  cases sd with
  | own ds => obtain ⟨vs, h, q⟩ := h; exact ⟨vs, hk _ h trivial, q.lift ht hl hd hp⟩
  | dic ps => obtain ⟨kvs, h, k, q⟩ := h; exact ⟨kvs, hk _ h trivial, k, q.lift ht (fun _ _ z => z.elim) (fun _ _ z => z.elim) fun _ z => z.elim⟩
  | _ => exact h.elim
theorem ObjR.ext (e : Ext r H H') (ha : a ≠ r) (hP : ∀ a, P a → a ≠ r) (hp : ∀ a, P a → P' a) (h : ObjR K r H P a sd) : ObjR K r H' P' a sd :=
  h.lift (fun o x z => by
    cases o <;> first | exact z.elim | exact e.lst ha x | exact e.dk x) (fun _ _ x => e.sqT x) (fun _ _ p x => e.lst (hP _ p) x) (fun _ _ _ x => e.rd x) fun _ p _ => hp _ p
theorem ObjR.mono (hp : ∀ a, P a → P' a) (h : ObjR K r H P a sd) : ObjR K r H P' a sd := h.lift (fun _ x _ => x) (fun _ _ x => x) (fun _ _ _ x => x) (fun _ _ _ x => x) fun _ p _ => hp _ p
end
/-- the state is told by the slots -/
structure SI (C : List Addr) (K : PySem.W.Frag) (r : Addr) (H0 : Hp) (O : Nat → Option Addr) (H : Hp) (σ : L2.St) (env : SDs) : Prop where
  good : Good C K r H
  ext : Ext r H0 H
  len : σ.length = env.length
  inj : ∀ (i j : Nat) (a : Addr), O i = some a → O j = some a → i = j
  new : ∀ (i : Nat) (a : Addr), O i = some a → H0 a = none ∧ a ≠ r
  val : ∀ (i : Nat) (d : D), env[i]? = some (SD.val d) → ∃ v, σ[i]? = some (some v) ∧ Rep K r H (Pv O r) v d
  obj : ∀ (i : Nat) (sd : SD), env[i]? = some sd → OwnS sd → ∃ a, O i = some a ∧ σ[i]? = some (some (.ref a)) ∧ ObjR K r H (Po O r H0) a sd
  dom : ∀ (i : Nat) (a : Addr), O i = some a → H a ≠ none
section
variable {C : List Addr} {K : PySem.W.Frag} {r : Addr} {H0 H H' : Hp} {O : Nat → Option Addr} {σ : L2.St} {env : SDs}
theorem SI.own (S : SI C K r H0 O H σ env) (i : Nat) (ds : List D) (h : env[i]? = some (SD.own ds)) : ∃ a vs, O i = some a ∧ σ[i]? = some (some (.ref a)) ∧ H a = some (.lst vs) ∧ Reps K r H (Po O r H0) vs ds := by
  obtain ⟨a, h1, h2, vs, h3, h4⟩ := S.obj i _ h trivial
  exact ⟨a, vs, h1, h2, h3, h4⟩
theorem SI.dic (S : SI C K r H0 O H σ env) (i : Nat) (ps : List (Key × D)) (h : env[i]? = some (SD.dic ps)) : ∃ a kvs, O i = some a ∧ σ[i]? = some (some (.ref a)) ∧ H a = some (.dK kvs) ∧ kvs.map (·.1) = ps.map (·.1) ∧ Reps K r H (fun _ => False) (kvs.map (·.2)) (ps.map (·.2)) := by
  obtain ⟨a, h1, h2, kvs, h3, h4, h5⟩ := S.obj i _ h trivial
  exact ⟨a, kvs, h1, h2, h3, h4, h5⟩
theorem SI.step (S : SI C K r H0 O H σ env) (e : Ext r H H') (g : Good C K r H') : SI C K r H0 O H' σ env where
  good := g
  ext := S.ext.trans e
  len := S.len
  inj := S.inj
  new := S.new
  val := fun i d h => let ⟨v, h1, h2⟩ := S.val i d h; ⟨v, h1, h2.ext e (fun _ p => p.1) fun _ p => p⟩
  obj := fun i sd h z => let ⟨a, h1, h2, h3⟩ := S.obj i sd h z; ⟨a, h1, h2, h3.ext e (S.new i a h1).2 (fun _ p => p.1) fun _ p => p⟩
  dom := fun i a h z => S.dom i a h (e.dom a z)
theorem SI.cons {P : Addr} (S : SI C K r H0 O H σ env) (h : TabW H P) : SI (P :: C) K r H0 O H σ env := ⟨S.good.cons h, S.ext, S.len, S.inj, S.new, S.val, S.obj, S.dom⟩
theorem SI.fresh (S : SI C K r H0 O H σ env) {p : Addr} (h : H p = none) : Po O r H0 p := ⟨S.good.new h, fun j z => S.dom j p z h, S.ext.dom p h⟩
/-- the slots forgotten -/
theorem SI.weak {σ' : L2.St} {env' : SDs} (S : SI C K r H0 O H σ env) (hl : σ'.length = env'.length) (hv : ∀ (i : Nat) (d : D), env'[i]? = some (SD.val d) → env[i]? = some (SD.val d) ∧ σ'[i]? = σ[i]?) (ho : ∀ (i : Nat) (sd : SD), env'[i]? = some sd → OwnS sd → env[i]? = some sd ∧ σ'[i]? = σ[i]?) : SI C K r H0 O H σ' env' where
  good := S.good
  ext := S.ext
  len := hl
  inj := S.inj
  new := S.new
  val := fun i d h => let ⟨e1, e2⟩ := hv i d h; let ⟨v, h1, h2⟩ := S.val i d e1; ⟨v, e2.trans h1, h2⟩
  obj := fun i sd h z => let ⟨e1, e2⟩ := ho i sd h z; let ⟨a, h1, h2, h3⟩ := S.obj i sd e1 z; ⟨a, h1, e2.trans h2, h3⟩
  dom := S.dom
end

/-! ### judgements -/
abbrev WE := SDs → (D → Prop) → Prop
abbrev WL := SDs → (List D → Prop) → Prop
abbrev WT := SDs → (Bool → Prop) → Prop
/-- an expression: what it gives, as data -/
def DE (C : List Addr) (X : Cx) (e : Expr) (w : WE) : Prop := ∃ t, PE X e t ∧ ∀ (r : Addr) (H0 : Hp) (O : Nat → Option Addr) (σ : L2.St) (H : Hp) (env : SDs) (Q : D → Prop) (Qh : VK), SI C X.K r H0 O H σ env → w env Q →
  (∀ v H' d, Ext r H H' → Good C X.K r H' → Rep X.K r H' (fun a => a ≠ r) v d → Q d → Qh v H') → t σ H Qh
/-- .. a new list -/
def DN (C : List Addr) (X : Cx) (e : Expr) (w : WL) : Prop := ∃ t, PE X e t ∧ ∀ (r : Addr) (H0 : Hp) (O : Nat → Option Addr) (σ : L2.St) (H : Hp) (env : SDs) (Q : List D → Prop) (Qh : VK), SI C X.K r H0 O H σ env → w env Q →
  (∀ p H' vs ds, Ext r H H' → Good C X.K r H' → H p = none → H' p = some (.lst vs) → Reps X.K r H' (fun a => Po O r H0 a ∧ a ≠ p) vs ds → Q ds → Qh (.ref p) H') → t σ H Qh
/-- arguments -/
def DA (C : List Addr) (X : Cx) (es : List Expr) (w : WL) : Prop := ∃ t, PA X es t ∧ ∀ (r : Addr) (H0 : Hp) (O : Nat → Option Addr) (σ : L2.St) (H : Hp) (env : SDs) (Q : List D → Prop) (Qh : List V → Hp → Prop), SI C X.K r H0 O H σ env → w env Q →
  (∀ vs H' ds, Ext r H H' → Good C X.K r H' → Reps X.K r H' (fun a => a ≠ r) vs ds → Q ds → Qh vs H') → t σ H Qh
/-- a test -/
def DT (C : List Addr) (X : Cx) (e : Expr) (w : WT) : Prop := ∃ t, PT X e t ∧ ∀ (r : Addr) (H0 : Hp) (O : Nat → Option Addr) (σ : L2.St) (H : Hp) (env : SDs) (Q : Bool → Prop) (Qh : Bool → Hp → Prop), SI C X.K r H0 O H σ env → w env Q →
  (∀ b H', Ext r H H' → Good C X.K r H' → Q b → Qh b H') → t σ H Qh
def DW (C : List Addr) (X : Cx) (e : Expr) (w : WT) : Prop := ∃ t, PW X e t ∧ ∀ (r : Addr) (H0 : Hp) (O : Nat → Option Addr) (σ : L2.St) (H : Hp) (env : SDs) (Q : Bool → Prop) (Qh : Bool → Hp → Prop), SI C X.K r H0 O H σ env → w env Q →
  (∀ b H', Ext r H H' → Good C X.K r H' → Q b → Qh b H') → t σ H Qh

section
variable {C : List Addr} {X : Cx} {e a b : Expr} {es rest : List Expr} {w wa wb : WE} {pos p : Pos}

theorem DN.de {w : WL} (h : DN C X e w) : DE C X e (fun env Q => w env fun ds => Q (.list ds)) := by
  obtain ⟨t, pe, s⟩ := h
  refine ⟨t, pe, fun r H0 O σ H env Q Qh S hw k => s r H0 O σ H env _ Qh S hw fun p H' vs ds e g n h1 h2 q => ?_⟩
  exact k (.ref p) H' _ e g (.lst (S.good.new n) h1 (h2.mono fun _ z => z.1.1)) q
theorem DW.dt {w : WT} (h : DW C X e w) : DT C X e w := let ⟨t, pe, s⟩ := h; ⟨t, pe.pt, s⟩

/-! ### names and constants -/
def wVar (i : Nat) : WE := fun env Q => match env[i]? with
  | some (SD.val d) => Q d
  | some (SD.own ds) => Q (.list ds)
  | some (SD.dic ps) => Q (.dict (dD ps))
  | _ => False
def wC (d : D) : WE := fun _ Q => Q d
theorem de_var (i : Nat) {x : Str} (hN : X.N[i]? = some x := by rfl) (hv : Vis X.env.scope x := by first | exact Or.inl rfl | exact Or.inr (Or.inl rfl) | exact Or.inr (Or.inr rfl)) (hd : (x == ("__debug__" : Str)) = false := by decide)
    (hcd : (x == ("__classdict__" : Str)) = false := by decide) : DE C X (.Name x pos) (wVar i) := by
  refine ⟨_, pe_var hN hv hd hcd, fun r H0 O σ H env Q Qh S hw k => ?_⟩
  unfold wVar at hw
  split at hw
  · rename_i d hd
    obtain ⟨v, h1, h2⟩ := S.val i d hd
    exact ⟨v, h1, k v H d (.refl _ _) S.good (h2.mono fun _ z => z.1) hw⟩
  · rename_i ds hd
    obtain ⟨a, vs, h1, h2, h3, h4⟩ := S.own i ds hd
    exact ⟨.ref a, h2, k _ H _ (.refl _ _) S.good (.lst (S.new i a h1).2 h3 (h4.mono fun _ z => z.1)) hw⟩
  · rename_i ps hd
    obtain ⟨a, kvs, h1, h2, h3, h4, h5⟩ := S.dic i ps hd
    exact ⟨.ref a, h2, k _ H _ (.refl _ _) S.good (.dic (S.new i a h1).2 (.inl h3) h4 rfl (h5.mono fun _ z => z.elim)) hw⟩
  · exact hw.elim
theorem de_int {i j} : DE C X (.Constant (.int i) j pos) (wC (.int i)) := ⟨_, pe_int, fun r H0 O σ H env Q Qh S hw k => k _ H _ (.refl _ _) S.good .int hw⟩
theorem de_bl {b j} : DE C X (.Constant (.bool b) j pos) (wC (.bool b)) := ⟨_, pe_bl, fun r H0 O σ H env Q Qh S hw k => k _ H _ (.refl _ _) S.good .bl hw⟩
theorem de_non {j} : DE C X (.Constant .none j pos) (wC .none) := ⟨_, pe_non, fun r H0 O σ H env Q Qh S hw k => k _ H _ (.refl _ _) S.good .non hw⟩
theorem de_str {x j} : DE C X (.Constant (.str x) j pos) (wC (.str x)) := ⟨_, pe_str, fun r H0 O σ H env Q Qh S hw k => k _ H _ (.refl _ _) S.good .str hw⟩
/-- a module's int -/
theorem de_glob {x : Str} {i : Int} {t : Tok} (hg : Gl X x) (hm : X.mg x = some (.int i t)) (hd : (x == ("__debug__" : Str)) = false := by decide) : DE C X (.Name x pos) (wC (.int i)) :=
  ⟨_, pe_glob (v := .int i) hg hm ⟨t, rfl⟩ hd, fun r H0 O σ H env Q Qh S hw k => k _ H _ (.refl _ _) S.good .int hw⟩

/-! ### operators -/
/-- an operator by values, as data -/
def OpD (C : List Addr) (X : Cx) (rr : R2) (f : D → D → (D → Prop) → Prop) : Prop := ∀ (r : Addr) (H : Hp) (x y : V) (dx dy : D) (Q : D → Prop) (Qh : VK), Good C X.K r H → Rep X.K r H (fun a => a ≠ r) x dx → Rep X.K r H (fun a => a ≠ r) y dy → f dx dy Q →
  (∀ v H' d, Ext r H H' → Good C X.K r H' → Rep X.K r H' (fun a => a ≠ r) v d → Q d → Qh v H') → rr x y H Qh
theorem OpD.inl {rr rr' : R2} {f : D → D → (D → Prop) → Prop} (h : OpD C X rr f) : OpD C X (fun x y H Q => rr x y H Q ∨ rr' x y H Q) f := fun r H x y dx dy Q Qh g h1 h2 hf k => .inl (h r H x y dx dy Q Qh g h1 h2 hf k)
def wBin (f : D → D → (D → Prop) → Prop) (wa wb : WE) : WE := fun env Q => wa env fun x => wb env fun y => f x y Q
/-- two operands, one behind the other -/
theorem two {ta tb : TE} {R : V → V → Hp → Prop} {r : Addr} {H0 : Hp} {O : Nat → Option Addr} {σ : L2.St} {H : Hp} {env : SDs} {Q2 : D → D → Prop}
    (sa : ∀ (r : Addr) (H0 : Hp) (O : Nat → Option Addr) (σ : L2.St) (H : Hp) (env : SDs) (Q : D → Prop) (Qh : VK), SI C X.K r H0 O H σ env → wa env Q → (∀ v H' d, Ext r H H' → Good C X.K r H' → Rep X.K r H' (fun a => a ≠ r) v d → Q d → Qh v H') → ta σ H Qh)
    (sb : ∀ (r : Addr) (H0 : Hp) (O : Nat → Option Addr) (σ : L2.St) (H : Hp) (env : SDs) (Q : D → Prop) (Qh : VK), SI C X.K r H0 O H σ env → wb env Q → (∀ v H' d, Ext r H H' → Good C X.K r H' → Rep X.K r H' (fun a => a ≠ r) v d → Q d → Qh v H') → tb σ H Qh)
    (S : SI C X.K r H0 O H σ env) (hw : wa env fun x => wb env fun y => Q2 x y)
    (k : ∀ x y dx dy H2, Ext r H H2 → Good C X.K r H2 → Rep X.K r H2 (fun a => a ≠ r) x dx → Rep X.K r H2 (fun a => a ≠ r) y dy → Q2 dx dy → R x y H2) : ta σ H fun x H1 => tb σ H1 fun y H2 => R x y H2 := by
  refine sa r H0 O σ H env _ _ S hw fun x H1 dx e1 g1 r1 q1 => ?_
  refine sb r H0 O σ H1 env _ _ (S.step e1 g1) q1 fun y H2 dy e2 g2 r2 q2 => ?_
  exact k x y dx dy H2 (e1.trans e2) g2 (r1.ext e2 (fun _ z => z) fun _ z => z) r2 q2
theorem de_bin {op : Operator} {rr : R2} {f : D → D → (D → Prop) → Prop} (ho : OpR X (binaryOp op) rr) (hf : OpD C X rr f) (ha : DE C X a wa) (hb : DE C X b wb) : DE C X (.BinOp a op b pos) (wBin f wa wb) := by
  obtain ⟨ta, pa, sa⟩ := ha
  obtain ⟨tb, pb, sb⟩ := hb
  refine ⟨_, pe_op ho pa pb, fun r H0 O σ H env Q Qh S hw k => ?_⟩
  exact two sa sb S hw fun x y dx dy H2 e g rx ry q => hf r H2 x y dx dy Q Qh g rx ry q fun v H' d e' g' rv qv => k v H' d (e.trans e') g' rv qv
def dAdd : D → D → (D → Prop) → Prop
  | .int i, .int j, Q => Q (.int (i + j))
  | _, _, _ => False
def dSub : D → D → (D → Prop) → Prop
  | .int i, .int j, Q => Q (.int (i - j))
  | _, _, _ => False
/-- together less than a hundred million bits -/
def MulFits (i j : Int) : Prop := i.natAbs.log2 + j.natAbs.log2 < 100000000
theorem MulFits.ok {i j : Int} (h : MulFits i j) : IntMulOk i j := by
  have b : ∀ x : Int, Builtin.Int.intBits x ≤ x.natAbs.log2 + 1 := fun x => by
    unfold Builtin.Int.intBits
    split <;> omega
  have h1 := b i
  have h2 := b j
  have h3 : i.natAbs.log2 + j.natAbs.log2 < 100000000 := h
  have e : bitsLine = 134217728 := by decide
  unfold IntMulOk
  intro z
  rw [Bool.and_eq_true] at z
  have z2 := z.2
  unfold Builtin.Int.intTooBig at z2
  have z3 := of_decide_eq_true z2
  rw [e] at z3
  omega
def dMul : D → D → (D → Prop) → Prop
  | .int i, .int j, Q => MulFits i j ∧ Q (.int (i * j))
  | _, _, _ => False
theorem op_mulF : OpR X (binaryOp .Mult) (rI MulFits fun i j => .int (i * j)) := opI fun _ _ _ _ _ _ _ hc q => mul_int q hc.ok
def dMod : D → D → (D → Prop) → Prop
  | .int i, .int j, Q => j ≠ 0 ∧ Q (.int (i.fmod j))
  | _, _, _ => False
theorem opd_i0 {g : Int → Int → Int} {f : D → D → (D → Prop) → Prop} (hf : ∀ dx dy Q, f dx dy Q → ∃ i j, dx = .int i ∧ dy = .int j ∧ Q (.int (g i j))) : OpD C X (rI0 fun i j => .int (g i j)) f := fun r H x y dx dy Q Qh gd rx ry h k => by
  obtain ⟨i, j, rfl, rfl, q⟩ := hf dx dy Q h
  cases rx; cases ry
  exact ⟨i, j, rfl, rfl, k _ H _ (.refl _ _) gd .int q⟩
theorem opd_i {c : Int → Int → Prop} {g : Int → Int → Int} {f : D → D → (D → Prop) → Prop} (hf : ∀ dx dy Q, f dx dy Q → ∃ i j, dx = .int i ∧ dy = .int j ∧ c i j ∧ Q (.int (g i j))) : OpD C X (rI c fun i j => .int (g i j)) f := fun r H x y dx dy Q Qh gd rx ry h k => by
  obtain ⟨i, j, rfl, rfl, c, q⟩ := hf dx dy Q h
  cases rx; cases ry
  exact ⟨i, j, rfl, rfl, c, k _ H _ (.refl _ _) gd .int q⟩
theorem opd_add : OpD C X (rI0 fun i j => .int (i + j)) dAdd := opd_i0 fun dx dy Q h => by cases dx <;> cases dy <;> first | exact ⟨_, _, rfl, rfl, h⟩ | exact h.elim
theorem opd_sub : OpD C X (rI0 fun i j => .int (i - j)) dSub := opd_i0 fun dx dy Q h => by cases dx <;> cases dy <;> first | exact ⟨_, _, rfl, rfl, h⟩ | exact h.elim
theorem opd_mul : OpD C X (rI MulFits fun i j => .int (i * j)) dMul := opd_i fun dx dy Q h => by cases dx <;> cases dy <;> first | exact ⟨_, _, rfl, rfl, h.1, h.2⟩ | exact h.elim
theorem opd_mod : OpD C X (rI (fun _ j => j ≠ 0) fun i j => .int (i.fmod j)) dMod := opd_i fun dx dy Q h => by cases dx <;> cases dy <;> first | exact ⟨_, _, rfl, rfl, h.1, h.2⟩ | exact h.elim
theorem de_add (ha : DE C X a wa) (hb : DE C X b wb) : DE C X (.BinOp a .Add b pos) (wBin dAdd wa wb) := de_bin op_add opd_add ha hb
theorem de_sub (ha : DE C X a wa) (hb : DE C X b wb) : DE C X (.BinOp a .Sub b pos) (wBin dSub wa wb) := de_bin op_sub opd_sub ha hb
theorem de_mul (ha : DE C X a wa) (hb : DE C X b wb) : DE C X (.BinOp a .Mult b pos) (wBin dMul wa wb) := de_bin op_mulF opd_mul ha hb
theorem de_mod (ha : DE C X a wa) (hb : DE C X b wb) : DE C X (.BinOp a .Mod b pos) (wBin dMod wa wb) := de_bin op_modN opd_mod ha hb
/-- a small power -/
def dPow : D → D → (D → Prop) → Prop
  | .int i, .int j, Q => (0 ≤ j ∧ j ≤ 1000000 ∧ i.natAbs < 2 ^ 64) ∧ Q (.int (i ^ j.toNat))
  | _, _, _ => False
theorem opd_pow : OpD C X (rI CPow fun i j => .int (i ^ j.toNat)) dPow := opd_i fun dx dy Q h => by cases dx <;> cases dy <;> first | exact ⟨_, _, rfl, rfl, h.1, h.2⟩ | exact h.elim
theorem de_pow (ha : DE C X a wa) (hb : DE C X b wb) : DE C X (.BinOp a .Pow b pos) (wBin dPow wa wb) := de_bin op_pow opd_pow ha hb
/-- tuples put together -/
def dCatT : D → D → (D → Prop) → Prop
  | .tuple a, .tuple b, Q => a.length + b.length ≤ 16777216 ∧ Q (.tuple (a ++ b))
  | _, _, _ => False
theorem opd_catT : OpD C X (rCatA X.K) dCatT := fun r H x y dx dy Q Qh gd rx ry h k => by
  cases dx <;> cases dy <;> first | exact h.elim | skip
  cases rx with
  | @tup a1 xs1 ds1 ha hs =>
    cases ry with
    | @tup a2 xs2 ds2 hb ht =>
      have hl : xs1.length + xs2.length ≤ sizeLine := by rw [sizeLine_eq, hs.length, ht.length]; exact h.1
      refine ⟨a1, a2, xs1, xs2, rfl, rfl, ha, hb, hl, ?_⟩
      refine ⟨fun e => ?_, fun _ e => ?_, fun _ _ p np => ?_⟩
      · subst e
        cases hs
        exact k _ H _ (.refl _ _) gd (.tup hb ht) h.2
      · subst e
        cases ht
        have h2 := h.2
        rw [List.append_nil] at h2
        exact k _ H _ (.refl _ _) gd (.tup ha hs) h2
      · have e := Ext.upd (r := r) (o := .tup (xs1 ++ xs2)) np
        exact k _ _ _ e (gd.upd np) (.tup (SqT.of upd_same) ((hs.append ht).ext e (fun _ z => z) fun _ z => z)) h.2
/-- + of ints, of tuples -/
def dPlus : D → D → (D → Prop) → Prop
  | .int i, .int j, Q => Q (.int (i + j))
  | .tuple a, .tuple b, Q => a.length + b.length ≤ 16777216 ∧ Q (.tuple (a ++ b))
  | _, _, _ => False
theorem opd_plus : OpD C X (fun x y H Q => rI0 (fun i j => .int (i + j)) x y H Q ∨ rCatA X.K x y H Q) dPlus := fun r H x y dx dy Q Qh gd rx ry h k => by
  cases dx <;> cases dy <;> first | exact h.elim | skip
  · exact .inl (opd_add r H x y _ _ Q Qh gd rx ry h k)
  · exact .inr (opd_catT r H x y _ _ Q Qh gd rx ry h k)
theorem de_plus (ha : DE C X a wa) (hb : DE C X b wb) : DE C X (.BinOp a .Add b pos) (wBin dPlus wa wb) := de_bin (op_add.or op_catA) opd_plus ha hb

/-! ### comparisons -/
theorem rep_dp {K : PySem.W.Frag} {r : Addr} {H : Hp} {P : Addr → Prop} : ∀ (d : D) {v : V}, Rep K r H P v d → d.canLay0 = true → Dp K H v d := by
  intro d v h
  refine Rep.rec (motive_1 := fun v d _ => d.canLay0 = true → Dp K H v d) (motive_2 := fun vs ds _ => PyData.canLayAll0 ds = true → DpAll K H vs ds) ?_ ?_ ?_ ?_ ?_ ?_ ?_ ?_ ?_ ?_ h
  · exact fun _ => .non
  · exact fun _ => .bl _
  · exact fun _ => .int _
  · exact fun _ => .str _
  · intro a xs ds ht hs ih hc
    exact .tup ht (ih (by simpa [PyData.canLay0] using hc))
  · intro a xs ds hp hl hs ih hc
    exact .lst (SqL.of hl) (ih (by simpa [PyData.canLay0] using hc))
  · intro hc
    simp [rowD, PyData.canLay0] at hc
  · intro a kvs ps ds p h k e hs ih hc
    simp [PyData.canLay0] at hc
  · exact fun _ => .nil
  · intro v vs d ds h hs ih ihs hc
    simp only [PyData.canLayAll0, Bool.and_eq_true] at hc
    exact .cons (ih hc.1) (ihs hc.2)
def dEq : D → D → (D → Prop) → Prop
  | .int i, .int j, Q => Q (.bool (decide (i = j)))
  | d, e, Q => SeqAt.shaped d = true ∧ SeqAt.shaped e = true ∧ Q (.bool (PyData.eqv d e))
def dNe : D → D → (D → Prop) → Prop
  | .int i, .int j, Q => Q (.bool (!decide (i = j)))
  | d, e, Q => SeqAt.shaped d = true ∧ SeqAt.shaped e = true ∧ Q (.bool (!PyData.eqv d e))
theorem opd_eqD : OpD C X (rEqD X.K) (fun d e Q => SeqAt.shaped d = true ∧ SeqAt.shaped e = true ∧ Q (.bool (PyData.eqv d e))) := fun r H x y dx dy Q Qh gd rx ry h k =>
  ⟨dx, dy, rep_dp dx rx (SeqAt.canLay_of_shaped h.1), rep_dp dy ry (SeqAt.canLay_of_shaped h.2.1), h.1, h.2.1, k _ H _ (.refl _ _) gd .bl h.2.2⟩
theorem opd_neD : OpD C X (rNeD X.K) (fun d e Q => SeqAt.shaped d = true ∧ SeqAt.shaped e = true ∧ Q (.bool (!PyData.eqv d e))) := fun r H x y dx dy Q Qh gd rx ry h k =>
  ⟨dx, dy, rep_dp dx rx (SeqAt.canLay_of_shaped h.1), rep_dp dy ry (SeqAt.canLay_of_shaped h.2.1), h.1, h.2.1, k _ H _ (.refl _ _) gd .bl h.2.2⟩
theorem opd_eq : OpD C X (fun x y H Q => rEq x y H Q ∨ rEqD X.K x y H Q) dEq := fun r H x y dx dy Q Qh gd rx ry h k => by
  cases dx <;> cases dy <;> first
    | exact .inr (opd_eqD r H x y _ _ Q Qh gd rx ry h k)
    | (cases rx; cases ry; exact .inl ⟨rfl, k _ H _ (.refl _ _) gd .bl (by rw [dec_int, Bool.beq_eq_decide_eq]; exact h)⟩)
theorem opd_ne : OpD C X (fun x y H Q => rNe x y H Q ∨ rNeD X.K x y H Q) dNe := fun r H x y dx dy Q Qh gd rx ry h k => by
  cases dx <;> cases dy <;> first
    | exact .inr (opd_neD r H x y _ _ Q Qh gd rx ry h k)
    | (cases rx; cases ry; exact .inl ⟨rfl, k _ H _ (.refl _ _) gd .bl (by rw [dec_int, Bool.beq_eq_decide_eq]; exact h)⟩)
def dCmp (p : Int → Int → Bool) : D → D → (D → Prop) → Prop
  | .int i, .int j, Q => Q (.bool (p i j))
  | _, _, _ => False
theorem opd_cmp {p : Int → Int → Bool} : OpD C X (rI0 fun i j => .bl (p i j)) (dCmp p) := fun r H x y dx dy Q Qh gd rx ry h k => by
  cases dx <;> cases dy <;> first | exact h.elim | skip
  cases rx; cases ry
  exact ⟨_, _, rfl, rfl, k _ H _ (.refl _ _) gd .bl h⟩
/-- is None -/
def dIsN : D → D → (D → Prop) → Prop
  | .none, .none, Q => Q (.bool true)
  | _, .none, Q => Q (.bool false)
  | _, _, _ => False
def dNotN : D → D → (D → Prop) → Prop
  | .none, .none, Q => Q (.bool false)
  | _, .none, Q => Q (.bool true)
  | _, _, _ => False
theorem opd_isN : OpD C X (fun x y H Q => y = .non ∧ Q (.bl (decide (x = .non))) H) dIsN := fun r H x y dx dy Q Qh gd rx ry h k => by
  cases dy <;> first | (cases dx <;> exact h.elim) | skip
  cases ry
  refine ⟨rfl, ?_⟩
  cases rx <;> exact k _ H _ (.refl _ _) gd .bl h
theorem opd_notN : OpD C X (fun x y H Q => y = .non ∧ Q (.bl (!decide (x = .non))) H) dNotN := fun r H x y dx dy Q Qh gd rx ry h k => by
  cases dy <;> first | (cases dx <;> exact h.elim) | skip
  cases ry
  refine ⟨rfl, ?_⟩
  cases rx <;> exact k _ H _ (.refl _ _) gd .bl h
theorem de_cmp {op : CmpOp} {rr : R2} {f : D → D → (D → Prop) → Prop} (ho : OpR X (compareOp op) rr) (hf : OpD C X rr f) (ha : DE C X a wa) (hb : DE C X b wb) (hm : behindInMarks op b = false) : DE C X (.Compare a [op] [b] pos) (wBin f wa wb) := by
  obtain ⟨ta, pa, sa⟩ := ha
  obtain ⟨tb, pb, sb⟩ := hb
  refine ⟨_, pe_cmpR ho pa pb hm, fun r H0 O σ H env Q Qh S hw k => ?_⟩
  exact two sa sb S hw fun x y dx dy H2 e g rx ry q => hf r H2 x y dx dy Q Qh g rx ry q fun v H' d e' g' rv qv => k v H' d (e.trans e') g' rv qv
/-- a value that is a bool, as a test -/
def wTst (w : WE) : WT := fun env Q => w env fun d => match d with
  | .bool b => Q b
  | _ => False
theorem dt_cmp {op : CmpOp} {rr : R2} {f : D → D → (D → Prop) → Prop} (ho : OpR X (compareOp op) rr) (hf : OpD C X rr f) (ha : DE C X a wa) (hb : DE C X b wb) (hm : behindInMarks op b = false) : DT C X (.Compare a [op] [b] pos) (wTst (wBin f wa wb)) := by
  obtain ⟨ta, pa, sa⟩ := ha
  obtain ⟨tb, pb, sb⟩ := hb
  refine ⟨_, pt_cmpR ho pa pb hm, fun r H0 O σ H env Q Qh S hw k => ?_⟩
  refine two sa sb S hw fun x y dx dy H2 e g rx ry q => hf r H2 x y dx dy _ _ g rx ry q fun v H' d e' g' rv qv => ?_
  cases d <;> first | exact qv.elim | skip
  cases rv
  exact ⟨_, rfl, k _ H' (e.trans e') g' qv⟩
theorem dt_val (h : DE C X e w) (he : ∀ whole, isTrue e X.env whole = (do let v ← whole; standAt e.pos; holding [v] (truthy v)) := by intro _; rfl) : DT C X e (wTst w) := by
  obtain ⟨t, pe, s⟩ := h
  refine ⟨_, pt_val pe he, fun r H0 O σ H env Q Qh S hw k => s r H0 O σ H env _ _ S hw fun v H' d e g rv q => ?_⟩
  cases d <;> first | exact q.elim | skip
  cases rv
  exact ⟨_, rfl, k _ H' e g q⟩
/-! the short names -/
section
variable (ha : DE C X a wa) (hb : DE C X b wb)
include ha hb
theorem de_eq (hu : X.A.units + 64 < cLine) : DE C X (.Compare a [.Eq] [b] pos) (wBin dEq wa wb) := de_cmp (op_eq.or (op_eqD hu)) opd_eq ha hb (nomark _)
theorem de_ne (hu : X.A.units + 64 < cLine) : DE C X (.Compare a [.NotEq] [b] pos) (wBin dNe wa wb) := de_cmp (op_ne.or (op_neD hu)) opd_ne ha hb (nomark _)
theorem de_lt : DE C X (.Compare a [.Lt] [b] pos) (wBin (dCmp fun i j => decide (i < j)) wa wb) := de_cmp op_lt opd_cmp ha hb (nomark _)
theorem de_le : DE C X (.Compare a [.LtE] [b] pos) (wBin (dCmp fun i j => decide (i ≤ j)) wa wb) := de_cmp op_le opd_cmp ha hb (nomark _)
theorem de_gt : DE C X (.Compare a [.Gt] [b] pos) (wBin (dCmp fun i j => decide (j < i)) wa wb) := de_cmp op_gt opd_cmp ha hb (nomark _)
theorem de_ge : DE C X (.Compare a [.GtE] [b] pos) (wBin (dCmp fun i j => decide (j ≤ i)) wa wb) := de_cmp op_ge opd_cmp ha hb (nomark _)
theorem de_is : DE C X (.Compare a [.Is] [b] pos) (wBin dIsN wa wb) := de_cmp op_isN opd_isN ha hb (nomark _)
theorem de_isnot : DE C X (.Compare a [.IsNot] [b] pos) (wBin dNotN wa wb) := de_cmp op_notN opd_notN ha hb (nomark _)
theorem dt_eq (hu : X.A.units + 64 < cLine) : DT C X (.Compare a [.Eq] [b] pos) (wTst (wBin dEq wa wb)) := dt_cmp (op_eq.or (op_eqD hu)) opd_eq ha hb (nomark _)
theorem dt_ne (hu : X.A.units + 64 < cLine) : DT C X (.Compare a [.NotEq] [b] pos) (wTst (wBin dNe wa wb)) := dt_cmp (op_ne.or (op_neD hu)) opd_ne ha hb (nomark _)
theorem dt_lt : DT C X (.Compare a [.Lt] [b] pos) (wTst (wBin (dCmp fun i j => decide (i < j)) wa wb)) := dt_cmp op_lt opd_cmp ha hb (nomark _)
theorem dt_le : DT C X (.Compare a [.LtE] [b] pos) (wTst (wBin (dCmp fun i j => decide (i ≤ j)) wa wb)) := dt_cmp op_le opd_cmp ha hb (nomark _)
theorem dt_gt : DT C X (.Compare a [.Gt] [b] pos) (wTst (wBin (dCmp fun i j => decide (j < i)) wa wb)) := dt_cmp op_gt opd_cmp ha hb (nomark _)
theorem dt_ge : DT C X (.Compare a [.GtE] [b] pos) (wTst (wBin (dCmp fun i j => decide (j ≤ i)) wa wb)) := dt_cmp op_ge opd_cmp ha hb (nomark _)
theorem dt_is : DT C X (.Compare a [.Is] [b] pos) (wTst (wBin dIsN wa wb)) := dt_cmp op_isN opd_isN ha hb (nomark _)
theorem dt_isnot : DT C X (.Compare a [.IsNot] [b] pos) (wTst (wBin dNotN wa wb)) := dt_cmp op_notN opd_notN ha hb (nomark _)
end
/-- a chain of two comparisons -/
def wChain (f f' : D → D → (D → Prop) → Prop) (wa wb wc : WE) : WE := fun env Q => wa env fun x => wb env fun y => f x y fun z => match z with
  | .bool true => wc env fun u => f' y u Q
  | .bool false => Q (.bool false)
  | _ => False
theorem de_chain {c : Expr} {wc : WE} {op op' : CmpOp} {rr rr' : R2} {f f' : D → D → (D → Prop) → Prop} (ho : OpR X (compareOp op) rr) (ho' : OpR X (compareOp op') rr') (hf : OpD C X rr f) (hf' : OpD C X rr' f') (ha : DE C X a wa) (hb : DE C X b wb) (hc : DE C X c wc)
    (hm : lastMarks [op, op'] [b, c] = false := by with_unfolding_all rfl) : DE C X (.Compare a [op, op'] [b, c] pos) (wChain f f' wa wb wc) := by
  obtain ⟨ta, pa, sa⟩ := ha
  obtain ⟨tb, pb, sb⟩ := hb
  obtain ⟨tc, pc, sc⟩ := hc
  refine ⟨_, pe_chain ho ho' pa pb pc hm, fun r H0 O σ H env Q Qh S hw k => ?_⟩
  refine two sa sb S hw fun x y dx dy H2 e g rx ry q => hf r H2 x y dx dy _ _ g rx ry q fun z H3 dz e3 g3 rz qz => ?_
  cases dz <;> first | exact qz.elim | skip
  cases rz
  rename_i b
  cases b with
  | false => exact ⟨false, rfl, k _ H3 _ (e.trans e3) g3 .bl qz⟩
  | true =>
    refine ⟨true, rfl, ?_⟩
    refine sc r H0 O σ H3 env _ _ (S.step (e.trans e3) g3) qz fun u H4 du e4 g4 ru qu => ?_
    exact hf' r H4 y u dy du Q Qh g4 ((ry.ext e3 (fun _ z => z) fun _ z => z).ext e4 (fun _ z => z) fun _ z => z) ru qu fun v H' d e' g' rv qv => k v H' d (((e.trans e3).trans e4).trans e') g' rv qv
end
section
variable {C : List Addr} {X : Cx} {e a b c : Expr} {es rest : List Expr} {w wa wb wc : WE} {pos p : Pos}

theorem dt_chain {op op' : CmpOp} {rr rr' : R2} {f f' : D → D → (D → Prop) → Prop} (ho : OpR X (compareOp op) rr) (ho' : OpR X (compareOp op') rr') (hf : OpD C X rr f) (hf' : OpD C X rr' f') (ha : DE C X a wa) (hb : DE C X b wb) (hc : DE C X c wc)
    (hm : lastMarks [op, op'] [b, c] = false := by with_unfolding_all rfl) : DT C X (.Compare a [op, op'] [b, c] pos) (wTst (wChain f f' wa wb wc)) := by
  obtain ⟨ta, pa, sa⟩ := ha
  obtain ⟨tb, pb, sb⟩ := hb
  obtain ⟨tc, pc, sc⟩ := hc
  refine ⟨_, pt_chain ho ho' pa pb pc hm, fun r H0 O σ H env Q Qh S hw k => ?_⟩
  refine two sa sb S hw fun x y dx dy H2 e g rx ry q => hf r H2 x y dx dy _ _ g rx ry q fun z H3 dz e3 g3 rz qz => ?_
  cases dz <;> first | exact qz.elim | skip
  cases rz
  rename_i b
  cases b with
  | false => exact ⟨false, rfl, ⟨false, rfl, k _ H3 (e.trans e3) g3 qz⟩⟩
  | true =>
    refine ⟨true, rfl, ?_⟩
    refine sc r H0 O σ H3 env _ _ (S.step (e.trans e3) g3) qz fun u H4 du e4 g4 ru qu => ?_
    refine hf' r H4 y u dy du _ _ g4 ((ry.ext e3 (fun _ z => z) fun _ z => z).ext e4 (fun _ z => z) fun _ z => z) ru qu fun v H' d e' g' rv qv => ?_
    cases d <;> first | exact qv.elim | skip
    cases rv
    exact ⟨_, rfl, k _ H' (((e.trans e3).trans e4).trans e') g' qv⟩

/-! ### and, or, not, if else -/
def wAnd (wt wu : WT) : WT := fun env Q => wt env fun c => if c = true then wu env Q else Q false
def wOr (wt wu : WT) : WT := fun env Q => wt env fun c => if c = true then Q true else wu env Q
def wNot (wt : WT) : WT := fun env Q => wt env fun c => Q (!c)
theorem dw_and1 {wt : WT} (h : DT C X a wt) : DW C X (.BoolOp .And [a] pos) wt := let ⟨t, pe, s⟩ := h; ⟨t, pw_and1 pe, s⟩
theorem dw_or1 {wt : WT} (h : DT C X a wt) : DW C X (.BoolOp .Or [a] pos) wt := let ⟨t, pe, s⟩ := h; ⟨t, pw_or1 pe, s⟩
theorem dw_and {wt wu : WT} (h : DT C X a wt) (h2 : DW C X (.BoolOp .And (b :: rest) pos) wu) : DW C X (.BoolOp .And (a :: b :: rest) pos) (wAnd wt wu) := by
  obtain ⟨ta, pa, sa⟩ := h
  obtain ⟨tb, pb, sb⟩ := h2
  refine ⟨_, pw_and pa pb, fun r H0 O σ H env Q Qh S hw k => sa r H0 O σ H env _ _ S hw fun c H1 e1 g1 q => ?_⟩
  cases c with
  | false => exact k _ H1 e1 g1 q
  | true => exact sb r H0 O σ H1 env _ _ (S.step e1 g1) q fun c H2 e2 g2 q2 => k c H2 (e1.trans e2) g2 q2
theorem dw_or {wt wu : WT} (h : DT C X a wt) (h2 : DW C X (.BoolOp .Or (b :: rest) pos) wu) : DW C X (.BoolOp .Or (a :: b :: rest) pos) (wOr wt wu) := by
  obtain ⟨ta, pa, sa⟩ := h
  obtain ⟨tb, pb, sb⟩ := h2
  refine ⟨_, pw_or pa pb, fun r H0 O σ H env Q Qh S hw k => sa r H0 O σ H env _ _ S hw fun c H1 e1 g1 q => ?_⟩
  cases c with
  | true => exact k _ H1 e1 g1 q
  | false => exact sb r H0 O σ H1 env _ _ (S.step e1 g1) q fun c H2 e2 g2 q2 => k c H2 (e1.trans e2) g2 q2
theorem dt_not {wt : WT} (h : DT C X a wt) : DT C X (.UnaryOp .Not a pos) (wNot wt) := by
  obtain ⟨ta, pa, sa⟩ := h
  exact ⟨_, pt_not pa, fun r H0 O σ H env Q Qh S hw k => sa r H0 O σ H env _ _ S hw fun c H1 e1 g1 q => k _ H1 e1 g1 q⟩
/-- as values -/
def wB (w : WE) (k : Bool → (D → Prop) → Prop) (Q : D → Prop) (env : SDs) : Prop := w env fun d => match d with
  | .bool b => k b Q
  | _ => False
def wAndV (wa wb : WE) : WE := fun env Q => wa env fun d => match d with
  | .bool c => if c = true then wb env Q else Q (.bool false)
  | _ => False
def wOrV (wa wb : WE) : WE := fun env Q => wa env fun d => match d with
  | .bool c => if c = true then Q (.bool true) else wb env Q
  | _ => False
def wNotV (wa : WE) : WE := fun env Q => wa env fun d => match d with
  | .bool c => Q (.bool (!c))
  | _ => False
theorem de_one {op} (h : DE C X a w) : DE C X (.BoolOp op [a] pos) w := let ⟨t, pe, s⟩ := h; ⟨t, pe_one pe, s⟩
theorem de_and (h : DE C X a wa) (h2 : DE C X (.BoolOp .And (b :: rest) pos) wb) : DE C X (.BoolOp .And (a :: b :: rest) pos) (wAndV wa wb) := by
  obtain ⟨ta, pa, sa⟩ := h
  obtain ⟨tb, pb, sb⟩ := h2
  refine ⟨_, pe_and pa pb, fun r H0 O σ H env Q Qh S hw k => sa r H0 O σ H env _ _ S hw fun v H1 d e1 g1 rv q => ?_⟩
  cases d <;> first | exact q.elim | skip
  cases rv
  rename_i c
  refine ⟨c, rfl, ?_⟩
  cases c with
  | false => exact k _ H1 _ e1 g1 .bl q
  | true => exact sb r H0 O σ H1 env _ _ (S.step e1 g1) q fun v H2 d e2 g2 r2 q2 => k v H2 d (e1.trans e2) g2 r2 q2
theorem de_or (h : DE C X a wa) (h2 : DE C X (.BoolOp .Or (b :: rest) pos) wb) : DE C X (.BoolOp .Or (a :: b :: rest) pos) (wOrV wa wb) := by
  obtain ⟨ta, pa, sa⟩ := h
  obtain ⟨tb, pb, sb⟩ := h2
  refine ⟨_, pe_or pa pb, fun r H0 O σ H env Q Qh S hw k => sa r H0 O σ H env _ _ S hw fun v H1 d e1 g1 rv q => ?_⟩
  cases d <;> first | exact q.elim | skip
  cases rv
  rename_i c
  refine ⟨c, rfl, ?_⟩
  cases c with
  | true => exact k _ H1 _ e1 g1 .bl q
  | false => exact sb r H0 O σ H1 env _ _ (S.step e1 g1) q fun v H2 d e2 g2 r2 q2 => k v H2 d (e1.trans e2) g2 r2 q2
theorem de_not (h : DE C X a wa) : DE C X (.UnaryOp .Not a pos) (wNotV wa) := by
  obtain ⟨ta, pa, sa⟩ := h
  refine ⟨_, pe_not pa, fun r H0 O σ H env Q Qh S hw k => sa r H0 O σ H env _ _ S hw fun v H1 d e1 g1 rv q => ?_⟩
  cases d <;> first | exact q.elim | skip
  cases rv
  exact ⟨_, rfl, k _ H1 _ e1 g1 .bl q⟩
def wIf (wt : WT) (wa wb : WE) : WE := fun env Q => wt env fun c => if c = true then wa env Q else wb env Q
theorem de_if {wt : WT} (hc : DT C X c wt) (ha : DE C X a wa) (hb : DE C X b wb) : DE C X (.IfExp c a b pos) (wIf wt wa wb) := by
  obtain ⟨tc, pc, sc⟩ := hc
  obtain ⟨ta, pa, sa⟩ := ha
  obtain ⟨tb, pb, sb⟩ := hb
  refine ⟨_, pe_ifExp pc pa pb, fun r H0 O σ H env Q Qh S hw k => sc r H0 O σ H env _ _ S hw fun c H1 e1 g1 q => ?_⟩
  cases c with
  | true => exact sa r H0 O σ H1 env _ _ (S.step e1 g1) q fun v H2 d e2 g2 r2 q2 => k v H2 d (e1.trans e2) g2 r2 q2
  | false => exact sb r H0 O σ H1 env _ _ (S.step e1 g1) q fun v H2 d e2 g2 r2 q2 => k v H2 d (e1.trans e2) g2 r2 q2
/-- truth of a value -/
def wTru (w : WE) : WT := fun env Q => w env fun d => match d with
  | .none => Q false
  | .bool b => Q b
  | .int i => Q (decide (i ≠ 0))
  | .tuple ds => Q (!ds.isEmpty)
  | .list ds => Q (!ds.isEmpty)
  | _ => False
theorem reps_empty {K : PySem.W.Frag} {r : Addr} {H : Hp} {P : Addr → Prop} {vs : List V} {ds : List D} (h : Reps K r H P vs ds) : (!vs.isEmpty) = !ds.isEmpty := by cases h <;> rfl
theorem dt_truth (h : DE C X e w) (he : ∀ whole, isTrue e X.env whole = (do let v ← whole; standAt e.pos; holding [v] (truthy v)) := by intro _; rfl) : DT C X e (wTru w) := by
  obtain ⟨t, pe, s⟩ := h
  refine ⟨_, pt_truth pe he, fun r H0 O σ H env Q Qh S hw k => s r H0 O σ H env _ _ S hw fun v H' d e g rv q => ?_⟩
  cases rv with
  | non => exact ⟨_, rfl, k _ H' e g q⟩
  | bl => exact ⟨_, rfl, k _ H' e g q⟩
  | int =>
    refine ⟨_, rfl, ?_⟩
    have q : Q (decide (_ ≠ (0 : Int))) := q
    rw [bne, Bool.beq_eq_decide_eq, ← decide_not]
    exact k _ H' e g q
  | str => exact q.elim
  | tup ht hs => exact ⟨_, .inr (.inl ⟨_, ht, rfl⟩), by rw [reps_empty hs]; exact k _ H' e g q⟩
  | lst hp hl hs => exact ⟨_, .inl ⟨_, SqL.of hl, rfl⟩, by rw [reps_empty hs]; exact k _ H' e g q⟩
  | row => exact q.elim
  | dic => exact q.elim

/-! ### arguments, displays -/
def wNil : WL := fun _ Q => Q []
def wCons (wa : WE) (wr : WL) : WL := fun env Q => wa env fun d => wr env fun ds => Q (d :: ds)
theorem da_nil : DA C X [] wNil := ⟨_, pa_nil, fun r H0 O σ H env Q Qh S hw k => k [] H [] (.refl _ _) S.good .nil hw⟩
theorem da_cons {wr : WL} (ha : DE C X e wa) (hr : DA C X es wr) (hs : starEach (e :: es) X.env = (false, eval e X.env) :: starEach es X.env := by rfl) : DA C X (e :: es) (wCons wa wr) := by
  obtain ⟨ta, pa, sa⟩ := ha
  obtain ⟨tb, pb, sb⟩ := hr
  refine ⟨_, pa_cons pa pb hs, fun r H0 O σ H env Q Qh S hw k => ?_⟩
  refine sa r H0 O σ H env _ _ S hw fun x H1 dx e1 g1 r1 q1 => ?_
  refine sb r H0 O σ H1 env _ _ (S.step e1 g1) q1 fun ys H2 dys e2 g2 r2 q2 => ?_
  exact k (x :: ys) H2 (dx :: dys) (e1.trans e2) g2 (.cons (r1.ext e2 (fun _ z => z) fun _ z => z) r2) q2
/-- *e -/
def wStar (wa : WE) (wr : WL) : WL := fun env Q => wa env fun d => match d with
  | .tuple ds => wr env fun es => Q (ds ++ es)
  | .list ds => wr env fun es => Q (ds ++ es)
  | _ => False
theorem da_star {wr : WL} {sp : Pos} (ha : DE C X e wa) (hr : DA C X es wr) (hs : starEach (.Starred e sp :: es) X.env = (true, eval e X.env) :: starEach es X.env := by rfl) : DA C X (.Starred e sp :: es) (wStar wa wr) := by
  obtain ⟨ta, pa, sa⟩ := ha
  obtain ⟨tb, pb, sb⟩ := hr
  refine ⟨_, StX.pa_star pa pb hs, fun r H0 O σ H env Q Qh S hw k => ?_⟩
  refine sa r H0 O σ H env _ _ S hw fun x H1 dx e1 g1 r1 q1 => ?_
  cases r1 with
  | @tup a xs ds ht hs1 =>
    refine ⟨a, xs, rfl, .inl ht, ?_⟩
    exact sb r H0 O σ H1 env _ _ (S.step e1 g1) q1 fun ys H2 dys e2 g2 r2 q2 => k (xs ++ ys) H2 (ds ++ dys) (e1.trans e2) g2 ((hs1.ext e2 (fun _ z => z) fun _ z => z).append r2) q2
  | @lst a xs ds hp hl hs1 =>
    refine ⟨a, xs, rfl, .inr (SqL.of hl), ?_⟩
    exact sb r H0 O σ H1 env _ _ (S.step e1 g1) q1 fun ys H2 dys e2 g2 r2 q2 => k (xs ++ ys) H2 (ds ++ dys) (e1.trans e2) g2 ((hs1.ext e2 (fun _ z => z) fun _ z => z).append r2) q2
  | _ => exact q1.elim
/-- (e, ..) -/
def wTup (wa : WL) : WE := fun env Q => wa env fun ds => ds.length ≤ 16777216 ∧ Q (.tuple ds)
theorem de_tup {wl : WL} {x1} (h : DA C X es wl) : DE C X (.Tuple es x1 pos) (wTup wl) := by
  obtain ⟨t, pa, s⟩ := h
  refine ⟨_, pe_tup pa, fun r H0 O σ H env Q Qh S hw k => s r H0 O σ H env _ _ S hw fun vs H1 ds e1 g1 r1 q => ?_⟩
  refine ⟨by rw [sizeLine_eq, r1.length]; exact q.1, fun p np => ?_⟩
  have e := Ext.upd (r := r) (o := .tup vs) np
  exact k _ _ _ (e1.trans e) (g1.upd np) (.tup (SqT.of upd_same) (r1.ext e (fun _ z => z) fun _ z => z)) q.2
/-- [e, ..]: a new list of flat things -/
def wLst (wa : WL) : WL := fun env Q => wa env fun ds => (ds.length ≤ 16777216 ∧ flats ds = true) ∧ Q ds
theorem dn_lst {wl : WL} (h : DA C X es wl) : DN C X (.List es pos) (wLst wl) := by
  obtain ⟨t, pa, s⟩ := h
  refine ⟨_, pe_lst pa, fun r H0 O σ H env Q Qh S hw k => s r H0 O σ H env _ _ S hw fun vs H1 ds e1 g1 r1 q => ?_⟩
  refine ⟨by rw [sizeLine_eq, r1.length]; exact q.1.1, fun p np => ?_⟩
  have e := Ext.upd (r := r) (o := .lst vs) np
  exact k p _ vs ds (e1.trans e) (g1.upd np) (e1.dom p np) upd_same ((r1.ext e (fun _ z => z) fun _ z => z).flats q.1.2) q.2

/-! ### subscripts, slices -/
def onSome {α : Type} (o : Option α) (Q : α → Prop) : Prop := match o with
  | some d => Q d
  | none => False
theorem onSome_some {α : Type} {o : Option α} {Q : α → Prop} (h : onSome o Q) : ∃ d, o = some d ∧ Q d := by
  cases o with
  | none => exact h.elim
  | some d => exact ⟨d, rfl, h⟩
def dIx : D → D → (D → Prop) → Prop
  | .tuple ds, .int i, Q => onSome (atI ds i) Q
  | .list ds, .int i, Q => onSome (atI ds i) Q
  | .str x, .int i, Q => x.length ≤ 16777216 ∧ onSome (atI x.cps.toList i) fun c => Q (.str ⟨#[c]⟩)
  | _, _, _ => False
theorem reps_atI {K : PySem.W.Frag} {r : Addr} {H : Hp} {P : Addr → Prop} {vs : List V} {ds : List D} {i : Int} {d : D} (h : Reps K r H P vs ds) (e : atI ds i = some d) : ∃ v, atI vs i = some v ∧ Rep K r H P v d := by
  unfold atI at e ⊢
  rw [h.length]
  cases q : ixN ds.length i with
  | none => rw [q] at e; cases e
  | some j =>
    rw [q] at e
    exact h.get e
theorem opd_ix : OpD C X (rIx X.K) dIx := fun r H x y dx dy Q Qh gd rx ry h k => by
  cases rx with
  | tup ht hs =>
    cases dy <;> first | exact h.elim | skip
    cases ry
    obtain ⟨d, hd, h⟩ := onSome_some h
    obtain ⟨v, h1, h2⟩ := reps_atI hs hd
    exact .inr (.inl ⟨_, _, _, v, rfl, rfl, ht, h1, k v H d (.refl _ _) gd h2 h⟩)
  | lst hp hl hs =>
    cases dy <;> first | exact h.elim | skip
    cases ry
    obtain ⟨d, hd, h⟩ := onSome_some h
    obtain ⟨v, h1, h2⟩ := reps_atI hs hd
    exact .inl ⟨_, _, _, v, rfl, rfl, SqL.of hl, h1, k v H d (.refl _ _) gd h2 h⟩
  | str =>
    cases dy <;> first | exact h.elim | skip
    cases ry
    obtain ⟨hz, h⟩ := h
    obtain ⟨c, hc, h⟩ := onSome_some h
    exact .inr (.inr ⟨_, _, c, rfl, rfl, by rw [sizeLine_eq]; exact hz, hc, k _ H _ (.refl _ _) gd .str h⟩)
  | _ => cases dy <;> exact h.elim
theorem de_ix (ha : DE C X a wa) (hb : DE C X b wb) (hs : PlainIx b := by exact fun _ _ => rfl) : DE C X (.Subscript a b pos) (wBin dIx wa wb) := by
  obtain ⟨ta, pa, sa⟩ := ha
  obtain ⟨tb, pb, sb⟩ := hb
  refine ⟨_, pe_ix ix_seq pa pb hs, fun r H0 O σ H env Q Qh S hw k => ?_⟩
  exact two sa sb S hw fun x y dx dy H2 e g rx ry q => opd_ix r H2 x y dx dy Q Qh g rx ry q fun v H' d e' g' rv qv => k v H' d (e.trans e') g' rv qv
/-- a part of a slice -/
abbrev WO := SDs → (Option Int → Prop) → Prop
def DO (C : List Addr) (X : Cx) (e : Option Expr) (w : WO) : Prop := ∃ t, PO X e t ∧ ∀ (r : Addr) (H0 : Hp) (O : Nat → Option Addr) (σ : L2.St) (H : Hp) (env : SDs) (Q : Option Int → Prop) (Qh : Option Int → Hp → Prop), SI C X.K r H0 O H σ env → w env Q →
  (∀ o H', Ext r H H' → Good C X.K r H' → Q o → Qh o H') → t σ H Qh
def wNoP : WO := fun _ Q => Q none
def wPart (w : WE) : WO := fun env Q => w env fun d => match d with
  | .int i => Q (some i)
  | _ => False
theorem do_none : DO C X none wNoP := ⟨_, po_none, fun r H0 O σ H env Q Qh S hw k => k none H (.refl _ _) S.good hw⟩
theorem do_some (h : DE C X e w) : DO C X (some e) (wPart w) := by
  obtain ⟨t, pe, s⟩ := h
  refine ⟨_, po_some pe, fun r H0 O σ H env Q Qh S hw k => s r H0 O σ H env _ _ S hw fun v H' d e g rv q => ?_⟩
  cases d <;> first | exact q.elim | skip
  cases rv
  exact ⟨_, rfl, k _ H' e g q⟩
def cutD {α : Type} (xs : List α) (lo hi : Option Int) : List α := (xs.drop (HT.sIx xs.length 0 lo)).take (HT.sIx xs.length xs.length hi - HT.sIx xs.length 0 lo)
theorem reps_cut {K : PySem.W.Frag} {r : Addr} {H : Hp} {P : Addr → Prop} {vs : List V} {ds : List D} (h : Reps K r H P vs ds) (lo hi : Option Int) : Reps K r H P (cutV vs lo hi) (cutD ds lo hi) := by
  unfold cutV cutD
  rw [h.length]
  exact (h.drop _).take _
def dSl (d : D) (lo hi : Option Int) (Q : D → Prop) : Prop := match d with
  | .tuple ds => Q (.tuple (cutD ds lo hi))
  | .list ds => Q (.list (cutD ds lo hi))
  | _ => False
def wSl (we : WE) (wl wh : WO) : WE := fun env Q => we env fun d => wl env fun lo => wh env fun hi => dSl d lo hi Q
theorem cut_whole {α : Type} {xs : List α} {lo hi : Option Int} (h : HT.sIx xs.length 0 lo = 0 ∧ HT.sIx xs.length xs.length hi = xs.length) : cutD xs lo hi = xs := by
  unfold cutD
  rw [h.1, h.2]
  simp
theorem de_sl {lo hi : Option Expr} {wl wh : WO} {p2 : Pos} (he : DE C X e w) (hl : DO C X lo wl) (hh : DO C X hi wh) : DE C X (.Subscript e (.Slice lo hi none p2) pos) (wSl w wl wh) := by
  obtain ⟨te, pe, se⟩ := he
  obtain ⟨tl, pl, sl⟩ := hl
  obtain ⟨th, ph, sh⟩ := hh
  refine ⟨_, pe_slice (SlR.or sl_tupA sl_list) pe pl ph, fun r H0 O σ H env Q Qh S hw k => ?_⟩
  refine se r H0 O σ H env _ _ S hw fun x H1 dx e1 g1 r1 q1 => ?_
  refine sl r H0 O σ H1 env _ _ (S.step e1 g1) q1 fun lo H2 e2 g2 q2 => ?_
  refine sh r H0 O σ H2 env _ _ ((S.step e1 g1).step e2 g2) q2 fun hi H3 e3 g3 q3 => ?_
  have r3 := (r1.ext e2 (fun _ z => z) fun _ z => z).ext e3 (fun _ z => z) fun _ z => z
  have E := (e1.trans e2).trans e3
  unfold dSl at q3
  cases r3 with
  | @tup a xs ds ht hs =>
    refine .inl ⟨a, xs, rfl, ht, fun hx => ?_, fun _ p np => ?_⟩
    · rw [hs.length] at hx
      have q3 : Q (.tuple (cutD ds lo hi)) := q3
      rw [cut_whole hx] at q3
      exact k _ H3 _ E g3 (.tup ht hs) q3
    · have e := Ext.upd (r := r) (o := .tup (cutV xs lo hi)) np
      exact k _ _ _ (E.trans e) (g3.upd np) (.tup (SqT.of upd_same) ((reps_cut hs lo hi).ext e (fun _ z => z) fun _ z => z)) q3
  | @lst a xs ds hp hl hs =>
    refine .inr ⟨a, xs, rfl, SqL.of hl, fun p np => ?_⟩
    have e := Ext.upd (r := r) (o := .lst (cutV xs lo hi)) np
    exact k _ _ _ (E.trans e) (g3.upd np) (.lst (g3.new np) upd_same ((reps_cut hs lo hi).ext e (fun _ z => z) fun _ z => z)) q3
  | _ => exact q3.elim
/-- .. of a list of flat things: a new list -/
def wSlN (we : WE) (wl wh : WO) : WL := fun env Q => we env fun d => wl env fun lo => wh env fun hi => match d with
  | .list ds => flats ds = true ∧ Q (cutD ds lo hi)
  | _ => False
theorem flats_append : ∀ {ds es : List D}, flats ds = true → flats es = true → flats (ds ++ es) = true
  | [], _, _, h => h
  | d :: ds, es, h, h2 => by
    simp only [flats, Bool.and_eq_true] at h
    simp only [List.cons_append, flats, Bool.and_eq_true]
    exact ⟨h.1, flats_append h.2 h2⟩
theorem flats_iff : ∀ {ds : List D}, flats ds = true ↔ ∀ d ∈ ds, flat d = true
  | [] => by simp [flats]
  | d :: ds => by simp [flats, flats_iff (ds := ds)]
theorem flats_sub {ds es : List D} (h : flats ds = true) (s : ∀ d ∈ es, d ∈ ds) : flats es = true := flats_iff.mpr fun d hd => flats_iff.mp h d (s d hd)
theorem cut_sub {α : Type} {ds : List α} {lo hi : Option Int} : ∀ d ∈ cutD ds lo hi, d ∈ ds := fun d hd => List.mem_of_mem_drop (List.mem_of_mem_take hd)
theorem dn_sl {lo hi : Option Expr} {wl wh : WO} {p2 : Pos} (he : DE C X e w) (hl : DO C X lo wl) (hh : DO C X hi wh) : DN C X (.Subscript e (.Slice lo hi none p2) pos) (wSlN w wl wh) := by
  obtain ⟨te, pe, se⟩ := he
  obtain ⟨tl, pl, sl⟩ := hl
  obtain ⟨th, ph, sh⟩ := hh
  refine ⟨_, pe_slice sl_list pe pl ph, fun r H0 O σ H env Q Qh S hw k => ?_⟩
  refine se r H0 O σ H env _ _ S hw fun x H1 dx e1 g1 r1 q1 => ?_
  refine sl r H0 O σ H1 env _ _ (S.step e1 g1) q1 fun lo H2 e2 g2 q2 => ?_
  refine sh r H0 O σ H2 env _ _ ((S.step e1 g1).step e2 g2) q2 fun hi H3 e3 g3 q3 => ?_
  have r3 := (r1.ext e2 (fun _ z => z) fun _ z => z).ext e3 (fun _ z => z) fun _ z => z
  have E := (e1.trans e2).trans e3
  cases r3 with
  | @lst a xs ds hp hl hs =>
    refine ⟨a, xs, rfl, SqL.of hl, fun p np => ?_⟩
    have e := Ext.upd (r := r) (o := .lst (cutV xs lo hi)) np
    exact k p _ _ _ (E.trans e) (g3.upd np) (E.dom p np) upd_same (((reps_cut hs lo hi).ext e (fun _ z => z) fun _ z => z).flats (flats_sub q3.1 cut_sub)) q3.2
  | _ => exact q3.elim
end
section
variable {C : List Addr} {X : Cx} {e a b c : Expr} {es rest : List Expr} {w wa wb wc : WE} {pos p : Pos}

/-! ### // of any size -/
structure Seer (X : Cx) : Prop where
  base : X.base.NoSeer
  tree : X.prog.given.tree = none
  depth : X.A.depth + Builtin.pylongFrames < recursionLimit
  stk : ∃ env l, X.stack = env :: l ∧ env.scope.isGenerator = false ∧ env.scope.isCoroutine = false ∧ env.builtins = builtinsNs ∧ env.globals = mainGlobals
theorem Seer.room (hS : Seer X) {pins : List (Addr × Obj)} {s : Shared} {σ : L2.St} {H : Hp} (I : Inv X pins σ H s) : PySem.PylongRoom (model X.prog X.w) X.A s := by
  obtain ⟨env, l, h0, h2, h3, h4, h5⟩ := hS.stk
  have h1 : X.A.frames = some (env :: l) := by rw [I.ok.frames, h0]
  exact PySem.PylongRoom.of I.nolimit hS.depth (PySem.SeerAt.of (hS.base.keeps I.bk) hS.tree h1 h2 h3 h4 h5)
theorem op_fdivA (hS : Seer X) : OpR X (binaryOp .FloorDiv) (rI (fun _ j => j ≠ 0) fun i j => .int (i.fdiv j)) := by
  intro pins s σ H x y v u Q I rx ry h
  obtain ⟨i, j, rfl, rfl, hj, q⟩ := h
  obtain ⟨t, rfl⟩ := (show ∃ t, v = Value.int i t from rx)
  obtain ⟨t', rfl⟩ := (show ∃ t, u = Value.int j t from ry)
  exact floordiv_int hj ⟨.int _, H, I.tok _, ⟨_, rfl⟩, q⟩ (.inr (hS.room I))
def dFdiv : D → D → (D → Prop) → Prop
  | .int i, .int j, Q => j ≠ 0 ∧ Q (.int (i.fdiv j))
  | _, _, _ => False
theorem opd_fdiv : OpD C X (rI (fun _ j => j ≠ 0) fun i j => .int (i.fdiv j)) dFdiv := opd_i fun dx dy Q h => by cases dx <;> cases dy <;> first | exact ⟨_, _, rfl, rfl, h.1, h.2⟩ | exact h.elim
theorem de_fdiv (hS : Seer X) (ha : DE C X a wa) (hb : DE C X b wb) : DE C X (.BinOp a .FloorDiv b pos) (wBin dFdiv wa wb) := de_bin (op_fdivA hS) opd_fdiv ha hb
def dNeg : D → (D → Prop) → Prop
  | .int i, Q => Q (.int (-i))
  | _, _ => False
theorem de_neg (ha : DE C X a wa) : DE C X (.UnaryOp .USub a pos) (fun env Q => wa env fun d => dNeg d Q) := by
  obtain ⟨ta, pa, sa⟩ := ha
  refine ⟨_, pe_un un_neg pa, fun r H0 O σ H env Q Qh S hw k => sa r H0 O σ H env _ _ S hw fun v H1 d e1 g1 rv q => ?_⟩
  cases d <;> first | exact q.elim | skip
  cases rv
  exact ⟨_, rfl, k _ H1 _ e1 g1 .int q⟩

/-! ### built-in functions -/
def CallD (C : List Addr) (X : Cx) (rr : List V → Hp → VK → Prop) (f : List D → (D → Prop) → Prop) : Prop := ∀ (r : Addr) (H : Hp) (vs : List V) (ds : List D) (Q : D → Prop) (Qh : VK), Good C X.K r H → Reps X.K r H (fun a => a ≠ r) vs ds → f ds Q →
  (∀ v H' d, Ext r H H' → Good C X.K r H' → Rep X.K r H' (fun a => a ≠ r) v d → Q d → Qh v H') → rr vs H Qh
def wFn (f : List D → (D → Prop) → Prop) (wl : WL) : WE := fun env Q => wl env fun ds => f ds Q
theorem de_callB {x : Str} {id : String} {rr : List V → Hp → VK → Prop} {f : List D → (D → Prop) → Prop} {wl : WL} (hc : CallR X (.builtin id) rr) (hf : CallD C X rr f) (hg : Gl X x) (hm : X.mg x = none) (hv : bootBuiltins x = some (.builtin id)) (ha : DA C X (e :: es) wl)
    (hn : x ≠ "__name__" := by decide) (hdb : (x == ("__debug__" : Str)) = false := by decide) (he : starEach (e :: es) X.env = (false, eval e X.env) :: starEach es X.env := by rfl) (hpl : (backTo pos (starEach es X.env)).any (·.1) = false := by rfl) : DE C X (.Call (.Name x p) (e :: es) [] pos) (wFn f wl) := by
  obtain ⟨t, pa, s⟩ := ha
  refine ⟨_, pe_callB hc hg hm hv pa hn hdb he hpl, fun r H0 O σ H env Q Qh S hw k => s r H0 O σ H env _ _ S hw fun vs H1 ds e1 g1 rv q => ?_⟩
  exact hf r H1 vs ds Q Qh g1 rv q fun v H' d e' g' r' q' => k v H' d (e1.trans e') g' r' q'
theorem de_callTy {x : Str} {T : String} {rr : List V → Hp → VK → Prop} {f : List D → (D → Prop) → Prop} {wl : WL} (hc : CallR X (.type T) rr) (hf : CallD C X rr f) (hg : Gl X x) (hm : X.mg x = none) (hv : bootBuiltins x = some (.type T)) (ha : DA C X (e :: es) wl)
    (hn : x ≠ "__name__" := by decide) (hdb : (x == ("__debug__" : Str)) = false := by decide) (he : starEach (e :: es) X.env = (false, eval e X.env) :: starEach es X.env := by rfl) (hpl : (backTo pos (starEach es X.env)).any (·.1) = false := by rfl) : DE C X (.Call (.Name x p) (e :: es) [] pos) (wFn f wl) := by
  obtain ⟨t, pa, s⟩ := ha
  refine ⟨_, pe_callTy hc hg hm hv pa hn hdb he hpl, fun r H0 O σ H env Q Qh S hw k => s r H0 O σ H env _ _ S hw fun vs H1 ds e1 g1 rv q => ?_⟩
  exact hf r H1 vs ds Q Qh g1 rv q fun v H' d e' g' r' q' => k v H' d (e1.trans e') g' r' q'
theorem de_callM {x : Str} {id : String} {rr : List V → Hp → VK → Prop} {f : List D → (D → Prop) → Prop} {wl : WL} (hc : CallR X (.builtin id) rr) (hf : CallD C X rr f) (hg : Gl X x) (hm : X.mg x = some (.builtin id)) (ha : DA C X (e :: es) wl)
    (hdb : (x == ("__debug__" : Str)) = false := by decide) (he : starEach (e :: es) X.env = (false, eval e X.env) :: starEach es X.env := by rfl) (hpl : (backTo pos (starEach es X.env)).any (·.1) = false := by rfl) : DE C X (.Call (.Name x p) (e :: es) [] pos) (wFn f wl) := by
  obtain ⟨t, pa, s⟩ := ha
  refine ⟨_, pe_callBfun hc hg hm pa hdb he hpl, fun r H0 O σ H env Q Qh S hw k => s r H0 O σ H env _ _ S hw fun vs H1 ds e1 g1 rv q => ?_⟩
  exact hf r H1 vs ds Q Qh g1 rv q fun v H' d e' g' r' q' => k v H' d (e1.trans e') g' r' q'
def fLen : List D → (D → Prop) → Prop
  | [.tuple ds], Q => Q (.int ds.length)
  | [.list ds], Q => Q (.int ds.length)
  | [.str x], Q => x.length ≤ 16777216 ∧ Q (.int x.length)
  | _, _ => False
theorem reps1 {K : PySem.W.Frag} {r : Addr} {H : Hp} {P : Addr → Prop} {vs : List V} {d : D} (h : Reps K r H P vs [d]) : ∃ v, vs = [v] ∧ Rep K r H P v d := by
  cases h with
  | cons a b => cases b; exact ⟨_, rfl, a⟩
theorem reps2 {K : PySem.W.Frag} {r : Addr} {H : Hp} {P : Addr → Prop} {vs : List V} {d d' : D} (h : Reps K r H P vs [d, d']) : ∃ v v', vs = [v, v'] ∧ Rep K r H P v d ∧ Rep K r H P v' d' := by
  cases h with
  | cons a b =>
    obtain ⟨v', rfl, h'⟩ := reps1 b
    exact ⟨_, v', rfl, a, h'⟩
theorem cd_len : CallD C X (fun xs H Q => ∃ x n, xs = [x] ∧ LenV X.K x H n ∧ Q (.int n) H) fLen := fun r H vs ds Q Qh g rv hf k => by
  unfold fLen at hf
  split at hf <;> first | exact hf.elim | skip
  · obtain ⟨v, rfl, h⟩ := reps1 rv
    cases h with
    | tup ht hs => exact ⟨_, _, rfl, .inr ⟨_, ht, rfl⟩, by rw [hs.length]; exact k _ H _ (.refl _ _) g .int hf⟩
  · obtain ⟨v, rfl, h⟩ := reps1 rv
    cases h with
    | lst hp hl hs => exact ⟨_, _, rfl, .inl ⟨_, SqL.of hl, rfl⟩, by rw [hs.length]; exact k _ H _ (.refl _ _) g .int hf⟩
  · obtain ⟨v, rfl, h⟩ := reps1 rv
    cases h
    exact ⟨_, _, rfl, ⟨by rw [sizeLine_eq]; exact hf.1, rfl⟩, k _ H _ (.refl _ _) g .int hf.2⟩
def fAbs : List D → (D → Prop) → Prop
  | [.int i], Q => Q (.int (i.natAbs : Nat))
  | _, _ => False
theorem cd_abs : CallD C X (fun xs H Q => ∃ i, xs = [.int i] ∧ Q (.int (if i < 0 then -i else i)) H) fAbs := fun r H vs ds Q Qh g rv hf k => by
  unfold fAbs at hf
  split at hf <;> first | exact hf.elim | skip
  obtain ⟨v, rfl, h⟩ := reps1 rv
  cases h
  rename_i i
  refine ⟨i, rfl, ?_⟩
  rw [show (if i < 0 then -i else i) = ((i.natAbs : Nat) : Int) by split <;> omega]
  exact k _ H _ (.refl _ _) g .int hf
def fMax : List D → (D → Prop) → Prop
  | [.int i, .int j], Q => Q (.int (max i j))
  | _, _ => False
def fMin : List D → (D → Prop) → Prop
  | [.int i, .int j], Q => Q (.int (min i j))
  | _, _ => False
theorem cd_max : CallD C X (fun xs H Q => ∃ i j, xs = [.int i, .int j] ∧ Q (.int (if j > i then j else i)) H) fMax := fun r H vs ds Q Qh g rv hf k => by
  unfold fMax at hf
  split at hf <;> first | exact hf.elim | skip
  obtain ⟨v, v', rfl, h, h'⟩ := reps2 rv
  cases h; cases h'
  rename_i i j
  refine ⟨i, j, rfl, ?_⟩
  rw [show (if j > i then j else i) = max i j by split <;> omega]
  exact k _ H _ (.refl _ _) g .int hf
theorem cd_min : CallD C X (fun xs H Q => ∃ i j, xs = [.int i, .int j] ∧ Q (.int (if j < i then j else i)) H) fMin := fun r H vs ds Q Qh g rv hf k => by
  unfold fMin at hf
  split at hf <;> first | exact hf.elim | skip
  obtain ⟨v, v', rfl, h, h'⟩ := reps2 rv
  cases h; cases h'
  rename_i i j
  refine ⟨i, j, rfl, ?_⟩
  rw [show (if j < i then j else i) = min i j by split <;> omega]
  exact k _ H _ (.refl _ _) g .int hf
def fInt : List D → (D → Prop) → Prop
  | [.int i], Q => Q (.int i)
  | [.bool b], Q => Q (.int (if b then 1 else 0))
  | _, _ => False
theorem cd_int : CallD C X (fun xs H Q => (∃ i, xs = [.int i] ∧ Q (.int i) H) ∨ ∃ k, xs = [.bl k] ∧ Q (.int (if k then 1 else 0)) H) fInt := fun r H vs ds Q Qh g rv hf k => by
  unfold fInt at hf
  split at hf <;> first | exact hf.elim | skip
  · obtain ⟨v, rfl, h⟩ := reps1 rv
    cases h
    exact .inl ⟨_, rfl, k _ H _ (.refl _ _) g .int hf⟩
  · obtain ⟨v, rfl, h⟩ := reps1 rv
    cases h
    exact .inr ⟨_, rfl, k _ H _ (.refl _ _) g .int hf⟩
def fTuple : List D → (D → Prop) → Prop
  | [.list ds], Q => Q (.tuple ds)
  | [.tuple ds], Q => Q (.tuple ds)
  | _, _ => False
theorem cd_tuple : CallD C X (fun xs H Q => ∃ p ys, xs = [.ref p] ∧ ((SqL X.K H p ys ∧ ∀ l, H l = none → Q (.ref l) (upd H l (.tup ys))) ∨ (SqT X.K H p ys ∧ Q (.ref p) H))) fTuple := fun r H vs ds Q Qh g rv hf k => by
  unfold fTuple at hf
  split at hf <;> first | exact hf.elim | skip
  · obtain ⟨v, rfl, h⟩ := reps1 rv
    cases h with
    | @lst a xs ds hp hl hs =>
      refine ⟨a, xs, rfl, .inl ⟨SqL.of hl, fun p np => ?_⟩⟩
      have e := Ext.upd (r := r) (o := .tup xs) np
      exact k _ _ _ e (g.upd np) (.tup (SqT.of upd_same) (hs.ext e (fun _ z => z) fun _ z => z)) hf
  · obtain ⟨v, rfl, h⟩ := reps1 rv
    cases h with
    | @tup a xs ds ht hs => exact ⟨a, xs, rfl, .inr ⟨ht, k _ H _ (.refl _ _) g (.tup ht hs) hf⟩⟩
def fGcd : List D → (D → Prop) → Prop
  | [.int i, .int j], Q => Q (.int (Int.gcd i j : Nat))
  | _, _ => False
theorem cd_gcd : CallD C X rGcd fGcd := fun r H vs ds Q Qh g rv hf k => by
  unfold fGcd at hf
  split at hf <;> first | exact hf.elim | skip
  obtain ⟨v, v', rfl, h, h'⟩ := reps2 rv
  cases h; cases h'
  exact ⟨_, _, rfl, k _ H _ (.refl _ _) g .int hf⟩
/-- list(e) of flat things: a new list -/
def fList : List D → (List D → Prop) → Prop
  | [.list ds], Q => flats ds = true ∧ Q ds
  | [.tuple ds], Q => flats ds = true ∧ Q ds
  | _, _ => False
theorem dn_list {wl : WL} (hg : Gl X "list") (hm : X.mg "list" = none) (ha : DA C X [e] wl) (he : starEach [e] X.env = (false, eval e X.env) :: starEach [] X.env := by rfl) : DN C X (.Call (.Name "list" p) [e] [] pos) (fun env Q => wl env fun ds => fList ds Q) := by
  obtain ⟨t, pa, s⟩ := ha
  refine ⟨_, pe_callTy call_list_of hg hm (by decide +kernel : bootBuiltins "list" = some (.type "list")) pa (by decide) (by decide) he rfl, fun r H0 O σ H env Q Qh S hw k => s r H0 O σ H env _ _ S hw fun vs H1 ds e1 g1 rv q => ?_⟩
  unfold fList at q
  split at q <;> first | exact q.elim | skip
  · obtain ⟨v, rfl, h⟩ := reps1 rv
    cases h with
    | @lst a xs ds hp hl hs =>
      refine ⟨a, xs, rfl, .inl (SqL.of hl), fun p np => ?_⟩
      have e := Ext.upd (r := r) (o := .lst xs) np
      exact k p _ xs _ (e1.trans e) (g1.upd np) (e1.dom p np) upd_same ((hs.ext e (fun _ z => z) fun _ z => z).flats q.1) q.2
  · obtain ⟨v, rfl, h⟩ := reps1 rv
    cases h with
    | @tup a xs ds ht hs =>
      refine ⟨a, xs, rfl, .inr ht, fun p np => ?_⟩
      have e := Ext.upd (r := r) (o := .lst xs) np
      exact k p _ xs _ (e1.trans e) (g1.upd np) (e1.dom p np) upd_same ((hs.ext e (fun _ z => z) fun _ z => z).flats q.1) q.2

/-! ### isinstance -/
def isT (T : String) : D → Option Bool
  | .none => kitB "NoneType" T
  | .bool _ => kitB "bool" T
  | .int _ => kitB "int" T
  | .str _ => kitB "str" T
  | .tuple _ => kitB "tuple" T
  | .list _ => kitB "list" T
  | .dict [(.none, .none)] => none
  | .dict _ => kitB "dict" T
def wIsi (T : String) (w : WE) : WE := fun env Q => w env fun d => onSome (isT T d) fun b => Q (.bool b)
theorem dD_ne : ∀ ps : List (Key × D), dD ps ≠ [(.none, .none)]
  | [], z => by cases z
  | (.inl _, _) :: _, z => by cases z
  | (.inr _, _) :: _, z => by cases z
theorem rep_row {K : PySem.W.Frag} {r : Addr} {H : Hp} {P : Addr → Prop} {v : V} (h : Rep K r H P v rowD) : v = .ref r := by
  generalize hd : rowD = d at h
  cases h with
  | row => rfl
  | @dic a kvs ps ds hp hr hk e hs =>
    have hd : PyData.dict [(.none, .none)] = PyData.dict ds := hd
    injection hd with hd
    exact absurd (e.symm.trans hd.symm) (dD_ne ps)
  | _ => cases hd
theorem isT_dic {ps : List (Key × D)} {ds : List (D × D)} {T : String} {b : Bool} (e2 : ds = dD ps) (e : isT T (.dict ds) = some b) : kitB "dict" T = some b := by
  have hn : ds ≠ [(.none, .none)] := fun z => dD_ne ps (e2.symm.trans z)
  unfold isT at e
  split at e <;> first | cases ‹PyData.dict _ = _›; exact absurd rfl hn | skip
  all_goals first | exact e | (exfalso; rename_i y; first | cases y | (injection y with y; exact hn y))
theorem tyx_of {K : PySem.W.Frag} {r : Addr} {H : Hp} {P : Addr → Prop} {v : V} {d : D} {T : String} {b : Bool} (h : Rep K r H P v d) (e : isT T d = some b) : ∃ t, TyX K H v t ∧ PySem.W.kitOne K t (.type T) = some b := by
  cases h with
  | non => exact ⟨_, .base .non, kit_ty e⟩
  | bl => exact ⟨_, .base (.bl _), kit_ty e⟩
  | int => exact ⟨_, .base (.int _), kit_ty e⟩
  | str => exact ⟨_, .base (.str _), kit_ty e⟩
  | tup ht hs =>
    rcases ht with (h | ⟨o, h⟩) | ⟨o, its, n, h1, h2, h3⟩
    · exact ⟨_, .base (.tup h), kit_ty e⟩
    · exact ⟨_, .fTuple h, kit_ty e⟩
    · exact ⟨_, .kTuple h1 h2, kit_ty e⟩
  | lst hp hl hs => exact ⟨_, .base (.lst hl), kit_ty e⟩
  | row => cases e
  | dic hp h hk e2 hs =>
    have e := isT_dic e2 e
    rcases h with h | ⟨o, h⟩
    · exact ⟨_, .base (.dK h), kit_ty e⟩
    · exact ⟨_, .fDict h, kit_ty e⟩
theorem de_isi {y : Str} {T : String} {py : Pos} (hg : Gl X "isinstance") (hm : X.mg "isinstance" = none) (ha : DE C X e w) (hgy : Gl X y) (hmy : X.mg y = none) (hvy : bootBuiltins y = some (.type T)) (hny : y ≠ "__name__" := by decide) (hdy : (y == ("__debug__" : Str)) = false := by decide)
    (he : starEach [e, .Name y py] X.env = (false, eval e X.env) :: starEach [.Name y py] X.env := by rfl) (hpl : (backTo pos (starEach [.Name y py] X.env)).any (·.1) = false := by rfl) : DE C X (.Call (.Name "isinstance" p) [e, .Name y py] [] pos) (wIsi T w) := by
  obtain ⟨t, pe, s⟩ := ha
  refine ⟨_, pe_callB call_isi hg hm (by decide +kernel : bootBuiltins "isinstance" = some (.builtin "isinstance")) (pa_cons pe (pa_cons (pe_bltn (v := .ty T) hgy hmy hvy rfl hny hdy) pa_nil) he) (by decide) (by decide) he hpl, fun r H0 O σ H env Q Qh S hw k => s r H0 O σ H env _ _ S hw fun v H1 d e1 g1 rv q => ?_⟩
  obtain ⟨b, hb, q⟩ := onSome_some q
  obtain ⟨t, h1, h2⟩ := tyx_of rv hb
  exact ⟨v, .ty T, t, .type T, b, rfl, .ty T, h1, h2, k _ H1 _ e1 g1 .bl q⟩
theorem kitB_tt : kitB "tuple" "tuple" = some true := by decide +kernel

/-! ### defs -/
abbrev FS := List D → (D → Prop) → Prop
/-- what a def hands back: its lists are new -/
def RepR (K : PySem.W.Frag) (r : Addr) (H H' : Hp) (v : V) (d : D) : Prop := match d with
  | .list ds => ∃ p vs, v = .ref p ∧ p ≠ r ∧ H p = none ∧ H' p = some (.lst vs) ∧ Reps K r H' (fun a => a ≠ r ∧ H a = none ∧ a ≠ p) vs ds
  | d => Rep K r H' (fun a => a ≠ r ∧ H a = none) v d
theorem RepR.rep {K : PySem.W.Frag} {r : Addr} {H H' : Hp} {v : V} {d : D} (h : RepR K r H H' v d) : Rep K r H' (fun a => a ≠ r ∧ H a = none) v d := by
  cases d <;> first | exact h | skip
  obtain ⟨p, vs, rfl, h1, h2, h3, h4⟩ := h
  exact .lst ⟨h1, h2⟩ h3 (h4.mono fun _ z => ⟨z.1, z.2.1⟩)
theorem RepR.flat {K : PySem.W.Frag} {r : Addr} {H H' : Hp} {P : Addr → Prop} {v : V} {d : D} (h : Rep K r H' P v d) (f : DL.flat d = true) : RepR K r H H' v d := by
  cases d <;> first | exact h.flat f | (simp [DL.flat] at f)
/-- a def's promise, as data -/
def spD (C : List Addr) (K : PySem.W.Frag) (n : Nat) (fs : FS) : Sp := fun vs H Q _ => vs.length = n ∧ ∃ (r : Addr) (ds : List D) (Q0 : D → Prop), Good C K r H ∧ Reps K r H (fun a => a ≠ r) vs ds ∧ fs ds Q0 ∧
  ∀ d v H', Q0 d → Ext r H H' → Good C K r H' → RepR K r H H' v d → Q v H'
theorem de_call {k : Nat} {f : Addr} {fd : FuncData} {ps : List Str} {n : Nat} {fs : FS} {x : Str} {wl : WL} (F : FnOk X.prog X.w X.K X.mg X.base CX0 k f fd ps (spD C X.K n fs)) (hr : Room k X.A) (hg : Gl X x) (hm : X.mg x = some (.ref f)) (hk : PySem.W.keepIn X.K (.ref f) = true) (hb : Binds X.K fd ps [])
    (ha : DA C X (e :: es) wl) (hdb : (x == ("__debug__" : Str)) = false := by decide) (he : starEach (e :: es) X.env = (false, eval e X.env) :: starEach es X.env := by rfl) (hpl : (backTo pos (starEach es X.env)).any (·.1) = false := by rfl) :
    DE C X (.Call (.Name x p) (e :: es) [] pos) (wFn (fun ds Q => ds.length = n ∧ fs ds Q) wl) := by
  obtain ⟨t, pa, s⟩ := ha
  refine ⟨_, pe_call F hr hg hm hk hb .nil pass0 pa hdb he hpl, fun r H0 O σ H env Q Qh S hw k => s r H0 O σ H env _ _ S hw fun vs H1 ds e1 g1 rv q => ?_⟩
  rw [List.append_nil]
  exact ⟨by rw [rv.length]; exact q.1, r, ds, Q, g1, rv, q.2, fun d v H' q' e' g' r' => k v H' d (e1.trans e') g' (r'.rep.mono fun _ z => z.1) q'⟩
theorem dn_call {k : Nat} {f : Addr} {fd : FuncData} {ps : List Str} {n : Nat} {fs : FS} {x : Str} {wl : WL} (F : FnOk X.prog X.w X.K X.mg X.base CX0 k f fd ps (spD C X.K n fs)) (hr : Room k X.A) (hg : Gl X x) (hm : X.mg x = some (.ref f)) (hk : PySem.W.keepIn X.K (.ref f) = true) (hb : Binds X.K fd ps [])
    (ha : DA C X (e :: es) wl) (hdb : (x == ("__debug__" : Str)) = false := by decide) (he : starEach (e :: es) X.env = (false, eval e X.env) :: starEach es X.env := by rfl) (hpl : (backTo pos (starEach es X.env)).any (·.1) = false := by rfl) :
    DN C X (.Call (.Name x p) (e :: es) [] pos) (fun env Q => wl env fun ds => ds.length = n ∧ fs ds fun d => match d with
      | .list l => Q l
      | _ => False) := by
  obtain ⟨t, pa, s⟩ := ha
  refine ⟨_, pe_call F hr hg hm hk hb .nil pass0 pa hdb he hpl, fun r H0 O σ H env Q Qh S hw k => s r H0 O σ H env _ _ S hw fun vs H1 ds e1 g1 rv q => ?_⟩
  rw [List.append_nil]
  refine ⟨by rw [rv.length]; exact q.1, r, ds, _, g1, rv, q.2, fun d v H' q' e' g' r' => ?_⟩
  cases d <;> first | exact q'.elim | skip
  obtain ⟨p, vs', rfl, h1, h2, h3, h4⟩ := r'
  exact k p H' vs' _ (e1.trans e') g' (e1.dom p h2) h3 (h4.mono fun b z => ⟨S.fresh (e1.dom b z.2.1), z.2.2⟩) q'
end
/-! ### stores to slots -/
section
variable {C : List Addr} {K : PySem.W.Frag} {r : Addr} {H0 H H' : Hp} {O : Nat → Option Addr} {σ : L2.St} {env : SDs}
def offO (O : Nat → Option Addr) (i : Nat) : Nat → Option Addr := fun j => if j = i then none else O j
def setO (O : Nat → Option Addr) (i : Nat) (a : Addr) : Nat → Option Addr := fun j => if j = i then some a else O j
theorem offO_some {O : Nat → Option Addr} {i j : Nat} {a : Addr} (h : offO O i j = some a) : j ≠ i ∧ O j = some a := by
  unfold offO at h
  split at h
  · cases h
  · exact ⟨by assumption, h⟩
theorem setO_some {O : Nat → Option Addr} {i j : Nat} {p a : Addr} (h : setO O i p j = some a) : (j = i ∧ a = p) ∨ (j ≠ i ∧ O j = some a) := by
  unfold setO at h
  split at h
  · exact .inl ⟨by assumption, (Option.some.inj h).symm⟩
  · exact .inr ⟨by assumption, h⟩
/-- the slot i holds the data d -/
theorem SI.set_val (S : SI C K r H0 O H σ env) {i : Nat} {v : V} {d : D} (hi : i < env.length) (h : Rep K r H (Pv (offO O i) r) v d) : SI C K r H0 (offO O i) H (σ.set i (some v)) (env.set i (SD.val d)) where
  good := S.good
  ext := S.ext
  len := by rw [List.length_set, List.length_set]; exact S.len
  inj := fun j k a h1 h2 => S.inj j k a (offO_some h1).2 (offO_some h2).2
  new := fun j a h1 => S.new j a (offO_some h1).2
  val := fun j d' e => by
    by_cases hj : i = j
    · subst hj
      rw [List.getElem?_set_self hi] at e
      cases e
      exact ⟨v, List.getElem?_set_self (by rw [S.len]; exact hi), h⟩
    · rw [List.getElem?_set_ne hj] at e
      obtain ⟨v', h1, h2⟩ := S.val j d' e
      exact ⟨v', by rw [List.getElem?_set_ne hj]; exact h1, h2.mono fun a z => ⟨z.1, fun k q => z.2 k (offO_some q).2⟩⟩
  obj := fun j sd e z => by
    by_cases hj : i = j
    · subst hj
      rw [List.getElem?_set_self hi] at e
      cases e
      exact z.elim
    · rw [List.getElem?_set_ne hj] at e
      obtain ⟨a, h1, h2, h3⟩ := S.obj j sd e z
      exact ⟨a, by unfold offO; rw [if_neg (Ne.symm hj)]; exact h1, by rw [List.getElem?_set_ne hj]; exact h2, h3.mono fun a z => ⟨z.1, fun k q => z.2.1 k (offO_some q).2, z.2.2⟩⟩
  dom := fun j a h1 => S.dom j a (offO_some h1).2
/-- the slot i holds a new list, a new dict -/
theorem SI.set_obj (S : SI C K r H0 O H σ env) (e : Ext r H H') (g : Good C K r H') {i : Nat} {p : Addr} {sd : SD} (hi : i < env.length) (np : H p = none) (hp : ObjR K r H' (fun a => Po O r H0 a ∧ a ≠ p) p sd) :
    SI C K r H0 (setO O i p) H' (σ.set i (some (.ref p))) (env.set i sd) := by
  have S' := S.step e g
  have pn := S.fresh np
  have old : ∀ {v : V} {d : D} {P : Addr → Prop}, Rep K r H P v d → (∀ a, P a → a ≠ r) → Rep K r H' (fun a => P a ∧ a ≠ p) v d := fun {v d P} h hP =>
    (h.lift (P' := fun a => P a ∧ a ≠ p) (fun _ _ x => x) (fun _ _ _ x => x) (fun _ _ _ x => x) fun a q l => ⟨q, fun z => l (by rw [z]; exact np)⟩).ext e (fun _ z => hP _ z.1) fun _ z => z
  refine ⟨g, S'.ext, by rw [List.length_set, List.length_set]; exact S.len, fun j k a h1 h2 => ?_, fun j a h1 => ?_, fun j d' e' => ?_, fun j sd' e' zo => ?_, fun j a h1 => ?_⟩
  · rcases setO_some h1 with ⟨z1, z2⟩ | ⟨z1, z2⟩ <;> rcases setO_some h2 with ⟨y1, y2⟩ | ⟨y1, y2⟩
    · exact z1.trans y1.symm
    · exact absurd y2 (by rw [z2]; exact pn.2.1 k)
    · exact absurd z2 (by rw [y2]; exact pn.2.1 j)
    · exact S.inj j k a z2 y2
  · rcases setO_some h1 with ⟨_, z2⟩ | ⟨_, z2⟩
    · rw [z2]; exact ⟨pn.2.2, pn.1⟩
    · exact S.new j a z2
  · by_cases hj : i = j
    · subst hj
      rw [List.getElem?_set_self hi] at e'
      cases e'
      exact hp.owns.elim
    · rw [List.getElem?_set_ne hj] at e'
      obtain ⟨v', h1, h2⟩ := S.val j d' e'
      refine ⟨v', by rw [List.getElem?_set_ne hj]; exact h1, (old h2 fun _ z => z.1).mono fun a z => ⟨z.1.1, fun k q => ?_⟩⟩
      rcases setO_some q with ⟨_, z2⟩ | ⟨_, z2⟩
      · exact z.2 z2
      · exact z.1.2 k z2
  · by_cases hj : i = j
    · subst hj
      rw [List.getElem?_set_self hi] at e'
      cases e'
      refine ⟨p, by unfold setO; rw [if_pos rfl], List.getElem?_set_self (by rw [S.len]; exact hi), hp.mono fun a z => ⟨z.1.1, fun k q => ?_, z.1.2.2⟩⟩
      rcases setO_some q with ⟨_, z2⟩ | ⟨_, z2⟩
      · exact z.2 z2
      · exact z.1.2.1 k z2
    · rw [List.getElem?_set_ne hj] at e'
      obtain ⟨a, h1, h2, h3⟩ := S.obj j sd' e' zo
      refine ⟨a, by unfold setO; rw [if_neg (Ne.symm hj)]; exact h1, by rw [List.getElem?_set_ne hj]; exact h2, ((h3.lift (P' := fun a => Po O r H0 a ∧ a ≠ p) (fun _ x _ => x) (fun _ _ x => x) (fun _ _ _ x => x) (fun _ _ _ x => x) fun a q l => ⟨q, fun z => l (by rw [z]; exact np)⟩).ext e (S.new j a h1).2 (fun _ z => z.1.1) fun _ z => z).mono fun b z => ⟨z.1.1, fun k q => ?_, z.1.2.2⟩⟩
      rcases setO_some q with ⟨_, z2⟩ | ⟨_, z2⟩
      · exact z.2 z2
      · exact z.1.2.1 k z2
  · rcases setO_some h1 with ⟨_, z2⟩ | ⟨_, z2⟩
    · obtain ⟨o, ho, _⟩ := hp.there
      rw [z2, ho]; simp
    · exact S'.dom j a z2
theorem SI.set_own (S : SI C K r H0 O H σ env) (e : Ext r H H') (g : Good C K r H') {i : Nat} {p : Addr} {vs : List V} {ds : List D} (hi : i < env.length) (np : H p = none) (hp : H' p = some (.lst vs)) (h : Reps K r H' (fun a => Po O r H0 a ∧ a ≠ p) vs ds) :
    SI C K r H0 (setO O i p) H' (σ.set i (some (.ref p))) (env.set i (SD.own ds)) := S.set_obj e g hi np ⟨vs, hp, h⟩
/-- the list or dict in the slot i is changed -/
theorem SI.wr (S : SI C K r H0 O H σ env) {i : Nat} {a : Addr} {s0 sd : SD} {o0 o : HO} (he : env[i]? = some s0) (hs : OwnS s0) (ha : O i = some a) (hv : H a = some o0) (hm : LD o0) (h : ∀ H', (∀ b xs, SqT K H b xs → SqT K H' b xs) → (∀ b, b ≠ a → H' b = H b) → H' a = some o → ObjR K r H' (Po O r H0) a sd) :
    SI C K r H0 O (upd H a o) σ (env.set i sd) := by
  have hi : i < env.length := (List.getElem?_eq_some_iff.mp he).1
  have ar := (S.new i a ha).2
  have kT : ∀ b xs, SqT K H b xs → SqT K (upd H a o) b xs := fun b xs q => by
    rcases q with (q | ⟨o, q⟩) | q
    · exact .inl (.inl (by rw [upd_ne (ne_of q hv (by intro z; rw [← z] at hm; exact hm))]; exact q))
    · exact .inl (.inr ⟨o, by rw [upd_ne (ne_of q hv (by intro z; rw [← z] at hm; exact hm))]; exact q⟩)
    · exact .inr q
  have hh : ObjR K r (upd H a o) (Po O r H0) a sd := h _ kT (fun b z => upd_ne z) upd_same
  have nb : ∀ {P : Addr → Prop}, (∀ b, P b → ∀ j, O j ≠ some b) → ∀ b, P b → b ≠ a := fun hP b pb z => hP b pb i (by rw [z]; exact ha)
  have lift1 : ∀ {v : V} {d : D} {P : Addr → Prop}, Rep K r H P v d → (∀ b, P b → ∀ j, O j ≠ some b) → Rep K r (upd H a o) P v d := fun {v d P} q hP =>
    q.lift kT (fun b xs pb l => by rw [upd_ne (nb hP b pb)]; exact l) (fun b kvs pb l => by unfold Rd; rw [upd_ne (nb hP b pb)]; exact l) fun _ q _ => q
  refine ⟨⟨?_, fun q hq => ?_⟩, ⟨fun b u q => ?_, fun b q => ?_, fun q h => ?_⟩, by rw [List.length_set]; exact S.len, S.inj, S.new, fun j d' e' => ?_, fun j sd' e' z => ?_, fun j b q z => ?_⟩
  · obtain ⟨c, ns, i, x, z, h2, h3, h4, h5⟩ := S.good.row
    exact ⟨c, ns, i, x, z, h2.same fun b o u e => by rw [upd_ne (fun z => by rw [z, hv] at e; cases e; exact hm)]; exact e, h3, by rw [upd_ne (Ne.symm ar)]; exact h4, h5⟩
  · exact (S.good.tab q hq).keep (fun b ps e => by rw [upd_ne (fun z => by rw [z, hv] at e; cases e; exact hm)]; exact e) fun b o u e => by rw [upd_ne (fun z => by rw [z, hv] at e; cases e; exact hm)]; exact e
  · rcases S.ext.keep b u q with z | z | z
    · exact .inl z
    · exact .inr (.inl z)
    · by_cases hb : b = a
      · rw [hb, (S.new i a ha).1] at q; cases q
      · exact .inr (.inr (by rw [upd_ne hb]; exact z))
  · by_cases hb : b = a
    · rw [hb, upd_same] at q; cases q
    · rw [upd_ne hb] at q; exact S.ext.dom b q
  · exact (S.ext.tab q h).keep (fun b ps e => by rw [upd_ne (fun z => by rw [z, hv] at e; cases e; exact hm)]; exact e) fun b o u e => by rw [upd_ne (fun z => by rw [z, hv] at e; cases e; exact hm)]; exact e
  · by_cases hj : i = j
    · subst hj
      rw [List.getElem?_set_self hi] at e'
      cases e'
      exact hh.owns.elim
    · rw [List.getElem?_set_ne hj] at e'
      obtain ⟨v', h1, h2⟩ := S.val j d' e'
      exact ⟨v', h1, lift1 h2 fun _ z => z.2⟩
  · by_cases hj : i = j
    · subst hj
      rw [List.getElem?_set_self hi] at e'
      cases e'
      obtain ⟨a', h1, h2, _⟩ := S.obj i s0 he hs
      rw [ha] at h1
      cases h1
      exact ⟨a, ha, h2, hh⟩
    · rw [List.getElem?_set_ne hj] at e'
      obtain ⟨b, h1, h2, h3⟩ := S.obj j sd' e' z
      have hba : b ≠ a := fun z => hj (S.inj i j a ha (by rw [← z]; exact h1))
      have hP : ∀ b, Po O r H0 b → ∀ j, O j ≠ some b := fun _ z => z.2.1
      exact ⟨b, h1, h2, h3.lift (fun u x _ => by rw [upd_ne hba]; exact x) kT (fun c xs pb l => by rw [upd_ne (nb hP c pb)]; exact l) (fun c kvs pb l => by unfold Rd; rw [upd_ne (nb hP c pb)]; exact l) fun _ q _ => q⟩
  · by_cases hb : b = a
    · rw [hb, upd_same] at z; cases z
    · rw [upd_ne hb] at z; exact S.dom j b q z
theorem Reps.other {v : List V} {d : List D} {P : Addr → Prop} {a : Addr} (q : Reps K r H P v d) (hP : ∀ b, P b → b ≠ a) (kT : ∀ b xs, SqT K H b xs → SqT K H' b xs) (hk : ∀ b, b ≠ a → H' b = H b) : Reps K r H' P v d :=
  q.lift kT (fun b xs pb l => by rw [hk b (hP b pb)]; exact l) (fun b kvs pb l => by unfold Rd; rw [hk b (hP b pb)]; exact l) fun _ q _ => q
theorem SI.write (S : SI C K r H0 O H σ env) {i : Nat} {a : Addr} {vs ws : List V} {ds es : List D} (he : env[i]? = some (SD.own ds)) (ha : O i = some a) (hv : H a = some (.lst vs)) (h : Reps K r H (Po O r H0) ws es) :
    SI C K r H0 O (upd H a (.lst ws)) σ (env.set i (SD.own es)) :=
  S.wr he trivial ha hv trivial fun H' kT hk hn => ⟨ws, hn, h.other (a := a) (fun b z y => z.2.1 i (by rw [y]; exact ha)) kT hk⟩
theorem SI.writeD (S : SI C K r H0 O H σ env) {i : Nat} {a : Addr} {kvs kws : List (Key × V)} {ps qs : List (Key × D)} (he : env[i]? = some (SD.dic ps)) (ha : O i = some a) (hv : H a = some (.dK kvs)) (hk : kws.map (·.1) = qs.map (·.1)) (h : Reps K r H (fun _ => False) (kws.map (·.2)) (qs.map (·.2))) :
    SI C K r H0 O (upd H a (.dK kws)) σ (env.set i (SD.dic qs)) :=
  S.wr he trivial ha hv trivial fun H' kT _ hn => ⟨kws, hn, hk, h.lift kT (fun _ _ z => z.elim) (fun _ _ z => z.elim) fun _ z => z.elim⟩
/-- the list in the slot i is no more one's own -/
theorem SI.disown (S : SI C K r H0 O H σ env) {i : Nat} {ds : List D} (he : env[i]? = some (SD.own ds)) : SI C K r H0 (offO O i) H σ (env.set i (SD.val (.list ds))) := by
  have hi : i < env.length := (List.getElem?_eq_some_iff.mp he).1
  obtain ⟨a, vs, h1, h2, h3, h4⟩ := S.own i ds he
  have q := S.set_val (i := i) (v := .ref a) (d := .list ds) hi (.lst ⟨(S.new i a h1).2, fun j z => (offO_some z).1 (S.inj j i a (offO_some z).2 h1)⟩ h3 (h4.mono fun b z => ⟨z.1, fun k y => z.2.1 k (offO_some y).2⟩))
  have e : σ.set i (some (.ref a)) = σ := by
    apply List.ext_getElem?
    intro j
    by_cases hj : i = j
    · subst hj
      rw [List.getElem?_set_self (by rw [S.len]; exact hi), h2]
    · rw [List.getElem?_set_ne hj]
  rw [e] at q
  exact q
/-- the dict .. -/
theorem SI.disownD (S : SI C K r H0 O H σ env) {i : Nat} {ps : List (Key × D)} (he : env[i]? = some (SD.dic ps)) : SI C K r H0 (offO O i) H σ (env.set i (SD.val (.dict (dD ps)))) := by
  have hi : i < env.length := (List.getElem?_eq_some_iff.mp he).1
  obtain ⟨a, kvs, h1, h2, h3, h4, h5⟩ := S.dic i ps he
  have q := S.set_val (i := i) (v := .ref a) (d := .dict (dD ps)) hi (.dic ⟨(S.new i a h1).2, fun j z => (offO_some z).1 (S.inj j i a (offO_some z).2 h1)⟩ (.inl h3) h4 rfl (h5.mono fun b z => z.elim))
  have e : σ.set i (some (.ref a)) = σ := by
    apply List.ext_getElem?
    intro j
    by_cases hj : i = j
    · subst hj
      rw [List.getElem?_set_self (by rw [S.len]; exact hi), h2]
    · rw [List.getElem?_set_ne hj]
  rw [e] at q
  exact q
end

/-! ### what changes over a statement -/
/-- all stays but the tables, the row, the lists of one's own -/
structure Frm (r : Addr) (O : Nat → Option Addr) (H : Hp) (O' : Nat → Option Addr) (H' : Hp) : Prop where
  keep : ∀ b o, H b = some o → (∃ ps, o = .tbl ps) ∨ (b = r ∧ ∃ xs, o = .lst xs) ∨ ((∃ j, O j = some b) ∧ LD o) ∨ H' b = some o
  dom : ∀ b, H' b = none → H b = none
  tops : ∀ j a, O' j = some a → (∃ k, O k = some a) ∨ H a = none
section
variable {r : Addr} {O O' O1 O2 : Nat → Option Addr} {H H' H1 H2 : Hp}
theorem Frm.refl : Frm r O H O H := ⟨fun _ _ h => .inr (.inr (.inr h)), fun _ h => h, fun j a h => .inl ⟨j, h⟩⟩
theorem Frm.trans (a : Frm r O H O1 H1) (b : Frm r O1 H1 O2 H2) : Frm r O H O2 H2 where
  keep := fun c o h => by
    rcases a.keep c o h with z | z | z | z
    · exact .inl z
    · exact .inr (.inl z)
    · exact .inr (.inr (.inl z))
    · rcases b.keep c o z with y | y | ⟨⟨j, y1⟩, y2⟩ | y
      · exact .inl y
      · exact .inr (.inl y)
      · rcases a.tops j c y1 with q | q
        · exact .inr (.inr (.inl ⟨q, y2⟩))
        · rw [h] at q; cases q
      · exact .inr (.inr (.inr y))
  dom := fun c h => a.dom c (b.dom c h)
  tops := fun j c h => by
    rcases b.tops j c h with ⟨k, q⟩ | q
    · exact a.tops k c q
    · exact .inr (a.dom c q)
theorem Frm.of_ext (e : Ext r H H') : Frm r O H O H' := ⟨fun b o h => by
  rcases e.keep b o h with z | z | z
  · exact .inl z
  · exact .inr (.inl z)
  · exact .inr (.inr (.inr z)), e.dom, fun j a h => .inl ⟨j, h⟩⟩
theorem Frm.off {i : Nat} : Frm r O H (offO O i) H := ⟨fun _ _ h => .inr (.inr (.inr h)), fun _ h => h, fun j a h => .inl ⟨j, (offO_some h).2⟩⟩
theorem Frm.new {i : Nat} {p : Addr} (e : Ext r H H') (np : H p = none) : Frm r O H (setO O i p) H' := ⟨(Frm.of_ext (O := O) e).keep, e.dom, fun j a h => by
  rcases setO_some h with ⟨_, z⟩ | ⟨_, z⟩
  · rw [z]; exact .inr np
  · exact .inl ⟨j, z⟩⟩
theorem Frm.updO {i : Nat} {a : Addr} {o o0 : HO} (h : O i = some a) (hv : H a = some o0) (hm : LD o0) : Frm r O H O (L2.upd H a o) := ⟨fun b u q => by
  by_cases hb : b = a
  · rw [hb]
    rw [hb, hv] at q
    exact .inr (.inr (.inl ⟨⟨i, h⟩, by rw [← Option.some.inj q]; exact hm⟩))
  · exact .inr (.inr (.inr (by rw [upd_ne hb]; exact q))), fun b q => by
  by_cases hb : b = a
  · rw [hb, upd_same] at q; cases q
  · rw [upd_ne hb] at q; exact q, fun j a h => .inl ⟨j, h⟩⟩
theorem Frm.upd {i : Nat} {a : Addr} {o : HO} {vs : List V} (h : O i = some a) (hv : H a = some (.lst vs)) : Frm r O H O (L2.upd H a o) := .updO h hv trivial
end

/-! ### statements -/
structure KD where
  nx : SDs → Prop
  rt : D → Prop
  bk : SDs → Prop := fun _ => False
  ct : SDs → Prop := fun _ => False
  ex : Str → Option (Str × D) → Prop := fun _ _ => False
abbrev W0 : WX := fun _ _ _ _ => False
/-- an error by its class's name and its field -/
structure ErrOk (K : PySem.W.Frag) (mg : Str → Option Value) (r : Addr) (H : Hp) (cls : Value) (d : Option Addr) (nm : Str) (vl : Option (Str × D)) : Prop where
  cls : ∃ A, mg nm = some (.ref A) ∧ cls = .ref A
  val : match vl with
    | none => d = none
    | some (f, v) => flat v = true ∧ ∃ dd x, d = some dd ∧ H dd = some (.xd [(f, x)]) ∧ Rep K r H (fun _ => False) x v
abbrev WS := KD → SDs → Prop
/-- the wished ends are told by data -/
structure Match (C : List Addr) (X : Cx) (W : WX) (r : Addr) (H0 : Hp) (O : Nat → Option Addr) (H : Hp) (Kd : KD) (E : Ends) : Prop where
  nx : ∀ O' σ' H' env', Frm r O H O' H' → SI C X.K r H0 O' H' σ' env' → Kd.nx env' → E.nx σ' H'
  bk : ∀ O' σ' H' env', Frm r O H O' H' → SI C X.K r H0 O' H' σ' env' → Kd.bk env' → E.bk σ' H'
  ct : ∀ O' σ' H' env', Frm r O H O' H' → SI C X.K r H0 O' H' σ' env' → Kd.ct env' → E.ct σ' H'
  rt : ∀ v H' d, Ext r H0 H' → Good C X.K r H' → RepR X.K r H0 H' v d → Kd.rt d → E.rt v H'
  ex : ∀ cls d σ' H' nm vl, Ext r H0 H' → Good C X.K r H' → ErrOk X.K X.mg r H' cls d nm vl → Kd.ex nm vl → W cls d σ' H'
theorem Match.from {C : List Addr} {X : Cx} {W : WX} {r : Addr} {H0 : Hp} {O O1 : Nat → Option Addr} {H H1 : Hp} {Kd : KD} {E : Ends} (m : Match C X W r H0 O H Kd E) (f : Frm r O H O1 H1) : Match C X W r H0 O1 H1 Kd E :=
  ⟨fun O' σ' H' env' g => m.nx O' σ' H' env' (f.trans g), fun O' σ' H' env' g => m.bk O' σ' H' env' (f.trans g), fun O' σ' H' env' g => m.ct O' σ' H' env' (f.trans g), m.rt, m.ex⟩
def DS (C : List Addr) (X : Cx) (W : WX) (st : Stmt) (w : WS) : Prop := ∃ t, PS X st t ∧ ∀ (r : Addr) (H0 : Hp) (O : Nat → Option Addr) (σ : L2.St) (H : Hp) (env : SDs) (Kd : KD) (E : Ends), SI C X.K r H0 O H σ env → w Kd env → Match C X W r H0 O H Kd E → t E σ H
def DSs (C : List Addr) (X : Cx) (W : WX) (st : List Stmt) (w : WS) : Prop := ∃ t, PSs X st t ∧ ∀ (r : Addr) (H0 : Hp) (O : Nat → Option Addr) (σ : L2.St) (H : Hp) (env : SDs) (Kd : KD) (E : Ends), SI C X.K r H0 O H σ env → w Kd env → Match C X W r H0 O H Kd E → t E σ H
section
variable {C : List Addr} {X : Cx} {W : WX} {e a b c : Expr} {es : List Expr} {st : Stmt} {sts body : List Stmt} {w wa wb : WE} {ws wu : WS} {pos p : Pos}
def wSeq (w u : WS) : WS := fun K env => w { K with nx := u K } env
def wNext : WS := fun K env => K.nx env
theorem dss_nil : DSs C X W [] wNext := ⟨_, pss_nil, fun r H0 O σ H env Kd E S hw m => m.nx O σ H env .refl S hw⟩
theorem dss_one (h : DS C X W st ws) : DSs C X W [st] ws := let ⟨t, ps, s⟩ := h; ⟨t, pss_one ps, s⟩
theorem dss_cons (h : DS C X W st ws) (h2 : DSs C X W sts wu) : DSs C X W (st :: sts) (wSeq ws wu) := by
  obtain ⟨t, ps, s⟩ := h
  obtain ⟨u, pu, su⟩ := h2
  refine ⟨_, pss_cons ps pu, fun r H0 O σ H env Kd E S hw m => s r H0 O σ H env _ _ S hw ⟨fun O' σ' H' env' f S' q => ?_, m.bk, m.ct, m.rt, m.ex⟩⟩
  exact su r H0 O' σ' H' env' Kd E S' q (m.from f)
theorem ds_pass : DS C X W (.Pass pos) wNext := ⟨_, ps_pass, fun r H0 O σ H env Kd E S hw m => m.nx O σ H env .refl S hw⟩
theorem ds_break : DS C X W (.Break pos) (fun K env => K.bk env) := ⟨_, ps_break, fun r H0 O σ H env Kd E S hw m => m.bk O σ H env .refl S hw⟩
def wNever : WS := fun _ _ => False
theorem ds_never : DS C X W st wNever := ⟨_, ps_never, fun r H0 O σ H env Kd E S hw m => hw.elim⟩
theorem dss_never : DSs C X W sts wNever := ⟨_, pss_never, fun r H0 O σ H env Kd E S hw m => hw.elim⟩
def wIfS (wt : WT) (w u : WS) : WS := fun K env => wt env fun c => if c = true then w K env else u K env
theorem ds_if {a b : List Stmt} {wt : WT} (hc : DT C X c wt) (ha : DSs C X W a ws) (hb : DSs C X W b wu) : DS C X W (.If c a b pos) (wIfS wt ws wu) := by
  obtain ⟨tc, pc, sc⟩ := hc
  obtain ⟨ta, pa, sa⟩ := ha
  obtain ⟨tb, pb, sb⟩ := hb
  refine ⟨_, ps_if pc pa pb, fun r H0 O σ H env Kd E S hw m => sc r H0 O σ H env _ _ S hw fun c H1 e1 g1 q => ?_⟩
  cases c with
  | true => exact sa r H0 O σ H1 env Kd E (S.step e1 g1) q (m.from (.of_ext e1))
  | false => exact sb r H0 O σ H1 env Kd E (S.step e1 g1) q (m.from (.of_ext e1))
/-- return of a flat thing, of a new list, of a list of one's own -/
def wRet (w : WE) : WS := fun K env => w env fun d => flat d = true ∧ K.rt d
theorem ds_ret (h : DE C X e w) : DS C X W (.Return (some e) pos) (wRet w) := by
  obtain ⟨t, pe, s⟩ := h
  refine ⟨_, ps_ret pe, fun r H0 O σ H env Kd E S hw m => s r H0 O σ H env _ _ S hw fun v H1 d e1 g1 rv q => ?_⟩
  exact m.rt v H1 d (S.ext.trans e1) g1 (.flat rv q.1) q.2
def wRetN (w : WL) : WS := fun K env => w env fun ds => K.rt (.list ds)
theorem ds_retN {wl : WL} (h : DN C X e wl) : DS C X W (.Return (some e) pos) (wRetN wl) := by
  obtain ⟨t, pe, s⟩ := h
  refine ⟨_, ps_ret pe, fun r H0 O σ H env Kd E S hw m => s r H0 O σ H env _ _ S hw fun p H1 vs ds e1 g1 n h1 h2 q => ?_⟩
  exact m.rt (.ref p) H1 (.list ds) (S.ext.trans e1) g1 ⟨p, vs, rfl, S.good.new n, S.ext.dom p n, h1, h2.mono fun a z => ⟨z.1.1, z.1.2.2, z.2⟩⟩ q
def wRetO (i : Nat) : WS := fun K env => match env[i]? with
  | some (SD.own ds) => K.rt (.list ds)
  | _ => False
theorem ds_retO (i : Nat) {x : Str} (hN : X.N[i]? = some x := by rfl) (hv : Vis X.env.scope x := by first | exact Or.inl rfl | exact Or.inr (Or.inl rfl) | exact Or.inr (Or.inr rfl)) (hd : (x == ("__debug__" : Str)) = false := by decide)
    (hcd : (x == ("__classdict__" : Str)) = false := by decide) : DS C X W (.Return (some (.Name x p)) pos) (wRetO i) := by
  refine ⟨_, ps_ret (pe_var hN hv hd hcd), fun r H0 O σ H env Kd E S hw m => ?_⟩
  unfold wRetO at hw
  split at hw <;> first | exact hw.elim | skip
  rename_i ds hd
  obtain ⟨a, vs, h1, h2, h3, h4⟩ := S.own i ds hd
  exact ⟨.ref a, h2, m.rt (.ref a) H (.list ds) S.ext S.good ⟨a, vs, rfl, (S.new i a h1).2, (S.new i a h1).1, h3, h4.mono fun b z => ⟨z.1, z.2.2, fun y => z.2.1 i (by rw [y]; exact h1)⟩⟩ hw⟩
theorem ds_retNone : DS C X W (.Return none pos) (fun K _ => K.rt .none) := ⟨_, ps_retN, fun r H0 O σ H env Kd E S hw m => m.rt .non H .none S.ext S.good (RepR.flat (P := fun _ => True) .non rfl) hw⟩
/-- an expression whose value is dropped -/
def wDrop (w : WE) : WS := fun K env => w env fun _ => K.nx env
theorem ds_expr (h : DE C X e w) (hs : swapsWith e none pos.line X.env = pure false := by rfl) : DS C X W (.Expr e pos) (wDrop w) := by
  obtain ⟨t, pe, s⟩ := h
  exact ⟨_, ps_expr pe hs, fun r H0 O σ H env Kd E S hw m => s r H0 O σ H env _ _ S hw fun v H1 d e1 g1 rv q => m.nx O σ H1 env (.of_ext e1) (S.step e1 g1) q⟩
/-- name = a flat thing, a new list -/
def wSet (i : Nat) (w : WE) : WS := fun K env => w env fun d => i < env.length ∧ flat d = true ∧ K.nx (env.set i (SD.val d))
theorem ds_set (i : Nat) {x : Str} {pos' : Pos} (hN : X.N.Nodup) (hi : X.N[i]? = some x) (hx : Loc X.env.scope x) (he : DE C X e w) (hs : swapsWith e (some (.Name x pos')) pos.line X.env = pure false := by rfl) (hf : X.fn x = true ∨ X.env.scope.names.lookup x = some .local := by first | exact .inl rfl | exact .inr rfl | assumption) : DS C X W (.Assign [.Name x pos'] e pos) (wSet i w) := by
  obtain ⟨t, pe, s⟩ := he
  refine ⟨_, ps_set hN hi hx pe hs hf, fun r H0 O σ H env Kd E S hw m => s r H0 O σ H env _ _ S hw fun v H1 d e1 g1 rv q => ?_⟩
  exact m.nx _ _ H1 _ ((Frm.of_ext e1).trans .off) ((S.step e1 g1).set_val q.1 (rv.flat q.2.1)) q.2.2
def wSetN (i : Nat) (w : WL) : WS := fun K env => w env fun ds => i < env.length ∧ K.nx (env.set i (SD.own ds))
theorem ds_setN (i : Nat) {x : Str} {pos' : Pos} {wl : WL} (hN : X.N.Nodup) (hi : X.N[i]? = some x) (hx : Loc X.env.scope x) (he : DN C X e wl) (hs : swapsWith e (some (.Name x pos')) pos.line X.env = pure false := by rfl) (hf : X.fn x = true ∨ X.env.scope.names.lookup x = some .local := by first | exact .inl rfl | exact .inr rfl | assumption) : DS C X W (.Assign [.Name x pos'] e pos) (wSetN i wl) := by
  obtain ⟨t, pe, s⟩ := he
  refine ⟨_, ps_set hN hi hx pe hs hf, fun r H0 O σ H env Kd E S hw m => s r H0 O σ H env _ _ S hw fun p H1 vs ds e1 g1 n h1 h2 q => ?_⟩
  exact m.nx _ _ H1 _ (.new e1 n) (S.set_own e1 g1 q.1 n h1 h2) q.2

/-! lists of one's own: append, insert, pop, items stored -/
def onOwn (env : SDs) (i : Nat) (k : List D → Prop) : Prop := match env[i]? with
  | some (SD.own ds) => k ds
  | _ => False
theorem onOwn_some {env : SDs} {i : Nat} {k : List D → Prop} (h : onOwn env i k) : ∃ ds, env[i]? = some (SD.own ds) ∧ k ds := by
  unfold onOwn at h
  split at h <;> first | exact h.elim | exact ⟨_, by assumption, h⟩
def wApp (i : Nat) (w : WE) : WS := fun K env => onOwn env i fun ds => w env fun d => (ds.length < 16777216 ∧ flat d = true) ∧ K.nx (env.set i (SD.own (ds ++ [d])))
theorem ds_app (i : Nat) {x : Str} {px apos cpos : Pos} (he : DE C X e w) (hN : X.N[i]? = some x := by rfl) (hv : Vis X.env.scope x := by first | exact Or.inl rfl | exact Or.inr (Or.inl rfl) | exact Or.inr (Or.inr rfl)) (hd : (x == ("__debug__" : Str)) = false := by decide)
    (hcd : (x == ("__classdict__" : Str)) = false := by decide) (hst : starEach (e :: []) X.env = (false, eval e X.env) :: starEach [] X.env := by rfl) (hs : swapsWith (.Call (.Attribute (.Name x px) "append" apos) [e] [] cpos) none pos.line X.env = pure false := by rfl)
    (hbase : attributeBase (.Name x px) "append" X.env (eval (.Name x px) X.env) = eval (.Name x px) X.env := by rfl)
    (hfew : ((backTo cpos (starEach (e :: []) X.env)).all (fun x => !x.1) && (backToKw cpos (keywordEach [] X.env)).all (fun x => x.1.isSome)
      && decide ((e :: []).length + ([] : List Keyword).length + (if ([] : List Keyword).isEmpty then 0 else 1) < 30)) = true := by rfl)
    (hline : (apos.endLine == cpos.line) = true := by rfl) (hplain : (backTo cpos (starEach [] X.env)).any (·.1) = false := by rfl) :
    DS C X W (.Expr (.Call (.Attribute (.Name x px) "append" apos) [e] [] cpos) pos) (wApp i w) := by
  obtain ⟨t, pe, s⟩ := he
  refine ⟨_, ps_expr (pe_bm PySem.F.plainAttrs_list PySem.F.slot_list_append PySem.F.type_list_append mt_append (pe_var hN hv hd hcd) (pa_cons pe pa_nil hst) hbase hfew hline hst hplain) hs, fun r H0 O σ H env Kd E S hw m => ?_⟩
  obtain ⟨ds, he, hw⟩ := onOwn_some hw
  obtain ⟨a, vs, h1, h2, h3, h4⟩ := S.own i ds he
  refine ⟨.ref a, h2, .inl ⟨rfl, _, SqL.of h3⟩, ?_⟩
  refine s r H0 O σ H env _ _ S hw fun v H1 d e1 g1 rv q => ?_
  have S1 := S.step e1 g1
  have h3' := e1.lst (S.new i a h1).2 h3
  have h4' := h4.ext e1 (P' := Po O r H0) (fun _ z => z.1) fun _ z => z
  refine ⟨a, vs, v, rfl, rfl, h3', by rw [sizeLine_eq, h4.length]; exact q.1.1, ?_⟩
  exact m.nx O σ _ _ ((Frm.of_ext e1).trans (.upd h1 h3')) (S1.write he h1 h3' (h4'.append (.cons (rv.flat q.1.2) .nil))) q.2
end
/-! ### the same reading for a family of frames -/
section
variable {C : List Addr} {w : WE}
theorem unif_e {I : Type} {P0 : I → Prop} {Xf : I → Cx} {K : PySem.W.Frag} {e : Expr} (hK : ∀ i, (Xf i).K = K) (h : ∀ i, P0 i → DE C (Xf i) e w) :
    ∃ t, (∀ i, P0 i → PE (Xf i) e t) ∧ ∀ (r : Addr) (H0 : Hp) (O : Nat → Option Addr) (σ : L2.St) (H : Hp) (env : SDs) (Q : D → Prop) (Qh : VK), SI C K r H0 O H σ env → w env Q →
      (∀ v H' d, Ext r H H' → Good C K r H' → Rep K r H' (fun a => a ≠ r) v d → Q d → Qh v H') → t σ H Qh := by
  refine ⟨fun σ H Q => ∀ i, P0 i → ∀ pins s, Inv (Xf i) pins σ H s → wpAny (model (Xf i).prog (Xf i).w) (Xf i).A (eval e (Xf i).env) (EP (Xf i) pins σ Q) (Xf i).xe s, fun i hi => ⟨fun pins s σ H Q I q => q i hi pins s I⟩, ?_⟩
  intro r H0 O σ H env Q Qh S hw k i hi pins s I
  obtain ⟨t, pe, st⟩ := h i hi
  have := hK i
  subst this
  exact pe.run pins s σ H Qh I (st r H0 O σ H env Q Qh S hw k)
theorem unif_n {wl : WL} {I : Type} {P0 : I → Prop} {Xf : I → Cx} {K : PySem.W.Frag} {e : Expr} (hK : ∀ i, (Xf i).K = K) (h : ∀ i, P0 i → DN C (Xf i) e wl) :
    ∃ t, (∀ i, P0 i → PE (Xf i) e t) ∧ ∀ (r : Addr) (H0 : Hp) (O : Nat → Option Addr) (σ : L2.St) (H : Hp) (env : SDs) (Q : List D → Prop) (Qh : VK), SI C K r H0 O H σ env → wl env Q →
      (∀ p H' vs ds, Ext r H H' → Good C K r H' → H p = none → H' p = some (.lst vs) → Reps K r H' (fun a => Po O r H0 a ∧ a ≠ p) vs ds → Q ds → Qh (.ref p) H') → t σ H Qh := by
  refine ⟨fun σ H Q => ∀ i, P0 i → ∀ pins s, Inv (Xf i) pins σ H s → wpAny (model (Xf i).prog (Xf i).w) (Xf i).A (eval e (Xf i).env) (EP (Xf i) pins σ Q) (Xf i).xe s, fun i hi => ⟨fun pins s σ H Q I q => q i hi pins s I⟩, ?_⟩
  intro r H0 O σ H env Q Qh S hw k i hi pins s I
  obtain ⟨t, pe, st⟩ := h i hi
  have := hK i
  subst this
  exact pe.run pins s σ H Qh I (st r H0 O σ H env Q Qh S hw k)
/-- the tests of a comprehension -/
def DTs (C : List Addr) (X : Cx) (es : List Expr) (w : WT) : Prop := ∃ t, PTs X es t ∧ ∀ (r : Addr) (H0 : Hp) (O : Nat → Option Addr) (σ : L2.St) (H : Hp) (env : SDs) (Q : Bool → Prop) (Qh : Bool → Hp → Prop), SI C X.K r H0 O H σ env → w env Q →
  (∀ b H', Ext r H H' → Good C X.K r H' → Q b → Qh b H') → t σ H Qh
def wYes : WT := fun _ Q => Q true
theorem dts_nil {X : Cx} : DTs C X [] wYes := ⟨_, pts_nil, fun r H0 O σ H env Q Qh S hw k => k true H (.refl _ _) S.good hw⟩
theorem dts_one {X : Cx} {e : Expr} {wt : WT} (h : DT C X e wt) : DTs C X [e] wt := let ⟨t, p, s⟩ := h; ⟨t, pts_one p, s⟩
theorem unif_t {wt : WT} {I : Type} {P0 : I → Prop} {Xf : I → Cx} {K : PySem.W.Frag} {es : List Expr} (hK : ∀ i, (Xf i).K = K) (h : ∀ i, P0 i → DTs C (Xf i) es wt) :
    ∃ t, (∀ i, P0 i → PTs (Xf i) es t) ∧ ∀ (r : Addr) (H0 : Hp) (O : Nat → Option Addr) (σ : L2.St) (H : Hp) (env : SDs) (Q : Bool → Prop) (Qh : Bool → Hp → Prop), SI C K r H0 O H σ env → wt env Q →
      (∀ b H', Ext r H H' → Good C K r H' → Q b → Qh b H') → t σ H Qh := by
  refine ⟨fun σ H Q => ∀ i, P0 i → ∀ pins s, Inv (Xf i) pins σ H s → wpAny (model (Xf i).prog (Xf i).w) (Xf i).A (forIn es true fun c r => if r = true then do let ok ← isTrue c (Xf i).env (eval c (Xf i).env); pure (ForInStep.yield ok) else pure (ForInStep.yield r)) (TP (Xf i) pins σ Q) (Xf i).xe s, fun i hi => ⟨fun pins s σ H Q I q => q i hi pins s I⟩, ?_⟩
  intro r H0 O σ H env Q Qh S hw k i hi pins s I
  obtain ⟨t, pe, st⟩ := h i hi
  have := hK i
  subst this
  exact pe.run pins s σ H Qh I (st r H0 O σ H env Q Qh S hw k)

/-! ### targets -/
abbrev WG := D → SDs → (SDs → Prop) → Prop
def DG (C : List Addr) (X : Cx) (tg : Expr) (ix : List Nat) (w : WG) : Prop := ∃ t, PG X tg t ∧ ∀ (r : Addr) (H0 : Hp) (O : Nat → Option Addr) (σ : L2.St) (H : Hp) (env : SDs) (v : V) (d : D) (Q : SDs → Prop) (Qh : L2.St → Hp → Prop), SI C X.K r H0 O H σ env → Rep X.K r H (fun a => a ≠ r) v d → w d env Q →
  (∀ O' σ' env', Frm r O H O' H → SI C X.K r H0 O' H σ' env' → σ'.length = σ.length → (∀ j, j ∉ ix → σ'[j]? = σ[j]?) → (∀ j a, O' j = some a → O j = some a) → Q env' → Qh σ' H) → t v σ H Qh
theorem unif_g {wg : WG} {ix : List Nat} {I : Type} {P0 : I → Prop} {Xf : I → Cx} {K : PySem.W.Frag} {e : Expr} (hK : ∀ i, (Xf i).K = K) (h : ∀ i, P0 i → DG C (Xf i) e ix wg) :
    ∃ t, (∀ i, P0 i → PG (Xf i) e t) ∧ ∀ (r : Addr) (H0 : Hp) (O : Nat → Option Addr) (σ : L2.St) (H : Hp) (env : SDs) (v : V) (d : D) (Q : SDs → Prop) (Qh : L2.St → Hp → Prop), SI C K r H0 O H σ env → Rep K r H (fun a => a ≠ r) v d → wg d env Q →
      (∀ O' σ' env', Frm r O H O' H → SI C K r H0 O' H σ' env' → σ'.length = σ.length → (∀ j, j ∉ ix → σ'[j]? = σ[j]?) → (∀ j a, O' j = some a → O j = some a) → Q env' → Qh σ' H) → t v σ H Qh := by
  refine ⟨fun v σ H Q => ∀ i, P0 i → ∀ pins s u, Inv (Xf i) pins σ H s → RelV v u → wpAny (model (Xf i).prog (Xf i).w) (Xf i).A (assign e (Xf i).env u) (fun _ s' => ∃ σ' H', Inv (Xf i) pins σ' H' s' ∧ Q σ' H') (Xf i).xe s, fun i hi => ⟨fun pins s σ H v u Q I rv q => q i hi pins s u I rv⟩, ?_⟩
  intro r H0 O σ H env v d Q Qh S hv hw k i hi pins s u I rv
  obtain ⟨t, pe, st⟩ := h i hi
  have := hK i
  subst this
  exact pe.run pins s σ H v u Qh I rv (st r H0 O σ H env v d Q Qh S hv hw k)
def wgN (i : Nat) : WG := fun d env Q => (i < env.length ∧ flat d = true) ∧ Q (env.set i (SD.val d))
variable {X : Cx} {pos p : Pos}
theorem dg_name (i : Nat) {x : Str} (hN : X.N.Nodup) (hi : X.N[i]? = some x) (hx : Loc X.env.scope x) (hf : X.fn x = true ∨ X.env.scope.names.lookup x = some .local := by first | exact .inl rfl | exact .inr rfl | assumption) : DG C X (.Name x pos) [i] (wgN i) := by
  refine ⟨_, pg_name hN hi hx hf, fun r H0 O σ H env v d Q Qh S hv hw k => ?_⟩
  exact k (offO O i) _ _ .off (S.set_val hw.1.1 (hv.flat hw.1.2)) (List.length_set ..) (fun j hj => List.getElem?_set_ne (fun z => hj (by rw [z]; simp))) (fun j a z => (offO_some z).2) hw.2
/-- several targets -/
abbrev WGs := List D → SDs → (SDs → Prop) → Prop
def DGs (C : List Addr) (X : Cx) (tg : List Expr) (ix : List Nat) (w : WGs) : Prop := ∃ t, PGs X tg t ∧ ∀ (r : Addr) (H0 : Hp) (O : Nat → Option Addr) (σ : L2.St) (H : Hp) (env : SDs) (v : List V) (d : List D) (Q : SDs → Prop) (Qh : L2.St → Hp → Prop), SI C X.K r H0 O H σ env → Reps X.K r H (fun a => a ≠ r) v d → w d env Q →
  (∀ O' σ' env', Frm r O H O' H → SI C X.K r H0 O' H σ' env' → σ'.length = σ.length → (∀ j, j ∉ ix → σ'[j]? = σ[j]?) → (∀ j a, O' j = some a → O j = some a) → Q env' → Qh σ' H) → t v σ H Qh
def wgNil : WGs := fun ds env Q => match ds with
  | [] => Q env
  | _ => False
def wgCons (w : WG) (u : WGs) : WGs := fun ds env Q => match ds with
  | d :: ds => w d env fun env' => u ds env' Q
  | _ => False
theorem dgs_nil : DGs C X [] [] wgNil := ⟨_, pgs_nil, fun r H0 O σ H env v d Q Qh S hv hw k => by
  unfold wgNil at hw
  split at hw <;> first | exact hw.elim | skip
  cases hv
  exact ⟨rfl, k O σ env .refl S rfl (fun _ _ => rfl) (fun _ _ z => z) hw⟩⟩
theorem dgs_cons {e : Expr} {es : List Expr} {w : WG} {u : WGs} {ix jx : List Nat} (h : DG C X e ix w) (h2 : DGs C X es jx u) (hs : (assignEach (e :: es) X.env).map (·.2) = assign e X.env :: (assignEach es X.env).map (·.2) := by rfl) : DGs C X (e :: es) (ix ++ jx) (wgCons w u) := by
  obtain ⟨t, pt, st⟩ := h
  obtain ⟨t2, pt2, st2⟩ := h2
  refine ⟨_, pgs_cons pt pt2 hs, fun r H0 O σ H env v d Q Qh S hv hw k => ?_⟩
  unfold wgCons at hw
  split at hw <;> first | exact hw.elim | skip
  cases hv with
  | cons h1 h2 =>
    refine ⟨_, _, rfl, st r H0 O σ H env _ _ _ _ S h1 hw fun O1 σ1 env1 f1 S1 l1 o1 oo1 q1 => ?_⟩
    exact st2 r H0 O1 σ1 H env1 _ _ _ _ S1 h2 q1 fun O2 σ2 env2 f2 S2 l2 o2 oo2 q2 => k O2 σ2 env2 (f1.trans f2) S2 (l2.trans l1) (fun j hj => (o2 j fun z => hj (List.mem_append_right _ z)).trans (o1 j fun z => hj (List.mem_append_left _ z))) (fun j a z => oo1 j a (oo2 j a z)) q2
def wgTup (n : Nat) (u : WGs) : WG := fun d env Q => match d with
  | .tuple ds => ds.length = n ∧ u ds env Q
  | _ => False
theorem dg_tup {es : List Expr} {k : Nat} {u : WGs} {n : Nat} {ix : List Nat} (hc : X.calm = true) (h : DGs C X es ix u)
    (hn : (assignEach es X.env).length = n := by rfl) (hst : (assignEach es X.env).findIdx? (·.1) = none := by rfl) : DG C X (.Tuple es k pos) ix (wgTup n u) := by
  obtain ⟨t, pt, st⟩ := h
  refine ⟨_, pg_tup hc pt hn hst, fun r H0 O σ H env v d Q Qh S hv hw k => ?_⟩
  unfold wgTup at hw
  split at hw <;> first | exact hw.elim | skip
  cases hv with
  | tup ht hs => exact ⟨_, _, rfl, ht, by rw [hs.length]; exact hw.1, st r H0 O σ H env _ _ _ _ S hs hw.2 k⟩

/-! ### walks -/
/-- the items that J hands out -/
def Itm (K : PySem.W.Frag) (r : Addr) (J : It) (H : Hp) (ds : List D) : Prop := ∀ i, (∀ d, ds[i]? = some d → J.go i H ∧ ∀ x H', J.yld i H x H' → Same H H' ∧ Rep K r H' (fun a => a ≠ r) x d) ∧ (ds.length = i → J.stop i H)
/-- a walk that a loop's body leaves alone -/
def DI (C : List Addr) (X : Cx) (tg iter : Expr) (w : WL) : Prop := ∃ t, PI X tg iter t ∧ ∀ (r : Addr) (H0 : Hp) (O : Nat → Option Addr) (σ : L2.St) (H : Hp) (env : SDs) (Q : List D → Prop) (R : It → Hp → Prop), SI C X.K r H0 O H σ env → w env Q →
  (∀ J H1 ds, Ext r H H1 → Good C X.K r H1 → (∀ O' H', Frm r O H1 O' H' → Itm X.K r J H' ds) → Q ds → R J H1) → t σ H R
/-- a walk inside which nothing is changed -/
def DJ (C : List Addr) (X : Cx) (tg iter : Expr) (w : WL) : Prop := ∃ t, PI X tg iter t ∧ ∀ (r : Addr) (H0 : Hp) (O : Nat → Option Addr) (σ : L2.St) (H : Hp) (env : SDs) (Q : List D → Prop) (R : It → Hp → Prop), SI C X.K r H0 O H σ env → w env Q →
  (∀ J H1 ds, Ext r H H1 → Good C X.K r H1 → (∀ H', Ext r H1 H' → Itm X.K r J H' ds) → Q ds → R J H1) → t σ H R
variable {tg e a b c : Expr} {wa wb wc : WE} {wl : WL}
theorem DI.dj (h : DI C X tg e wl) : DJ C X tg e wl := by
  obtain ⟨t, pt, st⟩ := h
  exact ⟨t, pt, fun r H0 O σ H env Q R S hw k => st r H0 O σ H env Q R S hw fun J H1 ds e1 g1 it q => k J H1 ds e1 g1 (fun H' e' => it O H' (.of_ext e')) q⟩
/-- how many: a range -/
def rngD (lo c : Int) (n : Nat) : List D := (List.range n).map fun k => .int (lo + (k : Nat) * c)
theorem rngD_get {lo c : Int} {n i : Nat} {d : D} (h : (rngD lo c n)[i]? = some d) : i < n ∧ d = .int (lo + (i : Nat) * c) := by
  unfold rngD at h
  rw [List.getElem?_map] at h
  by_cases hi : i < n
  · rw [List.getElem?_range hi] at h
    exact ⟨hi, (Option.some.inj h).symm⟩
  · rw [List.getElem?_eq_none (by simp; omega)] at h
    cases h
theorem itm_rng {K : PySem.W.Frag} {r : Addr} {H : Hp} {lo : Int} {n : Nat} : Itm K r (Itr lo n) H (rngD lo 1 n) := fun i => ⟨fun d hd => by
  obtain ⟨hi, rfl⟩ := rngD_get hd
  refine ⟨hi, fun x H' ⟨e1, e2⟩ => ?_⟩
  subst e1 e2
  rw [Int.mul_one]
  exact ⟨.refl _, .int⟩, fun h => by
  have h : (rngD lo 1 n).length = i := h
  simp only [rngD, List.length_map, List.length_range] at h
  exact Nat.le_of_eq h⟩
theorem itm_rngC {K : PySem.W.Frag} {r : Addr} {H : Hp} {lo c : Int} {n : Nat} : Itm K r (Itc lo c n) H (rngD lo c n) := fun i => ⟨fun d hd => by
  obtain ⟨hi, rfl⟩ := rngD_get hd
  refine ⟨hi, fun x H' ⟨e1, e2⟩ => ?_⟩
  subst e1 e2
  exact ⟨.refl _, .int⟩, fun h => by
  have h : (rngD lo c n).length = i := h
  simp only [rngD, List.length_map, List.length_range] at h
  exact Nat.le_of_eq h⟩
def IntOk (i : Int) : Prop := -(2 ^ 62) ≤ i ∧ i < 2 ^ 62
def fRng1 : List D → (List D → Prop) → Prop
  | [.int j], Q => IntOk j ∧ Q (rngD 0 1 j.toNat)
  | _, _ => False
def fRng2 : List D → (List D → Prop) → Prop
  | [.int i, .int j], Q => (IntOk i ∧ IntOk j) ∧ Q (rngD i 1 (j - i).toNat)
  | _, _ => False
/-- range(i, j, -1) -/
def fRng3 : List D → (List D → Prop) → Prop
  | [.int i, .int j, .int c], Q => (c = -1 ∧ IntOk i ∧ IntOk j) ∧ Q (rngD i (-1) (i - j).toNat)
  | _, _ => False
def wFnL (f : List D → (List D → Prop) → Prop) (wl : WL) : WL := fun env Q => wl env fun ds => f ds Q
theorem di_range1 {p pos : Pos} (hg : Gl X "range") (hm : X.mg "range" = none) (ha : DA C X [a] wl) (hs : starEach [a] X.env = [(false, eval a X.env)] := by rfl) : DI C X tg (.Call (.Name "range" p) [a] [] pos) (wFnL fRng1 wl) := by
  obtain ⟨t, pa, st⟩ := ha
  refine ⟨_, pi_range1 hg hm pa hs, fun r H0 O σ H env Q R S hw k => st r H0 O σ H env _ _ S hw fun vs H1 ds e1 g1 r1 q => ?_⟩
  unfold fRng1 at q
  split at q <;> first | exact q.elim | skip
  obtain ⟨v, rfl, h⟩ := reps1 r1
  cases h
  exact ⟨_, rfl, q.1.1, q.1.2, k _ H1 _ e1 g1 (fun _ _ _ => itm_rng) q.2⟩
theorem di_range2 {p pos : Pos} (hg : Gl X "range") (hm : X.mg "range" = none) (ha : DA C X [a, b] wl) (hs : starEach [a, b] X.env = [(false, eval a X.env), (false, eval b X.env)] := by rfl) (hs2 : starEach [b] X.env = [(false, eval b X.env)] := by rfl) : DI C X tg (.Call (.Name "range" p) [a, b] [] pos) (wFnL fRng2 wl) := by
  obtain ⟨t, pa, st⟩ := ha
  refine ⟨_, pi_range2 hg hm pa hs hs2, fun r H0 O σ H env Q R S hw k => st r H0 O σ H env _ _ S hw fun vs H1 ds e1 g1 r1 q => ?_⟩
  unfold fRng2 at q
  split at q <;> first | exact q.elim | skip
  obtain ⟨v, v', rfl, h, h'⟩ := reps2 r1
  cases h; cases h'
  exact ⟨_, _, rfl, ⟨q.1.1.1, q.1.1.2, q.1.2.1, q.1.2.2⟩, k _ H1 _ e1 g1 (fun _ _ _ => itm_rng) q.2⟩
theorem di_range3 {p pos : Pos} (hg : Gl X "range") (hm : X.mg "range" = none) (ha : DA C X [a, b, c] wl) (hs : starEach [a, b, c] X.env = (false, eval a X.env) :: starEach [b, c] X.env := by rfl) (hpl : (backTo pos (starEach [b, c] X.env)).any (·.1) = false := by rfl) : DI C X tg (.Call (.Name "range" p) [a, b, c] [] pos) (wFnL fRng3 wl) := by
  obtain ⟨t, pa, st⟩ := ha
  refine ⟨_, pi_range3 hg hm pa hs hpl, fun r H0 O σ H env Q R S hw k => st r H0 O σ H env _ _ S hw fun vs H1 ds e1 g1 r1 q => ?_⟩
  unfold fRng3 at q
  split at q <;> first | exact q.elim | skip
  cases r1 with
  | cons h1 r2 =>
    obtain ⟨v, v', rfl, h, h'⟩ := reps2 r2
    cases h1; cases h; cases h'
    obtain ⟨⟨rfl, z1, z2⟩, q⟩ := q
    exact ⟨_, _, _, _, rfl, RgC.neg z1.1 z1.2 z2.1 z2.2, k _ H1 _ e1 g1 (fun _ _ _ => itm_rngC) q⟩

/-! tuples and lists -/
def iSeq (K : PySem.W.Frag) (tl : TE) : TI := fun σ H R => tl σ H fun x H1 => ∃ a, x = .ref a ∧ (((∃ xs, SqL K H1 a xs) ∧ R (Itl K a) H1) ∨ ((∃ xs, SqT K H1 a xs) ∧ R (Itt K a) H1))
theorem pi_seq {l : Expr} {tl : TE} (hl : PE X l tl) : PI X tg l (iSeq X.K tl) := by
  refine ⟨fun pins s σ H R I h => ?_⟩
  refine thn (hl.run pins s σ H _ I h) fun v s1 ⟨x, H1, I1, r1, q1⟩ => ?_
  obtain ⟨a, e, q⟩ := q1
  subst e
  cases r1
  have fp : ∀ b ∈ [s1.heap.objs.size], FpOk X pins H1 b := fun b hb => by
    have e : b = s1.heap.objs.size := by simpa using hb
    subst e
    exact I1.fpOk (Nat.le_refl _) (I1.hok.fresh (Nat.le_refl _))
  rcases q with ⟨⟨xs, hq⟩, q⟩ | ⟨⟨xs, hq⟩, q⟩
  · obtain ⟨its, rv, p, hz⟩ := I1.list hq
    refine wpAny_pyIter_list p.isList ?_
    exact ⟨s1.heap.objs.size, [s1.heap.objs.size], _, _, H1, rfl, I1.kept (t' := s1.toks) fun b o e => Heap.get?_push_of_some _ e, turn_list a _, ⟨_, Heap.get?_push_size _ rfl, rfl, rfl⟩, fp, q⟩
  · obtain ⟨its, rv, p, hz⟩ := I1.tuple hq
    refine wpAny_pyIter_tuple (show s1.heap.IsTuple a its.toArray from p) ?_
    exact ⟨s1.heap.objs.size, [s1.heap.objs.size], _, _, H1, rfl, I1.kept (t' := s1.toks) fun b o e => Heap.get?_push_of_some _ e, turn_tuple a _, ⟨_, Heap.get?_push_size _ rfl, rfl, rfl⟩, fp, q⟩
theorem itm_list {K : PySem.W.Frag} {r a : Addr} {H : Hp} {xs : List V} {ds : List D} (h : H a = some (.lst xs)) (hr : Reps K r H (fun a => a ≠ r) xs ds) : Itm K r (Itl K a) H ds := fun i => ⟨fun d hd => by
  obtain ⟨v, h1, h2⟩ := hr.get hd
  refine ⟨⟨xs, v, SqL.of h, h1⟩, fun x H' ⟨e1, e2⟩ => ?_⟩
  subst e1
  have := e2 xs (SqL.of h)
  rw [h1] at this
  cases this
  exact ⟨.refl _, h2⟩, fun hi => ⟨xs, SqL.of h, by rw [hr.length]; exact Nat.le_of_eq hi⟩⟩
theorem itm_tup {K : PySem.W.Frag} {r a : Addr} {H : Hp} {xs : List V} {ds : List D} (h : SqT K H a xs) (hr : Reps K r H (fun a => a ≠ r) xs ds) : Itm K r (Itt K a) H ds := fun i => ⟨fun d hd => by
  obtain ⟨v, h1, h2⟩ := hr.get hd
  refine ⟨⟨xs, v, h, h1⟩, fun x H' ⟨e1, e2⟩ => ?_⟩
  subst e1
  have := e2 xs h
  rw [h1] at this
  cases this
  exact ⟨.refl _, h2⟩, fun hi => ⟨xs, h, by rw [hr.length]; exact Nat.le_of_eq hi⟩⟩
theorem Frm.tup {r : Addr} {O O' : Nat → Option Addr} {H H' : Hp} (f : Frm r O H O' H') {a : Addr} {xs : List V} (h : H a = some (.tup xs)) : H' a = some (.tup xs) := by
  rcases f.keep a _ h with ⟨ps, z⟩ | ⟨_, ys, z⟩ | ⟨_, z⟩ | z <;> first | cases z | exact z | exact z.elim
theorem Frm.frz {r : Addr} {O O' : Nat → Option Addr} {H H' : Hp} (f : Frm r O H O' H') {a : Addr} {o : Obj} {u : HO} (h : H a = some (.frz o u)) : H' a = some (.frz o u) := by
  rcases f.keep a _ h with ⟨ps, z⟩ | ⟨_, ys, z⟩ | ⟨_, z⟩ | z <;> first | cases z | exact z | exact z.elim
theorem Frm.sqT {r : Addr} {O O' : Nat → Option Addr} {H H' : Hp} (f : Frm r O H O' H') {K : PySem.W.Frag} {a : Addr} {xs : List V} (h : SqT K H a xs) : SqT K H' a xs := by
  rcases h with (h | ⟨o, h⟩) | h
  · exact .inl (.inl (f.tup h))
  · exact .inl (.inr ⟨o, f.frz h⟩)
  · exact .inr h
theorem Frm.lst {r : Addr} {O O' : Nat → Option Addr} {H H' : Hp} (f : Frm r O H O' H') {a : Addr} {xs : List V} (hr : a ≠ r) (ho : ∀ j, O j ≠ some a) (h : H a = some (.lst xs)) : H' a = some (.lst xs) := by
  rcases f.keep a _ h with ⟨ps, z⟩ | ⟨q, _⟩ | ⟨⟨j, q⟩, _⟩ | z
  · cases z
  · exact absurd q hr
  · exact absurd q (ho j)
  · exact z
theorem Frm.rd {r : Addr} {O O' : Nat → Option Addr} {H H' : Hp} (f : Frm r O H O' H') {a : Addr} {kvs : List (Key × V)} (ho : ∀ j, O j ≠ some a) (h : Rd H a (.dK kvs)) : Rd H' a (.dK kvs) := by
  rcases h with h | ⟨o, h⟩
  · rcases f.keep a _ h with ⟨ps, z⟩ | ⟨q, xs, z⟩ | ⟨⟨j, q⟩, _⟩ | z
    · cases z
    · cases z
    · exact absurd q (ho j)
    · exact .inl z
  · exact .inr ⟨o, f.frz h⟩
theorem Rep.frm {K : PySem.W.Frag} {r : Addr} {O O' : Nat → Option Addr} {H H' : Hp} (f : Frm r O H O' H') {P : Addr → Prop} (hP : ∀ a, P a → Pv O r a) {v : V} {d : D} (h : Rep K r H P v d) : Rep K r H' P v d := h.lift (fun _ _ x => f.sqT x) (fun _ _ p x => f.lst (hP _ p).1 (hP _ p).2 x) (fun _ _ p x => f.rd (hP _ p).2 x) fun _ p _ => p
theorem Reps.frm {K : PySem.W.Frag} {r : Addr} {O O' : Nat → Option Addr} {H H' : Hp} (f : Frm r O H O' H') {P : Addr → Prop} (hP : ∀ a, P a → Pv O r a) {v : List V} {d : List D} (h : Reps K r H P v d) : Reps K r H' P v d := h.lift (fun _ _ x => f.sqT x) (fun _ _ p x => f.lst (hP _ p).1 (hP _ p).2 x) (fun _ _ p x => f.rd (hP _ p).2 x) fun _ p _ => p
/-- the items of a tuple or a list -/
def dSeq (d : D) (Q : List D → Prop) : Prop := match d with
  | .tuple ds => Q ds
  | .list ds => Q ds
  | _ => False
def wSeq1 (w : WE) : WL := fun env Q => w env fun d => dSeq d Q
/-- .. inside which nothing is changed -/
theorem dj_seq (h : DE C X e wa) : DJ C X tg e (wSeq1 wa) := by
  obtain ⟨t, pe, st⟩ := h
  refine ⟨_, pi_seq pe, fun r H0 O σ H env Q R S hw k => st r H0 O σ H env _ _ S hw fun v H1 d e1 g1 r1 q => ?_⟩
  cases r1 with
  | tup ht hs => exact ⟨_, rfl, .inr ⟨⟨_, ht⟩, k _ H1 _ e1 g1 (fun H' e' => itm_tup (e'.sqT ht) (hs.ext e' (fun _ z => z) fun _ z => z)) q⟩⟩
  | lst hp hl hs => exact ⟨_, rfl, .inl ⟨⟨_, SqL.of hl⟩, k _ H1 _ e1 g1 (fun H' e' => itm_list (e'.lst hp hl) (hs.ext e' (fun _ z => z) fun _ z => z)) q⟩⟩
  | _ => exact q.elim
/-- .. flat tuples -/
def wSeqT (w : WE) : WL := fun env Q => w env fun d => match d with
  | .tuple ds => flats ds = true ∧ Q ds
  | _ => False
theorem di_tup (h : DE C X e wa) : DI C X tg e (wSeqT wa) := by
  obtain ⟨t, pe, st⟩ := h
  refine ⟨_, pi_seq pe, fun r H0 O σ H env Q R S hw k => st r H0 O σ H env _ _ S hw fun v H1 d e1 g1 r1 q => ?_⟩
  cases r1 with
  | tup ht hs => exact ⟨_, rfl, .inr ⟨⟨_, ht⟩, k _ H1 _ e1 g1 (fun O' H' f => itm_tup (f.sqT ht) (((hs.flats (P' := Pv O r) q.1).frm f fun _ z => z).mono fun _ z => z.1)) q.2⟩⟩
  | _ => exact q.elim
/-- .. new lists -/
theorem di_new (h : DN C X e wl) : DI C X tg e wl := by
  obtain ⟨t, pe, st⟩ := h
  refine ⟨_, pi_seq pe, fun r H0 O σ H env Q R S hw k => st r H0 O σ H env _ _ S hw fun p H1 vs ds e1 g1 np h1 h2 q => ?_⟩
  have pn := S.fresh np
  refine ⟨_, rfl, .inl ⟨⟨_, SqL.of h1⟩, k _ H1 _ e1 g1 (fun O' H' f => itm_list (f.lst pn.1 pn.2.1 h1) ((h2.frm f fun _ z => ⟨z.1.1, z.1.2.1⟩).mono fun _ z => z.1.1)) q⟩⟩
def wVarS (i : Nat) : WL := fun env Q => match env[i]? with
  | some (SD.val d) => dSeq d Q
  | _ => False
/-- .. what stands in a slot -/
theorem di_var (i : Nat) {x : Str} (hN : X.N[i]? = some x := by rfl) (hv : Vis X.env.scope x := by first | exact Or.inl rfl | exact Or.inr (Or.inl rfl) | exact Or.inr (Or.inr rfl)) (hd : (x == ("__debug__" : Str)) = false := by decide)
    (hcd : (x == ("__classdict__" : Str)) = false := by decide) : DI C X tg (.Name x pos) (wVarS i) := by
  refine ⟨_, pi_seq (pe_var hN hv hd hcd), fun r H0 O σ H env Q R S hw k => ?_⟩
  unfold wVarS at hw
  split at hw <;> first | exact hw.elim | skip
  rename_i d hd
  obtain ⟨v, h1, h2⟩ := S.val i d hd
  refine ⟨v, h1, ?_⟩
  cases h2 with
  | tup ht hs => exact ⟨_, rfl, .inr ⟨⟨_, ht⟩, k _ H _ (.refl _ _) S.good (fun O' H' f => itm_tup (f.sqT ht) ((hs.frm f fun _ z => z).mono fun _ z => z.1)) hw⟩⟩
  | lst hp hl hs => exact ⟨_, rfl, .inl ⟨⟨_, SqL.of hl⟩, k _ H _ (.refl _ _) S.good (fun O' H' f => itm_list (f.lst hp.1 hp.2 hl) ((hs.frm f fun _ z => z).mono fun _ z => z.1)) hw⟩⟩
  | _ => exact hw.elim
end
section
variable {C : List Addr} {X : Cx} {W : WX} {e tg iter elt : Expr} {body : List Stmt} {ws wb : WS} {wl : WL} {wg : WG} {ix : List Nat} {pos : Pos} {wt : WT} {we : WE} {st : Stmt}

/-- a list of one's own is given up -/
def wDis (i : Nat) (w : WS) : WS := fun K env => onOwn env i fun ds => w K (env.set i (SD.val (.list ds)))
theorem ds_dis (i : Nat) (h : DS C X W st ws) : DS C X W st (wDis i ws) := by
  obtain ⟨t, ps, s⟩ := h
  refine ⟨t, ps, fun r H0 O σ H env Kd E S hw m => ?_⟩
  obtain ⟨ds, he, hw⟩ := onOwn_some hw
  exact s r H0 _ σ H _ Kd E (S.disown he) hw (m.from .off)
theorem dss_dis {sts : List Stmt} (i : Nat) (h : DSs C X W sts ws) : DSs C X W sts (wDis i ws) := by
  obtain ⟨t, ps, s⟩ := h
  refine ⟨t, ps, fun r H0 O σ H env Kd E S hw m => ?_⟩
  obtain ⟨ds, he, hw⟩ := onOwn_some hw
  exact s r H0 _ σ H _ Kd E (S.disown he) hw (m.from .off)

/-! ### for -/
def forW (wg : WG) (wb : WS) (K : KD) : List D → SDs → Prop
  | [], env => K.nx env
  | d :: ds, env => wg d env fun env' => wb { K with nx := forW wg wb K ds, ct := forW wg wb K ds, bk := K.nx } env'
def wFor (wl : WL) (wg : WG) (wb : WS) : WS := fun K env => wl env fun ds => forW wg wb K ds env
theorem ds_for (hp : PassesOwn (model X.prog X.w) X.A X.env X.xe) (hc : X.calm = true) (hi : DI C X tg iter wl) (hg : DG C X tg ix wg) (hb : DSs C X W body wb)
    (hs : ∀ x, foldedSetIterable iter X.env x = pure x := by intro _; rfl) : DS C X W (.For tg iter body [] pos) (wFor wl wg wb) := by
  obtain ⟨ti, pi, si⟩ := hi
  obtain ⟨tgt, pg, sg⟩ := hg
  obtain ⟨tb, pb, sb⟩ := hb
  refine ⟨_, ps_for hp hc pi pg pb hs, fun r H0 O σ H env Kd E S hw m => si r H0 O σ H env _ _ S hw fun J H1 ds e1 g1 it q => ?_⟩
  have S1 := S.step e1 g1
  refine ⟨fun i n σ' H' => n = ds.length - i ∧ i ≤ ds.length ∧ ∃ O' env', Frm r O H1 O' H' ∧ SI C X.K r H0 O' H' σ' env' ∧ forW wg wb Kd (ds.drop i) env', ⟨ds.length, rfl, Nat.zero_le _, O, env, .refl, S1, by simpa using q⟩, ?_⟩
  rintro i n σ2 H2 ⟨rfl, hi, O2, env2, f2, S2, q2⟩
  obtain ⟨a1, a2⟩ := it O2 H2 f2 i
  by_cases hlt : i < ds.length
  · have hd : ds[i]? = some ds[i] := by simp [hlt]
    obtain ⟨go, y⟩ := a1 _ hd
    rw [List.drop_eq_getElem_cons hlt] at q2
    refine .inr ⟨go, fun σ' H' => i + 1 ≤ ds.length ∧ ∃ O' env', Frm r O H1 O' H' ∧ SI C X.K r H0 O' H' σ' env' ∧ forW wg wb Kd (ds.drop (i + 1)) env', fun σ' H' z => ⟨ds.length - (i + 1), by omega, rfl, z.1, z.2⟩, fun x H3 hy => ?_⟩
    obtain ⟨sm, rx⟩ := y x H3 hy
    have e3 : Ext r H2 H3 := .of_same sm
    have S3 := S2.step e3 (S2.good.same sm)
    have f3 : Frm r O H1 O2 H3 := f2.trans (.of_ext e3)
    refine sg r H0 O2 σ2 H3 env2 x _ _ _ S3 rx q2 fun O4 σ4 env4 f4 S4 _ _ _ q4 => ?_
    have f14 : Frm r O H1 O4 H3 := f3.trans f4
    have f04 : Frm r O H O4 H3 := (Frm.of_ext e1).trans f14
    refine sb r H0 O4 σ4 H3 env4 _ _ S4 q4 ⟨fun O' σ' H' env' f S' z => ⟨hlt, O', env', f14.trans f, S', z⟩, fun O' σ' H' env' f S' z => m.nx O' σ' H' env' (f04.trans f) S' z, fun O' σ' H' env' f S' z => ⟨hlt, O', env', f14.trans f, S', z⟩, m.rt, m.ex⟩
  · have e : i = ds.length := by omega
    subst e
    rw [List.drop_length] at q2
    exact .inl ⟨a2 rfl, m.nx O2 σ2 H2 env2 ((Frm.of_ext e1).trans f2) S2 q2⟩

/-! ### while -/
def wWhile (wt : WT) (wb : WS) : WS := fun K env => ∃ I : Nat → SDs → Prop, (∃ n, I n env) ∧ ∀ n env, I n env → wt env fun c => if c = true then wb { K with nx := fun env' => ∃ n', n' < n ∧ I n' env', ct := fun env' => ∃ n', n' < n ∧ I n' env', bk := K.nx } env else K.nx env
theorem ds_while (hp : PassesOwn (model X.prog X.w) X.A X.env X.xe) (hc : DT C X e wt) (hb : DSs C X W body wb) : DS C X W (.While e body [] pos) (wWhile wt wb) := by
  obtain ⟨tc, pc, sc⟩ := hc
  obtain ⟨tb, pb, sb⟩ := hb
  refine ⟨_, ps_while hp pc pb, fun r H0 O σ H env Kd E S ⟨I, ⟨n0, i0⟩, hI⟩ m => ?_⟩
  refine ⟨fun n σ' H' => ∃ O' env', Frm r O H O' H' ∧ SI C X.K r H0 O' H' σ' env' ∧ I n env', ⟨n0, O, env, .refl, S, i0⟩, ?_⟩
  rintro n σ2 H2 ⟨O2, env2, f2, S2, i2⟩
  refine sc r H0 O2 σ2 H2 env2 _ _ S2 (hI n env2 i2) fun c H3 e3 g3 q => ?_
  have S3 := S2.step e3 g3
  have f3 := f2.trans (.of_ext e3)
  cases c with
  | true =>
    refine ⟨fun σ' H' => ∃ n', n' < n ∧ ∃ O' env', Frm r O H O' H' ∧ SI C X.K r H0 O' H' σ' env' ∧ I n' env', fun σ' H' z => z, ?_⟩
    exact sb r H0 O2 σ2 H3 env2 _ _ S3 q ⟨fun O' σ' H' env' f S' ⟨n', l, z⟩ => ⟨n', l, O', env', f3.trans f, S', z⟩, fun O' σ' H' env' f S' z => m.nx O' σ' H' env' (f3.trans f) S' z, fun O' σ' H' env' f S' ⟨n', l, z⟩ => ⟨n', l, O', env', f3.trans f, S', z⟩, m.rt, m.ex⟩
  | false => exact m.nx O2 σ2 H3 env2 f3 S3 q

/-! ### the slots of a comprehension -/
def wipeE (env : SDs) : List Nat → SDs
  | [] => env
  | v :: vs => (wipeE env vs).set v SD.no
theorem wipeE_length (env : SDs) : ∀ vs : List Nat, (wipeE env vs).length = env.length
  | [] => rfl
  | v :: vs => by unfold wipeE; rw [List.length_set, wipeE_length env vs]
theorem wipeE_get {env : SDs} : ∀ {vs : List Nat} {i : Nat}, i ∉ vs → (wipeE env vs)[i]? = env[i]?
  | [], i, _ => rfl
  | v :: vs, i, h => by
    show ((wipeE env vs).set v SD.no)[i]? = _
    rw [List.getElem?_set_ne (fun z => h (by rw [z]; simp)), wipeE_get fun z => h (List.mem_cons_of_mem _ z)]
theorem wipeE_in {env : SDs} : ∀ {vs : List Nat} {i : Nat} {x : SD}, i ∈ vs → (wipeE env vs)[i]? = some x → x = SD.no
  | [], i, x, h, _ => by cases h
  | v :: vs, i, x, h, e => by
    have e : ((wipeE env vs).set v SD.no)[i]? = some x := e
    by_cases hv : v = i
    · subst hv
      by_cases hl : v < (wipeE env vs).length
      · rw [List.getElem?_set_self hl] at e; exact (Option.some.inj e).symm
      · rw [List.getElem?_eq_none (by rw [List.length_set]; omega)] at e; cases e
    · rw [List.getElem?_set_ne hv] at e
      exact wipeE_in ((List.mem_cons.mp h).resolve_left (Ne.symm hv)) e
variable {K : PySem.W.Frag} {r : Addr} {H0 H : Hp} {O : Nat → Option Addr} {σ : L2.St} {env : SDs}
theorem SI.wiped (S : SI C K r H0 O H σ env) (vs : List Nat) : SI C K r H0 O H (wipe σ vs) (wipeE env vs) := by
  have out : ∀ {i : Nat} {x : SD}, (wipeE env vs)[i]? = some x → x ≠ SD.no → i ∉ vs := fun e n z => n (wipeE_in z e)
  refine S.weak (by rw [wipe_length, wipeE_length]; exact S.len) (fun i d e => ?_) (fun i sd e zo => ?_)
  · have z := out e (by intro z; cases z)
    exact ⟨by rw [← wipeE_get z]; exact e, wipe_out z⟩
  · have z := out e (by intro z; rw [z] at zo; exact zo)
    exact ⟨by rw [← wipeE_get z]; exact e, wipe_out z⟩
theorem wipe_same {σ σ' : L2.St} {vs : List Nat} (hl : σ'.length = σ.length) (ho : ∀ j, j ∉ vs → σ'[j]? = σ[j]?) : wipe σ' vs = wipe σ vs := by
  apply List.ext_getElem?
  intro i
  by_cases hi : i ∈ vs
  · have one : ∀ (τ : L2.St) (ws : List Nat), i ∈ ws → (wipe τ ws)[i]? = if i < τ.length then some none else none := by
      intro τ ws
      induction ws with
      | nil => intro h; cases h
      | cons w ws ih =>
        intro h
        show ((wipe τ ws).set w none)[i]? = _
        by_cases e : w = i
        · subst e
          by_cases hl : w < τ.length
          · rw [if_pos hl, List.getElem?_set_self (by rw [wipe_length]; exact hl)]
          · rw [if_neg hl, List.getElem?_eq_none (by rw [List.length_set, wipe_length]; omega)]
        · rw [List.getElem?_set_ne e]
          rcases List.mem_cons.mp h with z | z
          · exact absurd z.symm e
          · exact ih z
    rw [one _ _ hi, one _ _ hi, hl]
  · rw [wipe_out hi, wipe_out hi, ho i hi]
/-- a list is written: what does not lie there stays -/
theorem Reps.write {P : Addr → Prop} {a : Addr} {vs ws : List V} (hv : H a = some (.lst vs)) (hP : ∀ b, P b → b ≠ a) {us : List V} {ds : List D} (h : Reps K r H P us ds) : Reps K r (upd H a (.lst ws)) P us ds := by
  refine h.lift (fun b xs q => ?_) (fun b xs pb l => by rw [upd_ne (hP b pb)]; exact l) (fun b kvs pb l => by unfold Rd; rw [upd_ne (hP b pb)]; exact l) fun _ p _ => p
  rcases q with (q | ⟨o, q⟩) | q
  · exact .inl (.inl (by rw [upd_ne (ne_of q hv (by intro z; cases z))]; exact q))
  · exact .inl (.inr ⟨o, by rw [upd_ne (ne_of q hv (by intro z; cases z))]; exact q⟩)
  · exact .inr q

/-! ### list comprehensions -/
def lcW (wg : WG) (wt : WT) (we : WE) (env : SDs) (Q : List D → Prop) : List D → List D → Prop
  | [], acc => Q acc
  | d :: ds, acc => wg d env fun env' => wt env' fun c => if c = true then we env' fun y => (acc.length < 16777216 ∧ flat y = true) ∧ lcW wg wt we env Q ds (acc ++ [y]) else lcW wg wt we env Q ds acc
def wLc (wl : WL) (wg : WG) (wt : WT) (we : WE) (vs : List Nat) : WL := fun env Q => wl env fun ds => lcW wg wt we (wipeE env vs) Q ds []
/-- .. of new lists -/
def lcWN (wg : WG) (wt : WT) (we : WL) (env : SDs) (Q : List D → Prop) : List D → List D → Prop
  | [], acc => Q acc
  | d :: ds, acc => wg d env fun env' => wt env' fun c => if c = true then we env' fun y => (acc.length < 16777216 ∧ flats y = true) ∧ lcWN wg wt we env Q ds (acc ++ [.list y]) else lcWN wg wt we env Q ds acc
def wLcN (wl : WL) (wg : WG) (wt : WT) (we : WL) (vs : List Nat) : WL := fun env Q => wl env fun ds => lcWN wg wt we (wipeE env vs) Q ds []
abbrev bcx (X : Cx) (scope : Scope) (i : Shared × Hp × Addr × List (Str × Addr) × List Addr) : Cx := X.blk i.1 i.2.1 scope (compEnvC scope i.2.2.2.1 i.2.2.1 X.env) i.2.2.2.2
/-- the reading of a list comprehension -/
theorem lc_read {tgt : TG} {ttt : TT} {tee : TE} {vs : List Nat} {ds : List D} {J : It} {H1 : Hp} {Q : List D → Prop} {Qh : VK}
    (S : SI C K r H0 O H1 σ env) (it : ∀ H', Ext r H1 H' → Itm K r J H' ds) (hix : ∀ i ∈ ix, i ∈ vs) (F : List D → List D → Prop) (h0 : F ds [])
    (hF0 : ∀ acc, F [] acc → Q acc)
    (turn : ∀ d ds' acc (x : V) (p : Addr) (us : List V) (H2 : Hp) (Nx : Hp → Prop), SI C K r H0 O H2 (wipe σ vs) (wipeE env vs) → Rep K r H2 (fun a => a ≠ r) x d → F (d :: ds') acc → Po O r H0 p → H2 p = some (.lst us) → us.length = acc.length →
      (∀ H3, Ext r H2 H3 → Good C K r H3 → F ds' acc → Nx H3) →
      (∀ y dy H4, Ext r H2 H4 → Good C K r H4 → acc.length < 16777216 → Rep K r H4 (fun a => Po O r H0 a ∧ a ≠ p) y dy → F ds' (acc ++ [dy]) → Nx (upd H4 p (.lst (us ++ [y])))) →
      tgt x (wipe σ vs) H2 fun σ2 H2 => wipe σ2 vs = wipe σ vs ∧ ttt σ2 H2 fun b H3 => if b = true then tee σ2 H3 fun y H4 => ∃ acc, H4 p = some (.lst acc) ∧ acc.length < sizeLine ∧ Nx (upd H4 p (.lst (acc ++ [y]))) else Nx H3)
    (k : ∀ p H' us acc, Ext r H1 H' → Good C K r H' → H1 p = none → H' p = some (.lst us) → Reps K r H' (fun a => Po O r H0 a ∧ a ≠ p) us acc → Q acc → Qh (.ref p) H') :
    ∀ D, H1 D = none → ∃ W : Nat → Nat → Hp → Prop, (∃ m, W 0 m (upd H1 D (.lst []))) ∧ ∀ i m H, W i m H →
      (J.stop i H ∧ Qh (.ref D) H) ∨ (J.go i H ∧ ∃ Nx : Hp → Prop, (∀ H', Nx H' → ∃ m', m' < m ∧ W (i + 1) m' H') ∧ ∀ x H', J.yld i H x H' → tgt x (wipe σ vs) H' fun σ2 H2 => wipe σ2 vs = wipe σ vs ∧ ttt σ2 H2 fun b H3 =>
        if b = true then tee σ2 H3 fun y H4 => ∃ acc, H4 D = some (.lst acc) ∧ acc.length < sizeLine ∧ Nx (upd H4 D (.lst (acc ++ [y]))) else Nx H3) := by
  intro p np
  have pn := S.fresh np
  refine ⟨fun i n H' => n = ds.length - i ∧ i ≤ ds.length ∧ Ext r H1 H' ∧ Good C K r H' ∧ ∃ us acc, H' p = some (.lst us) ∧ Reps K r H' (fun a => Po O r H0 a ∧ a ≠ p) us acc ∧ F (ds.drop i) acc, ⟨ds.length, rfl, Nat.zero_le _, .upd np, S.good.upd np, [], [], upd_same, .nil, by simpa using h0⟩, ?_⟩
  rintro i n H2 ⟨rfl, hi, e2, g2, us, acc, l2, r2, q2⟩
  obtain ⟨a1, a2⟩ := it H2 e2 i
  by_cases hlt : i < ds.length
  · have hd : ds[i]? = some ds[i] := by simp [hlt]
    obtain ⟨go, y⟩ := a1 _ hd
    rw [List.drop_eq_getElem_cons hlt] at q2
    refine .inr ⟨go, fun H' => Ext r H1 H' ∧ Good C K r H' ∧ ∃ us acc, H' p = some (.lst us) ∧ Reps K r H' (fun a => Po O r H0 a ∧ a ≠ p) us acc ∧ F (ds.drop (i + 1)) acc, fun H' z => ⟨ds.length - (i + 1), by omega, rfl, hlt, z⟩, fun x H3 hy => ?_⟩
    obtain ⟨sm, rx⟩ := y x H3 hy
    have e3 : Ext r H2 H3 := .of_same sm
    have g3 := g2.same sm
    have S3 := (S.step (e2.trans e3) g3).wiped vs
    have l3 := e3.lst pn.1 l2
    have r3 := r2.ext e3 (P' := fun a => Po O r H0 a ∧ a ≠ p) (fun _ z => z.1.1) fun _ z => z
    refine turn ds[i] (ds.drop (i + 1)) acc x p us H3 _ S3 rx q2 pn l3 r3.length (fun H4 e4 g4 f4 => ?_) fun v dv H4 e4 g4 hl rv f4 => ?_
    · exact ⟨(e2.trans e3).trans e4, g4, us, acc, e4.lst pn.1 l3, r3.ext e4 (fun _ z => z.1.1) fun _ z => z, f4⟩
    · have l4 := e4.lst pn.1 l3
      have r4 := r3.ext e4 (P' := fun a => Po O r H0 a ∧ a ≠ p) (fun _ z => z.1.1) fun _ z => z
      have E : Ext r H1 H4 := (e2.trans e3).trans e4
      refine ⟨⟨fun b o hb => ?_, fun b hb => ?_, fun q h => tabW_write l4 (E.tab q h)⟩, g4.write l4 pn.1, us ++ [v], acc ++ [dv], upd_same, (r4.append (.cons rv .nil)).write l4 (fun _ z => z.2), f4⟩
      · rcases E.keep b o hb with z | z | z
        · exact .inl z
        · exact .inr (.inl z)
        · exact .inr (.inr (by rw [upd_ne (ne_of_none hb np)]; exact z))
      · by_cases hbp : b = p
        · rw [hbp]; exact np
        · rw [upd_ne hbp] at hb; exact E.dom b hb
  · have e : i = ds.length := by omega
    subst e
    rw [List.drop_length] at q2
    exact .inl ⟨a2 rfl, k p H2 us acc e2 g2 np l2 r2 (hF0 acc q2)⟩
end
section
variable {C : List Addr} {X : Cx} {e tg iter elt : Expr} {ifs : List Expr} {wl : WL} {wg : WG} {ix : List Nat} {pos : Pos} {wt : WT} {we : WE} {scope : Scope} {own : List (Str × Nat)}
theorem dn_lc (hc : X.calm = true) (hN : X.N.Nodup) (ok : BlkOk X.N X.env.scope scope own) (hi : DJ C X tg iter wl) (hg : ∀ i, DG C (bcx X scope i) tg ix wg) (ht : ∀ i, DTs C (bcx X scope i) ifs wt) (he : ∀ i, DE C (bcx X scope i) elt we)
    (hix : ix.all (fun i => decide (i ∈ ownIx own)) = true := by rfl) (hs : ∀ x, foldedSetIterable iter X.env x = pure x := by intro _; rfl) : DN C X (.ListComp elt [⟨tg, iter, ifs, 0⟩] scope pos) (wLc wl wg wt we (ownIx own)) := by
  have hix' : ∀ i ∈ ix, i ∈ ownIx own := fun i hi => of_decide_eq_true (List.all_eq_true.mp hix i hi)
  obtain ⟨ti, pi, si⟩ := hi
  obtain ⟨tgt, pg, sg⟩ := unif_g (P0 := fun _ => True) (Xf := bcx X scope) (fun _ => rfl) fun i _ => hg i
  obtain ⟨ttt, pt, stt⟩ := unif_t (P0 := fun _ => True) (Xf := bcx X scope) (fun _ => rfl) fun i _ => ht i
  obtain ⟨tee, pe, se⟩ := unif_e (P0 := fun _ => True) (Xf := bcx X scope) (fun _ => rfl) fun i _ => he i
  refine ⟨_, pe_lc hc hN pi ok (fun s H A cl fp => pg (s, H, A, cl, fp) trivial) (fun s H A cl fp => pt (s, H, A, cl, fp) trivial) (fun s H A cl fp => pe (s, H, A, cl, fp) trivial) hs, fun r H0 O σ H env Q Qh S hw k => ?_⟩
  refine si r H0 O σ H env _ _ S hw fun J H1 ds e1 g1 it q => ?_
  refine lc_read (S.step e1 g1) it hix' (F := fun ds acc => lcW wg wt we (wipeE env (ownIx own)) Q ds acc) q (fun _ z => z) ?_ fun p H' us acc e g np l rr q => k p H' us acc (e1.trans e) g (e1.dom p np) l rr q
  intro d ds' acc x p us H2 Nx S2 rx q2 pn l2 hl k0 k1
  refine sg r H0 O _ H2 _ x d _ _ S2 rx q2 fun O3 σ3 env3 f3 S3 hlen hout oo q3 => ?_
  refine ⟨(wipe_same hlen fun j hj => hout j fun z => hj (hix' j z)).trans (wipe_wipe _ _), ?_⟩
  refine stt r H0 O3 σ3 H2 env3 _ _ S3 q3 fun c H4 e4 g4 q4 => ?_
  cases c with
  | false => exact k0 H4 e4 g4 q4
  | true =>
    refine se r H0 O3 σ3 H4 env3 _ _ (S3.step e4 g4) q4 fun v H5 dv e5 g5 rv q5 => ?_
    have l5 := (e4.trans e5).lst pn.1 l2
    exact ⟨us, l5, by rw [sizeLine_eq, hl]; exact q5.1.1, k1 v dv H5 (e4.trans e5) g5 q5.1.1 (rv.flat q5.1.2) q5.2⟩
/-- a list of new lists -/
theorem dn_lcN {we : WL} (hc : X.calm = true) (hN : X.N.Nodup) (ok : BlkOk X.N X.env.scope scope own) (hi : DJ C X tg iter wl) (hg : ∀ i, DG C (bcx X scope i) tg ix wg) (ht : ∀ i, DTs C (bcx X scope i) ifs wt) (he : ∀ i, DN C (bcx X scope i) elt we)
    (hix : ix.all (fun i => decide (i ∈ ownIx own)) = true := by rfl) (hs : ∀ x, foldedSetIterable iter X.env x = pure x := by intro _; rfl) : DN C X (.ListComp elt [⟨tg, iter, ifs, 0⟩] scope pos) (wLcN wl wg wt we (ownIx own)) := by
  have hix' : ∀ i ∈ ix, i ∈ ownIx own := fun i hi => of_decide_eq_true (List.all_eq_true.mp hix i hi)
  obtain ⟨ti, pi, si⟩ := hi
  obtain ⟨tgt, pg, sg⟩ := unif_g (P0 := fun _ => True) (Xf := bcx X scope) (fun _ => rfl) fun i _ => hg i
  obtain ⟨ttt, pt, stt⟩ := unif_t (P0 := fun _ => True) (Xf := bcx X scope) (fun _ => rfl) fun i _ => ht i
  obtain ⟨tee, pe, se⟩ := unif_n (P0 := fun _ => True) (Xf := bcx X scope) (fun _ => rfl) fun i _ => he i
  refine ⟨_, pe_lc hc hN pi ok (fun s H A cl fp => pg (s, H, A, cl, fp) trivial) (fun s H A cl fp => pt (s, H, A, cl, fp) trivial) (fun s H A cl fp => pe (s, H, A, cl, fp) trivial) hs, fun r H0 O σ H env Q Qh S hw k => ?_⟩
  refine si r H0 O σ H env _ _ S hw fun J H1 ds e1 g1 it q => ?_
  refine lc_read (S.step e1 g1) it hix' (F := fun ds acc => lcWN wg wt we (wipeE env (ownIx own)) Q ds acc) q (fun _ z => z) ?_ fun p H' us acc e g np l rr q => k p H' us acc (e1.trans e) g (e1.dom p np) l rr q
  intro d ds' acc x p us H2 Nx S2 rx q2 pn l2 hl k0 k1
  refine sg r H0 O _ H2 _ x d _ _ S2 rx q2 fun O3 σ3 env3 f3 S3 hlen hout oo q3 => ?_
  refine ⟨(wipe_same hlen fun j hj => hout j fun z => hj (hix' j z)).trans (wipe_wipe _ _), ?_⟩
  refine stt r H0 O3 σ3 H2 env3 _ _ S3 q3 fun c H4 e4 g4 q4 => ?_
  cases c with
  | false => exact k0 H4 e4 g4 q4
  | true =>
    refine se r H0 O3 σ3 H4 env3 _ _ (S3.step e4 g4) q4 fun v H5 vs dv e5 g5 nv lv rv q5 => ?_
    have l4 := e4.lst pn.1 l2
    have l5 := e5.lst pn.1 l4
    -- O3 only drops slots that the block owns: a new list is new for O as well
    have vp : v ≠ p := fun z => by rw [z, l4] at nv; cases nv
    have S4 := (S2.step e4 g4)
    have pv := S4.fresh nv
    refine ⟨us, l5, by rw [sizeLine_eq, hl]; exact q5.1.1, k1 (.ref v) (.list dv) H5 (e4.trans e5) g5 q5.1.1 ?_ q5.2⟩
    exact .lst ⟨pv, vp⟩ lv (rv.flats q5.1.2)

/-! ### generator expressions -/
abbrev gcF (X : Cx) (scope : Scope) (i : Around × Shared × Hp × Value × Addr × List Addr) : Cx := gcx X i.1 i.2.1 i.2.2.1 (gEnv X scope i.2.2.2.2.1 i.2.2.2.1) i.2.2.2.2.2
def genW (wg : WG) (wt : WT) (we : WE) (env : SDs) (Q : List D → Prop) : List D → List D → Prop
  | [], acc => Q acc
  | d :: ds, acc => ∃ o : Option D, (wg d env fun env' => wt env' fun c => if c = true then we env' fun y => o = some y else o = none) ∧ genW wg wt we env Q ds (acc ++ o.toList)
def wGen (f : List D → (D → Prop) → Prop) (wl : WL) (wg : WG) (wt : WT) (we : WE) (vs : List Nat) : WE := fun env Q => wl env fun ds => genW wg wt we (wipeE env vs) (fun ys => f ys Q) ds []
/-- the outcomes, one by one -/
theorem genW_outs {wg : WG} {wt : WT} {we : WE} {env : SDs} {Q : List D → Prop} : ∀ (ds acc : List D), genW wg wt we env Q ds acc → ∃ os : List (Option D), os.length = ds.length ∧
    (∀ (i : Nat) (d : D) (o : Option D), ds[i]? = some d → os[i]? = some o → wg d env fun env' => wt env' fun c => if c = true then we env' fun y => o = some y else o = none) ∧ Q (acc ++ os.filterMap id)
  | [], acc, h => ⟨[], rfl, fun i d o e _ => by simp at e, by unfold genW at h; simpa using h⟩
  | d :: ds, acc, ⟨o, h1, h2⟩ => by
    obtain ⟨os, l, h3, h4⟩ := genW_outs ds _ h2
    refine ⟨o :: os, by simp [l], fun i d' o' e e' => ?_, ?_⟩
    · cases i with
      | zero =>
        simp at e e'
        subst e e'
        exact h1
      | succ i => exact h3 i d' o' (by simpa using e) (by simpa using e')
    · cases o with
      | none => simpa using h4
      | some y => simpa using h4
/-- a result by data -/
def ResD (res : List V → V → Prop) (f : List D → (D → Prop) → Prop) (wf : D → V) (ok : D → Prop) : Prop := ∀ ys Q, f ys Q → (∀ y ∈ ys, ok y) → ∃ r d, res (ys.map wf) r ∧ Q d ∧ (∀ (K : PySem.W.Frag) (ro : Addr) (H : Hp) (P : Addr → Prop), Rep K ro H P r d)
/-- data that needs no heap -/
def vOf : D → V
  | .none => .non
  | .bool b => .bl b
  | .int i => .int i
  | .str x => .str x
  | _ => .non
def atomD : D → Bool
  | .none => true
  | .bool _ => true
  | .int _ => true
  | .str _ => true
  | _ => false
theorem rep_atom {K : PySem.W.Frag} {r : Addr} {H : Hp} {P : Addr → Prop} {v : V} {d : D} (h : Rep K r H P v d) (ha : atomD d = true) : v = vOf d := by
  cases h <;> first | rfl | simp [atomD, rowD] at ha
def GenR (res : List V → V → Prop) (f : List D → (D → Prop) → Prop) : Prop := ∀ ys Q, f ys Q → (∀ y ∈ ys, atomD y = true) ∧ ∃ r d, res (ys.map vOf) r ∧ Q d ∧ ∀ (K : PySem.W.Frag) (ro : Addr) (H : Hp) (P : Addr → Prop), Rep K ro H P r d
def fBools (g : List Bool → Bool) : List D → (D → Prop) → Prop := fun ys Q => ∃ bs : List Bool, ys = bs.map PyData.bool ∧ Q (.bool (g bs))
theorem genR_all : GenR resAll (fBools fun bs => bs.all id) := fun ys Q ⟨bs, e, q⟩ => by
  subst e
  exact ⟨fun y hy => by obtain ⟨b, _, rfl⟩ := List.mem_map.mp hy; rfl, _, _, ⟨bs, by rw [List.map_map]; rfl, rfl⟩, q, fun _ _ _ _ => .bl⟩
theorem genR_any : GenR resAny (fBools fun bs => bs.any id) := fun ys Q ⟨bs, e, q⟩ => by
  subst e
  exact ⟨fun y hy => by obtain ⟨b, _, rfl⟩ := List.mem_map.mp hy; rfl, _, _, ⟨bs, by rw [List.map_map]; rfl, rfl⟩, q, fun _ _ _ _ => .bl⟩
def fSum : List D → (D → Prop) → Prop := fun ys Q => ∃ ns : List Int, ys = ns.map PyData.int ∧ sumsIn 0 ns ∧ Q (.int ns.sum)
theorem genR_sum : GenR resSum fSum := fun ys Q ⟨ns, e, h, q⟩ => by
  subst e
  exact ⟨fun y hy => by obtain ⟨b, _, rfl⟩ := List.mem_map.mp hy; rfl, _, _, ⟨ns, by rw [List.map_map]; rfl, h, rfl⟩, q, fun _ _ _ _ => .int⟩
/-- the reading of a generator expression in its consumer -/
theorem gen_read {res : List V → V → Prop} {f : List D → (D → Prop) → Prop} (hf : GenR res f) {P : Addr} {t : TI} {tgt : TG} {ttt : Addr → TT} {tee : Addr → TE}
    (hPC : P ∈ C) (hix : ∀ i ∈ ix, i ∈ ownIx own)
    (si : ∀ (r : Addr) (H0 : Hp) (O : Nat → Option Addr) (σ : L2.St) (H : Hp) (env : SDs) (Q : List D → Prop) (R : It → Hp → Prop), SI C X.K r H0 O H σ env → wl env Q →
      (∀ J H1 ds, Ext r H H1 → Good C X.K r H1 → (∀ H', Ext r H1 H' → Itm X.K r J H' ds) → Q ds → R J H1) → t σ H R)
    (sg : ∀ (r : Addr) (H0 : Hp) (O : Nat → Option Addr) (σ : L2.St) (H : Hp) (env : SDs) (v : V) (d : D) (Q : SDs → Prop) (Qh : L2.St → Hp → Prop), SI C X.K r H0 O H σ env → Rep X.K r H (fun a => a ≠ r) v d → wg d env Q →
      (∀ O' σ' env', Frm r O H O' H → SI C X.K r H0 O' H σ' env' → σ'.length = σ.length → (∀ j, j ∉ ix → σ'[j]? = σ[j]?) → (∀ j a, O' j = some a → O j = some a) → Q env' → Qh σ' H) → tgt v σ H Qh)
    (stt : ∀ (P' r : Addr) (H0 : Hp) (O : Nat → Option Addr) (σ : L2.St) (H : Hp) (env : SDs) (Q : Bool → Prop) (Qh : Bool → Hp → Prop), SI (P' :: C) X.K r H0 O H σ env → wt env Q →
      (∀ b H', Ext r H H' → Good (P' :: C) X.K r H' → Q b → Qh b H') → ttt P' σ H Qh)
    (se : ∀ (P' r : Addr) (H0 : Hp) (O : Nat → Option Addr) (σ : L2.St) (H : Hp) (env : SDs) (Q : D → Prop) (Qh : VK), SI (P' :: C) X.K r H0 O H σ env → we env Q →
      (∀ v H' d, Ext r H H' → Good (P' :: C) X.K r H' → Rep X.K r H' (fun a => a ≠ r) v d → Q d → Qh v H') → tee P' σ H Qh) :
    ∀ (r : Addr) (H0 : Hp) (O : Nat → Option Addr) (σ : L2.St) (H : Hp) (env : SDs) (Q : D → Prop) (Qh : VK), SI C X.K r H0 O H σ env → wGen f wl wg wt we (ownIx own) env Q →
      (∀ v H' d, Ext r H H' → Good C X.K r H' → Rep X.K r H' (fun a => a ≠ r) v d → Q d → Qh v H') → tGen res P t tgt ttt tee (ownIx own) σ H Qh := by
  intro r H0 O σ H env Q Qh S hw k
  refine si r H0 O σ H env _ _ S hw fun J H1 ds e1 g1 it q => ?_
  have hT := g1.tab P hPC
  refine ⟨hT, fun H2 cv P' tb => ?_⟩
  have e2 : Ext r H1 H2 := .grown tb hT
  have g2 := g1.grown tb hT
  obtain ⟨os, hl, ho, hQ⟩ := genW_outs ds [] q
  obtain ⟨hat, rv, rd, hres, hq, hrep⟩ := hf _ _ hQ
  rw [List.nil_append] at hat hres
  refine ⟨ds.length, fun i => (os[i]?).join.map vOf, fun _ H' => Ext r H2 H' ∧ Good C X.K r H', ⟨.refl _ _, g2⟩, ⟨fun i H3 hi ⟨e3, g3⟩ => ?_, fun H3 ⟨e3, g3⟩ => (it H3 (e2.trans e3) ds.length).2 rfl⟩, rv, ?_, fun i H3 ⟨e3, g3⟩ => k rv H3 rd ((e1.trans e2).trans e3) g3 (hrep _ _ _ _) hq⟩
  · have hd : ds[i]? = some ds[i] := by simp [hi]
    have hos : os[i]? = some os[i] := by simp [hl, hi]
    obtain ⟨go, y⟩ := (it H3 (e2.trans e3) i).1 _ hd
    refine ⟨go, fun x H4 hy => ?_⟩
    obtain ⟨sm, rx⟩ := y x H4 hy
    have e4 : Ext r H3 H4 := .of_same sm
    have g4 := g3.same sm
    have S4 := (S.step (((e1.trans e2).trans e3).trans e4) g4).wiped (ownIx own)
    refine sg r H0 O _ H4 _ x _ _ _ S4 rx (ho i _ _ hd hos) fun O5 σ5 env5 f5 S5 hlen hout oo q5 => ?_
    refine ⟨(wipe_same hlen fun j hj => hout j fun z => hj (hix j z)).trans (wipe_wipe _ _), ?_⟩
    have S5 := S5.cons (P := P') ((e3.trans e4).tab _ tb.tab)
    refine stt P' r H0 O5 σ5 H4 env5 _ _ S5 q5 fun c H6 e6 g6 q6 => ?_
    cases c with
    | false =>
      refine ⟨?_, (e3.trans e4).trans e6, g6.less⟩
      rw [hos]
      have z : os[i] = none := q6
      rw [z]; rfl
    | true =>
      refine se P' r H0 O5 σ5 H6 env5 _ _ (S5.step e6 g6) q6 fun v H7 dv e7 g7 rv7 q7 => ?_
      refine ⟨?_, ((e3.trans e4).trans e6).trans e7, g7.less⟩
      rw [hos]
      have z : os[i] = some dv := q7
      have m : dv ∈ os.filterMap id := List.mem_filterMap.mpr ⟨some dv, by rw [← z]; exact List.getElem_mem _, rfl⟩
      rw [z, rep_atom rv7 (hat dv m)]; rfl
  · have z : outs ds.length (fun i => (os[i]?).join.map vOf) 0 = (os.filterMap id).map vOf := by
      unfold outs
      rw [List.drop_zero, ← hl]
      have go : ∀ (l : List (Option D)), (List.range l.length).filterMap (fun i => (l[i]?).join.map vOf) = (l.filterMap id).map vOf := by
        intro l
        induction l with
        | nil => rfl
        | cons a l ih =>
          rw [List.length_cons, List.range_succ_eq_map, List.filterMap_cons, List.filterMap_map]
          have e : ((fun i => ((a :: l)[i]?).join.map vOf) ∘ Nat.succ) = fun i => (l[i]?).join.map vOf := by funext i; simp
          rw [e, ih]
          cases a <;> simp
      exact go os
    rw [z]; exact hres
/-- consumer(elt for tg in iter if ..) -/
theorem de_gen {x : Str} {res : List V → V → Prop} {f : List D → (D → Prop) → Prop} (hf : GenR res f) {P : Addr} {k : Nat} {p gpos : Pos} (hc : X.calm = true) (hPC : P ∈ C)
    (rule : ∀ {wi : TI} {g : TG} {tt : Addr → TT} {te : Addr → TE}, PI X tg iter wi → GParts X k elt tg ifs scope g tt te → PE X (.Call (.Name x p) [.GeneratorExp elt [⟨tg, iter, ifs, 0⟩] scope gpos] [] pos) (tGen res P wi g tt te (ownIx own)))
    (hi : DJ C X tg iter wl) (hg : ∀ i, DG C (gcF X scope i) tg ix wg) (ht : ∀ P' i, Room k i.1 → TabC (gcF X scope i) P' → DTs (P' :: C) (gcF X scope i) ifs wt) (he : ∀ P' i, Room k i.1 → TabC (gcF X scope i) P' → DE (P' :: C) (gcF X scope i) elt we) (hix : ix.all (fun i => decide (i ∈ ownIx own)) = true := by rfl) :
    DE C X (.Call (.Name x p) [.GeneratorExp elt [⟨tg, iter, ifs, 0⟩] scope gpos] [] pos) (wGen f wl wg wt we (ownIx own)) := by
  have hix' : ∀ i ∈ ix, i ∈ ownIx own := fun i hi => of_decide_eq_true (List.all_eq_true.mp hix i hi)
  obtain ⟨ti, pi, si⟩ := hi
  obtain ⟨tgt, pg, sg⟩ := unif_g (P0 := fun _ => True) (Xf := gcF X scope) (fun _ => rfl) fun i _ => hg i
  have HT := fun P' => unif_t (C := P' :: C) (P0 := fun i : Around × Shared × Hp × Value × Addr × List Addr => Room k i.1 ∧ TabC (gcF X scope i) P') (Xf := gcF X scope) (fun _ => rfl) fun i h => ht P' i h.1 h.2
  have HE := fun P' => unif_e (C := P' :: C) (P0 := fun i : Around × Shared × Hp × Value × Addr × List Addr => Room k i.1 ∧ TabC (gcF X scope i) P') (Xf := gcF X scope) (fun _ => rfl) fun i h => he P' i h.1 h.2
  obtain ⟨ttt, hT⟩ := Classical.axiomOfChoice HT
  obtain ⟨tee, hE⟩ := Classical.axiomOfChoice HE
  exact ⟨_, rule pi ⟨fun A' s H code C fp => pg (A', s, H, code, C, fp) trivial, fun A' s H code C fp P' hr hi => (hT P').1 (A', s, H, code, C, fp) ⟨hr, hi.tc⟩, fun A' s H code C fp P' hr hi => (hE P').1 (A', s, H, code, C, fp) ⟨hr, hi.tc⟩⟩, gen_read hf hPC hix' si sg (fun P' => (hT P').2) (fun P' => (hE P').2)⟩
theorem de_all {P : Addr} {k : Nat} {p gpos : Pos} (hr : Room (k + 1) X.A) (hgl : Gl X "all") (hm : X.mg "all" = none) (hc : X.calm = true) (hN : X.N.Nodup) (TB : TabC X P) (hPC : P ∈ C) (ok : GBlk X.N X.env.scope scope own)
    (hi : DJ C X tg iter wl) (hg : ∀ i, DG C (gcF X scope i) tg ix wg) (ht : ∀ P' i, Room k i.1 → TabC (gcF X scope i) P' → DTs (P' :: C) (gcF X scope i) ifs wt) (he : ∀ P' i, Room k i.1 → TabC (gcF X scope i) P' → DE (P' :: C) (gcF X scope i) elt we) (hix : ix.all (fun i => decide (i ∈ ownIx own)) = true := by rfl)
    (hs : ∀ v, genFold iter X.env v = pure v := by intro _; rfl) (hst : starEach [.GeneratorExp elt [⟨tg, iter, ifs, 0⟩] scope gpos] X.env = (false, eval (.GeneratorExp elt [⟨tg, iter, ifs, 0⟩] scope gpos) X.env) :: starEach [] X.env := by rfl) :
    DE C X (.Call (.Name "all" p) [.GeneratorExp elt [⟨tg, iter, ifs, 0⟩] scope gpos] [] pos) (wGen (fBools fun bs => bs.all id) wl wg wt we (ownIx own)) :=
  de_gen genR_all hc hPC (fun pi gp => pe_all hr hgl hm hc hN TB ok pi gp hs hst) hi hg ht he hix
theorem de_any {P : Addr} {k : Nat} {p gpos : Pos} (hr : Room (k + 1) X.A) (hgl : Gl X "any") (hm : X.mg "any" = none) (hc : X.calm = true) (hN : X.N.Nodup) (TB : TabC X P) (hPC : P ∈ C) (ok : GBlk X.N X.env.scope scope own)
    (hi : DJ C X tg iter wl) (hg : ∀ i, DG C (gcF X scope i) tg ix wg) (ht : ∀ P' i, Room k i.1 → TabC (gcF X scope i) P' → DTs (P' :: C) (gcF X scope i) ifs wt) (he : ∀ P' i, Room k i.1 → TabC (gcF X scope i) P' → DE (P' :: C) (gcF X scope i) elt we) (hix : ix.all (fun i => decide (i ∈ ownIx own)) = true := by rfl)
    (hs : ∀ v, genFold iter X.env v = pure v := by intro _; rfl) (hst : starEach [.GeneratorExp elt [⟨tg, iter, ifs, 0⟩] scope gpos] X.env = (false, eval (.GeneratorExp elt [⟨tg, iter, ifs, 0⟩] scope gpos) X.env) :: starEach [] X.env := by rfl) :
    DE C X (.Call (.Name "any" p) [.GeneratorExp elt [⟨tg, iter, ifs, 0⟩] scope gpos] [] pos) (wGen (fBools fun bs => bs.any id) wl wg wt we (ownIx own)) :=
  de_gen genR_any hc hPC (fun pi gp => pe_any hr hgl hm hc hN TB ok pi gp hs hst) hi hg ht he hix
theorem de_gsum {P : Addr} {k : Nat} {p gpos : Pos} (hr : Room (k + 1) X.A) (hgl : Gl X "sum") (hm : X.mg "sum" = none) (hc : X.calm = true) (hN : X.N.Nodup) (TB : TabC X P) (hPC : P ∈ C) (ok : GBlk X.N X.env.scope scope own)
    (hi : DJ C X tg iter wl) (hg : ∀ i, DG C (gcF X scope i) tg ix wg) (ht : ∀ P' i, Room k i.1 → TabC (gcF X scope i) P' → DTs (P' :: C) (gcF X scope i) ifs wt) (he : ∀ P' i, Room k i.1 → TabC (gcF X scope i) P' → DE (P' :: C) (gcF X scope i) elt we) (hix : ix.all (fun i => decide (i ∈ ownIx own)) = true := by rfl)
    (hs : ∀ v, genFold iter X.env v = pure v := by intro _; rfl) (hst : starEach [.GeneratorExp elt [⟨tg, iter, ifs, 0⟩] scope gpos] X.env = (false, eval (.GeneratorExp elt [⟨tg, iter, ifs, 0⟩] scope gpos) X.env) :: starEach [] X.env := by rfl) :
    DE C X (.Call (.Name "sum" p) [.GeneratorExp elt [⟨tg, iter, ifs, 0⟩] scope gpos] [] pos) (wGen fSum wl wg wt we (ownIx own)) :=
  de_gen genR_sum hc hPC (fun pi gp => pe_sum hr hgl hm hc hN TB ok pi gp hs hst) hi hg ht he hix
end
/-! ### a def of the text by what its body computes -/
def startL (n : Nat) (ds : List D) : SDs := ds.map SD.val ++ List.replicate (n - ds.length) SD.no
def startD (N : List Str) (ds : List D) : SDs := startL N.length ds
theorem si_start {C : List Addr} {K : PySem.W.Frag} {r : Addr} {H : Hp} {N : List Str} {vs : List V} {ds : List D} (g : Good C K r H) (h : Reps K r H (fun a => a ≠ r) vs ds) : SI C K r H (fun _ => none) H (L2.start N vs) (startD N ds) where
  good := g
  ext := .refl _ _
  len := by unfold L2.start startD startL; rw [List.length_append, List.length_append, List.length_map, List.length_map, List.length_replicate, List.length_replicate, h.length]
  inj := fun i j a z => by cases z
  new := fun i a z => by cases z
  val := fun i d e => by
    unfold startD startL at e
    by_cases hi : i < ds.length
    · rw [List.getElem?_append_left (by simpa using hi), List.getElem?_map] at e
      cases q : ds[i]? with
      | none => rw [q] at e; cases e
      | some d' =>
        rw [q] at e
        cases e
        obtain ⟨v, h1, h2⟩ := h.get q
        have hv : i < vs.length := by rw [h.length]; exact hi
        refine ⟨v, ?_, h2.mono fun a z => ⟨z, fun j y => by cases y⟩⟩
        unfold L2.start
        rw [List.getElem?_append_left (by simpa using hv), List.getElem?_map, h1]
        rfl
    · rw [List.getElem?_append_right (by simpa using hi), List.getElem?_replicate] at e
      split at e <;> cases e
  obj := fun i d e z => by
    unfold startD startL at e
    by_cases hi : i < ds.length
    · rw [List.getElem?_append_left (by simpa using hi), List.getElem?_map] at e
      cases q : ds[i]? with
      | none => rw [q] at e; cases e
      | some d' => rw [q] at e; cases e; exact z.elim
    · rw [List.getElem?_append_right (by simpa using hi), List.getElem?_replicate] at e
      split at e <;> cases e
      exact z.elim
  dom := fun i a z => by cases z
/-- the ends of a body -/
def kdEnd (Q0 : D → Prop) : KD := { nx := fun _ => Q0 .none, rt := Q0 }
section
variable {P : Program} {w : World} {K : PySem.W.Frag} {mg : Str → Option Value} {base : Heap} {x qual : Str} {params : Arguments} {body : List Stmt} {scope : Scope} {dvs : List V} {kws : List (Str × V)} {at_ : Str × Option Str} {fd : FuncData} {C : List Addr}
theorem funD_code (F : FunD K x qual params body scope dvs kws (He.fAd K at_) fd) : ∃ oc od osl dV kV doc pm an ct, K.lookup (He.fAd K at_) = some ⟨oc, od, .func (PySem.W.fnOf x qual params body scope dV kV doc pm an (.ref (He.cT K at_).1) ct), osl⟩ ∧ PySem.W.codeIn K (.ref (He.cT K at_).1) qual = true ∧ fd = PySem.W.fnOf x qual params body scope dV kV doc pm an (.ref (He.cT K at_).1) ct := by
  obtain ⟨oc, od, dV, kV, doc, pm, an, cdv, ct, osl, rfl, lk, hcd, _, _⟩ := F.ex
  obtain ⟨c, rfl⟩ := He.codeIn_ref hcd
  have e : He.codeOf K at_ = c := He.codeOf_eq lk rfl
  refine ⟨oc, od, osl, dV, kV, doc, pm, an, ct, ?_, ?_, ?_⟩
  · show _ = some (⟨oc, od, .func (PySem.W.fnOf x qual params body scope dV kV doc pm an (.ref (He.codeOf K at_)) ct), osl⟩ : Obj)
    rw [e]; exact lk
  · show PySem.W.codeIn K (.ref (He.codeOf K at_)) qual = true
    rw [e]; exact hcd
  · show _ = PySem.W.fnOf x qual params body scope dV kV doc pm an (.ref (He.codeOf K at_)) ct
    rw [e]
abbrev dcx (P : Program) (w : World) (K : PySem.W.Frag) (mg : Str → Option Value) (base : Heap) (N : List Str) (qual : Str) (scope : Scope) (f : Addr) (c : Addr) (A : Around) (outer : List Env) (s : Shared) (H : Hp) (E : XK) : Cx := (cxOf CX0 P w K mg base N qual scope f (.ref c) A outer s H E).nox
/-- THE RULE: a def by its body's data -/
theorem ok_of {N ps : List Str} {k n : Nat} {fs : FS} {wb : WS} (F : FunD K x qual params body scope dvs kws (He.fAd K at_) fd) (S : FnScope N ps scope) (hn : ps.length = n)
    (hbody : ∀ (A : Around) (outer : List Env) (s : Shared) (H : Hp) (E : XK), Room k (A.deeper (envOfC qual scope s.heap.objs.size (He.fAd K at_) (.ref (He.cT K at_).1))) → DSs C (dcx P w K mg base N qual scope (He.fAd K at_) (He.cT K at_).1 A outer s H E) W0 body wb)
    (hp : ∀ ds Q0, fs ds Q0 → wb (kdEnd Q0) (startD N ds)) : FnOk P w K mg base CX0 (k + 1) (He.fAd K at_) fd ps (spD C K n fs) := by
  obtain ⟨oc, od, osl, dV, kV, doc, pm, an, ct, lk, hcd, rfl⟩ := funD_code F
  refine fn_of lk hcd S (fun vs H Q E h => h.1.trans hn.symm) fun A outer s H vs Q E hr h => ?_
  obtain ⟨hl, r, ds, Q0, g, rv, hf, hQ⟩ := h
  obtain ⟨t, pt, st⟩ := hbody A outer s H E hr
  refine ⟨t, pt.nox, st r H (fun _ => none) _ H _ _ _ (si_start g rv) (hp ds Q0 hf) ⟨fun O' σ' H' env' f S' q => ?_, fun O' σ' H' env' f S' q => q.elim, fun O' σ' H' env' f S' q => q.elim, fun v H' d e g rv q => hQ d v H' q e g rv, fun _ _ _ _ _ _ _ _ _ q => q.elim⟩⟩
  exact hQ .none .non H' q S'.ext S'.good (RepR.flat (P := fun _ => True) .non rfl)
end

/-! ### the law -/
/-- a list is locked while statements run -/
theorem pss_lock {X : Cx} {st : List Stmt} {t : TS} (h : PSs X st t) : PSs X st (tLock t) := by
  refine ⟨fun pins s σ H D I ⟨d, u, hd, mu, hw⟩ => ?_⟩
  obtain ⟨od, I1⟩ := I.lock hd mu
  refine thn (h.run pins s σ _ _ I1 (hw od)) fun f s1 q => ?_
  cases f with
  | ret v => obtain ⟨x, σ', H', I2, r, e, q⟩ := q; exact ⟨x, σ', _, I2.unlock e (I.nofrz hd mu), r, q⟩
  | next => obtain ⟨σ', H', I2, e, q⟩ := q; exact ⟨σ', _, I2.unlock e (I.nofrz hd mu), q⟩
  | cont => obtain ⟨σ', H', I2, e, q⟩ := q; exact ⟨σ', _, I2.unlock e (I.nofrz hd mu), q⟩
  | brk => obtain ⟨σ', H', I2, e, q⟩ := q; exact ⟨σ', _, I2.unlock e (I.nofrz hd mu), q⟩
/-- the law's promise -/
def spLaw (C : List Addr) (K : PySem.W.Frag) : Sp := fun vs H Q _ => ∃ (a : Addr) (ns : List Int), vs = [.ref a] ∧ SqL K H a (ns.map V.int) ∧ ns.length ≤ 63 ∧ (∀ p ∈ C, TabW H p) ∧ ∀ H', Q (.bl true) H'
section
variable {P : Program} {w : World} {K : PySem.W.Frag} {mg : Str → Option Value} {base : Heap} {x qual : Str} {params : Arguments} {rest : List Stmt} {scope : Scope} {dvs : List V} {kws : List (Str × V)} {at_ : Str × Option Str} {fd : FuncData} {C : List Addr}
/-- what is proved of the law's statements behind the row's making: the row stands in slot 1 -/
def LawD (N : List Str) (wb : WS) : Prop := wb { nx := fun _ => False, rt := fun d => d = .bool true } ((SD.no :: SD.val rowD :: List.replicate (N.length - 2) SD.no))
theorem row_start {r a : Addr} {H : Hp} {N : List Str} {ns : List Int} (hr : H r = none) (hS : SqF K H a (ns.map V.int)) (hl : ns.length ≤ 63) (hC : ∀ p ∈ C, TabW H p) (hN : 2 ≤ N.length) {sd : Int} (hsd : 0 ≤ sd) (hsd2 : sd < 2147483647) :
    SI C K r (upd H r (.lst [.ref a, .int 0, .int sd, .int 0])) (fun _ => none) (upd H r (.lst [.ref a, .int 0, .int sd, .int 0])) ((L2.start N [.ref a]).set 1 (some (.ref r))) ((SD.no :: SD.val rowD :: List.replicate (N.length - 2) SD.no)) where
  good := ⟨⟨a, ns, 0, sd, 0, hS.same fun b o u e => by rw [upd_ne (ne_of_none e hr)]; exact e, hl, upd_same, by decide, hsd, hsd2, by decide⟩, fun p hp => by
    exact (hC p hp).keep (fun b ps e => by rw [upd_ne (ne_of_none e hr)]; exact e) fun b o u e => by rw [upd_ne (ne_of_none e hr)]; exact e⟩
  ext := .refl _ _
  len := by
    rw [List.length_set]
    unfold L2.start
    simp only [List.length_append, List.length_map, List.length_cons, List.length_nil, List.length_replicate]
    omega
  inj := fun i j a z => by cases z
  new := fun i a z => by cases z
  val := fun i d e => by
    match i with
    | 0 => cases e
    | 1 =>
      have e : some (SD.val rowD) = some (SD.val d) := e
      cases e
      refine ⟨.ref r, List.getElem?_set_self ?_, .row⟩
      unfold L2.start
      simp only [List.length_append, List.length_map, List.length_cons, List.length_nil, List.length_replicate]
      omega
    | i + 2 =>
      have e : (List.replicate (N.length - 2) SD.no)[i]? = some (SD.val d) := e
      rw [List.getElem?_replicate] at e
      split at e <;> cases e
  obj := fun i d e z => by
    match i with
    | 0 => cases e; exact z.elim
    | 1 => cases e; exact z.elim
    | i + 2 =>
      have e : (List.replicate (N.length - 2) SD.no)[i]? = some d := e
      rw [List.getElem?_replicate] at e
      split at e <;> cases e
      exact z.elim
  dom := fun i a z => by cases z
theorem law_ok {N : List Str} {k : Nat} {wb : WS} {s1 : Stmt} {p1 p2 p3 p4 p5 p6 p7 : Pos} {j1 j2 j3 : Nat} {sd : Int} (F : FunD K x qual params (s1 :: rest) scope dvs kws (He.fAd K at_) fd)
    (hs1 : s1 = .Assign [.Name "_law_row" p1] (.List [.Name "_law_script" p2, .Constant (.int 0) j1 p3, .Constant (.int sd) j2 p4, .Constant (.int 0) j3 p5] p6) p7) (S : FnScope N ["_law_script"] scope) (h1 : N[1]? = some ("_law_row" : Str)) (hx : Loc scope "_law_row") (hx0 : Vis scope "_law_script")
    (hbody : ∀ (A : Around) (outer : List Env) (s : Shared) (H : Hp) (E : XK), Room k (A.deeper (envOfC qual scope s.heap.objs.size (He.fAd K at_) (.ref (He.cT K at_).1))) → DSs C (dcx P w K mg base N qual scope (He.fAd K at_) (He.cT K at_).1 A outer s H E) W0 rest wb)
    (hp : LawD N wb) (hsd : 0 ≤ sd := by decide) (hsd2 : sd < 2147483647 := by decide) : FnOk P w K mg base CX0 (k + 1) (He.fAd K at_) fd ["_law_script"] (spLaw C K) := by
  obtain ⟨oc, od, osl, dV, kV, doc, pm, an, ct, lk, hcd, rfl⟩ := funD_code F
  subst hs1
  have hN : 2 ≤ N.length := by
    by_cases h : 1 < N.length
    · exact h
    · rw [List.getElem?_eq_none (by omega)] at h1; cases h1
  have hN0 : N[0]? = some ("_law_script" : Str) := by
    have := S.pre
    match N, this with
    | [], h => cases h
    | y :: r, h => simp at h; rw [← h]; rfl
  refine fn_of lk hcd S (fun vs H Q E h => by obtain ⟨a, ns, rfl, _⟩ := h; rfl) fun A outer s H vs Q E hr h => ?_
  obtain ⟨a, ns, rfl, hS, hl, hC, hQ⟩ := h
  obtain ⟨t, pt, st⟩ := hbody A outer s H E hr
  have p0 : PS (dcx P w K mg base N qual scope (He.fAd K at_) (He.cT K at_).1 A outer s H E) (.Assign [.Name "_law_row" p1] (.List [.Name "_law_script" p2, .Constant (.int 0) j1 p3, .Constant (.int sd) j2 p4, .Constant (.int 0) j3 p5] p6) p7) _ :=
    ps_set (i := 1) S.nd h1 hx (pe_lst (pa_cons (pe_var (i := 0) hN0 hx0) (pa_cons pe_int (pa_cons pe_int (pa_cons pe_int pa_nil)))))
  have start0 : (L2.start N [.ref a])[0]? = some (some (.ref a)) := rfl
  have run : ∀ H2, SqF K H2 a (ns.map V.int) → (∀ p ∈ C, TabW H2 p) → ∀ D : Ends, (∀ v H', v = .bl true → (∀ o u, H2 a = some (.frz o u) → H' a = some (.frz o u)) → D.rt v H') → tSeq (tAsg (tLst (tCons (tVar 0) (tCons (tC (.int 0)) (tCons (tC (.int sd)) (tCons (tC (.int 0)) tNil))))) (gName 1)) t D (L2.start N [.ref a]) H2 := by
    intro H2 hF hC2 D hD
    refine ⟨.ref a, start0, by rw [sizeLine_eq]; show 4 ≤ _; omega, fun r nr => ?_⟩
    refine st r _ (fun _ => none) _ _ _ { nx := fun _ => False, rt := fun d => d = .bool true } D (row_start nr hF hl hC2 hN hsd hsd2) hp ⟨fun O' σ' H' env' f S' q => q.elim, fun O' σ' H' env' f S' q => q.elim, fun O' σ' H' env' f S' q => q.elim, fun v H' d e g rv q => ?_, fun _ _ _ _ _ _ _ _ _ q => q.elim⟩
    have q : d = .bool true := q
    subst q
    cases rv
    exact hD _ _ rfl fun o u z => e.frz (by rw [upd_ne (ne_of_none z nr)]; exact z)
  rcases hS with (hS | ⟨o, hS⟩) | hS
  · refine ⟨_, (pss_lock (pss_cons p0 pt)).nox, a, _, hS, trivial, fun od' => ?_⟩
    refine run _ (.inl ⟨od', upd_same⟩) (fun p hp => ?_) _ fun v H' e hz => ?_
    · exact (hC p hp).keep (fun b ps e => by rw [upd_ne (fun z => by rw [z, hS] at e; cases e)]; exact e) fun b o u e => by rw [upd_ne (fun z => by rw [z, hS] at e; cases e)]; exact e
    · rw [e]
      exact ⟨hz _ _ upd_same, hQ _⟩
  · exact ⟨_, (pss_cons p0 pt).nox, run H (.inl ⟨o, hS⟩) hC _ fun v H' e _ => by rw [e]; exact hQ H'⟩
  · exact ⟨_, (pss_cons p0 pt).nox, run H (.inr hS) hC _ fun v H' e _ => by rw [e]; exact hQ H'⟩
end
/-! ### the head's facts, with what // of big numbers asks -/
def moreAt : List Addr := [cStatics, sysModules, builtinsNs]
def asY (g : Addr → Option Obj) (n : Nat) : List Addr := He.asD g n ++ moreAt
def exY (ex : PySem.W.Frag → Bool) (K : PySem.W.Frag) : Bool := ex K && moreAt.all fun a => (K.lookup a).isSome
structure SaysY (fa : List He.Fa) (fn : List He.DefD) (tf : List He.Defn) (ex : PySem.W.Frag → Bool) (h : Heap) (K : PySem.W.Frag) : Prop where
  d : He.SaysD fa fn K
  more : ex K = true
  at3 : ∀ a ∈ moreAt, ∃ o, K.lookup a = some o
  hd : ∀ p ∈ tf, PySem.W.codeHdIn K (He.cT K p).1 (He.cT K p).2 = true
  out : ∀ p ∈ tf, K.lookup (He.cT K p).2 = none
  empty : ∀ p ∈ tf, h.get? (He.cT K p).2 = some { cls := .none, data := .fields #[] }
def obsY (n : Nat) (fa : List He.Fa) (fn : List He.DefD) (tf : List He.Defn) (ex : PySem.W.Frag → Bool) (g : Addr → Option Obj) : He.AlD × Bool :=
  (He.obsD fa fn (He.frT g (asY g n)), exY ex (He.frT g (asY g n)) && He.tabsB g tf (He.frT g (asY g n)))
theorem saysY_of {n : Nat} {fa : List He.Fa} {fn : List He.DefD} {tf : List He.Defn} {ex : PySem.W.Frag → Bool} {h : Heap} (e : obsY n fa fn tf ex h.get? = (He.valD fn, true)) : SaysY fa fn tf ex h (He.frT h.get? (asY h.get? n)) := by
  generalize hK : He.frT h.get? (asY h.get? n) = K at e ⊢
  have hin : ∀ a o, h.get? a = some o → He.emptyTab o = true → K.lookup a = none := fun a o e1 e2 => by rw [← hK]; exact He.frT_none e1 e2
  have e' : (He.obsD fa fn K, exY ex K && He.tabsB h.get? tf K) = (He.valD fn, true) := by rw [← hK]; exact e
  obtain ⟨e1, e2⟩ := Prod.mk.inj e'
  rw [Bool.and_eq_true] at e2
  obtain ⟨h1, h2⟩ := e2
  unfold exY at h1
  rw [Bool.and_eq_true] at h1
  have tb : ∀ p ∈ tf, PySem.W.codeHdIn K (He.cT K p).1 (He.cT K p).2 = true ∧ ∃ o, h.get? (He.cT K p).2 = some o ∧ He.emptyTab o = true := fun p hp => by
    have q := List.all_eq_true.mp h2 p hp
    rw [Bool.and_eq_true] at q
    refine ⟨q.1, ?_⟩
    have q2 := q.2
    cases z : h.get? (He.cT K p).2 with
    | none => rw [z] at q2; cases q2
    | some o => rw [z] at q2; exact ⟨o, rfl, q2⟩
  exact {
    d := e1
    more := h1.1
    at3 := fun a ha => Option.isSome_iff_exists.mp (List.all_eq_true.mp h1.2 a ha)
    hd := fun p hp => (tb p hp).1
    out := fun p hp => let ⟨_, o, z1, z2⟩ := tb p hp; hin _ o z1 z2
    empty := fun p hp => by obtain ⟨_, o, z1, z2⟩ := tb p hp; rw [z1, He.emptyTab_eq z2] }
def hookY (n : Nat) (fa : List He.Fa) (fn : List He.DefD) (tf : List He.Defn) (ex : PySem.W.Frag → Bool) : PySem.W.Hook where
  α := He.AlD × Bool
  obs := fun s => obsY n fa fn tf ex s.heap.get?
  val := fun _ => (He.valD fn, true)
  says := fun _ h => ∃ K : PySem.W.Frag, K.In h ∧ SaysY fa fn tf ex h K
  of := fun _ _ e => ⟨_, He.frT_in, saysY_of e⟩
  keeps := fun _ _ _ ⟨K, hK, c⟩ k => ⟨K, PySem.W.Frag.In.keeps hK k, { c with empty := fun p hp => k _ _ (c.empty p hp) }⟩
theorem obsY_eq {n : Nat} {fa : List He.Fa} {fn : List He.DefD} {tf : List He.Defn} {ex : PySem.W.Frag → Bool} {g : Addr → Option Obj} {s : Shared} (h : ∀ a, g a = s.heap.get? a) : obsY n fa fn tf ex g = (hookY n fa fn tf ex).obs s := by
  have e : g = s.heap.get? := funext h
  subst e
  rfl
/-- no seer in a base that holds K -/
theorem seer_of {K : PySem.W.Frag} {h base : Heap} {mg : Str → Option Value} {c P : Addr} (KX : K.In h) (N : h.NoSeer) (at3 : ∀ a ∈ moreAt, ∃ o, K.lookup a = some o) (B : K.In base) (G : base.Ns mainGlobals mg) (T : TabB base mg c P) : base.NoSeer := by
  have ns : ∀ a ∈ moreAt, ∀ m, h.Ns a m → base.Ns a m := fun a ha m ⟨o, es, ep, e, r⟩ => by
    obtain ⟨o', z⟩ := at3 a ha
    have z1 := KX a o' z
    rw [e] at z1
    cases z1
    exact ⟨o, es, ep, B a o z, r⟩
  obtain ⟨mc, s1, s2, s3⟩ := N.statics
  obtain ⟨mm, m1, m2⟩ := N.mods
  obtain ⟨mb, i1, i2⟩ := N.imp
  obtain ⟨bm, ob, b1, b2, b3, b4, b5, b6, b7⟩ := T.bm
  exact ⟨⟨mc, ns _ (by simp [moreAt]) _ s1, s2, s3⟩, ⟨mm, ns _ (by simp [moreAt]) _ m1, m2⟩, ⟨mb, ns _ (by simp [moreAt]) _ i1, i2⟩, ⟨mg, bm, ob, G, b1, b5, b6, b7.1⟩⟩
/-- the end of a law -/
theorem law_end {l : PySem.W.OpenLaw} {k : Nat} {q : Program} {loose : List Str} {XP : (Str → Option Value) → Heap → Prop} {n : Nat} {fa : List He.Fa} {fn : List He.DefD} {tf : List He.Defn} {ex : PySem.W.Frag → Bool} {d : DefRec}
    (hn : l.most = some 63) (hdf : d.params.defaults = []) (hr : Room k callerA) (hi : importsNone q = true)
    (F : ∀ (w : World) (mg : Str → Option Value) (f : Addr) (h : Heap) (K : PySem.W.Frag), K.In h → h.Ns mainGlobals mg → mg d.name = some (.ref f) → SaysY fa fn tf ex h K →
      ∃ fd : FuncData, (∀ (s : Shared) (u : Value), BindsTo s fd ⟨[u], []⟩ [("_law_script", u)]) ∧
        ∀ base : Heap, K.In base → base.Ns mainGlobals mg → (∀ p ∈ tf, TabB base mg (He.cT K p).1 (He.cT K p).2) → (∀ p ∈ tf, base.NoSeer) → FnOk l.prog w K mg base CX0 k f fd ["_law_script"] (spLaw (tf.map fun p => (He.cT K p).2) K)) :
    PySem.W.WalkO q loose XP (hookY n fa fn tf ex).says l.row.toRowW d [] (fun f vs => PySem.call f vs) := by
  refine Att.attach_callB hn hdf fun w s₀ s₁ mg mb f o pm cd doc a vs ns G Y ho hd hcd hmg hobj hints hlen hbits hg => ?_
  obtain ⟨K, KX, S⟩ := Y
  obtain ⟨fd, hb, hF⟩ := F w mg f _ K KX G.T.g hmg S
  refine LamX.law_callTs (cs := tf.map (He.cT K)) (sp := spLaw (tf.map fun p => (He.cT K p).2) K) (CX := CX0) KX G.T.g G.T.b G.T.builtins G.T.nolimit hg ?_ ?_ ?_ G.T.bmain hobj hints (Nat.le_trans hlen (by decide)) hr (fun base B N T => ?_) hb (fun H hT hS => ?_) fun H e s' z => z
  · intro p hp; obtain ⟨u, hu, rfl⟩ := List.mem_map.mp hp; exact S.empty u hu
  · intro p hp; obtain ⟨u, hu, rfl⟩ := List.mem_map.mp hp; exact S.out u hu
  · intro p hp; obtain ⟨u, hu, rfl⟩ := List.mem_map.mp hp; exact PySem.W.codeHd_of_K KX (S.hd u hu)
  · have T' : ∀ u ∈ tf, TabB base mg (He.cT K u).1 (He.cT K u).2 := fun u hu => let t := T _ (List.mem_map.mpr ⟨u, hu, rfl⟩); ⟨t.code, t.bm, t.gP⟩
    exact hF base B N T' fun u hu => seer_of KX (G.T.seer hi) S.at3 B N (T' u hu)
  · refine ⟨a, ns, rfl, hS, hlen, fun p hp => ?_, fun _ => rfl⟩
    obtain ⟨u, hu, rfl⟩ := List.mem_map.mp hp
    exact TabW.nil (hT _ (List.mem_map.mpr ⟨u, hu, rfl⟩))
/-! ### sum, any, all, max, min of lists and tuples -/
section
variable {prog : Program} {w : World} {A : Around} {E : Value → Shared → Prop} {s : Shared} {l : Addr} {its : List Value} {ns : List Int} {Q : Value → Shared → Prop}
theorem iter_tupI {xs : Array (Int × Tok)} (hl : s.heap.IsTuple l (intItems xs))
    (h : ∀ s₂ : Shared, s₂ = { s with heap := s.heap.push { cls := .type "tuple_iterator", data := .fields #[.ref l, .int 0 0] } } →
      (s₂.heap.IsTupleIter s.heap.objs.size l 0 ∧ s₂.heap.IsTuple l (intItems xs)) → (∀ b ∈ [s.heap.objs.size, l], b < s₂.heap.objs.size) → l ≠ s.heap.objs.size → Q (.ref s.heap.objs.size) s₂) :
    wpAny (model prog w) A (pyIter (.ref l)) Q E s := by
  have hlt : l < s.heap.objs.size := by obtain ⟨_, e, _⟩ := hl; exact Heap.lt_size e
  refine wpAny_pyIter_tuple hl (h _ rfl ⟨⟨_, Heap.get?_push_size _ rfl, rfl, rfl⟩, hl.push _⟩ (fun b hb => ?_) (Nat.ne_of_lt hlt))
  show b < (s.heap.push _).objs.size
  rw [Heap.size_push]
  rcases List.mem_cons.mp hb with rfl | hb
  · exact Nat.lt_succ_self _
  · rcases List.mem_cons.mp hb with rfl | hb
    · exact Nat.lt_succ_of_lt hlt
    · cases hb
theorem kept1 {o : Obj} {h' : Heap} (hk : ∀ b o', b ∉ [s.heap.objs.size] → (s.heap.push o).get? b = some o' → h'.get? b = some o') : ∀ b o', s.heap.get? b = some o' → h'.get? b = some o' := fun b o' e => by
  refine hk b o' (fun hm => ?_) (Heap.get?_push_of_some _ e)
  rcases List.mem_cons.mp hm with e1 | hm
  · exact absurd (e1 ▸ Heap.lt_size e) (Nat.lt_irrefl _)
  · cases hm
theorem sum_rawT (hh : A.handled = none) (hl : s.heap.IsTuple l its.toArray) (hi : IntsAre its ns)
    (h : ∀ h' tk t', (∀ b o, s.heap.get? b = some o → h'.get? b = some o) → Q (.int ns.sum t') { s with heap := h', toks := tk }) : wpAny (model prog w) A (call (.builtin "sum") [.ref l]) Q E s := by
  obtain ⟨xs, e⟩ := hi.allInts.items
  have hn : numsOf (intItems xs).toList = ns := by rw [← e]; exact hi.numsOf
  rw [nums_intItems] at hn
  rw [e] at hl
  refine call_sum_walkG (iter_tupI hl fun s₂ e2 st hfp hne => ?_)
  subst e2
  refine ⟨_, _, _, _, _, _, numAt xs, rfl, Walks.tuple (A := A.in1) hh _ l hne (intItems xs), st, hfp, (fun _ _ => intItems_at), fun h' tk t' hk => ?_⟩
  have es : preSum (numAt xs) xs.size = ns.sum := by rw [preSum_eq, List.take_of_length_le (by simp), hn]
  have := h h' tk t' (kept1 hk)
  rw [← es] at this
  simpa [intItems] using this
end
section
variable {C : List Addr} {X : Cx} {e a b c : Expr} {es rest : List Expr} {w wa wb wc : WE} {pos p : Pos}
theorem reps_intsAre {K : PySem.W.Frag} {r : Addr} {H : Hp} {P : Addr → Prop} {xs : List V} {ns : List Int} (h : Reps K r H P xs (ns.map PyData.int)) : xs = ns.map V.int := h.ints
def rSumA (K : PySem.W.Frag) : List V → Hp → VK → Prop := fun vs H Q => ∃ (a : Addr) (ns : List Int), vs = [V.ref a] ∧ (SqL K H a (ns.map V.int) ∨ SqT K H a (ns.map V.int)) ∧ Q (.int ns.sum) H
theorem cr_sumA (hc : X.calm = true) : CallR X (.builtin "sum") (rSumA X.K) := by
  intro pins s σ H vs us Q I r ⟨a, ns, e, hs, q⟩
  subst e
  rcases hs with hs | hs
  · exact cr_sum hc pins s σ H _ us Q I r ⟨a, ns, rfl, hs, q⟩
  · obtain ⟨its, rv, hl, _⟩ := I.tuple hs
    rw [Vals.ref1 r]
    exact sum_rawT (I.ok.hd hc) hl rv.ints fun h' tk t' hk => ⟨.int _, H, I.kept hk, ⟨_, rfl⟩, q⟩
def fSumA : List D → (D → Prop) → Prop := fun ds Q => match ds with
  | [.tuple xs] => ∃ ns : List Int, xs = ns.map PyData.int ∧ Q (.int ns.sum)
  | [.list xs] => ∃ ns : List Int, xs = ns.map PyData.int ∧ Q (.int ns.sum)
  | _ => False
theorem cd_sum : CallD C X (rSumA X.K) fSumA := fun r H vs ds Q Qh g rv hf k => by
  unfold fSumA at hf
  split at hf <;> first | exact hf.elim | skip
  · obtain ⟨v, rfl, h⟩ := reps1 rv
    obtain ⟨ns, rfl, q⟩ := hf
    cases h with
    | tup ht hs =>
      have e := hs.ints
      subst e
      exact ⟨_, ns, rfl, .inr ht, k _ H _ (.refl _ _) g .int q⟩
  · obtain ⟨v, rfl, h⟩ := reps1 rv
    obtain ⟨ns, rfl, q⟩ := hf
    cases h with
    | lst hp hl hs =>
      have e := hs.ints
      subst e
      exact ⟨_, ns, rfl, .inl (SqL.of hl), k _ H _ (.refl _ _) g .int q⟩

/-! ### isinstance(e, (T, U)) -/
def isT2 (T U : String) (d : D) : Option Bool := match isT T d, isT U d with
  | some x, some y => some (x || y)
  | _, _ => none
theorem tyx_of2 {K : PySem.W.Frag} {r : Addr} {H : Hp} {P : Addr → Prop} {v : V} {d : D} {T U : String} {b c : Bool} (h : Rep K r H P v d) (e : isT T d = some b) (f : isT U d = some c) : ∃ t, TyX K H v t ∧ PySem.W.kitOne K t (.type T) = some b ∧ PySem.W.kitOne K t (.type U) = some c := by
  cases h with
  | non => exact ⟨_, .base .non, kit_ty e, kit_ty f⟩
  | bl => exact ⟨_, .base (.bl _), kit_ty e, kit_ty f⟩
  | int => exact ⟨_, .base (.int _), kit_ty e, kit_ty f⟩
  | str => exact ⟨_, .base (.str _), kit_ty e, kit_ty f⟩
  | tup ht hs =>
    rcases ht with (h | ⟨o, h⟩) | ⟨o, its, n, h1, h2, h3⟩
    · exact ⟨_, .base (.tup h), kit_ty e, kit_ty f⟩
    · exact ⟨_, .fTuple h, kit_ty e, kit_ty f⟩
    · exact ⟨_, .kTuple h1 h2, kit_ty e, kit_ty f⟩
  | lst hp hl hs => exact ⟨_, .base (.lst hl), kit_ty e, kit_ty f⟩
  | row => cases e
  | dic hp h hk e2 hs =>
    have e := isT_dic e2 e
    have f := isT_dic e2 f
    rcases h with h | ⟨o, h⟩
    · exact ⟨_, .base (.dK h), kit_ty e, kit_ty f⟩
    · exact ⟨_, .fDict h, kit_ty e, kit_ty f⟩
def wIsi2 (T U : String) (w : WE) : WE := fun env Q => w env fun d => onSome (isT2 T U d) fun b => Q (.bool b)
theorem de_isi2 {y z : Str} {T U : String} {py pz pt : Pos} {kt} (hg : Gl X "isinstance") (hm : X.mg "isinstance" = none) (ha : DE C X e w) (hgy : Gl X y) (hmy : X.mg y = none) (hvy : bootBuiltins y = some (.type T)) (hgz : Gl X z) (hmz : X.mg z = none) (hvz : bootBuiltins z = some (.type U))
    (hny : y ≠ "__name__" := by decide) (hdy : (y == ("__debug__" : Str)) = false := by decide) (hnz : z ≠ "__name__" := by decide) (hdz : (z == ("__debug__" : Str)) = false := by decide)
    (he : starEach [e, .Tuple [.Name y py, .Name z pz] kt pt] X.env = (false, eval e X.env) :: starEach [.Tuple [.Name y py, .Name z pz] kt pt] X.env := by rfl) (hpl : (backTo pos (starEach [.Tuple [.Name y py, .Name z pz] kt pt] X.env)).any (·.1) = false := by rfl)
    (he2 : starEach [.Tuple [.Name y py, .Name z pz] kt pt] X.env = (false, eval (.Tuple [.Name y py, .Name z pz] kt pt) X.env) :: starEach [] X.env := by rfl)
    (he3 : starEach [.Name y py, .Name z pz] X.env = (false, eval (.Name y py) X.env) :: starEach [.Name z pz] X.env := by rfl) (he4 : starEach [.Name z pz] X.env = (false, eval (.Name z pz) X.env) :: starEach [] X.env := by rfl) :
    DE C X (.Call (.Name "isinstance" p) [e, .Tuple [.Name y py, .Name z pz] kt pt] [] pos) (wIsi2 T U w) := by
  obtain ⟨t, pe, s⟩ := ha
  refine ⟨_, pe_callB call_isiT hg hm (by decide +kernel : bootBuiltins "isinstance" = some (.builtin "isinstance")) (pa_cons pe (pa_cons (pe_tup (pa_cons (pe_bltn (v := .ty T) hgy hmy hvy rfl hny hdy) (pa_cons (pe_bltn (v := .ty U) hgz hmz hvz rfl hnz hdz) pa_nil he4) he3)) pa_nil he2) he) (by decide) (by decide) he hpl, fun r H0 O σ H env Q Qh S hw k => s r H0 O σ H env _ _ S hw fun v H1 d e1 g1 rv q => ?_⟩
  obtain ⟨b, hb, q⟩ := onSome_some q
  refine ⟨by rw [sizeLine_eq]; show 2 ≤ _; omega, fun tp np => ?_⟩
  unfold isT2 at hb
  split at hb
  · rename_i x1 y1 hx hy
    cases hb
    have e2 := Ext.upd (r := r) (o := .tup [V.ty T, V.ty U]) np
    have rv2 := rv.ext e2 (P' := fun a => a ≠ r) (fun _ z => z) fun _ z => z
    obtain ⟨t2, h1, h2, h4⟩ := tyx_of2 rv2 hx hy
    refine ⟨v, tp, [V.ty T, V.ty U], t2, [.type T, .type U], _, rfl, upd_same, .cons (.ty T) (.cons (.ty U) .nil), h1, ?_, k _ _ _ (e1.trans e2) (g1.upd np) .bl q⟩
    refine kitAny_cons h2 (fun hf => ?_) fun ht => by rw [ht]; rfl
    refine kitAny_cons h4 (fun hf2 => ?_) fun ht => by rw [hf, ht]; rfl
    rw [hf, hf2]; exact kitAny_nil
  · cases hb
end
section
variable {C : List Addr} {K : PySem.W.Frag} {r : Addr} {H0 H H' : Hp} {O : Nat → Option Addr} {σ : L2.St} {env : SDs}

/-! ### several values, new lists among them -/
inductive Mix (K : PySem.W.Frag) (r : Addr) (H : Hp) (F : Addr → Prop) : List V → List SD → List Addr → Prop
  | nil : Mix K r H F [] [] []
  | val {v : V} {d : D} {vs : List V} {sds : List SD} {as : List Addr} : Rep K r H (fun _ => False) v d → Mix K r H F vs sds as → Mix K r H F (v :: vs) (SD.val d :: sds) as
  | own {p : Addr} {sd : SD} {vs : List V} {sds : List SD} {as : List Addr} : F p → ObjR K r H (fun _ => False) p sd → p ∉ as → Mix K r H F vs sds as → Mix K r H F (.ref p :: vs) (sd :: sds) (p :: as)
theorem Mix.ext {F F' : Addr → Prop} (e : Ext r H H') (hF : ∀ a, F a → F' a) (hr : ∀ a, F a → a ≠ r) : ∀ {vs : List V} {sds : List SD} {as : List Addr}, Mix K r H F vs sds as → Mix K r H' F' vs sds as
  | _, _, _, .nil => .nil
  | _, _, _, .val h t => .val (h.ext e (fun _ z => z.elim) fun _ z => z) (t.ext e hF hr)
  | _, _, _, .own f h n t => .own (hF _ f) (h.ext e (hr _ f) (fun _ z => z.elim) fun _ z => z) n (t.ext e hF hr)
theorem Mix.mem {F : Addr → Prop} : ∀ {vs : List V} {sds : List SD} {as : List Addr}, Mix K r H F vs sds as → ∀ a ∈ as, F a
  | _, _, _, .nil, _, h => by cases h
  | _, _, _, .val _ t, a, h => t.mem a h
  | _, _, _, .own f _ _ t, a, h => by
    rcases List.mem_cons.mp h with z | z
    · rw [z]; exact f
    · exact t.mem a z
theorem Mix.there {F : Addr → Prop} : ∀ {vs : List V} {sds : List SD} {as : List Addr}, Mix K r H F vs sds as → ∀ a ∈ as, H a ≠ none
  | _, _, _, .nil, _, h => by cases h
  | _, _, _, .val _ t, a, h => t.there a h
  | _, _, _, .own _ l _ t, a, h => by
    rcases List.mem_cons.mp h with z | z
    · obtain ⟨o, l, _⟩ := l.there
      rw [z, l]; simp
    · exact t.there a z
theorem Mix.nodup {F : Addr → Prop} : ∀ {vs : List V} {sds : List SD} {as : List Addr}, Mix K r H F vs sds as → as.Nodup
  | _, _, _, .nil => .nil
  | _, _, _, .val _ t => t.nodup
  | _, _, _, .own _ _ n t => List.nodup_cons.mpr ⟨n, t.nodup⟩
theorem Mix.length {F : Addr → Prop} : ∀ {vs : List V} {sds : List SD} {as : List Addr}, Mix K r H F vs sds as → vs.length = sds.length
  | _, _, _, .nil => rfl
  | _, _, _, .val _ t => congrArg (· + 1) t.length
  | _, _, _, .own _ _ _ t => congrArg (· + 1) t.length
/-- new lists held behind the slots -/
def virt (O : Nat → Option Addr) (n : Nat) (as : List Addr) : Nat → Option Addr := fun j => if n ≤ j then as[j - n]? else O j
theorem SI.virt (S : SI C K r H0 O H σ env) (e : Ext r H H') (g : Good C K r H') {as : List Addr} (nd : as.Nodup) (hn : ∀ a ∈ as, H a = none) (ht : ∀ a ∈ as, H' a ≠ none) : SI C K r H0 (virt O env.length as) H' σ env := by
  have S' := S.step e g
  have key : ∀ j a, DL.virt O env.length as j = some a → (j < env.length ∧ O j = some a) ∨ (env.length ≤ j ∧ a ∈ as ∧ as[j - env.length]? = some a) := fun j a h => by
    unfold DL.virt at h
    split at h
    · exact .inr ⟨by assumption, List.mem_of_getElem? h, h⟩
    · exact .inl ⟨by omega, h⟩
  have old : ∀ {v : V} {d : D}, Rep K r H (Pv O r) v d → Rep K r H' (Pv (DL.virt O env.length as) r) v d := fun {v d} h =>
    (h.lift (P' := fun a => Pv O r a ∧ a ∉ as) (fun _ _ x => x) (fun _ _ _ x => x) (fun _ _ _ x => x) fun a q l => ⟨q, fun z => l (hn a z)⟩).ext e (fun _ z => z.1.1) fun a z => ⟨z.1.1, fun j y => by
      rcases key j a y with ⟨_, y⟩ | ⟨_, y, _⟩
      · exact z.1.2 j y
      · exact z.2 y⟩
  have olds : ∀ {b : Addr} {sd : SD}, b ≠ r → ObjR K r H (Po O r H0) b sd → ObjR K r H' (Po (DL.virt O env.length as) r H0) b sd := fun {b sd} hb h =>
    (h.lift (P' := fun a => Po O r H0 a ∧ a ∉ as) (fun _ x _ => x) (fun _ _ x => x) (fun _ _ _ x => x) (fun _ _ _ x => x) fun a q l => ⟨q, fun z => l (hn a z)⟩).ext e hb (fun _ z => z.1.1) fun a z => ⟨z.1.1, fun j y => by
      rcases key j a y with ⟨_, y⟩ | ⟨_, y, _⟩
      · exact z.1.2.1 j y
      · exact z.2 y, z.1.2.2⟩
  refine ⟨g, S'.ext, S.len, fun i j a h1 h2 => ?_, fun j a h => ?_, fun j d h => ?_, fun j sd h zo => ?_, fun j a h => ?_⟩
  · rcases key i a h1 with ⟨a1, a2⟩ | ⟨a1, a2, a3⟩ <;> rcases key j a h2 with ⟨b1, b2⟩ | ⟨b1, b2, b3⟩
    · exact S.inj i j a a2 b2
    · exact absurd (hn a b2) (S.dom i a a2)
    · exact absurd (hn a a2) (S.dom j a b2)
    · have h1 : i - env.length < as.length := (List.getElem?_eq_some_iff.mp a3).1
      have h2 : j - env.length < as.length := (List.getElem?_eq_some_iff.mp b3).1
      rw [List.getElem?_eq_getElem h1] at a3
      rw [List.getElem?_eq_getElem h2] at b3
      have z := (List.getElem_inj nd).mp ((Option.some.inj a3).trans (Option.some.inj b3).symm)
      omega
  · rcases key j a h with ⟨_, z⟩ | ⟨_, z, _⟩
    · exact S.new j a z
    · exact ⟨S.ext.dom a (hn a z), S.good.new (hn a z)⟩
  · obtain ⟨v, h1, h2⟩ := S.val j d h
    exact ⟨v, h1, old h2⟩
  · obtain ⟨a, h1, h2, h3⟩ := S.obj j sd h zo
    have hj : j < env.length := (List.getElem?_eq_some_iff.mp h).1
    exact ⟨a, by unfold DL.virt; rw [if_neg (by omega)]; exact h1, h2, olds (S.new j a h1).2 h3⟩
  · rcases key j a h with ⟨_, z⟩ | ⟨_, z, _⟩
    · exact S'.dom j a z
    · exact ht a z
/-- a held list or dict is put into a slot -/
theorem SI.take (S : SI C K r H0 O H σ env) {i k : Nat} {p : Addr} {sd : SD} (hi : i < env.length) (hk : env.length ≤ k) (ho : O k = some p) (hp : ObjR K r H (fun _ => False) p sd) :
    SI C K r H0 (setO (offO O k) i p) H (σ.set i (some (.ref p))) (env.set i sd) := by
  have back : ∀ {j a}, setO (offO O k) i p j = some a → (j = i ∧ a = p) ∨ (j ≠ i ∧ j ≠ k ∧ O j = some a) := fun {j a} h => by
    rcases setO_some h with z | ⟨z1, z2⟩
    · exact .inl z
    · exact .inr ⟨z1, offO_some z2⟩
  have ex : ∀ a, (∀ j, O j ≠ some a) → ∀ j, setO (offO O k) i p j ≠ some a := fun a h j z => by
    rcases back z with ⟨_, z2⟩ | ⟨_, _, z2⟩
    · exact h k (by rw [z2]; exact ho)
    · exact h j z2
  refine ⟨S.good, S.ext, by rw [List.length_set, List.length_set]; exact S.len, fun j l a h1 h2 => ?_, fun j a h1 => ?_, fun j d e => ?_, fun j d e zo => ?_, fun j a h1 => ?_⟩
  · rcases back h1 with ⟨z1, z2⟩ | ⟨z1, z2, z3⟩ <;> rcases back h2 with ⟨y1, y2⟩ | ⟨y1, y2, y3⟩
    · exact z1.trans y1.symm
    · rw [z2] at y3; exact absurd (S.inj _ _ _ y3 ho) y2
    · rw [y2] at z3; exact absurd (S.inj _ _ _ z3 ho) z2
    · exact S.inj _ _ _ z3 y3
  · rcases back h1 with ⟨_, z2⟩ | ⟨_, _, z2⟩
    · rw [z2]; exact S.new k p ho
    · exact S.new j a z2
  · by_cases hj : i = j
    · subst hj; rw [List.getElem?_set_self hi] at e; cases e; exact hp.owns.elim
    · rw [List.getElem?_set_ne hj] at e
      obtain ⟨v', h1, h2⟩ := S.val j d e
      exact ⟨v', by rw [List.getElem?_set_ne hj]; exact h1, h2.mono fun a z => ⟨z.1, ex a z.2⟩⟩
  · by_cases hj : i = j
    · subst hj
      rw [List.getElem?_set_self hi] at e
      cases e
      exact ⟨p, by unfold setO; rw [if_pos rfl], List.getElem?_set_self (by rw [S.len]; exact hi), hp.mono fun _ z => z.elim⟩
    · rw [List.getElem?_set_ne hj] at e
      obtain ⟨a, h1, h2, h3⟩ := S.obj j d e zo
      have hjl : j < env.length := (List.getElem?_eq_some_iff.mp e).1
      exact ⟨a, by unfold setO offO; rw [if_neg (Ne.symm hj), if_neg (by omega)]; exact h1, by rw [List.getElem?_set_ne hj]; exact h2, h3.mono fun b z => ⟨z.1, ex b z.2.1, z.2.2⟩⟩
  · rcases back h1 with ⟨_, z2⟩ | ⟨_, _, z2⟩
    · obtain ⟨o, h, _⟩ := hp.there
      rw [z2, h]; simp
    · exact S.dom j a z2
def setsV : L2.St → List Nat → List V → L2.St
  | σ, i :: is, v :: vs => setsV (σ.set i (some v)) is vs
  | σ, _, _ => σ
def setsE : SDs → List Nat → List SD → SDs
  | env, i :: is, v :: vs => setsE (env.set i v) is vs
  | env, _, _ => env
theorem SI.sets {F : Addr → Prop} : ∀ {vs : List V} {sds : List SD} {as : List Addr} (M : Mix K r H F vs sds as) {O : Nat → Option Addr} {σ : L2.St} {env : SDs} {ixs : List Nat}, SI C K r H0 O H σ env → (∀ a ∈ as, ∃ k, env.length ≤ k ∧ O k = some a) → (∀ i ∈ ixs, i < env.length) → ixs.length = vs.length →
    ∃ O', SI C K r H0 O' H (setsV σ ixs vs) (setsE env ixs sds) ∧ ∀ j a, O' j = some a → ∃ k, O k = some a
  | _, _, _, .nil, O, σ, env, ixs, S, _, _, hl => by
    cases ixs with
    | nil => exact ⟨O, S, fun j a h => ⟨j, h⟩⟩
    | cons i is => simp at hl
  | _, _, _, .val h t, O, σ, env, ixs, S, ha, hi, hl => by
    cases ixs with
    | nil => simp at hl
    | cons i is =>
      have S1 := S.set_val (i := i) (hi i (by simp)) (h.mono fun _ z => z.elim)
      obtain ⟨O', S2, z⟩ := SI.sets t S1 (fun a hm => by
        obtain ⟨k, k1, k2⟩ := ha a hm
        have := hi i (by simp)
        refine ⟨k, by rw [List.length_set]; exact k1, ?_⟩
        unfold offO
        rw [if_neg (by omega)]; exact k2) (fun j hj => by rw [List.length_set]; exact hi j (List.mem_cons_of_mem _ hj)) (by simpa using hl)
      exact ⟨O', S2, fun j a q => by obtain ⟨k, q⟩ := z j a q; exact ⟨k, (offO_some q).2⟩⟩
  | _, _, _, .own (p := p) f h n t, O, σ, env, ixs, S, ha, hi, hl => by
    cases ixs with
    | nil => simp at hl
    | cons i is =>
      obtain ⟨k, k1, k2⟩ := ha p (by simp)
      have S1 := S.take (i := i) (hi i (by simp)) k1 k2 h
      obtain ⟨O', S2, z⟩ := SI.sets t S1 (fun a hm => by
        obtain ⟨k', q1, q2⟩ := ha a (List.mem_cons_of_mem _ hm)
        have := hi i (by simp)
        have hne : a ≠ p := fun z => n (by rw [← z]; exact hm)
        refine ⟨k', by rw [List.length_set]; exact q1, ?_⟩
        unfold setO offO
        rw [if_neg (by omega), if_neg (fun z => by rw [z, k2] at q2; exact hne (Option.some.inj q2).symm)]; exact q2) (fun j hj => by rw [List.length_set]; exact hi j (List.mem_cons_of_mem _ hj)) (by simpa using hl)
      refine ⟨O', S2, fun j a q => ?_⟩
      obtain ⟨k', q⟩ := z j a q
      rcases setO_some q with ⟨_, y⟩ | ⟨_, y⟩
      · exact ⟨k, by rw [y]; exact k2⟩
      · exact ⟨k', (offO_some y).2⟩
end
abbrev WM := SDs → (List SD → Prop) → Prop
def DM (C : List Addr) (X : Cx) (es : List Expr) (w : WM) : Prop := ∃ t, PA X es t ∧ ∀ (r : Addr) (H0 : Hp) (O : Nat → Option Addr) (σ : L2.St) (H : Hp) (env : SDs) (Q : List SD → Prop) (Qh : List V → Hp → Prop), SI C X.K r H0 O H σ env → w env Q →
  (∀ vs H' sds as, Ext r H H' → Good C X.K r H' → Mix X.K r H' (fun p => H p = none) vs sds as → Q sds → Qh vs H') → t σ H Qh
section
variable {C : List Addr} {X : Cx} {W : WX} {e a b c : Expr} {es rest : List Expr} {w wa wb wc : WE} {pos p : Pos} {wm : WM} {wl : WL}
def wmNil : WM := fun _ Q => Q []
def wmVal (w : WE) (wm : WM) : WM := fun env Q => w env fun d => wm env fun sds => flat d = true ∧ Q (SD.val d :: sds)
def wmOwn (w : WL) (wm : WM) : WM := fun env Q => w env fun ds => wm env fun sds => flats ds = true ∧ Q (SD.own ds :: sds)
theorem dm_nil : DM C X [] wmNil := ⟨_, pa_nil, fun r H0 O σ H env Q Qh S hw k => k [] H [] [] (.refl _ _) S.good .nil hw⟩
theorem dm_val (ha : DE C X e w) (hr : DM C X es wm) (hs : starEach (e :: es) X.env = (false, eval e X.env) :: starEach es X.env := by rfl) : DM C X (e :: es) (wmVal w wm) := by
  obtain ⟨ta, pa, sa⟩ := ha
  obtain ⟨tb, pb, sb⟩ := hr
  refine ⟨_, pa_cons pa pb hs, fun r H0 O σ H env Q Qh S hw k => ?_⟩
  refine sa r H0 O σ H env _ _ S hw fun x H1 dx e1 g1 r1 q1 => ?_
  refine sb r H0 O σ H1 env _ _ (S.step e1 g1) q1 fun ys H2 sds as e2 g2 r2 q2 => ?_
  refine k (x :: ys) H2 _ as (e1.trans e2) g2 (.val ((r1.flat q2.1 (P' := fun _ => False)).ext e2 (fun _ z => z.elim) fun _ z => z) ?_) q2.2
  exact r2.ext (.refl _ _) (fun a z => e1.dom a z) fun a z => S.good.new (e1.dom a z)
theorem dm_own (ha : DN C X e wl) (hr : DM C X es wm) (hs : starEach (e :: es) X.env = (false, eval e X.env) :: starEach es X.env := by rfl) : DM C X (e :: es) (wmOwn wl wm) := by
  obtain ⟨ta, pa, sa⟩ := ha
  obtain ⟨tb, pb, sb⟩ := hr
  refine ⟨_, pa_cons pa pb hs, fun r H0 O σ H env Q Qh S hw k => ?_⟩
  refine sa r H0 O σ H env _ _ S hw fun p H1 us ds e1 g1 np l1 r1 q1 => ?_
  refine sb r H0 O σ H1 env _ _ (S.step e1 g1) q1 fun ys H2 sds as e2 g2 r2 q2 => ?_
  have pr : p ≠ r := S.good.new np
  refine k (.ref p :: ys) H2 _ (p :: as) (e1.trans e2) g2 (.own (sd := SD.own ds) np ⟨us, e2.lst pr l1, (r1.flats q2.1 (P' := fun _ => False)).ext e2 (fun _ z => z.elim) fun _ z => z⟩ (fun z => ?_) ?_) q2.2
  · have := r2.mem p z
    have this : H1 p = none := this
    rw [l1] at this; cases this
  · exact r2.ext (.refl _ _) (fun a z => e1.dom a z) fun a z => S.good.new (e1.dom a z)
/-- a, b = e, e' -/
def wPar (ixs : List Nat) (wm : WM) : WS := fun K env => wm env fun sds => (sds.length = ixs.length ∧ ∀ i ∈ ixs, i < env.length) ∧ K.nx (setsE env ixs sds)
theorem par_end {r : Addr} {H0 H H' : Hp} {O : Nat → Option Addr} {σ : L2.St} {env : SDs} {ixs : List Nat} {vs : List V} {sds : List SD} {as : List Addr} {Kd : KD} {E : Ends} (S : SI C X.K r H0 O H σ env) (m : Match C X W r H0 O H Kd E) (e : Ext r H H') (g : Good C X.K r H') (M : Mix X.K r H' (fun p => H p = none) vs sds as)
    (hl : sds.length = ixs.length) (hi : ∀ i ∈ ixs, i < env.length) (q : Kd.nx (setsE env ixs sds)) : E.nx (setsV σ ixs vs) H' := by
  have S1 := S.virt e g M.nodup M.mem M.there
  obtain ⟨O', S2, z⟩ := SI.sets M S1 (ixs := ixs) (fun a ha => by
    obtain ⟨j, hj, he⟩ := List.mem_iff_getElem.mp ha
    refine ⟨env.length + j, by omega, ?_⟩
    unfold DL.virt
    rw [if_pos (by omega), Nat.add_sub_cancel_left, List.getElem?_eq_getElem hj, he]) hi (by rw [M.length, hl])
  refine m.nx O' _ H' _ ⟨(Frm.of_ext (O := O) e).keep, e.dom, fun j a h => ?_⟩ S2 q
  obtain ⟨k, h⟩ := z j a h
  unfold DL.virt at h
  split at h
  · exact .inr (M.mem a (List.mem_of_getElem? h))
  · exact .inl ⟨k, h⟩
theorem ds_par2 (i j : Nat) {x y : Str} {px py pt : Pos} {kt k2 pt2} (hc : X.calm = true) (hN : X.N.Nodup) (hi : X.N[i]? = some x) (hj : X.N[j]? = some y) (hx : X.env.scope.names.lookup x = some .local) (hy : X.env.scope.names.lookup y = some .local) (ha : DM C X [a, b] wm)
    (hw : swappedStores [.Tuple [.Name x px, .Name y py] kt pt] (.Tuple [a, b] k2 pt2) X.env = pure (some [x, y])) (hij : (i == j) = false := by rfl) (hs : swapsWithSole [.Tuple [.Name x px, .Name y py] kt pt] (.Tuple [a, b] k2 pt2) pos.line X.env = pure false := by rfl) :
    DS C X W (.Assign [.Tuple [.Name x px, .Name y py] kt pt] (.Tuple [a, b] k2 pt2) pos) (wPar [i, j] wm) := by
  obtain ⟨t, pa, s⟩ := ha
  refine ⟨_, ps_par hc hN hi hj (by intro z; rw [z] at hij; simp at hij) hx hy pa hw hs, fun r H0 O σ H env Kd E S hw m => s r H0 O σ H env _ _ S hw fun vs H1 sds as e1 g1 M q => ?_⟩
  have hl := M.length
  have q1 : sds.length = 2 := q.1.1
  match vs, hl with
  | [v, w], _ => exact ⟨v, w, rfl, par_end S m e1 g1 M q.1.1 q.1.2 q.2⟩
  | [], hl => rw [q1] at hl; cases hl
  | [_], hl => rw [q1] at hl; cases hl
  | _ :: _ :: _ :: _, hl => rw [q1] at hl; simp at hl
theorem ds_par3 (i j l : Nat) {x y z : Str} {px py pz pt : Pos} {kt k2 pt2} (hc : X.calm = true) (hN : X.N.Nodup) (hi : X.N[i]? = some x) (hj : X.N[j]? = some y) (hl : X.N[l]? = some z) (hx : X.env.scope.names.lookup x = some .local) (hy : X.env.scope.names.lookup y = some .local) (hz : X.env.scope.names.lookup z = some .local) (ha : DM C X [a, b, c] wm)
    (hw : swappedStores [.Tuple [.Name x px, .Name y py, .Name z pz] kt pt] (.Tuple [a, b, c] k2 pt2) X.env = pure (some [x, y, z])) (hij : (i == j) = false := by rfl) (hil : (i == l) = false := by rfl) (hjl : (j == l) = false := by rfl) (hs : swapsWithSole [.Tuple [.Name x px, .Name y py, .Name z pz] kt pt] (.Tuple [a, b, c] k2 pt2) pos.line X.env = pure false := by rfl) :
    DS C X W (.Assign [.Tuple [.Name x px, .Name y py, .Name z pz] kt pt] (.Tuple [a, b, c] k2 pt2) pos) (wPar [i, j, l] wm) := by
  obtain ⟨t, pa, s⟩ := ha
  refine ⟨_, L2.ps_par3 hc hN hi hj hl (by intro z; rw [z] at hij; simp at hij) (by intro z; rw [z] at hil; simp at hil) (by intro z; rw [z] at hjl; simp at hjl) hx hy hz pa hw hs, fun r H0 O σ H env Kd E S hw m => s r H0 O σ H env _ _ S hw fun vs H1 sds as e1 g1 M q => ?_⟩
  have hl := M.length
  have q1 : sds.length = 3 := q.1.1
  match vs, hl with
  | [u, v, w], _ => exact ⟨u, v, w, rfl, par_end S m e1 g1 M q.1.1 q.1.2 q.2⟩
  | [], hl => rw [q1] at hl; cases hl
  | [_], hl => rw [q1] at hl; cases hl
  | [_, _], hl => rw [q1] at hl; cases hl
  | _ :: _ :: _ :: _ :: _, hl => rw [q1] at hl; simp at hl
/-- .. by a tuple: names of any kind, any number of them -/
inductive NmTgs (X : Cx) : List Expr → List Nat → Prop
  | nil : NmTgs X [] []
  | cons {x : Str} {i : Nat} {p : Pos} {es : List Expr} {ixs : List Nat} : X.N[i]? = some x → Loc X.env.scope x → (X.fn x = true ∨ X.env.scope.names.lookup x = some .local) → (assignEach (.Name x p :: es) X.env).map (·.2) = assign (.Name x p) X.env :: (assignEach es X.env).map (·.2) → NmTgs X es ixs → NmTgs X (.Name x p :: es) (i :: ixs)
def gNames : List Nat → TGs
  | [] => gNil
  | i :: is => gCons (gName i) (gNames is)
theorem NmTgs.pgs {X : Cx} (hN : X.N.Nodup) : ∀ {es : List Expr} {ixs : List Nat}, NmTgs X es ixs → PGs X es (gNames ixs)
  | _, _, .nil => pgs_nil
  | _, _, .cons h1 h2 h3 h4 t => pgs_cons (pg_name hN h1 h2 h3) (t.pgs hN) h4
theorem gNames_run : ∀ {ixs : List Nat} {vs : List V} {σ : L2.St} {H : Hp} {Q : L2.St → Hp → Prop}, ixs.length = vs.length → Q (setsV σ ixs vs) H → gNames ixs vs σ H Q
  | [], [], σ, H, Q, _, q => ⟨rfl, q⟩
  | [], _ :: _, _, _, _, h, _ => by simp at h
  | _ :: _, [], _, _, _, h, _ => by simp at h
  | i :: is, v :: vs, σ, H, Q, h, q => ⟨v, vs, rfl, gNames_run (σ := σ.set i (some v)) (by simpa using h) q⟩
theorem ds_parT (ixs : List Nat) {ts : List Expr} {kt k2 : Nat} {pt pt2 : Pos} {n : Nat} (hc : X.calm = true) (hN : X.N.Nodup) (ht : NmTgs X ts ixs) (ha : DM C X es wm)
    (hn : (assignEach ts X.env).length = n := by rfl) (hst : (assignEach ts X.env).findIdx? (·.1) = none := by rfl) (hn2 : ixs.length = n := by rfl) (hsz : ixs.length ≤ 16777216 := by decide)
    (hs : swapsWithSole [.Tuple ts kt pt] (.Tuple es k2 pt2) pos.line X.env = pure false := by rfl) (hw : swappedStores [.Tuple ts kt pt] (.Tuple es k2 pt2) X.env = pure none := by rfl)
    (h1 : (assignEach [.Tuple ts kt pt] X.env).map (·.2) = [assign (.Tuple ts kt pt) X.env] := by rfl) : DS C X W (.Assign [.Tuple ts kt pt] (.Tuple es k2 pt2) pos) (wPar ixs wm) := by
  obtain ⟨t, pa, s⟩ := ha
  refine ⟨_, ps_asg (pe_tup pa) (pg_tup hc (ht.pgs hN) hn hst) hs hw h1, fun r H0 O σ H env Kd E S hw m => s r H0 O σ H env _ _ S hw fun vs H1 sds as e1 g1 M q => ?_⟩
  have hl := M.length
  refine ⟨by rw [sizeLine_eq, hl, q.1.1]; exact hsz, fun T nT => ?_⟩
  have e2 := Ext.upd (r := r) (o := .tup vs) nT
  refine ⟨T, vs, rfl, SqT.of upd_same, by rw [hl, q.1.1, hn2], gNames_run (by rw [hl, q.1.1]) ?_⟩
  exact par_end S m (e1.trans e2) (g1.upd nT) (M.ext e2 (fun a z => z) fun a z => S.good.new z) q.1.1 q.1.2 q.2
/-- a, b = e: a tuple is taken apart -/
def wUnp (wg : WG) (w : WE) : WS := fun K env => w env fun d => wg d env K.nx
theorem ds_unp {tg : Expr} {wg : WG} {ix : List Nat} (he : DE C X e w) (hg : DG C X tg ix wg) (hs : swapsWithSole [tg] e pos.line X.env = pure false := by rfl) (hw : swappedStores [tg] e X.env = pure none := by rfl)
    (h1 : (assignEach [tg] X.env).map (·.2) = [assign tg X.env] := by rfl) : DS C X W (.Assign [tg] e pos) (wUnp wg w) := by
  obtain ⟨t, pe, s⟩ := he
  obtain ⟨tg', pg, sg⟩ := hg
  refine ⟨_, ps_asg pe pg hs hw h1, fun r H0 O σ H env Kd E S hw m => s r H0 O σ H env _ _ S hw fun v H1 d e1 g1 rv q => ?_⟩
  exact sg r H0 O σ H1 env v d _ _ (S.step e1 g1) rv q fun O' σ' env' f S' _ _ _ q' => m.nx O' σ' H1 env' ((Frm.of_ext e1).trans f) S' q'
end
section
variable {C : List Addr} {X : Cx} {W : WX} {e a b c i' : Expr} {es rest : List Expr} {w wa wb wc : WE} {pos p : Pos} {wl : WL}

/-! ### items stored, insert, pop -/
/-- name[i] = e -/
def wSto (i : Nat) (wi we : WE) : WS := fun K env => we env fun v => flat v = true ∧ onOwn env i fun ds => wi env fun j => match j with
  | .int k => onSome (ixN ds.length k) fun n => K.nx (env.set i (SD.own (ds.set n v)))
  | _ => False
theorem ds_sto (i : Nat) {x : Str} {px spos : Pos} (he : DE C X e w) (hi : DE C X i' wa) (hN : X.N[i]? = some x := by rfl) (hv : Vis X.env.scope x := by first | exact Or.inl rfl | exact Or.inr (Or.inl rfl) | exact Or.inr (Or.inr rfl)) (hd : (x == ("__debug__" : Str)) = false := by decide)
    (hcd : (x == ("__classdict__" : Str)) = false := by decide) (hs : swapsWithSole [.Subscript (.Name x px) i' spos] e pos.line X.env = pure false := by rfl) (hw : swappedStores [.Subscript (.Name x px) i' spos] e X.env = pure none := by rfl)
    (h1 : (assignEach [.Subscript (.Name x px) i' spos] X.env).map (·.2) = [assign (.Subscript (.Name x px) i' spos) X.env] := by rfl)
    (ha : ∀ v, assign (.Subscript (.Name x px) i' spos) X.env v = (do
      let ov ← holding [v] (eval (.Name x px) X.env)
      let iv ← holding [v, ov] (eval i' X.env)
      standAt spos
      holding [v, ov, iv] (setItem ov iv v)
      release [v, ov, iv] []) := by intro _; rfl) : DS C X W (.Assign [.Subscript (.Name x px) i' spos] e pos) (wSto i wa w) := by
  obtain ⟨t, pe, s⟩ := he
  obtain ⟨ti, pi, si⟩ := hi
  refine ⟨_, ps_asg pe (pg_sub (pe_var hN hv hd hcd) pi set_list ha) hs hw h1, fun r H0 O σ H env Kd E S hw m => s r H0 O σ H env _ _ S hw fun v H1 d e1 g1 rv q => ?_⟩
  obtain ⟨hf, q⟩ := q
  obtain ⟨ds, he, q⟩ := onOwn_some q
  have S1 := S.step e1 g1
  obtain ⟨a, vs, h1, h2, h3, h4⟩ := S1.own i ds he
  refine ⟨.ref a, h2, si r H0 O σ H1 env _ _ S1 q fun j H2 dj e2 g2 rj q2 => ?_⟩
  cases dj <;> first | exact q2.elim | skip
  cases rj
  obtain ⟨n, hn, q2⟩ := onSome_some q2
  have S2 := S1.step e2 g2
  have h3' := e2.lst (S1.new i a h1).2 h3
  have h4' := h4.ext e2 (P' := Po O r H0) (fun _ z => z.1) fun _ z => z
  refine ⟨a, vs, _, n, rfl, rfl, h3', by rw [h4.length]; exact hn, ?_⟩
  exact m.nx O σ _ _ (((Frm.of_ext e1).trans (.of_ext e2)).trans (.upd h1 h3')) (S2.write he h1 h3' (h4'.set (rv.flat hf |>.ext e2 (fun _ (z : False) => z.elim) fun _ z => z.elim) n)) q2
/-- name.insert(i, e) -/
def wIns (i : Nat) (wi we : WE) : WS := fun K env => onOwn env i fun ds => wi env fun j => we env fun v => match j with
  | .int k => (ds.length < 16777216 ∧ flat v = true ∧ 0 ≤ k ∧ k < 2 ^ 63) ∧ K.nx (env.set i (SD.own (ds.take k.toNat ++ [v] ++ ds.drop k.toNat)))
  | _ => False
theorem ds_ins (i : Nat) {x : Str} {px apos cpos : Pos} (hi : DE C X i' wa) (he : DE C X e w) (hN : X.N[i]? = some x := by rfl) (hv : Vis X.env.scope x := by first | exact Or.inl rfl | exact Or.inr (Or.inl rfl) | exact Or.inr (Or.inr rfl)) (hd : (x == ("__debug__" : Str)) = false := by decide)
    (hcd : (x == ("__classdict__" : Str)) = false := by decide) (hst : starEach (i' :: e :: []) X.env = (false, eval i' X.env) :: starEach [e] X.env := by rfl) (hst2 : starEach (e :: []) X.env = (false, eval e X.env) :: starEach [] X.env := by rfl)
    (hs : swapsWith (.Call (.Attribute (.Name x px) "insert" apos) [i', e] [] cpos) none pos.line X.env = pure false := by rfl)
    (hbase : attributeBase (.Name x px) "insert" X.env (eval (.Name x px) X.env) = eval (.Name x px) X.env := by rfl)
    (hfew : ((backTo cpos (starEach (i' :: [e]) X.env)).all (fun x => !x.1) && (backToKw cpos (keywordEach [] X.env)).all (fun x => x.1.isSome)
      && decide ((i' :: [e]).length + ([] : List Keyword).length + (if ([] : List Keyword).isEmpty then 0 else 1) < 30)) = true := by rfl)
    (hline : (apos.endLine == cpos.line) = true := by rfl) (hplain : (backTo cpos (starEach [e] X.env)).any (·.1) = false := by rfl) :
    DS C X W (.Expr (.Call (.Attribute (.Name x px) "insert" apos) [i', e] [] cpos) pos) (wIns i wa w) := by
  obtain ⟨t, pe, s⟩ := he
  obtain ⟨ti, pi, si⟩ := hi
  refine ⟨_, ps_expr (pe_bm PySem.F.plainAttrs_list PySem.F.slot_list_insert PySem.F.type_list_insert mt_insert (pe_var hN hv hd hcd) (pa_cons pi (pa_cons pe pa_nil hst2) hst) hbase hfew hline hst hplain) hs, fun r H0 O σ H env Kd E S hw m => ?_⟩
  obtain ⟨ds, he, hw⟩ := onOwn_some hw
  obtain ⟨a, vs, h1, h2, h3, h4⟩ := S.own i ds he
  refine ⟨.ref a, h2, .inl ⟨rfl, _, SqL.of h3⟩, ?_⟩
  refine si r H0 O σ H env _ _ S hw fun j H1 dj e1 g1 rj q => ?_
  have S1 := S.step e1 g1
  refine s r H0 O σ H1 env _ _ S1 q fun v H2 d e2 g2 rv q => ?_
  cases dj <;> first | exact q.elim | skip
  cases rj with
  | @int k =>
    have S2 := S1.step e2 g2
    have e12 := e1.trans e2
    have h3' := e12.lst (S.new i a h1).2 h3
    have h4' := h4.ext e12 (P' := Po O r H0) (fun _ z => z.1) fun _ z => z
    refine ⟨a, vs, _, v, rfl, rfl, h3', by rw [sizeLine_eq, h4.length]; exact q.1.1, q.1.2.2.1, q.1.2.2.2, ?_⟩
    exact m.nx O σ _ _ ((Frm.of_ext e12).trans (.upd h1 h3')) (S2.write he h1 h3' (((h4'.take _).append (.cons (rv.flat q.1.2.1) .nil)).append (h4'.drop _))) q.2
theorem new_lst {K : PySem.W.Frag} {r : Addr} {H0 H H2 : Hp} {O : Nat → Option Addr} {Q : List D → Prop} {Qh : VK} {p : Addr} {vs : List V} {ds : List D} (e : Ext r H H2) (g : Good C K r H2) (np : H2 p = none) (h : Reps K r H2 (fun _ => False) vs ds) (q : Q ds)
    (k : ∀ p H' vs ds, Ext r H H' → Good C K r H' → H p = none → H' p = some (.lst vs) → Reps K r H' (fun a => Po O r H0 a ∧ a ≠ p) vs ds → Q ds → Qh (.ref p) H') : Qh (.ref p) (upd H2 p (.lst vs)) :=
  have e2 : Ext r H2 (upd H2 p (.lst vs)) := Ext.upd np
  k p _ vs ds (e.trans e2) (g.upd np) (e.dom p np) upd_same (h.ext e2 (fun _ z => z.elim) fun _ z => z.elim) q
theorem new_tup {K : PySem.W.Frag} {r : Addr} {H : Hp} {Q : D → Prop} {Qh : VK} {p : Addr} {vs : List V} {ds : List D} (g : Good C K r H) (np : H p = none) (h : Reps K r H (fun a => a ≠ r) vs ds) (q : Q (.tuple ds))
    (k : ∀ v H' d, Ext r H H' → Good C K r H' → Rep K r H' (fun a => a ≠ r) v d → Q d → Qh v H') : Qh (.ref p) (upd H p (.tup vs)) :=
  have e2 : Ext r H (upd H p (.tup vs)) := Ext.upd np
  k _ _ _ e2 (g.upd np) (.tup (SqT.of upd_same) (h.ext e2 (fun _ z => z) fun _ z => z)) q
/-! ### list + list, list * int, tuple * int -/
def fCatL : D → D → (List D → Prop) → Prop
  | .list a, .list b, Q => (a.length + b.length ≤ 16777216 ∧ flats a = true ∧ flats b = true) ∧ Q (a ++ b)
  | _, _, _ => False
theorem dn_cat (ha : DE C X a wa) (hb : DE C X b wb) : DN C X (.BinOp a .Add b pos) (fun env Q => wa env fun x => wb env fun y => fCatL x y Q) := by
  obtain ⟨ta, pa, sa⟩ := ha
  obtain ⟨tb, pb, sb⟩ := hb
  refine ⟨_, pe_op op_cat pa pb, fun r H0 O σ H env Q Qh S hw k => ?_⟩
  refine two sa sb S hw fun x y dx dy H2 e g rx ry q => ?_
  unfold fCatL at q
  split at q <;> first | exact q.elim | skip
  cases rx with
  | @lst a1 xs1 _ p1 l1 h1 =>
    cases ry with
    | @lst a2 xs2 _ p2 l2 h2 =>
      refine ⟨_, _, _, _, rfl, rfl, l1, l2, by rw [sizeLine_eq, h1.length, h2.length]; exact q.1.1, fun p np => ?_⟩
      exact new_lst e g np ((h1.flats q.1.2.1 (P' := fun _ => False)).append (h2.flats q.1.2.2)) q.2 k
def fRepL : D → D → (List D → Prop) → Prop
  | .list a, .int k, Q => (a.length * k.toNat ≤ 16777216 ∧ -(2 ^ 63) ≤ k ∧ k < 2 ^ 63 ∧ flats a = true) ∧ Q (List.replicate k.toNat a).flatten
  | _, _, _ => False
theorem dn_rep (ha : DE C X a wa) (hb : DE C X b wb) : DN C X (.BinOp a .Mult b pos) (fun env Q => wa env fun x => wb env fun y => fRepL x y Q) := by
  obtain ⟨ta, pa, sa⟩ := ha
  obtain ⟨tb, pb, sb⟩ := hb
  refine ⟨_, pe_op op_rep pa pb, fun r H0 O σ H env Q Qh S hw k => ?_⟩
  refine two sa sb S hw fun x y dx dy H2 e g rx ry q => ?_
  unfold fRepL at q
  split at q <;> first | exact q.elim | skip
  cases ry
  cases rx with
  | @lst a1 xs1 _ p1 l1 h1 =>
    refine ⟨_, _, _, rfl, rfl, l1, q.1.2.1, q.1.2.2.1, by rw [sizeLine_eq, h1.length]; exact q.1.1, fun p np => ?_⟩
    exact new_lst e g np ((h1.flats q.1.2.2.2 (P' := fun _ => False)).rep _) q.2 k
/-- tuple * int, at least two -/
def dRepT : D → D → (D → Prop) → Prop
  | .tuple a, .int k, Q => (a ≠ [] ∧ 2 ≤ k ∧ k ≤ 1000 ∧ a.length ≤ 1000) ∧ Q (.tuple (List.replicate k.toNat a).flatten)
  | _, _, _ => False
theorem de_repT (ha : DE C X a wa) (hb : DE C X b wb) : DE C X (.BinOp a .Mult b pos) (wBin dRepT wa wb) := de_bin op_repT (fun r H x y dx dy Q Qh g rx ry q k => by
  unfold dRepT at q
  split at q <;> first | exact q.elim | skip
  cases ry
  cases rx with
  | @tup a xs ds ht hs =>
    refine ⟨_, _, _, rfl, rfl, ht, fun z => q.1.1 (by subst z; cases hs; rfl), q.1.2.1, q.1.2.2.1, by rw [hs.length]; exact q.1.2.2.2, fun p np => ?_⟩
    exact new_tup g np (hs.rep _) q.2 k) ha hb
end
section
variable {C : List Addr} {X : Cx} {e a b c : Expr} {es rest : List Expr} {w wa wb wc : WE} {pos p : Pos} {wl : WL}
/-! ### what a def's rules take from outside -/
/-- a def of the module with its promise -/
structure FnB (P : Program) (w : World) (K : PySem.W.Frag) (mg : Str → Option Value) (base : Heap) (C : List Addr) (x : Str) (k n : Nat) (fs : FS) : Prop where
  ex : ∃ (f : Addr) (fd : FuncData) (ps : List Str), FnOk P w K mg base CX0 k f fd ps (spD C K n fs) ∧ mg x = some (.ref f) ∧ PySem.W.keepIn K (.ref f) = true ∧ Binds K fd ps []
theorem FnB.up {P : Program} {w : World} {K : PySem.W.Frag} {mg : Str → Option Value} {base : Heap} {C : List Addr} {x : Str} {k n : Nat} {fs : FS} (B : FnB P w K mg base C x k n fs) (P1 : Addr) : FnB P w K mg base (P1 :: C) x k n fs :=
  let ⟨f, fd, ps, F, r⟩ := B.ex
  ⟨f, fd, ps, F.imp fun vs H Q E h => by
    obtain ⟨hl, r, ds, Q0, g, rv, hf, hQ⟩ := h
    exact ⟨hl, r, ds, Q0, g.less, rv, hf, fun d v H' q e g' rr => hQ d v H' q e (g'.cons (e.tab _ (g.tab _ List.mem_cons_self))) rr⟩, r⟩
theorem de_callF {k j n : Nat} {fs : FS} {x : Str} (B : FnB X.prog X.w X.K X.mg X.base C x k n fs) (hR : Room j X.A) (ha : DA C X (e :: es) wl) (hj : k ≤ j := by decide) (hg : Gl X x := by rfl) (hdb : (x == ("__debug__" : Str)) = false := by decide)
    (he : starEach (e :: es) X.env = (false, eval e X.env) :: starEach es X.env := by rfl) (hpl : (backTo pos (starEach es X.env)).any (·.1) = false := by rfl) : DE C X (.Call (.Name x p) (e :: es) [] pos) (wFn (fun ds Q => ds.length = n ∧ fs ds Q) wl) :=
  let ⟨f, fd, ps, F, hm, hk, hb⟩ := B.ex
  de_call F (hR.mono hj) hg hm hk hb ha hdb he hpl
def wFnN (n : Nat) (fs : FS) (wl : WL) : WL := fun env Q => wl env fun ds => ds.length = n ∧ fs ds fun d => match d with
      | .list l => Q l
      | _ => False
theorem dn_callF {k j n : Nat} {fs : FS} {x : Str} (B : FnB X.prog X.w X.K X.mg X.base C x k n fs) (hR : Room j X.A) (ha : DA C X (e :: es) wl) (hj : k ≤ j := by decide) (hg : Gl X x := by rfl) (hdb : (x == ("__debug__" : Str)) = false := by decide)
    (he : starEach (e :: es) X.env = (false, eval e X.env) :: starEach es X.env := by rfl) (hpl : (backTo pos (starEach es X.env)).any (·.1) = false := by rfl) : DN C X (.Call (.Name x p) (e :: es) [] pos) (wFnN n fs wl) :=
  let ⟨f, fd, ps, F, hm, hk, hb⟩ := B.ex
  dn_call F (hR.mono hj) hg hm hk hb ha hdb he hpl
theorem de_globE {x : Str} {i : Int} (hm : ∃ t, X.mg x = some (.int i t)) (hg : Gl X x := by rfl) (hd : (x == ("__debug__" : Str)) = false := by decide) : DE C X (.Name x pos) (wC (.int i)) := let ⟨t, hm⟩ := hm; de_glob hg hm hd
/-! ### // -/
structure Sr (P : Program) (base : Heap) : Prop where
  base : base.NoSeer
  tree : P.given.tree = none
theorem Sr.seer {k : Nat} (S : Sr X.prog X.base) (hR : Room k X.A) (hk : 40 ≤ k := by decide) (hs : ∃ env l, X.stack = env :: l ∧ env.scope.isGenerator = false ∧ env.scope.isCoroutine = false ∧ env.builtins = builtinsNs ∧ env.globals = mainGlobals := by exact ⟨_, _, rfl, rfl, rfl, rfl, rfl⟩) : Seer X :=
  ⟨S.base, S.tree, by have := hR.dp; have e1 : Builtin.pylongFrames ≤ 100 := by decide
                      have e2 : recursionLimit = 1000 := by rfl
                      omega, hs⟩
theorem de_fdivS {k : Nat} (S : Sr X.prog X.base) (hR : Room k X.A) (ha : DE C X a wa) (hb : DE C X b wb) (hk : 40 ≤ k := by decide) (hs : ∃ env l, X.stack = env :: l ∧ env.scope.isGenerator = false ∧ env.scope.isCoroutine = false ∧ env.builtins = builtinsNs ∧ env.globals = mainGlobals := by exact ⟨_, _, rfl, rfl, rfl, rfl, rfl⟩) :
    DE C X (.BinOp a .FloorDiv b pos) (wBin dFdiv wa wb) := de_fdiv (S.seer hR hk hs) ha hb
theorem un64 {k : Nat} {A : Around} (hR : Room k A) : A.units + 64 < cLine := by have := hR.un; omega
/-! ### built-in calls, short -/
section
variable (hm0 : True)
theorem de_len (hm : X.mg "len" = none) (ha : DA C X (e :: es) wl) (hg : Gl X "len" := by rfl) (he : starEach (e :: es) X.env = (false, eval e X.env) :: starEach es X.env := by rfl) (hpl : (backTo pos (starEach es X.env)).any (·.1) = false := by rfl) : DE C X (.Call (.Name "len" p) (e :: es) [] pos) (wFn fLen wl) := de_callB call_len cd_len hg hm boot_len ha (by decide) (by decide) he hpl
theorem de_abs (hm : X.mg "abs" = none) (ha : DA C X (e :: es) wl) (hg : Gl X "abs" := by rfl) (he : starEach (e :: es) X.env = (false, eval e X.env) :: starEach es X.env := by rfl) (hpl : (backTo pos (starEach es X.env)).any (·.1) = false := by rfl) : DE C X (.Call (.Name "abs" p) (e :: es) [] pos) (wFn fAbs wl) := de_callB call_abs cd_abs hg hm (by decide +kernel) ha (by decide) (by decide) he hpl
theorem de_max2 (hc : X.calm = true) (hm : X.mg "max" = none) (ha : DA C X (e :: es) wl) (hg : Gl X "max" := by rfl) (he : starEach (e :: es) X.env = (false, eval e X.env) :: starEach es X.env := by rfl) (hpl : (backTo pos (starEach es X.env)).any (·.1) = false := by rfl) : DE C X (.Call (.Name "max" p) (e :: es) [] pos) (wFn fMax wl) := de_callB (call_max2 hc) cd_max hg hm (by decide +kernel) ha (by decide) (by decide) he hpl
theorem de_min2 (hc : X.calm = true) (hm : X.mg "min" = none) (ha : DA C X (e :: es) wl) (hg : Gl X "min" := by rfl) (he : starEach (e :: es) X.env = (false, eval e X.env) :: starEach es X.env := by rfl) (hpl : (backTo pos (starEach es X.env)).any (·.1) = false := by rfl) : DE C X (.Call (.Name "min" p) (e :: es) [] pos) (wFn fMin wl) := de_callB (call_min2 hc) cd_min hg hm (by decide +kernel) ha (by decide) (by decide) he hpl
theorem de_sum (hc : X.calm = true) (hm : X.mg "sum" = none) (ha : DA C X (e :: es) wl) (hg : Gl X "sum" := by rfl) (he : starEach (e :: es) X.env = (false, eval e X.env) :: starEach es X.env := by rfl) (hpl : (backTo pos (starEach es X.env)).any (·.1) = false := by rfl) : DE C X (.Call (.Name "sum" p) (e :: es) [] pos) (wFn fSumA wl) := de_callB (cr_sumA hc) cd_sum hg hm (by decide +kernel) ha (by decide) (by decide) he hpl
theorem de_intc (hm : X.mg "int" = none) (ha : DA C X (e :: es) wl) (hg : Gl X "int" := by rfl) (he : starEach (e :: es) X.env = (false, eval e X.env) :: starEach es X.env := by rfl) (hpl : (backTo pos (starEach es X.env)).any (·.1) = false := by rfl) : DE C X (.Call (.Name "int" p) (e :: es) [] pos) (wFn fInt wl) := de_callTy call_int1 cd_int hg hm (by decide +kernel) ha (by decide) (by decide) he hpl
theorem de_tuple (hm : X.mg "tuple" = none) (ha : DA C X (e :: es) wl) (hg : Gl X "tuple" := by rfl) (he : starEach (e :: es) X.env = (false, eval e X.env) :: starEach es X.env := by rfl) (hpl : (backTo pos (starEach es X.env)).any (·.1) = false := by rfl) : DE C X (.Call (.Name "tuple" p) (e :: es) [] pos) (wFn fTuple wl) := de_callTy call_tuple_of cd_tuple hg hm (by decide +kernel) ha (by decide) (by decide) he hpl
theorem de_gcd (hm : X.mg "gcd" = some (.builtin "math.gcd")) (ha : DA C X (e :: es) wl) (hg : Gl X "gcd" := by rfl) (he : starEach (e :: es) X.env = (false, eval e X.env) :: starEach es X.env := by rfl) (hpl : (backTo pos (starEach es X.env)).any (·.1) = false := by rfl) : DE C X (.Call (.Name "gcd" p) (e :: es) [] pos) (wFn fGcd wl) := de_callM cr_gcd cd_gcd hg hm ha (by decide) he hpl
theorem de_isiI (hi : X.mg "isinstance" = none) (hm : X.mg "int" = none) (ha : DE C X e w) {py : Pos} (hg : Gl X "isinstance" := by rfl) (hgy : Gl X "int" := by rfl)
    (he : starEach [e, .Name "int" py] X.env = (false, eval e X.env) :: starEach [.Name "int" py] X.env := by rfl) (hpl : (backTo pos (starEach [.Name "int" py] X.env)).any (·.1) = false := by rfl) : DE C X (.Call (.Name "isinstance" p) [e, .Name "int" py] [] pos) (wIsi "int" w) := de_isi hg hi ha hgy hm (by decide +kernel) (by decide) (by decide) he hpl
theorem de_isiB (hi : X.mg "isinstance" = none) (hm : X.mg "bool" = none) (ha : DE C X e w) {py : Pos} (hg : Gl X "isinstance" := by rfl) (hgy : Gl X "bool" := by rfl)
    (he : starEach [e, .Name "bool" py] X.env = (false, eval e X.env) :: starEach [.Name "bool" py] X.env := by rfl) (hpl : (backTo pos (starEach [.Name "bool" py] X.env)).any (·.1) = false := by rfl) : DE C X (.Call (.Name "isinstance" p) [e, .Name "bool" py] [] pos) (wIsi "bool" w) := de_isi hg hi ha hgy hm (by decide +kernel) (by decide) (by decide) he hpl
theorem de_isiS (hi : X.mg "isinstance" = none) (hm : X.mg "str" = none) (ha : DE C X e w) {py : Pos} (hg : Gl X "isinstance" := by rfl) (hgy : Gl X "str" := by rfl)
    (he : starEach [e, .Name "str" py] X.env = (false, eval e X.env) :: starEach [.Name "str" py] X.env := by rfl) (hpl : (backTo pos (starEach [.Name "str" py] X.env)).any (·.1) = false := by rfl) : DE C X (.Call (.Name "isinstance" p) [e, .Name "str" py] [] pos) (wIsi "str" w) := de_isi hg hi ha hgy hm (by decide +kernel) (by decide) (by decide) he hpl
theorem de_isiT (hi : X.mg "isinstance" = none) (hm : X.mg "tuple" = none) (ha : DE C X e w) {py : Pos} (hg : Gl X "isinstance" := by rfl) (hgy : Gl X "tuple" := by rfl)
    (he : starEach [e, .Name "tuple" py] X.env = (false, eval e X.env) :: starEach [.Name "tuple" py] X.env := by rfl) (hpl : (backTo pos (starEach [.Name "tuple" py] X.env)).any (·.1) = false := by rfl) : DE C X (.Call (.Name "isinstance" p) [e, .Name "tuple" py] [] pos) (wIsi "tuple" w) := de_isi hg hi ha hgy hm (by decide +kernel) (by decide) (by decide) he hpl
theorem de_isiL (hi : X.mg "isinstance" = none) (hm : X.mg "list" = none) (ha : DE C X e w) {py : Pos} (hg : Gl X "isinstance" := by rfl) (hgy : Gl X "list" := by rfl)
    (he : starEach [e, .Name "list" py] X.env = (false, eval e X.env) :: starEach [.Name "list" py] X.env := by rfl) (hpl : (backTo pos (starEach [.Name "list" py] X.env)).any (·.1) = false := by rfl) : DE C X (.Call (.Name "isinstance" p) [e, .Name "list" py] [] pos) (wIsi "list" w) := de_isi hg hi ha hgy hm (by decide +kernel) (by decide) (by decide) he hpl
theorem de_isiTL {py pz pt : Pos} {kt} (hi : X.mg "isinstance" = none) (hmt : X.mg "tuple" = none) (hml : X.mg "list" = none) (ha : DE C X e w) (hg : Gl X "isinstance" := by rfl) (hgy : Gl X "tuple" := by rfl) (hgz : Gl X "list" := by rfl)
    (he : starEach [e, .Tuple [.Name "tuple" py, .Name "list" pz] kt pt] X.env = (false, eval e X.env) :: starEach [.Tuple [.Name "tuple" py, .Name "list" pz] kt pt] X.env := by rfl) (hpl : (backTo pos (starEach [.Tuple [.Name "tuple" py, .Name "list" pz] kt pt] X.env)).any (·.1) = false := by rfl)
    (he2 : starEach [.Tuple [.Name "tuple" py, .Name "list" pz] kt pt] X.env = (false, eval (.Tuple [.Name "tuple" py, .Name "list" pz] kt pt) X.env) :: starEach [] X.env := by rfl)
    (he3 : starEach [.Name "tuple" py, .Name "list" pz] X.env = (false, eval (.Name "tuple" py) X.env) :: starEach [.Name "list" pz] X.env := by rfl) (he4 : starEach [.Name "list" pz] X.env = (false, eval (.Name "list" pz) X.env) :: starEach [] X.env := by rfl) :
    DE C X (.Call (.Name "isinstance" p) [e, .Tuple [.Name "tuple" py, .Name "list" pz] kt pt] [] pos) (wIsi2 "tuple" "list" w) := de_isi2 hg hi ha hgy hmt (by decide +kernel) hgz hml (by decide +kernel) (by decide) (by decide) (by decide) (by decide) he hpl he2 he3 he4
end
end
def wDe (w : WL) : WE := fun env Q => w env fun ds => Q (.list ds)
def wUn (f : D → (D → Prop) → Prop) (w : WE) : WE := fun env Q => w env fun d => f d Q
def wBinL (f : D → D → (List D → Prop) → Prop) (wa wb : WE) : WL := fun env Q => wa env fun x => wb env fun y => f x y Q
section
variable {C : List Addr} {X : Cx} {W : WX} {e a b c tg iter elt : Expr} {ifs : List Expr} {es rest : List Expr} {w wa wb wc we : WE} {pos p : Pos} {wl : WL} {wg : WG} {wt : WT} {ix : List Nat} {scope : Scope} {own : List (Str × Nat)} {body : List Stmt} {wbs : WS}
theorem ds_cont : DS C X W (.Continue pos) (fun K env => K.ct env) := ⟨_, ps_continue, fun r H0 O σ H env Kd E S hw m => m.ct O σ H env .refl S hw⟩
/-- name = [.. for ..] on one line -/
theorem ds_setLc (i : Nat) {y : Str} {py : Pos} {spos : Pos} (hy : X.N[i]? = some y) (hyl : X.env.scope.names.lookup y = some .local) (hsw : swapsWith (.ListComp elt [⟨tg, iter, ifs, 0⟩] scope pos) (some (.Name y py)) spos.line X.env = pure true)
    (hc : X.calm = true) (hN : X.N.Nodup) (ok : BlkOk X.N X.env.scope scope own) (hi : DJ C X tg iter wl) (hg : ∀ i, DG C (bcx X scope i) tg ix wg) (ht : ∀ i, DTs C (bcx X scope i) ifs wt) (he : ∀ i, DE C (bcx X scope i) elt we)
    (hix : ix.all (fun i => decide (i ∈ ownIx own)) = true := by rfl) (hs : ∀ x, foldedSetIterable iter X.env x = pure x := by intro _; rfl) : DS C X W (.Assign [.Name y py] (.ListComp elt [⟨tg, iter, ifs, 0⟩] scope pos) spos) (wSetN i (wLc wl wg wt we (ownIx own))) := by
  have hix' : ∀ i ∈ ix, i ∈ ownIx own := fun i hi => of_decide_eq_true (List.all_eq_true.mp hix i hi)
  obtain ⟨ti, pi, si⟩ := hi
  obtain ⟨tgt, pg, sg⟩ := unif_g (P0 := fun _ => True) (Xf := bcx X scope) (fun _ => rfl) fun i _ => hg i
  obtain ⟨ttt, pt, stt⟩ := unif_t (P0 := fun _ => True) (Xf := bcx X scope) (fun _ => rfl) fun i _ => ht i
  obtain ⟨tee, pe, se⟩ := unif_e (P0 := fun _ => True) (Xf := bcx X scope) (fun _ => rfl) fun i _ => he i
  refine ⟨_, ps_setLc hc hN hy hyl hsw pi ok (fun s H A cl fp => pg (s, H, A, cl, fp) trivial) (fun s H A cl fp => pt (s, H, A, cl, fp) trivial) (fun s H A cl fp => pe (s, H, A, cl, fp) trivial) hs, fun r H0 O σ H env Kd E S hw m => ?_⟩
  refine si r H0 O σ H env _ _ S hw fun J H1 ds e1 g1 it q => ?_
  refine lc_read (S.step e1 g1) it hix' (Q := fun ds => i < env.length ∧ Kd.nx (env.set i (SD.own ds))) (Qh := fun x H1 => gName i x σ H1 E.nx) (F := fun ds acc => lcW wg wt we (wipeE env (ownIx own)) (fun ds => i < env.length ∧ Kd.nx (env.set i (SD.own ds))) ds acc) q (fun _ z => z) ?_ fun p H' us acc e g np l rr q => m.nx _ _ H' _ (.new (e1.trans e) (e1.dom p np)) (S.set_own (e1.trans e) g q.1 (e1.dom p np) l rr) q.2
  intro d ds' acc x p us H2 Nx S2 rx q2 pn l2 hl k0 k1
  refine sg r H0 O _ H2 _ x d _ _ S2 rx q2 fun O3 σ3 env3 f3 S3 hlen hout oo q3 => ?_
  refine ⟨(wipe_same hlen fun j hj => hout j fun z => hj (hix' j z)).trans (wipe_wipe _ _), ?_⟩
  refine stt r H0 O3 σ3 H2 env3 _ _ S3 q3 fun c H4 e4 g4 q4 => ?_
  cases c with
  | false => exact k0 H4 e4 g4 q4
  | true =>
    refine se r H0 O3 σ3 H4 env3 _ _ (S3.step e4 g4) q4 fun v H5 dv e5 g5 rv q5 => ?_
    have l5 := (e4.trans e5).lst pn.1 l2
    exact ⟨us, l5, by rw [sizeLine_eq, hl]; exact q5.1.1, k1 v dv H5 (e4.trans e5) g5 q5.1.1 (rv.flat q5.1.2) q5.2⟩
theorem ds_setLcN {we : WL} (i : Nat) {y : Str} {py : Pos} {spos : Pos} (hy : X.N[i]? = some y) (hyl : X.env.scope.names.lookup y = some .local) (hsw : swapsWith (.ListComp elt [⟨tg, iter, ifs, 0⟩] scope pos) (some (.Name y py)) spos.line X.env = pure true)
    (hc : X.calm = true) (hN : X.N.Nodup) (ok : BlkOk X.N X.env.scope scope own) (hi : DJ C X tg iter wl) (hg : ∀ i, DG C (bcx X scope i) tg ix wg) (ht : ∀ i, DTs C (bcx X scope i) ifs wt) (he : ∀ i, DN C (bcx X scope i) elt we)
    (hix : ix.all (fun i => decide (i ∈ ownIx own)) = true := by rfl) (hs : ∀ x, foldedSetIterable iter X.env x = pure x := by intro _; rfl) : DS C X W (.Assign [.Name y py] (.ListComp elt [⟨tg, iter, ifs, 0⟩] scope pos) spos) (wSetN i (wLcN wl wg wt we (ownIx own))) := by
  have hix' : ∀ i ∈ ix, i ∈ ownIx own := fun i hi => of_decide_eq_true (List.all_eq_true.mp hix i hi)
  obtain ⟨ti, pi, si⟩ := hi
  obtain ⟨tgt, pg, sg⟩ := unif_g (P0 := fun _ => True) (Xf := bcx X scope) (fun _ => rfl) fun i _ => hg i
  obtain ⟨ttt, pt, stt⟩ := unif_t (P0 := fun _ => True) (Xf := bcx X scope) (fun _ => rfl) fun i _ => ht i
  obtain ⟨tee, pe, se⟩ := unif_n (P0 := fun _ => True) (Xf := bcx X scope) (fun _ => rfl) fun i _ => he i
  refine ⟨_, ps_setLc hc hN hy hyl hsw pi ok (fun s H A cl fp => pg (s, H, A, cl, fp) trivial) (fun s H A cl fp => pt (s, H, A, cl, fp) trivial) (fun s H A cl fp => pe (s, H, A, cl, fp) trivial) hs, fun r H0 O σ H env Kd E S hw m => ?_⟩
  refine si r H0 O σ H env _ _ S hw fun J H1 ds e1 g1 it q => ?_
  refine lc_read (S.step e1 g1) it hix' (Q := fun ds => i < env.length ∧ Kd.nx (env.set i (SD.own ds))) (Qh := fun x H1 => gName i x σ H1 E.nx) (F := fun ds acc => lcWN wg wt we (wipeE env (ownIx own)) (fun ds => i < env.length ∧ Kd.nx (env.set i (SD.own ds))) ds acc) q (fun _ z => z) ?_ fun p H' us acc e g np l rr q => m.nx _ _ H' _ (.new (e1.trans e) (e1.dom p np)) (S.set_own (e1.trans e) g q.1 (e1.dom p np) l rr) q.2
  intro d ds' acc x p us H2 Nx S2 rx q2 pn l2 hl k0 k1
  refine sg r H0 O _ H2 _ x d _ _ S2 rx q2 fun O3 σ3 env3 f3 S3 hlen hout oo q3 => ?_
  refine ⟨(wipe_same hlen fun j hj => hout j fun z => hj (hix' j z)).trans (wipe_wipe _ _), ?_⟩
  refine stt r H0 O3 σ3 H2 env3 _ _ S3 q3 fun c H4 e4 g4 q4 => ?_
  cases c with
  | false => exact k0 H4 e4 g4 q4
  | true =>
    refine se r H0 O3 σ3 H4 env3 _ _ (S3.step e4 g4) q4 fun v H5 vs dv e5 g5 nv lv rv q5 => ?_
    have l4 := e4.lst pn.1 l2
    have l5 := e5.lst pn.1 l4
    have vp : v ≠ p := fun z => by rw [z, l4] at nv; cases nv
    have pv := (S2.step e4 g4).fresh nv
    refine ⟨us, l5, by rw [sizeLine_eq, hl]; exact q5.1.1, k1 (.ref v) (.list dv) H5 (e4.trans e5) g5 q5.1.1 ?_ q5.2⟩
    exact .lst ⟨pv, vp⟩ lv (rv.flats q5.1.2)
/-- name.append([..]) -/
def wAppN (i : Nat) (w : WL) : WS := fun K env => onOwn env i fun ds => w env fun d => (ds.length < 16777216 ∧ flats d = true) ∧ K.nx (env.set i (SD.own (ds ++ [.list d])))
theorem ds_appN (i : Nat) {x : Str} {px apos cpos : Pos} (he : DN C X e wl) (hN : X.N[i]? = some x := by rfl) (hv : Vis X.env.scope x := by first | exact Or.inl rfl | exact Or.inr (Or.inl rfl) | exact Or.inr (Or.inr rfl)) (hd : (x == ("__debug__" : Str)) = false := by decide)
    (hcd : (x == ("__classdict__" : Str)) = false := by decide) (hst : starEach (e :: []) X.env = (false, eval e X.env) :: starEach [] X.env := by rfl) (hs : swapsWith (.Call (.Attribute (.Name x px) "append" apos) [e] [] cpos) none pos.line X.env = pure false := by rfl)
    (hbase : attributeBase (.Name x px) "append" X.env (eval (.Name x px) X.env) = eval (.Name x px) X.env := by rfl)
    (hfew : ((backTo cpos (starEach (e :: []) X.env)).all (fun x => !x.1) && (backToKw cpos (keywordEach [] X.env)).all (fun x => x.1.isSome)
      && decide ((e :: []).length + ([] : List Keyword).length + (if ([] : List Keyword).isEmpty then 0 else 1) < 30)) = true := by rfl)
    (hline : (apos.endLine == cpos.line) = true := by rfl) (hplain : (backTo cpos (starEach [] X.env)).any (·.1) = false := by rfl) :
    DS C X W (.Expr (.Call (.Attribute (.Name x px) "append" apos) [e] [] cpos) pos) (wAppN i wl) := by
  obtain ⟨t, pe, s⟩ := he
  refine ⟨_, ps_expr (pe_bm PySem.F.plainAttrs_list PySem.F.slot_list_append PySem.F.type_list_append mt_append (pe_var hN hv hd hcd) (pa_cons pe pa_nil hst) hbase hfew hline hst hplain) hs, fun r H0 O σ H env Kd E S hw m => ?_⟩
  obtain ⟨ds, he, hw⟩ := onOwn_some hw
  obtain ⟨a, vs, h1, h2, h3, h4⟩ := S.own i ds he
  refine ⟨.ref a, h2, .inl ⟨rfl, _, SqL.of h3⟩, ?_⟩
  refine s r H0 O σ H env _ _ S hw fun p H1 us d e1 g1 np l1 r1 q => ?_
  have S1 := S.step e1 g1
  have h3' := e1.lst (S.new i a h1).2 h3
  have h4' := h4.ext e1 (P' := Po O r H0) (fun _ z => z.1) fun _ z => z
  refine ⟨a, vs, .ref p, rfl, rfl, h3', by rw [sizeLine_eq, h4.length]; exact q.1.1, ?_⟩
  exact m.nx O σ _ _ ((Frm.of_ext e1).trans (.upd h1 h3')) (S1.write he h1 h3' (h4'.append (.cons (.lst (S.fresh np) l1 (r1.flats q.1.2)) .nil))) q.2
end
end DL
/-! enumerate and zip over lists and tuples alike -/
namespace DL
open PySem PySem.Spec PyProof.Rows L2 GX GxR
open Sem (wp)
open AutoSeq1 (wpAny_loadPart')

def itK (l : Bool) (h : Heap) (it a : Addr) (i : Nat) : Prop := if l = true then h.IsListIter it a i else h.IsTupleIter it a i
def SqB (l : Bool) (K : PySem.W.Frag) (H : Hp) (a : Addr) (xs : List V) : Prop := if l = true then SqL K H a xs else SqT K H a xs
def objB (l : Bool) (h : Heap) (a : Addr) (its : Array Value) : Prop := if l = true then h.IsList a its else h.IsTuple a its
def iterO (l : Bool) (a : Addr) : Obj := if l = true then { cls := .type "list_iterator", data := .fields #[.ref a, .int 0 0] } else { cls := .type "tuple_iterator", data := .fields #[.ref a, .int 0 0] }
theorem draws_B {prog : Program} {w : World} {A : Around} (hh : A.handled = none) (l : Bool) (it a : Addr) (hne : a ≠ it) (items : Array Value) :
    Draws prog w A it [it, a] items.size (fun i v => items[i]? = some v) (fun i h => itK l h it a i ∧ objB l h a items) := by
  cases l
  · exact Draws.tuple hh it a hne items
  · exact Draws.list hh it a hne items
theorem begins_B (l : Bool) (a : Addr) (items : Array Value) : Begins (.ref a) (iterO l a) fun h => objB l h a items := by
  cases l
  · exact begins_tuple a items
  · exact begins_list a items
section
variable {X : Cx} {pins : List (Addr × Obj)} {σ : L2.St} {H : Hp} {s : Shared} {a : Addr} {xs ys : List V} {l : Bool}
theorem inv_B (I : Inv X pins σ H s) (h : SqB l X.K H a xs) : ∃ its : List Value, Vals xs its ∧ objB l s.heap a its.toArray ∧ a < s.heap.objs.size := by
  cases l
  · obtain ⟨its, rv, p, _⟩ := I.tuple h
    obtain ⟨o, ho, _⟩ := id p
    exact ⟨its, rv, p, Heap.lt_size ho⟩
  · obtain ⟨its, rv, p, _⟩ := I.list h
    exact ⟨its, rv, p.isList, p.lt⟩
theorem inv_B_inj (I : Inv X pins σ H s) (h : SqB l X.K H a xs) (h' : SqB l X.K H a ys) : xs = ys := by
  cases l
  · exact I.tuple_inj h h'
  · exact I.list_inj h h'
theorem itK_at {h h' : Heap} {it : Addr} {i : Nat} (x : itK l h it a i) (k : ∀ o, h.get? it = some o → h'.get? it = some o) : itK l h' it a i := by
  cases l
  · exact Heap.IsTupleIter.at x k
  · exact Heap.IsListIter.at x k
theorem itK_obj {h : Heap} {it : Addr} {i : Nat} (x : itK l h it a i) : ∃ o, h.get? it = some o ∧ ∀ v, o.data ≠ .cell v := by
  cases l
  · obtain ⟨o, e, c, d⟩ := (show h.IsTupleIter it a i from x)
    exact ⟨o, e, fun v z => by rw [d] at z; cases z⟩
  · obtain ⟨o, e, c, d⟩ := (show h.IsListIter it a i from x)
    exact ⟨o, e, fun v z => by rw [d] at z; cases z⟩
theorem objB_seq {h : Heap} {its : Array Value} (x : objB l h a its) : ∃ o n, h.get? a = some o ∧ o.data = .seq its n := by
  cases l
  · obtain ⟨o, e, c, n, d⟩ := (show h.IsTuple a its from x)
    exact ⟨o, n, e, d⟩
  · obtain ⟨o, e, c, n, d⟩ := (show h.IsList a its from x)
    exact ⟨o, n, e, d⟩
theorem itK_fields {h : Heap} {it : Addr} {i : Nat} (x : itK l h it a i) : ∃ o fs, h.get? it = some o ∧ o.data = .fields fs := by
  cases l
  · obtain ⟨o, e, c, d⟩ := (show h.IsTupleIter it a i from x)
    exact ⟨o, _, e, d⟩
  · obtain ⟨o, e, c, d⟩ := (show h.IsListIter it a i from x)
    exact ⟨o, _, e, d⟩
theorem objB_ne {h : Heap} {its : Array Value} {b : Addr} {o : Obj} (x : objB l h a its) (e : h.get? b = some o) (d : ∀ vs n, o.data ≠ .seq vs n) : b ≠ a := fun z => by
  obtain ⟨o', n, e', d'⟩ := objB_seq x
  rw [z, e'] at e
  cases e
  exact d _ _ d'
theorem itK_new (l : Bool) (h : Heap) (it a : Addr) (e : h.get? it = some (iterO l a)) : itK l h it a 0 := by
  cases l
  · exact ⟨_, e, rfl, rfl⟩
  · exact ⟨_, e, rfl, rfl⟩
end

/-! ### enumerate -/
theorem meets_enumerate_newT (l : Addr) (items : Array Value) (n : Nat) (dct : Option Addr) (sl : Array (Option Value)) :
    Meets (Builtin.«enumerate.__new__» ⟨[.type "enumerate", .ref l], []⟩) (fun _ R s => s.heap.get? l = some { cls := .type "tuple", dict := dct, data := .seq items n, slots := sl } ∧
      R (.ok (.ret (.ref (s.heap.push { cls := .type "tuple_iterator", data := .fields #[.ref l, .int 0 0] }).objs.size)))
        { s with heap := (s.heap.push { cls := .type "tuple_iterator", data := .fields #[.ref l, .int 0 0] }).push { cls := .type "enumerate", data := .fields #[.none, .bool false, .ref s.heap.objs.size, rawInt 0, .none, .none] } }) :=
  .of_wp fun prog w A R s h => by
    obtain ⟨hp, g, d, tk, os⟩ := s; obtain ⟨hl, h⟩ := h
    have hsub := sub_enumerate
    have hT : Heap.IsTuple (Shared.heap ⟨hp, g, d, tk, os⟩) l items := ⟨_, hl, rfl, n, rfl⟩
    wp_walk using wpAny_loadPart' hl
    refine wpAny_stack_any fun st => wpAny_pure ?_
    split
    · rename_i c _ _ _ _ _
      cases (c == Value.type "enumerate") <;> (wp_walk using wpAny_loadPart' hl, wpAny_pyIter_tuple hT; exact ⟨_, rfl, h⟩)
    · wp_walk using wpAny_loadPart' hl, wpAny_pyIter_tuple hT
      exact ⟨_, rfl, h⟩
theorem call_enumerate_tuple {prog : Program} {w : World} {A : Around} {E : Value → Shared → Prop} {s : Shared} {l : Addr} {items : Array Value} {Q : Value → Shared → Prop} (hL : s.heap.IsTuple l items)
    (h : ∀ h', IsEnum h' (s.heap.objs.size + 1) s.heap.objs.size 0 .none → h'.IsTupleIter s.heap.objs.size l 0 → h'.objs.size = s.heap.objs.size + 2 →
      (∀ b o, s.heap.get? b = some o → h'.get? b = some o) → Q (.ref (s.heap.objs.size + 1)) { s with heap := h' }) :
    wpAny (model prog w) A (call (.type "enumerate") [.ref l]) Q E s := by
  obtain ⟨⟨c, dct, dt, sl⟩, hl, hc, n, hd⟩ := hL
  replace hc : c = .type "tuple" := hc
  replace hd : dt = .seq items n := hd
  subst hc hd
  refine callType_new F.called_enumerate (by decide) (F.typeCall_enumerate_1 _) (F.newCall_enumerate_1 _) (fun obj => F.args_object_init_2 obj _) F.entry_enumerate_new (meets_enumerate_newT l items n dct sl) ⟨hl, ?_⟩
  have hz : (s.heap.push { cls := .type "tuple_iterator", data := .fields #[.ref l, .int 0 0] }).objs.size = s.heap.objs.size + 1 := Heap.size_push ..
  show _ ∧ _
  rw [hz]
  have he : IsEnum ((s.heap.push { cls := .type "tuple_iterator", data := .fields #[.ref l, .int 0 0] }).push { cls := .type "enumerate", data := .fields #[.none, .bool false, .ref s.heap.objs.size, rawInt 0, .none, .none] }) (s.heap.objs.size + 1) s.heap.objs.size 0 .none := by
    have := Heap.get?_push_size (s.heap.push { cls := .type "tuple_iterator", data := .fields #[.ref l, .int 0 0] }) (o := { cls := .type "enumerate", data := .fields #[.none, .bool false, .ref s.heap.objs.size, rawInt 0, .none, .none] }) rfl
    rw [hz] at this; exact this
  exact ⟨⟨_, he, rfl⟩, h _ he ⟨_, Heap.get?_push_of_some _ (Heap.get?_push_size _ rfl), rfl, rfl⟩ (by rw [Heap.size_push, hz]) fun b o x => Heap.get?_push_of_some _ (Heap.get?_push_of_some _ x)⟩
/-- each item of the list or tuple at a in a new pair with its place -/
def IteB (l : Bool) (K : PySem.W.Frag) (a : Addr) : It :=
  ⟨fun i H => ∃ (xs : List V) (x : V), SqB l K H a xs ∧ xs[i]? = some x, fun i H v H' => ∃ T x, v = .ref T ∧ H T = none ∧ H' = upd H T (.tup [.int (i : Nat), x]) ∧ ∀ xs, SqB l K H a xs → xs[i]? = some x, fun i H => ∃ xs : List V, SqB l K H a xs ∧ xs.length = i⟩
theorem turn_enumB {P : Program} {w : World} {K : PySem.W.Frag} {elts : List Expr} {kk : Nat} {tpos : Pos} (l : Bool) (a e it : Addr) :
    Turn P w K (.Tuple elts kk tpos) (IteB l K a) [e, it] e (fun i h => (∃ old, IsEnum h e it ((i : Nat) : Int) old) ∧ itK l h it a i ∧ e ≠ it) where
  mem := by simp
  obj := fun i h st b hb => by
    obtain ⟨⟨old, he⟩, hi, _⟩ := st
    have e' : b = e ∨ b = it := by simpa using hb
    rcases e' with z | z
    · rw [z]; exact ⟨_, he, fun v q => nomatch q⟩
    · rw [z]; exact itK_obj hi
  keep := fun i h h' st k => let ⟨⟨old, he⟩, hi, hne⟩ := st; ⟨⟨old, k e (by simp) _ he⟩, itK_at hi fun o q => k it (by simp) o q, hne⟩
  item := by
    intro X hP hw hK hc i pins s σ H E I hf st hg
    subst hP hw hK
    obtain ⟨⟨old, he⟩, hit, hne⟩ := st
    obtain ⟨xs, x, hq, hx⟩ := hg
    obtain ⟨its, rv, p, hal⟩ := inv_B I hq
    obtain ⟨u, hu, ru⟩ := rv.get hx
    have hel : e < s.heap.objs.size := Heap.lt_size he
    have hil : it < s.heap.objs.size := by obtain ⟨_, q, _⟩ := itK_obj hit; exact Heap.lt_size q
    have hlt : i < its.toArray.size := by
      rw [List.size_toArray]
      exact (List.getElem?_eq_some_iff.mp hu).1
    have nea : e ≠ a := objB_ne p he fun _ _ z => nomatch z
    have nia : it ≠ a := by
      obtain ⟨o, fs, e1, d1⟩ := itK_fields hit
      exact objB_ne p e1 fun _ _ z => by rw [d1] at z; cases z
    refine wpAny_pyNext_enum_itemD (draws_B (A := X.A.in1) (I.ok.hd hc) l it a (Ne.symm nia) its.toArray) he ⟨hit, p⟩ hlt hne (by simp; exact ⟨hne, nea⟩) fun x' h' tk hP ho hst hT hsz hk => ?_
    have ex : x' = u := by
      have hP : its.toArray[i]? = some x' := hP
      rw [show its.toArray[i]? = some u by simpa using hu] at hP
      exact (Option.some.inj hP).symm
    subst ex
    refine ⟨_, rfl, wpAny_letOwnedTupleGo_enum (s := { s with heap := h', toks := tk + 1 }) ho fun h'' he' sb => ?_⟩
    have hT2 : h''.get? s.heap.objs.size = some { cls := .type "tuple", data := .seq #[.int i tk, x'] } := (sb.2 _ (Nat.ne_of_gt hel)).trans hT
    have new : ObjOk X.prog X.w (upd H s.heap.objs.size (.tup [.int (i : Nat), x])) h'' s.heap.objs.size (.tup [.int (i : Nat), x]) :=
      ⟨by show 2 ≤ sizeLine; decide, [.int i tk, x'], .cons ⟨_, rfl⟩ (.cons ru .nil), ⟨_, hT2, rfl, _, rfl⟩⟩
    have I1 : Inv X pins σ (upd H s.heap.objs.size (.tup [.int (i : Nat), x])) { s with heap := h'', toks := tk + 1 } :=
      I.turnedNew (ch := [e, it]) (fun b ob hb q => (sb.2 b (fun z => hb (by simp [z]))).trans (hk b ob (fun z => hb (by simp [z])) (fun z => hb (by simp [z])) q)) hf (Nat.le_refl _) new
    refine ⟨.ref s.heap.objs.size, _, I1, rfl, ⟨_, x, rfl, I.hok.fresh (Nat.le_refl _), rfl, fun ys hy => by rw [inv_B_inj I hy hq]; exact hx⟩, ⟨⟨x', ?_⟩, itK_at hst.1 fun o q => (sb.2 it (Ne.symm hne)).trans q, hne⟩, fun b hb => ?_⟩
    · have e1 : ((i + 1 : Nat) : Int) = (i : Int) + 1 := by omega
      rw [e1]; exact he'
    · have hb' : b < s.heap.objs.size := by
        have e' : b = e ∨ b = it := by simpa using hb
        rcases e' with z | z
        · rw [z]; exact hel
        · rw [z]; exact hil
      rw [upd_ne (Nat.ne_of_lt hb')]
      exact (hf b hb).1
  done := by
    intro X hP hw hK hc i pins s σ H E I hf st hg
    subst hP hw hK
    obtain ⟨⟨old, he⟩, hit, hne⟩ := st
    obtain ⟨xs, hq, hx⟩ := hg
    obtain ⟨its, rv, p, hal⟩ := inv_B I hq
    have nia : it ≠ a := by
      obtain ⟨o, fs, e1, d1⟩ := itK_fields hit
      exact objB_ne p e1 fun _ _ z => by rw [d1] at z; cases z
    obtain ⟨f0, f1, f2, f3, f4, f5⟩ := hf it (by simp)
    have hn : its.toArray.size = i := by rw [List.size_toArray, ← rv.length, hx]
    exact wpAny_pyNext_enum_endD (draws_B (A := X.A.in1) (I.ok.hd hc) l it a (Ne.symm nia) its.toArray) he (by rw [hn]; exact ⟨hit, p⟩) fun h' eb => ⟨rfl, I.turned (t' := s.toks) (fun b o hb q => eb b o hb q) f0 f1 f3 f4 f5⟩
  self := fun A i s Q E st h => let ⟨⟨_, he⟩, _⟩ := st; wpAny_pyIter_enum he h
section
variable {C : List Addr} {X : Cx} {e e2 : Expr} {wl : WL}
def iEnumB (K : PySem.W.Frag) (ta : TA) : TI := fun σ H R => ta σ H fun vs H1 => ∃ (l : Bool) (a : Addr) (xs : List V), vs = [.ref a] ∧ SqB l K H1 a xs ∧ R (IteB l K a) H1
theorem pi_enumB {ta : TA} {p pos tpos : Pos} {elts : List Expr} {kk : Nat} (hg : Gl X "enumerate") (hm : X.mg "enumerate" = none) (ha : PA X [e] ta) (hs : starEach [e] X.env = [(false, eval e X.env)] := by rfl) :
    PI X (.Tuple elts kk tpos) (.Call (.Name "enumerate" p) [e] [] pos) (iEnumB X.K ta) := by
  refine ⟨fun pins s σ H R I h => ?_⟩
  refine Call_ (ld_blt I hg hm boot_enumerate (PyProof.Rows.callWith_type1 (thn (ha.run pos pins s σ H _ I h) fun us s1 ⟨vs, H1, I1, r1, q1⟩ => ?_) hs rfl))
  obtain ⟨l, a, xs, ex, hq, q⟩ := q1
  subst ex
  cases r1 with
  | cons r rr =>
    cases rr
    cases r
    obtain ⟨its, rv, p', hal⟩ := inv_B I1 hq
    have fp2 : ∀ b ∈ [s1.heap.objs.size + 1, s1.heap.objs.size], FpOk X pins H1 b := fun b hb => by
      have e' : b = s1.heap.objs.size + 1 ∨ b = s1.heap.objs.size := by simpa using hb
      have hle : s1.heap.objs.size ≤ b := by
        rcases e' with z | z
        · rw [z]; exact Nat.le_add_right _ _
        · rw [z]; exact Nat.le_refl _
      exact I1.fpOk hle (I1.hok.fresh hle)
    cases l
    · refine call_enumerate_tuple (show s1.heap.IsTuple a its.toArray from p') fun h' he hit hsz hk => wpAny_pyIter_enum he ?_
      exact ⟨s1.heap.objs.size + 1, [s1.heap.objs.size + 1, s1.heap.objs.size], _, _, H1, rfl, I1.kept (t' := s1.toks) hk, turn_enumB false a (s1.heap.objs.size + 1) s1.heap.objs.size, ⟨⟨.none, he⟩, hit, Nat.succ_ne_self _⟩, fp2, q⟩
    · refine call_enumerate_list (show s1.heap.IsList a its.toArray from p') fun h' he hit hsz hk => wpAny_pyIter_enum he ?_
      exact ⟨s1.heap.objs.size + 1, [s1.heap.objs.size + 1, s1.heap.objs.size], _, _, H1, rfl, I1.kept (t' := s1.toks) hk, turn_enumB true a (s1.heap.objs.size + 1) s1.heap.objs.size, ⟨⟨.none, he⟩, hit, Nat.succ_ne_self _⟩, fp2, q⟩
/-- (0, x), (1, y), .. -/
def enumD (ds : List D) : List D := ds.mapIdx fun i d => .tuple [.int i, d]
theorem enumD_get {ds : List D} {i : Nat} {d : D} (h : (enumD ds)[i]? = some d) : ∃ x, ds[i]? = some x ∧ d = .tuple [.int i, x] := by
  unfold enumD at h
  rw [List.getElem?_mapIdx] at h
  cases q : ds[i]? with
  | none => rw [q] at h; cases h
  | some x => rw [q] at h; exact ⟨x, rfl, (Option.some.inj h).symm⟩
theorem enumD_length {ds : List D} : (enumD ds).length = ds.length := List.length_mapIdx
theorem itm_enumB {K : PySem.W.Frag} {r a : Addr} {H : Hp} {l : Bool} {xs : List V} {ds : List D} (h : SqB l K H a xs) (hr : Reps K r H (fun a => a ≠ r) xs ds) : Itm K r (IteB l K a) H (enumD ds) := fun i => ⟨fun d hd => by
  obtain ⟨x, hx, rfl⟩ := enumD_get hd
  obtain ⟨v, h1, h2⟩ := hr.get hx
  refine ⟨⟨xs, v, h, h1⟩, fun y H' ⟨T, x', e1, nT, e2, f⟩ => ?_⟩
  subst e1 e2
  have := f xs h
  rw [h1] at this
  cases this
  have e : Ext r H (upd H T (.tup [.int (i : Nat), v])) := .upd nT
  exact ⟨fun b o q => by rw [upd_ne (ne_of_none q nT)]; exact q, .tup (SqT.of upd_same) (.cons .int (.cons (h2.ext e (fun _ z => z) fun _ z => z) .nil))⟩, fun hi => ⟨xs, h, by rw [hr.length, ← enumD_length]; exact hi⟩⟩

/-! ### where a walk's items stand -/
def Stab (fr : Bool) (r : Addr) (O : Nat → Option Addr) (H H' : Hp) : Prop := if fr = true then ∃ O', Frm r O H O' H' else Ext r H H'
theorem Stab.refl {fr : Bool} {r : Addr} {O : Nat → Option Addr} {H : Hp} : Stab fr r O H H := by
  cases fr
  · exact Ext.refl _ _
  · exact ⟨O, .refl⟩
theorem Stab.before {fr : Bool} {r : Addr} {O : Nat → Option Addr} {H H1 H' : Hp} (e : Ext r H H1) (h : Stab fr r O H1 H') : Stab fr r O H H' := by
  cases fr
  · exact e.trans h
  · obtain ⟨O', f⟩ := (show ∃ O', Frm r O H1 O' H' from h)
    exact ⟨O', (Frm.of_ext e).trans f⟩
/-- a list or a tuple that a loop's body (fr), or what lies inside (not fr), leaves alone -/
def DQ (fr : Bool) (C : List Addr) (X : Cx) (e : Expr) (w : WL) : Prop := ∃ t, PE X e t ∧ ∀ (r : Addr) (H0 : Hp) (O : Nat → Option Addr) (σ : L2.St) (H : Hp) (env : SDs) (Q : List D → Prop) (Qh : VK), SI C X.K r H0 O H σ env → w env Q →
  (∀ l a H1 xs ds, Ext r H H1 → Good C X.K r H1 → (∀ H', Stab fr r O H1 H' → SqB l X.K H' a xs ∧ Reps X.K r H' (fun a => a ≠ r) xs ds) → Q ds → Qh (.ref a) H1) → t σ H Qh
section
variable {pos : Pos} {wa : WE} {tg : Expr}
theorem dq_seq (h : DE C X e wa) : DQ false C X e (wSeq1 wa) := by
  obtain ⟨t, pe, st⟩ := h
  refine ⟨_, pe, fun r H0 O σ H env Q Qh S hw k => st r H0 O σ H env _ _ S hw fun v H1 d e1 g1 r1 q => ?_⟩
  cases r1 with
  | tup ht hs => exact k false _ H1 _ _ e1 g1 (fun H' (e' : Ext r H1 H') => ⟨e'.sqT ht, hs.ext e' (fun _ z => z) fun _ z => z⟩) q
  | lst hp hl hs => exact k true _ H1 _ _ e1 g1 (fun H' (e' : Ext r H1 H') => ⟨SqL.of (e'.lst hp hl), hs.ext e' (fun _ z => z) fun _ z => z⟩) q
  | _ => exact q.elim
theorem dq_tup (h : DE C X e wa) : DQ true C X e (wSeqT wa) := by
  obtain ⟨t, pe, st⟩ := h
  refine ⟨_, pe, fun r H0 O σ H env Q Qh S hw k => st r H0 O σ H env _ _ S hw fun v H1 d e1 g1 r1 q => ?_⟩
  cases r1 with
  | tup ht hs => exact k false _ H1 _ _ e1 g1 (fun H' ⟨O', f⟩ => ⟨f.sqT ht, ((hs.flats (P' := Pv O r) q.1).frm f fun _ z => z).mono fun _ z => z.1⟩) q.2
  | _ => exact q.elim
theorem dq_new (h : DN C X e wl) : DQ true C X e wl := by
  obtain ⟨t, pe, st⟩ := h
  refine ⟨_, pe, fun r H0 O σ H env Q Qh S hw k => st r H0 O σ H env _ _ S hw fun p H1 vs ds e1 g1 np h1 h2 q => ?_⟩
  have pn := S.fresh np
  exact k true p H1 vs ds e1 g1 (fun H' ⟨O', f⟩ => ⟨SqL.of (f.lst pn.1 pn.2.1 h1), (h2.frm f fun _ z => ⟨z.1.1, z.1.2.1⟩).mono fun _ z => z.1.1⟩) q
theorem dq_var (i : Nat) {x : Str} (hN : X.N[i]? = some x := by rfl) (hv : Vis X.env.scope x := by first | exact Or.inl rfl | exact Or.inr (Or.inl rfl) | exact Or.inr (Or.inr rfl)) (hd : (x == ("__debug__" : Str)) = false := by decide)
    (hcd : (x == ("__classdict__" : Str)) = false := by decide) : DQ true C X (.Name x pos) (wVarS i) := by
  refine ⟨_, pe_var hN hv hd hcd, fun r H0 O σ H env Q Qh S hw k => ?_⟩
  unfold wVarS at hw
  split at hw <;> first | exact hw.elim | skip
  rename_i d hd
  obtain ⟨v, h1, h2⟩ := S.val i d hd
  refine ⟨v, h1, ?_⟩
  cases h2 with
  | tup ht hs => exact k false _ H _ _ (.refl _ _) S.good (fun H' ⟨O', f⟩ => ⟨f.sqT ht, (hs.frm f fun _ z => z).mono fun _ z => z.1⟩) hw
  | lst hp hl hs => exact k true _ H _ _ (.refl _ _) S.good (fun H' ⟨O', f⟩ => ⟨SqL.of (f.lst hp.1 hp.2 hl), (hs.frm f fun _ z => z).mono fun _ z => z.1⟩) hw
  | _ => exact hw.elim
def wEnum (wl : WL) : WL := fun env Q => wl env fun ds => Q (enumD ds)
theorem enum_read {fr : Bool} {tpos p : Pos} {elts : List Expr} {kk : Nat} (h : DQ fr C X e wl) (hg : Gl X "enumerate") (hm : X.mg "enumerate" = none) (hs : starEach [e] X.env = [(false, eval e X.env)]) (hs2 : starEach (e :: []) X.env = (false, eval e X.env) :: starEach [] X.env) :
    ∃ t, PI X (.Tuple elts kk tpos) (.Call (.Name "enumerate" p) [e] [] pos) t ∧ ∀ (r : Addr) (H0 : Hp) (O : Nat → Option Addr) (σ : L2.St) (H : Hp) (env : SDs) (Q : List D → Prop) (R : It → Hp → Prop), SI C X.K r H0 O H σ env → wEnum wl env Q →
      (∀ J H1 ds, Ext r H H1 → Good C X.K r H1 → (∀ H', Stab fr r O H1 H' → Itm X.K r J H' ds) → Q ds → R J H1) → t σ H R := by
  obtain ⟨t, pe, st⟩ := h
  refine ⟨_, pi_enumB hg hm (pa_cons pe pa_nil hs2) hs, fun r H0 O σ H env Q R S hw k => st r H0 O σ H env _ _ S hw fun l a H1 xs ds e1 g1 hst q => ?_⟩
  exact ⟨l, a, xs, rfl, (hst H1 .refl).1, k _ H1 _ e1 g1 (fun H' s' => itm_enumB (hst H' s').1 (hst H' s').2) q⟩
theorem dj_enumerate {tpos p : Pos} {elts : List Expr} {kk : Nat} (hm : X.mg "enumerate" = none) (h : DQ false C X e wl) (hg : Gl X "enumerate" := by rfl) (hs : starEach [e] X.env = [(false, eval e X.env)] := by rfl) (hs2 : starEach (e :: []) X.env = (false, eval e X.env) :: starEach [] X.env := by rfl) :
    DJ C X (.Tuple elts kk tpos) (.Call (.Name "enumerate" p) [e] [] pos) (wEnum wl) := enum_read h hg hm hs hs2
theorem di_enumerate {tpos p : Pos} {elts : List Expr} {kk : Nat} (hm : X.mg "enumerate" = none) (h : DQ true C X e wl) (hg : Gl X "enumerate" := by rfl) (hs : starEach [e] X.env = [(false, eval e X.env)] := by rfl) (hs2 : starEach (e :: []) X.env = (false, eval e X.env) :: starEach [] X.env := by rfl) :
    DI C X (.Tuple elts kk tpos) (.Call (.Name "enumerate" p) [e] [] pos) (wEnum wl) := by
  obtain ⟨t, pi, st⟩ := enum_read (pos := pos) (tpos := tpos) (p := p) (elts := elts) (kk := kk) h hg hm hs hs2
  exact ⟨t, pi, fun r H0 O σ H env Q R S hw k => st r H0 O σ H env Q R S hw fun J H1 ds e1 g1 it q => k J H1 ds e1 g1 (fun O' H' f => it H' ⟨O', f⟩) q⟩
end
end
end DL
namespace DL
open PySem PySem.Spec PyProof.Rows L2 GX GxR
/-- pairs of the items at a and b, lists or tuples -/
def ItzB (l m : Bool) (K : PySem.W.Frag) (a b : Addr) : It :=
  ⟨fun i H => ∃ (xs ys : List V) (x y : V), SqB l K H a xs ∧ SqB m K H b ys ∧ xs[i]? = some x ∧ ys[i]? = some y,
    fun i H v H' => ∃ T x y, v = .ref T ∧ H T = none ∧ H' = upd H T (.tup [x, y]) ∧ (∀ xs, SqB l K H a xs → xs[i]? = some x) ∧ ∀ ys, SqB m K H b ys → ys[i]? = some y,
    fun i H => ∃ xs ys : List V, SqB l K H a xs ∧ SqB m K H b ys ∧ min xs.length ys.length = i⟩
theorem turn_zipB {P : Program} {w : World} {K : PySem.W.Frag} {elts : List Expr} {kk : Nat} {tpos : Pos} {l m : Bool} {a b z TI TO i1 i2 : Addr} (D : ZipSep2 z TI TO i1 i2 [i1, a] [i2, b]) :
    Turn P w K (.Tuple elts kk tpos) (ItzB l m K a b) [z, TI, TO, i1, i2] z (fun i h => IsZip h z TI TO .none ∧ IsTupOf2 h TI (.ref i1) (.ref i2) ∧ (∃ x y, IsTupOf2 h TO x y) ∧ itK l h i1 a i ∧ itK m h i2 b i) where
  mem := by simp
  obj := fun i h st c hc => by
    obtain ⟨hz, hTI, ⟨x, y, hTO⟩, h1, h2⟩ := st
    have e' : c = z ∨ c = TI ∨ c = TO ∨ c = i1 ∨ c = i2 := by simpa using hc
    rcases e' with q | q | q | q | q
    · rw [q]; exact ⟨_, hz, fun v q => nomatch q⟩
    · rw [q]; exact ⟨_, hTI, fun v q => nomatch q⟩
    · rw [q]; exact ⟨_, hTO, fun v q => nomatch q⟩
    · rw [q]; exact itK_obj h1
    · rw [q]; exact itK_obj h2
  keep := fun i h h' st k => by
    obtain ⟨hz, hTI, ⟨x, y, hTO⟩, h1, h2⟩ := st
    exact ⟨k z (by simp) _ hz, k TI (by simp) _ hTI, ⟨x, y, k TO (by simp) _ hTO⟩, itK_at h1 fun o q => k i1 (by simp) o q, itK_at h2 fun o q => k i2 (by simp) o q⟩
  item := by
    intro X hP hw hK hc i pins s σ H E I hf st hg
    subst hP hw hK
    obtain ⟨hz, hTI, ⟨x0, y0, hTO⟩, h1, h2⟩ := st
    obtain ⟨xs, ys, x, y, hqx, hqy, hx, hy⟩ := hg
    obtain ⟨its, rv, p, _⟩ := inv_B I hqx
    obtain ⟨its2, rv2, p2, _⟩ := inv_B I hqy
    obtain ⟨u, hu, ru⟩ := rv.get hx
    obtain ⟨u2, hu2, ru2⟩ := rv2.get hy
    have hzl : z < s.heap.objs.size := Heap.lt_size hz
    have ne1 : a ≠ i1 := by
      obtain ⟨o, fs, e1, d1⟩ := itK_fields h1
      exact (objB_ne p e1 fun _ _ z => by rw [d1] at z; cases z).symm
    have ne2 : b ≠ i2 := by
      obtain ⟨o, fs, e1, d1⟩ := itK_fields h2
      exact (objB_ne p2 e1 fun _ _ z => by rw [d1] at z; cases z).symm
    refine wpAny_pyNext_zipD2_item D (draws_B (A := X.A.in1) (I.ok.hd hc) l i1 a ne1 its.toArray) (draws_B (A := X.A.in1) (I.ok.hd hc) m i2 b ne2 its2.toArray) hz hTI hTO ⟨h1, p⟩ ⟨h2, p2⟩
      (by rw [List.size_toArray]; exact (List.getElem?_eq_some_iff.mp hu).1) (by rw [List.size_toArray]; exact (List.getElem?_eq_some_iff.mp hu2).1) fun v1 v2 h' tk hP1 hP2 z' TO' st1 st2 hT hsz hk => ?_
    have ex1 : v1 = u := by
      have hP : its.toArray[i]? = some v1 := hP1
      rw [show its.toArray[i]? = some u by simpa using hu] at hP
      exact (Option.some.inj hP).symm
    have ex2 : v2 = u2 := by
      have hP : its2.toArray[i]? = some v2 := hP2
      rw [show its2.toArray[i]? = some u2 by simpa using hu2] at hP
      exact (Option.some.inj hP).symm
    subst ex1 ex2
    refine ⟨_, rfl, wpAny_letOwnedTupleGo_zip (s := { s with heap := h', toks := tk }) z' fun h'' z'' sb => ?_⟩
    have hT2 : h''.get? s.heap.objs.size = some { cls := .type "tuple", data := .seq #[v1, v2] } := (sb.2 _ (Nat.ne_of_gt hzl)).trans hT
    have new : ObjOk X.prog X.w (upd H s.heap.objs.size (.tup [x, y])) h'' s.heap.objs.size (.tup [x, y]) :=
      ⟨by show 2 ≤ sizeLine; decide, [v1, v2], .cons ru (.cons ru2 .nil), ⟨_, hT2, rfl, _, rfl⟩⟩
    have I1 : Inv X pins σ (upd H s.heap.objs.size (.tup [x, y])) { s with heap := h'', toks := tk } :=
      I.turnedNew (ch := [z, TI, TO, i1, i2]) (fun c o hb q => (sb.2 c (fun q' => hb (by simp [q']))).trans (hk c o (fun q' => hb (by simp [q'])) (fun q' => hb (by simp [q'])) (fun q' => hb (by simp [q'])) (fun q' => hb (by simp [q'])) q)) hf (Nat.le_refl _) new
    refine ⟨.ref s.heap.objs.size, _, I1, rfl, ⟨_, x, y, rfl, I.hok.fresh (Nat.le_refl _), rfl, fun l hl => by rw [inv_B_inj I hl hqx]; exact hx, fun l hl => by rw [inv_B_inj I hl hqy]; exact hy⟩, ⟨z'', ?_, ⟨v1, v2, ?_⟩, ?_, ?_⟩, fun c hcm => ?_⟩
    · exact (sb.2 _ D.TIz).trans (hk _ _ D.TIz D.TITO D.TIi1 D.TIi2 hTI)
    · exact (sb.2 _ D.TOz).trans TO'
    · exact itK_at st1.1 fun o q => (sb.2 _ (Ne.symm D.zi1)).trans q
    · exact itK_at st2.1 fun o q => (sb.2 _ (Ne.symm D.zi2)).trans q
    · have hlt : c < s.heap.objs.size := by
        have e' : c = z ∨ c = TI ∨ c = TO ∨ c = i1 ∨ c = i2 := by simpa using hcm
        rcases e' with q | q | q | q | q
        · rw [q]; exact hzl
        · rw [q]; exact Heap.lt_size hTI
        · rw [q]; exact Heap.lt_size hTO
        · rw [q]; obtain ⟨_, e1, _⟩ := itK_obj h1; exact Heap.lt_size e1
        · rw [q]; obtain ⟨_, e1, _⟩ := itK_obj h2; exact Heap.lt_size e1
      rw [upd_ne (Nat.ne_of_lt hlt)]
      exact (hf c hcm).1
  done := by
    intro X hP hw hK hc i pins s σ H E I hf st hg
    subst hP hw hK
    obtain ⟨hz, hTI, ⟨x0, y0, hTO⟩, h1, h2⟩ := st
    obtain ⟨xs, ys, hqx, hqy, hend⟩ := hg
    obtain ⟨its, rv, p, _⟩ := inv_B I hqx
    obtain ⟨its2, rv2, p2, _⟩ := inv_B I hqy
    have l1 := rv.length
    have l2 := rv2.length
    have ne1 : a ≠ i1 := by
      obtain ⟨o, fs, e1, d1⟩ := itK_fields h1
      exact (objB_ne p e1 fun _ _ z => by rw [d1] at z; cases z).symm
    have ne2 : b ≠ i2 := by
      obtain ⟨o, fs, e1, d1⟩ := itK_fields h2
      exact (objB_ne p2 e1 fun _ _ z => by rw [d1] at z; cases z).symm
    exact wpAny_pyNext_zipD2_end D (draws_B (A := X.A.in1) (I.ok.hd hc) l i1 a ne1 its.toArray) (draws_B (A := X.A.in1) (I.ok.hd hc) m i2 b ne2 its2.toArray) hz hTI hTO ⟨h1, p⟩ ⟨h2, p2⟩
      (by rw [List.size_toArray]; omega) (by rw [List.size_toArray]; omega) (by rw [List.size_toArray, List.size_toArray]; omega) fun h' tk hk => ⟨rfl, I.turnedL (t' := tk) (ch := [z, TI, TO, i1, i2]) (fun c o hb q =>
      hk c o (fun q' => hb (by simp [q'])) (fun q' => hb (by simp [q'])) (fun q' => hb (by simp [q'])) (fun q' => hb (by simp [q'])) q) hf⟩
  self := fun A i s Q E st h => wpAny_pyIter_zip st.1 h
section
variable {C : List Addr} {X : Cx} {e e2 : Expr} {wl wl2 : WL}
def iZipB (K : PySem.W.Frag) (ta : TA) : TI := fun σ H R => ta σ H fun vs H1 => ∃ (l m : Bool) (a b : Addr) (xs ys : List V), vs = [.ref a, .ref b] ∧ SqB l K H1 a xs ∧ SqB m K H1 b ys ∧ R (ItzB l m K a b) H1
theorem pi_zipB {ta : TA} {p pos tpos : Pos} {elts : List Expr} {kk : Nat} (hg : Gl X "zip") (hm : X.mg "zip" = none) (ha : PA X [e, e2] ta)
    (hs : starEach [e, e2] X.env = (false, eval e X.env) :: starEach [e2] X.env := by rfl) (hpl : (backTo pos (starEach [e2] X.env)).any (·.1) = false := by rfl) :
    PI X (.Tuple elts kk tpos) (.Call (.Name "zip" p) [e, e2] [] pos) (iZipB X.K ta) := by
  refine ⟨fun pins s σ H R I h => ?_⟩
  refine Call_ (ld_blt I hg hm PyProof.Rows.boot_zip (PyProof.Rows.callWith_type1 (thn (ha.run pos pins s σ H _ I h) fun us s1 ⟨vs, H1, I1, r1, q1⟩ => ?_) hs hpl))
  obtain ⟨l, m, a, b, xs, ys, ex, hqx, hqy, q⟩ := q1
  subst ex
  cases r1 with
  | cons r rr =>
    cases rr with
    | cons r' rr =>
      cases rr
      cases r
      cases r'
      obtain ⟨its, rv, p1, ha1⟩ := inv_B I1 hqx
      obtain ⟨its2, rv2, p2, ha2⟩ := inv_B I1 hqy
      refine zip_begins2 (begins_B l a its.toArray) (begins_B m b its2.toArray) p1 p2 fun h' hz hTI hTO h1 h2 hsz hk => wpAny_pyIter_zip hz ?_
      have I2 : Inv X pins σ H1 { s1 with heap := h' } := I1.kept (t' := s1.toks) hk
      refine ⟨s1.heap.objs.size + 4, [s1.heap.objs.size + 4, s1.heap.objs.size + 2, s1.heap.objs.size + 3, s1.heap.objs.size, s1.heap.objs.size + 1], _, _, H1, rfl, I2, turn_zipB (PySem.zip_sep2 (fun c hc => by rw [List.mem_singleton.mp hc]; exact ha1) (fun c hc => by rw [List.mem_singleton.mp hc]; exact ha2)), ⟨hz, hTI, ⟨_, _, hTO⟩, itK_new _ _ _ _ h1, itK_new _ _ _ _ h2⟩, fun c hcm => ?_, q⟩
      · have e' : c = s1.heap.objs.size + 4 ∨ c = s1.heap.objs.size + 2 ∨ c = s1.heap.objs.size + 3 ∨ c = s1.heap.objs.size ∨ c = s1.heap.objs.size + 1 := by simpa using hcm
        have hle : s1.heap.objs.size ≤ c := by
          rcases e' with z | z | z | z | z
          · rw [z]; exact Nat.le_add_right _ _
          · rw [z]; exact Nat.le_add_right _ _
          · rw [z]; exact Nat.le_add_right _ _
          · rw [z]; exact Nat.le_refl _
          · rw [z]; exact Nat.le_add_right _ _
        exact I1.fpOk hle (I1.hok.fresh hle)
/-- pairs -/
def zipD (ds es : List D) : List D := (ds.zip es).map fun p => .tuple [p.1, p.2]
theorem zipD_get {ds es : List D} {i : Nat} {d : D} (h : (zipD ds es)[i]? = some d) : ∃ x y, ds[i]? = some x ∧ es[i]? = some y ∧ d = .tuple [x, y] := by
  unfold zipD at h
  rw [List.getElem?_map] at h
  cases q : (ds.zip es)[i]? with
  | none => rw [q] at h; cases h
  | some p =>
    rw [q] at h
    rw [List.getElem?_zip_eq_some] at q
    exact ⟨p.1, p.2, q.1, q.2, (Option.some.inj h).symm⟩
theorem zipD_length {ds es : List D} : (zipD ds es).length = min ds.length es.length := by unfold zipD; rw [List.length_map, List.length_zip]
theorem itm_zipB {K : PySem.W.Frag} {r a b : Addr} {H : Hp} {l m : Bool} {xs ys : List V} {ds es : List D} (h : SqB l K H a xs) (hr : Reps K r H (fun a => a ≠ r) xs ds) (h2 : SqB m K H b ys) (hr2 : Reps K r H (fun a => a ≠ r) ys es) : Itm K r (ItzB l m K a b) H (zipD ds es) := fun i => ⟨fun d hd => by
  obtain ⟨x, y, hx, hy, rfl⟩ := zipD_get hd
  obtain ⟨v, h3, h4⟩ := hr.get hx
  obtain ⟨v', h5, h6⟩ := hr2.get hy
  refine ⟨⟨xs, ys, v, v', h, h2, h3, h5⟩, fun u H' ⟨T, x', y', e1, nT, e2, f, f2⟩ => ?_⟩
  subst e1 e2
  have q := f xs h
  rw [h3] at q
  cases q
  have q := f2 ys h2
  rw [h5] at q
  cases q
  have e : Ext r H (upd H T (.tup [v, v'])) := .upd nT
  exact ⟨fun b o q => by rw [upd_ne (ne_of_none q nT)]; exact q, .tup (SqT.of upd_same) (.cons (h4.ext e (fun _ z => z) fun _ z => z) (.cons (h6.ext e (fun _ z => z) fun _ z => z) .nil))⟩, fun hi => ⟨xs, ys, h, h2, by rw [hr.length, hr2.length, ← zipD_length]; exact hi⟩⟩
def wZip (wl wl2 : WL) : WL := fun env Q => wl env fun ds => wl2 env fun es => Q (zipD ds es)
theorem zip_read {fr : Bool} {tpos p pos : Pos} {elts : List Expr} {kk : Nat} (h : DQ fr C X e wl) (h2 : DQ fr C X e2 wl2) (hg : Gl X "zip") (hm : X.mg "zip" = none)
    (hs : starEach [e, e2] X.env = (false, eval e X.env) :: starEach [e2] X.env) (hs2 : starEach [e2] X.env = (false, eval e2 X.env) :: starEach [] X.env) (hpl : (backTo pos (starEach [e2] X.env)).any (·.1) = false) :
    ∃ t, PI X (.Tuple elts kk tpos) (.Call (.Name "zip" p) [e, e2] [] pos) t ∧ ∀ (r : Addr) (H0 : Hp) (O : Nat → Option Addr) (σ : L2.St) (H : Hp) (env : SDs) (Q : List D → Prop) (R : It → Hp → Prop), SI C X.K r H0 O H σ env → wZip wl wl2 env Q →
      (∀ J H1 ds, Ext r H H1 → Good C X.K r H1 → (∀ H', Stab fr r O H1 H' → Itm X.K r J H' ds) → Q ds → R J H1) → t σ H R := by
  obtain ⟨t, pe, st⟩ := h
  obtain ⟨t2, pe2, st2⟩ := h2
  refine ⟨_, pi_zipB hg hm (pa_cons pe (pa_cons pe2 pa_nil hs2) hs) hs hpl, fun r H0 O σ H env Q R S hw k => st r H0 O σ H env _ _ S hw fun l a H1 xs ds e1 g1 hst q => ?_⟩
  refine st2 r H0 O σ H1 env _ _ (S.step e1 g1) q fun m b H2 ys es e2 g2 hst2 q2 => ?_
  exact ⟨l, m, a, b, xs, ys, rfl, (hst H2 (Stab.before e2 .refl)).1, (hst2 H2 .refl).1, k _ H2 _ (e1.trans e2) g2 (fun H' s' => itm_zipB (hst H' (Stab.before e2 s')).1 (hst H' (Stab.before e2 s')).2 (hst2 H' s').1 (hst2 H' s').2) q2⟩
theorem dj_zip {tpos p pos : Pos} {elts : List Expr} {kk : Nat} (hm : X.mg "zip" = none) (h : DQ false C X e wl) (h2 : DQ false C X e2 wl2) (hg : Gl X "zip" := by rfl) (hs : starEach [e, e2] X.env = (false, eval e X.env) :: starEach [e2] X.env := by rfl) (hs2 : starEach [e2] X.env = (false, eval e2 X.env) :: starEach [] X.env := by rfl) (hpl : (backTo pos (starEach [e2] X.env)).any (·.1) = false := by rfl) :
    DJ C X (.Tuple elts kk tpos) (.Call (.Name "zip" p) [e, e2] [] pos) (wZip wl wl2) := zip_read h h2 hg hm hs hs2 hpl
theorem di_zip {tpos p pos : Pos} {elts : List Expr} {kk : Nat} (hm : X.mg "zip" = none) (h : DQ true C X e wl) (h2 : DQ true C X e2 wl2) (hg : Gl X "zip" := by rfl) (hs : starEach [e, e2] X.env = (false, eval e X.env) :: starEach [e2] X.env := by rfl) (hs2 : starEach [e2] X.env = (false, eval e2 X.env) :: starEach [] X.env := by rfl) (hpl : (backTo pos (starEach [e2] X.env)).any (·.1) = false := by rfl) :
    DI C X (.Tuple elts kk tpos) (.Call (.Name "zip" p) [e, e2] [] pos) (wZip wl wl2) := by
  obtain ⟨t, pi, st⟩ := zip_read (pos := pos) (tpos := tpos) (p := p) (elts := elts) (kk := kk) h h2 hg hm hs hs2 hpl
  exact ⟨t, pi, fun r H0 O σ H env Q R S hw k => st r H0 O σ H env Q R S hw fun J H1 ds e1 g1 it q => k J H1 ds e1 g1 (fun O' H' f => it H' ⟨O', f⟩) q⟩
end
open AutoSeq1 (wpAny_loadPart')
/-! ### tuple * int, none or once -/
theorem tuple_mul1 (l : Addr) (items : Array Value) (n : Nat) (dd : Option Addr) (sl : Array (Option Value)) (u : Tok) :
    Meets (Builtin.«tuple.__mul__» ⟨[.ref l, .int 1 u], []⟩) (fun _ R s => s.heap.get? l = some { cls := .type "tuple", dict := dd, data := .seq items n, slots := sl } ∧ R (.ok (.ret (Value.ref l))) s) :=
  .of_wp fun prog w A R s h => by
    obtain ⟨hp, g, d, tk, os⟩ := s
    obtain ⟨hl, h⟩ := h
    have f1 := AutoSeq1.idx_int
    wp_walk using wpAny_loadPart' hl
    exact ⟨_, rfl, h⟩
theorem tuple_mul0 (l : Addr) (items : Array Value) (n : Nat) (dd : Option Addr) (sl : Array (Option Value)) (x : Int) (u : Tok) (c0 : (decide (x < -(2 ^ 63)) || decide (x ≥ 2 ^ 63)) = false) (c1 : (items.isEmpty || x == 1) = false) (c2 : (decide (x ≤ 0) || items.isEmpty) = true) :
    Meets (Builtin.«tuple.__mul__» ⟨[.ref l, .int x u], []⟩) (fun _ R s => s.heap.get? l = some { cls := .type "tuple", dict := dd, data := .seq items n, slots := sl } ∧
      R (.ok (.ret (Value.ref s.heap.objs.size))) { s with heap := s.heap.push { cls := Value.type "tuple", data := Data.seq #[] } }) :=
  .of_wp fun prog w A R s h => by
    obtain ⟨hp, g, d, tk, os⟩ := s
    obtain ⟨hl, h⟩ := h
    have f1 := AutoSeq1.idx_int
    wp_walk using wpAny_loadPart' hl
    repeat (first
      | (refine wpAny_ite_false (decide_eq_false (by rw [c0]; exact Bool.false_ne_true)) ?_; wp_walk using wpAny_loadPart' hl)
      | (refine wpAny_ite_false (decide_eq_false (by rw [c1]; exact Bool.false_ne_true)) ?_; wp_walk using wpAny_loadPart' hl)
      | (refine wpAny_ite_true (decide_eq_true (by rw [c2])) ?_; wp_walk using wpAny_loadPart' hl))
    exact ⟨_, rfl, h⟩
section
variable {X : Cx}
/-- tuple * int, below two, the tuple not empty -/
def rRepS (K : PySem.W.Frag) : R2 := fun x y H Q => ∃ l k xs, x = .ref l ∧ y = .int k ∧ SqT K H l xs ∧ xs ≠ [] ∧ ((k = 1 ∧ Q (.ref l) H) ∨ (-(2 ^ 63) ≤ k ∧ k ≤ 0 ∧ ∀ p, H p = none → Q (.ref p) (upd H p (.tup []))))
theorem op_repS : OpR X (binaryOp .Mult) (rRepS X.K) := by
  intro pins s σ H x y v u Q I rx ry h
  obtain ⟨l, k, xs, rfl, rfl, hT, hne, hk⟩ := h
  cases rx
  obtain ⟨t, rfl⟩ := ry
  obtain ⟨its, r, ⟨⟨cls, dd, data, sl⟩, ho, hc, n, hd⟩, hs⟩ := I.tuple hT
  simp only at hc hd
  subst hc hd
  have hn : its ≠ [] := fun e => hne (List.eq_nil_of_length_eq_zero (by rw [r.length, e]; rfl))
  have hi : its.toArray.isEmpty = false := by
    cases its with
    | nil => exact absurd rfl hn
    | cons a b => rfl
  rcases hk with ⟨rfl, q⟩ | ⟨h1, h2, q⟩
  · refine wpAny_binaryOp_repeat_ref (T := "tuple") (U := "int") (by decide) ⟨_, ho, rfl⟩ (fun s' => typeIs_int s' 1 t) noFill_tuple_mul F.fills_int_mul F.slot_int_rmul repeat_tuple F.slot_int_index.lookup
      (call_meets F.slot_int_rmul (typeIs_int s 1 t) F.entry_int_rmul (F.args_int_rmul_2 _ _) (int_rmul_tuple 1 t l its.toArray n dd sl)
        ⟨ho, rfl, ⟨_, ho, rfl⟩, call_meets F.slot_tuple_mul ⟨_, ho, rfl⟩ F.entry_tuple_mul (F.args_tuple_mul_2 _ _) (tuple_mul1 l its.toArray n dd sl t) ⟨ho, ?_⟩⟩)
    exact ⟨.ref l, H, I, rfl, q⟩
  · have c0 : (decide (k < -(2 ^ 63)) || decide (k ≥ 2 ^ 63)) = false := by
      rw [decide_eq_false (by omega), decide_eq_false (by omega)] <;> rfl
    have c1 : (its.toArray.isEmpty || k == 1) = false := by
      rw [hi, Bool.false_or]
      exact beq_eq_false_iff_ne.mpr (by omega)
    have c2 : (decide (k ≤ 0) || its.toArray.isEmpty) = true := by rw [decide_eq_true h2]; rfl
    refine wpAny_binaryOp_repeat_ref (T := "tuple") (U := "int") (by decide) ⟨_, ho, rfl⟩ (fun s' => typeIs_int s' k t) noFill_tuple_mul F.fills_int_mul F.slot_int_rmul repeat_tuple F.slot_int_index.lookup
      (call_meets F.slot_int_rmul (typeIs_int s k t) F.entry_int_rmul (F.args_int_rmul_2 _ _) (int_rmul_tuple k t l its.toArray n dd sl)
        ⟨ho, rfl, ⟨_, ho, rfl⟩, call_meets F.slot_tuple_mul ⟨_, ho, rfl⟩ F.entry_tuple_mul (F.args_tuple_mul_2 _ _) (tuple_mul0 l its.toArray n dd sl k t c0 c1 c2) ⟨ho, ?_⟩⟩)
    exact ⟨.ref s.heap.objs.size, _, I.laid (t' := s.toks) (o := .tup []) (fun b ob q => Heap.get?_push_of_some _ q) (Nat.le_refl _) ⟨Nat.zero_le _, _, .nil, IsTup.new _ _⟩, rfl, q _ (I.hok.fresh (Nat.le_refl _))⟩
end
section
variable {C : List Addr} {X : Cx} {W : WX} {e a b c : Expr} {es rest : List Expr} {w wa wb wc : WE} {pos p : Pos} {wl : WL}
/-- tuple * int of small size -/
def dRep : D → D → (D → Prop) → Prop
  | .tuple a, .int k, Q => (a ≠ [] ∧ -1000 ≤ k ∧ k ≤ 1000 ∧ a.length ≤ 1000) ∧ Q (.tuple (List.replicate k.toNat a).flatten)
  | _, _, _ => False
theorem opd_rep : OpD C X (fun x y H Q => rRepT X.K x y H Q ∨ rRepS X.K x y H Q) dRep := fun r H x y dx dy Q Qh g rx ry q k => by
  obtain ⟨ds, kk, rfl, rfl, ⟨q0, q1, q2, q3⟩, q4⟩ : ∃ a kk, dx = .tuple a ∧ dy = .int kk ∧ (a ≠ [] ∧ -1000 ≤ kk ∧ kk ≤ 1000 ∧ a.length ≤ 1000) ∧ Q (.tuple (List.replicate kk.toNat a).flatten) := by
    unfold dRep at q
    split at q <;> first | exact q.elim | exact ⟨_, _, rfl, rfl, q⟩
  cases ry
  cases rx with
  | @tup ad xs _ ht hs =>
    have hne : xs ≠ [] := fun z => q0 (by subst z; cases hs; rfl)
    by_cases hk : 2 ≤ kk
    · exact .inl ⟨_, _, _, rfl, rfl, ht, hne, hk, q2, by rw [hs.length]; exact q3, fun p np => new_tup g np (hs.rep _) q4 k⟩
    · refine .inr ⟨_, _, _, rfl, rfl, ht, hne, ?_⟩
      by_cases h1 : kk = 1
      · subst h1
        refine .inl ⟨rfl, k _ H _ (.refl _ _) g (.tup ht hs) ?_⟩
        have e : (List.replicate (1 : Int).toNat ds).flatten = ds := by simp
        rw [e] at q4
        exact q4
      · refine .inr ⟨by omega, by omega, fun p np => new_tup g np .nil ?_ k⟩
        have e : kk.toNat = 0 := by omega
        rw [e] at q4
        exact q4
theorem de_rep (ha : DE C X a wa) (hb : DE C X b wb) : DE C X (.BinOp a .Mult b pos) (wBin dRep wa wb) := de_bin (op_repT.or op_repS) opd_rep ha hb

/-! ### in, not in: an int among ints -/
def dIn : D → D → (D → Prop) → Prop
  | .int i, .tuple ds, Q => ∃ ns : List Int, ds = ns.map PyData.int ∧ Q (.bool (decide (i ∈ ns)))
  | .int i, .list ds, Q => ∃ ns : List Int, ds = ns.map PyData.int ∧ Q (.bool (decide (i ∈ ns)))
  | d, .list ds, Q => SeqAt.shaped d = true ∧ SeqAt.shaped (.list ds) = true ∧ Q (.bool (ds.any fun z => PyData.eqv z d))
  | _, _, _ => False
def dNotIn : D → D → (D → Prop) → Prop
  | .int i, .tuple ds, Q => ∃ ns : List Int, ds = ns.map PyData.int ∧ Q (.bool (!decide (i ∈ ns)))
  | .int i, .list ds, Q => ∃ ns : List Int, ds = ns.map PyData.int ∧ Q (.bool (!decide (i ∈ ns)))
  | d, .list ds, Q => SeqAt.shaped d = true ∧ SeqAt.shaped (.list ds) = true ∧ Q (.bool (!ds.any fun z => PyData.eqv z d))
  | _, _, _ => False
theorem inV_ints {i : Int} {ns : List Int} : inV (.int i) (ns.map V.int) = decide (i ∈ ns) := by
  unfold inV
  rw [List.any_map]
  by_cases h : i ∈ ns
  · rw [decide_eq_true h, List.any_eq_true]
    exact ⟨i, h, by simp [eqV]⟩
  · rw [decide_eq_false h, List.any_eq_false]
    intro y hy z
    have : y = i := by simpa [eqV] using z
    exact h (this ▸ hy)
theorem flat_ints {ns : List Int} : (ns.map V.int).all flatV = true := by rw [List.all_map, List.all_eq_true]; intro x _; rfl
theorem opd_in : OpD C X (fun x y H Q => rIn X.K false x y H Q ∨ rInD X.K x y H Q) dIn := fun r H x y dx dy Q Qh g rx ry q k => by
  unfold dIn at q
  split at q <;> first | exact q.elim | skip
  · obtain ⟨ns, rfl, q⟩ := q
    cases rx
    cases ry with
    | tup ht hs =>
      have e := hs.ints
      subst e
      exact .inl ⟨_, _, rfl, .inr ht, rfl, flat_ints, k _ H _ (.refl _ _) g .bl (by rw [inV_ints]; exact q)⟩
  · obtain ⟨ns, rfl, q⟩ := q
    cases rx
    cases ry with
    | lst hp hl hs =>
      have e := hs.ints
      subst e
      exact .inl ⟨_, _, rfl, .inl (SqL.of hl), rfl, flat_ints, k _ H _ (.refl _ _) g .bl (by rw [inV_ints]; exact q)⟩
  · obtain ⟨s1, s2, q⟩ := q
    exact .inr ⟨_, _, rep_dp _ rx (SeqAt.canLay_of_shaped s1), rep_dp _ ry (SeqAt.canLay_of_shaped s2), s1, s2, k _ H _ (.refl _ _) g .bl q⟩
theorem opd_notin : OpD C X (fun x y H Q => rIn X.K true x y H Q ∨ rNotInD X.K x y H Q) dNotIn := fun r H x y dx dy Q Qh g rx ry q k => by
  unfold dNotIn at q
  split at q <;> first | exact q.elim | skip
  · obtain ⟨ns, rfl, q⟩ := q
    cases rx
    cases ry with
    | tup ht hs =>
      have e := hs.ints
      subst e
      exact .inl ⟨_, _, rfl, .inr ht, rfl, flat_ints, k _ H _ (.refl _ _) g .bl (by rw [inV_ints]; exact q)⟩
  · obtain ⟨ns, rfl, q⟩ := q
    cases rx
    cases ry with
    | lst hp hl hs =>
      have e := hs.ints
      subst e
      exact .inl ⟨_, _, rfl, .inl (SqL.of hl), rfl, flat_ints, k _ H _ (.refl _ _) g .bl (by rw [inV_ints]; exact q)⟩
  · obtain ⟨s1, s2, q⟩ := q
    exact .inr ⟨_, _, rep_dp _ rx (SeqAt.canLay_of_shaped s1), rep_dp _ ry (SeqAt.canLay_of_shaped s2), s1, s2, k _ H _ (.refl _ _) g .bl q⟩
theorem un65 {k : Nat} {A : Around} (hR : Room k A) : A.units + 65 < cLine := by have := hR.un; omega
theorem de_in (hu : X.A.units + 65 < cLine) (ha : DE C X a wa) (hb : DE C X b wb) (hm : behindInMarks .In b = false := by rfl) : DE C X (.Compare a [.In] [b] pos) (wBin dIn wa wb) := de_cmp (op_in_seq.or (op_inD hu)) opd_in ha hb hm
theorem dt_in (hu : X.A.units + 65 < cLine) (ha : DE C X a wa) (hb : DE C X b wb) (hm : behindInMarks .In b = false := by rfl) : DT C X (.Compare a [.In] [b] pos) (wTst (wBin dIn wa wb)) := dt_cmp (op_in_seq.or (op_inD hu)) opd_in ha hb hm
theorem de_notin (hu : X.A.units + 65 < cLine) (ha : DE C X a wa) (hb : DE C X b wb) (hm : behindInMarks .NotIn b = false := by rfl) : DE C X (.Compare a [.NotIn] [b] pos) (wBin dNotIn wa wb) := de_cmp (op_notIn_seq.or (op_notInD hu)) opd_notin ha hb hm
theorem dt_notin (hu : X.A.units + 65 < cLine) (ha : DE C X a wa) (hb : DE C X b wb) (hm : behindInMarks .NotIn b = false := by rfl) : DT C X (.Compare a [.NotIn] [b] pos) (wTst (wBin dNotIn wa wb)) := dt_cmp (op_notIn_seq.or (op_notInD hu)) opd_notin ha hb hm

/-! ### a list is put into a slot and given up at once -/
def wAft (i : Nat) (w : WS) : WS := fun K env => w { K with nx := fun env' => onOwn env' i fun ds => K.nx (env'.set i (SD.val (.list ds))) } env
theorem ds_aft (i : Nat) {st : Stmt} {ws : WS} (h : DS C X W st ws) : DS C X W st (wAft i ws) := by
  obtain ⟨t, ps, s⟩ := h
  refine ⟨t, ps, fun r H0 O σ H env Kd E S hw m => s r H0 O σ H env _ E S hw ⟨fun O' σ' H' env' f S' q => ?_, m.bk, m.ct, m.rt, m.ex⟩⟩
  obtain ⟨ds, he, q⟩ := onOwn_some q
  exact m.nx _ σ' H' _ (f.trans .off) (S'.disown he) q
/-! ### max, min, any, sorted of a list -/
def fMaxL : List D → (D → Prop) → Prop := fun ds Q => ∃ ns : List Int, ds = [.list (ns.map PyData.int)] ∧ 0 < ns.length ∧ ∀ m, m ∈ ns → (∀ y, y ∈ ns → y ≤ m) → Q (.int m)
def fMinL : List D → (D → Prop) → Prop := fun ds Q => ∃ ns : List Int, ds = [.list (ns.map PyData.int)] ∧ 0 < ns.length ∧ ∀ m, m ∈ ns → (∀ y, y ∈ ns → m ≤ y) → Q (.int m)
theorem cd_maxL : CallD C X (rMax X.K) fMaxL := fun r H vs ds Q Qh g rv ⟨ns, e, hl, q⟩ k => by
  subst e
  obtain ⟨v, rfl, h⟩ := reps1 rv
  cases h with
  | lst hp hl' hs =>
    have e := hs.ints
    subst e
    exact ⟨_, ns, rfl, SqL.of hl', hl, fun m h1 h2 => k _ H _ (.refl _ _) g .int (q m h1 h2)⟩
theorem cd_minL : CallD C X (rMin X.K) fMinL := fun r H vs ds Q Qh g rv ⟨ns, e, hl, q⟩ k => by
  subst e
  obtain ⟨v, rfl, h⟩ := reps1 rv
  cases h with
  | lst hp hl' hs =>
    have e := hs.ints
    subst e
    exact ⟨_, ns, rfl, SqL.of hl', hl, fun m h1 h2 => k _ H _ (.refl _ _) g .int (q m h1 h2)⟩
theorem de_maxL (hc : X.calm = true) (hm : X.mg "max" = none) (ha : DA C X (e :: es) wl) (hg : Gl X "max" := by rfl) (he : starEach (e :: es) X.env = (false, eval e X.env) :: starEach es X.env := by rfl) (hpl : (backTo pos (starEach es X.env)).any (·.1) = false := by rfl) : DE C X (.Call (.Name "max" p) (e :: es) [] pos) (wFn fMaxL wl) := de_callB (cr_max hc) cd_maxL hg hm (by decide +kernel) ha (by decide) (by decide) he hpl
theorem de_minL (hc : X.calm = true) (hm : X.mg "min" = none) (ha : DA C X (e :: es) wl) (hg : Gl X "min" := by rfl) (he : starEach (e :: es) X.env = (false, eval e X.env) :: starEach es X.env := by rfl) (hpl : (backTo pos (starEach es X.env)).any (·.1) = false := by rfl) : DE C X (.Call (.Name "min" p) (e :: es) [] pos) (wFn fMinL wl) := de_callB (cr_min hc) cd_minL hg hm (by decide +kernel) ha (by decide) (by decide) he hpl
/-- sorted(ints): a new list -/
def fSorted : List D → (List D → Prop) → Prop := fun ds Q => ∃ ns : List Int, ds = [.list (ns.map PyData.int)] ∧ ∀ ns' : List Int, ns'.Perm ns → ns'.Pairwise (· ≤ ·) → Q (ns'.map PyData.int)
theorem dn_sorted (hm : X.mg "sorted" = none) (ha : DA C X [e] wl) (hg : Gl X "sorted" := by rfl) (he : starEach [e] X.env = (false, eval e X.env) :: starEach [] X.env := by rfl) : DN C X (.Call (.Name "sorted" p) [e] [] pos) (wFnL fSorted wl) := by
  obtain ⟨t, pa, s⟩ := ha
  refine ⟨_, pe_callB cr_sortedI hg hm (by decide +kernel : bootBuiltins "sorted" = some (.builtin "sorted")) pa (by decide) (by decide) he rfl, fun r H0 O σ H env Q Qh S hw k => s r H0 O σ H env _ _ S hw fun vs H1 ds e1 g1 rv q => ?_⟩
  obtain ⟨ns, rfl, q⟩ := q
  obtain ⟨v, rfl, h⟩ := reps1 rv
  cases h with
  | lst hp hl hs =>
    have e := hs.ints
    subst e
    exact ⟨_, ns, rfl, SqL.of hl, fun ns' p h1 h2 np => new_lst e1 g1 np (Reps.of_ints ns') (q ns' h1 h2) k⟩
end
/-! max, min of tuples and lists of ints -/
section
variable {prog : Program} {w : World} {A : Around} {E : Value → Shared → Prop} {s : Shared} {l : Addr} {its : List Value} {ns : List Int} {Q : Value → Shared → Prop}
theorem max_rawT (hh : A.handled = none) (hl : s.heap.IsTuple l its.toArray) (hi : IntsAre its ns) (hne : 0 < ns.length)
    (h : ∀ h' tk M t', (∀ b o, s.heap.get? b = some o → h'.get? b = some o) → M ∈ ns → (∀ a, a ∈ ns → a ≤ M) → Q (.int M t') { s with heap := h', toks := tk }) : wpAny (model prog w) A (call (.builtin "max") [.ref l]) Q E s := by
  obtain ⟨xs, e⟩ := hi.allInts.items
  have hn : numsOf (intItems xs).toList = ns := by rw [← e]; exact hi.numsOf
  rw [nums_intItems] at hn
  subst hn
  rw [e] at hl
  have hsz : 0 < xs.size := by simpa using hne
  refine call_max_walk (iter_tupI hl fun s₂ e2 st hfp hlI => ?_)
  subst e2
  refine ⟨_, _, _, _, _, _, _, rfl, Walks.tuple (A := A.in1) hh _ l hlI (intItems xs), st, hfp, by simpa [intItems] using hsz, CmpOf.ints_gt (numAt xs) (fun _ _ => intItems_at), fun v h' tk hP hk => ?_⟩
  have hv : (intItems xs)[argBest (fun i j => decide (numAt xs i > numAt xs j)) (xs.size - 1)]? = some v := by simpa [intItems] using hP
  obtain ⟨t, rfl⟩ := intItems_at hv
  obtain ⟨h1, h2⟩ := argBest_gt (numAt xs) (xs.size - 1)
  refine h h' tk _ t (kept1 hk) ?_ fun a ha => ?_
  · rw [numAt_eq]; exact PySem.getD_mem (by rw [List.length_map, Array.length_toList]; omega)
  · obtain ⟨j, hj, rfl⟩ := mem_getD ha
    rw [List.length_map, Array.length_toList] at hj
    rw [← numAt_eq]; exact h2 j (by omega)
theorem min_rawT (hh : A.handled = none) (hl : s.heap.IsTuple l its.toArray) (hi : IntsAre its ns) (hne : 0 < ns.length)
    (h : ∀ h' tk M t', (∀ b o, s.heap.get? b = some o → h'.get? b = some o) → M ∈ ns → (∀ a, a ∈ ns → M ≤ a) → Q (.int M t') { s with heap := h', toks := tk }) : wpAny (model prog w) A (call (.builtin "min") [.ref l]) Q E s := by
  obtain ⟨xs, e⟩ := hi.allInts.items
  have hn : numsOf (intItems xs).toList = ns := by rw [← e]; exact hi.numsOf
  rw [nums_intItems] at hn
  subst hn
  rw [e] at hl
  have hsz : 0 < xs.size := by simpa using hne
  refine call_min_walk (iter_tupI hl fun s₂ e2 st hfp hlI => ?_)
  subst e2
  refine ⟨_, _, _, _, _, _, _, rfl, Walks.tuple (A := A.in1) hh _ l hlI (intItems xs), st, hfp, by simpa [intItems] using hsz, CmpOf.ints_lt (numAt xs) (fun _ _ => intItems_at), fun v h' tk hP hk => ?_⟩
  have hv : (intItems xs)[argBest (fun i j => decide (numAt xs i < numAt xs j)) (xs.size - 1)]? = some v := by simpa [intItems] using hP
  obtain ⟨t, rfl⟩ := intItems_at hv
  obtain ⟨h1, h2⟩ := argBest_lt (numAt xs) (xs.size - 1)
  refine h h' tk _ t (kept1 hk) ?_ fun a ha => ?_
  · rw [numAt_eq]; exact PySem.getD_mem (by rw [List.length_map, Array.length_toList]; omega)
  · obtain ⟨j, hj, rfl⟩ := mem_getD ha
    rw [List.length_map, Array.length_toList] at hj
    rw [← numAt_eq]; exact h2 j (by omega)
end
section
variable {C : List Addr} {X : Cx} {e a b c : Expr} {es rest : List Expr} {w wa wb wc : WE} {wl : WL} {pos p : Pos}
def rMaxA (K : PySem.W.Frag) : List V → Hp → VK → Prop := fun vs H Q => ∃ (a : Addr) (ns : List Int), vs = [V.ref a] ∧ (SqL K H a (ns.map V.int) ∨ SqT K H a (ns.map V.int)) ∧ 0 < ns.length ∧ ∀ m, m ∈ ns → (∀ y, y ∈ ns → y ≤ m) → Q (.int m) H
def rMinA (K : PySem.W.Frag) : List V → Hp → VK → Prop := fun vs H Q => ∃ (a : Addr) (ns : List Int), vs = [V.ref a] ∧ (SqL K H a (ns.map V.int) ∨ SqT K H a (ns.map V.int)) ∧ 0 < ns.length ∧ ∀ m, m ∈ ns → (∀ y, y ∈ ns → m ≤ y) → Q (.int m) H
theorem cr_maxA (hc : X.calm = true) : CallR X (.builtin "max") (rMaxA X.K) := by
  intro pins s σ H vs us Q I r ⟨a, ns, e, hs, hne, q⟩
  subst e
  rcases hs with hs | hs
  · obtain ⟨its, rv, hl, _⟩ := I.list hs
    rw [Vals.ref1 r]
    exact max_raw (I.ok.hd hc) hl.isList rv.ints hne fun h' tk m t' hk h1 h2 => ⟨.int _, H, I.kept hk, ⟨_, rfl⟩, q m h1 h2⟩
  · obtain ⟨its, rv, hl, _⟩ := I.tuple hs
    rw [Vals.ref1 r]
    exact max_rawT (I.ok.hd hc) hl rv.ints hne fun h' tk m t' hk h1 h2 => ⟨.int _, H, I.kept hk, ⟨_, rfl⟩, q m h1 h2⟩
theorem cr_minA (hc : X.calm = true) : CallR X (.builtin "min") (rMinA X.K) := by
  intro pins s σ H vs us Q I r ⟨a, ns, e, hs, hne, q⟩
  subst e
  rcases hs with hs | hs
  · obtain ⟨its, rv, hl, _⟩ := I.list hs
    rw [Vals.ref1 r]
    exact min_raw (I.ok.hd hc) hl.isList rv.ints hne fun h' tk m t' hk h1 h2 => ⟨.int _, H, I.kept hk, ⟨_, rfl⟩, q m h1 h2⟩
  · obtain ⟨its, rv, hl, _⟩ := I.tuple hs
    rw [Vals.ref1 r]
    exact min_rawT (I.ok.hd hc) hl rv.ints hne fun h' tk m t' hk h1 h2 => ⟨.int _, H, I.kept hk, ⟨_, rfl⟩, q m h1 h2⟩
def fMaxA : List D → (D → Prop) → Prop := fun ds Q => ∃ ns : List Int, (ds = [.list (ns.map PyData.int)] ∨ ds = [.tuple (ns.map PyData.int)]) ∧ 0 < ns.length ∧ ∀ m, m ∈ ns → (∀ y, y ∈ ns → y ≤ m) → Q (.int m)
def fMinA : List D → (D → Prop) → Prop := fun ds Q => ∃ ns : List Int, (ds = [.list (ns.map PyData.int)] ∨ ds = [.tuple (ns.map PyData.int)]) ∧ 0 < ns.length ∧ ∀ m, m ∈ ns → (∀ y, y ∈ ns → m ≤ y) → Q (.int m)
theorem cd_maxA : CallD C X (rMaxA X.K) fMaxA := fun r H vs ds Q Qh g rv ⟨ns, e, hl, q⟩ k => by
  rcases e with e | e <;> subst e <;> obtain ⟨v, rfl, h⟩ := reps1 rv <;> cases h
  · rename_i hp hl' hs
    have e := hs.ints
    subst e
    exact ⟨_, ns, rfl, .inl (SqL.of hl'), hl, fun m h1 h2 => k _ H _ (.refl _ _) g .int (q m h1 h2)⟩
  · rename_i ht hs
    have e := hs.ints
    subst e
    exact ⟨_, ns, rfl, .inr ht, hl, fun m h1 h2 => k _ H _ (.refl _ _) g .int (q m h1 h2)⟩
theorem cd_minA : CallD C X (rMinA X.K) fMinA := fun r H vs ds Q Qh g rv ⟨ns, e, hl, q⟩ k => by
  rcases e with e | e <;> subst e <;> obtain ⟨v, rfl, h⟩ := reps1 rv <;> cases h
  · rename_i hp hl' hs
    have e := hs.ints
    subst e
    exact ⟨_, ns, rfl, .inl (SqL.of hl'), hl, fun m h1 h2 => k _ H _ (.refl _ _) g .int (q m h1 h2)⟩
  · rename_i ht hs
    have e := hs.ints
    subst e
    exact ⟨_, ns, rfl, .inr ht, hl, fun m h1 h2 => k _ H _ (.refl _ _) g .int (q m h1 h2)⟩
theorem de_maxA (hc : X.calm = true) (hm : X.mg "max" = none) (ha : DA C X (e :: es) wl) (hg : Gl X "max" := by rfl) (he : starEach (e :: es) X.env = (false, eval e X.env) :: starEach es X.env := by rfl) (hpl : (backTo pos (starEach es X.env)).any (·.1) = false := by rfl) : DE C X (.Call (.Name "max" p) (e :: es) [] pos) (wFn fMaxA wl) := de_callB (cr_maxA hc) cd_maxA hg hm (by decide +kernel) ha (by decide) (by decide) he hpl
theorem de_minA (hc : X.calm = true) (hm : X.mg "min" = none) (ha : DA C X (e :: es) wl) (hg : Gl X "min" := by rfl) (he : starEach (e :: es) X.env = (false, eval e X.env) :: starEach es X.env := by rfl) (hpl : (backTo pos (starEach es X.env)).any (·.1) = false := by rfl) : DE C X (.Call (.Name "min" p) (e :: es) [] pos) (wFn fMinA wl) := de_callB (cr_minA hc) cd_minA hg hm (by decide +kernel) ha (by decide) (by decide) he hpl
end
end DL
/-! the law's draws: _law_taken -/
namespace DL
open PySem PySem.Spec PyProof.Rows L2 GX GxR
/-- any number below many -/
def fs_law_taken : FS := fun ds Q => ∃ m : Int, ds = [rowD, .int m] ∧ 0 < m ∧ ∀ v : Int, 0 ≤ v → v < m → Q (.int v)
def rInt1 : List V → Hp → VK → Prop := fun xs H Q => (∃ i, xs = [V.int i] ∧ Q (V.int i) H) ∨ ∃ k, xs = [V.bl k] ∧ Q (V.int (if k = true then 1 else 0)) H
def rLen1 (K : PySem.W.Frag) : List V → Hp → VK → Prop := fun xs H Q => ∃ x n, xs = [x] ∧ LenV K x H n ∧ Q (.int n) H
def rMd : R2 := rI (fun _ j => j ≠ 0) fun i j => V.int (i.fmod j)
def rDv : R2 := rI (fun _ j => j ≠ 0) fun i j => V.int (i.fdiv j)
def rAd : R2 := rI0 fun i j => V.int (i + j)
def rSb : R2 := rI0 fun i j => V.int (i - j)
def rMl : R2 := rI MulFits fun i j => V.int (i * j)
def rGt : R2 := rI0 fun i j => V.bl (decide (j < i))
def rGe : R2 := rI0 fun i j => V.bl (decide (j ≤ i))
def tRow (K : PySem.W.Frag) (j : Int) : TE := tOp (rIxL K) (tVar 0) (tC (.int j))
def gRow (j : Int) : TG := gSub (tVar 0) (tC (.int j)) rSetL
def tInt (t : TE) : TE := tCB rInt1 (tCons t tNil)
def t_taken (K : PySem.W.Frag) : TS :=
  tSeq (tIfS (tTest (tOp rGt (tRow K 3) (tC (.int 0))))
    (tSeq (tAsg (tOp rMd (tInt (tRow K 3)) (tVar 1)) (gName 2)) (tSeq (tAsg (tOp rDv (tRow K 3) (tVar 1)) (gRow 3)) (tRet (tVar 2)))) tNext)
  (tSeq (tAsg (tOp rAd (tRow K 1) (tC (.int 1))) (gRow 1))
  (tSeq (tIfS (tTest (tOp rGt (tRow K 1) (tCB (rLen1 K) (tCons (tRow K 0) tNil))))
    (tSeq (tAsg (tOp rMd (tInt (tOp rAd (tOp rMl (tRow K 2) (tC (.int 48271))) (tC (.int 11)))) (tC (.int 2147483647))) (gRow 2))
      (tRet (tOp rMd (tInt (tOp rDv (tRow K 2) (tC (.int 7)))) (tVar 1)))) tNext)
  (tSeq (tAsg (tOp (rIxL K) (tRow K 0) (tOp rSb (tRow K 1) (tC (.int 1)))) (gName 3))
  (tSeq (tAsg (tOp rMd (tInt (tOp rAd (tOp rAd (tOp rMl (tRow K 2) (tC (.int 48271))) (tVar 3)) (tC (.int 11)))) (tC (.int 2147483647))) (gRow 2))
  (tSeq (tIfS (tTest (tOp rGe (tVar 3) (tOp (rI CPow fun i j => V.int (i ^ j.toNat)) (tC (.int 10)) (tC (.int 18))))) (tAsg (tOp rDv (tVar 3) (tVar 1)) (gRow 3)) tNext)
    (tRet (tOp rMd (tInt (tVar 3)) (tVar 1))))))))
section
variable {C : List Addr} {K : PySem.W.Frag} {r : Addr} {H : Hp} {σ : L2.St} {xs : List V} {Q : VK}
theorem rd {j : Int} {v : V} (h0 : σ[0]? = some (some (.ref r))) (hr : H r = some (.lst xs)) (hv : atI xs j = some v) (q : Q v H) : tRow K j σ H Q := ⟨_, h0, r, xs, j, v, rfl, rfl, SqL.of hr, hv, q⟩
theorem wr {j : Int} {n : Nat} {v : V} {Q : L2.St → Hp → Prop} (h0 : σ[0]? = some (some (.ref r))) (hr : H r = some (.lst xs)) (hn : ixN xs.length j = some n) (q : Q σ (upd H r (.lst (xs.set n v)))) : gRow j v σ H Q := ⟨_, h0, r, xs, j, n, rfl, rfl, hr, hn, q⟩
theorem mod_ok {i m : Int} (hm : 0 < m) : 0 ≤ i.fmod m ∧ i.fmod m < m := ⟨Int.fmod_nonneg_of_pos i hm, Int.fmod_lt_of_pos i hm⟩
/-- the row is written: all else stays -/
theorem row_upd {a : Addr} {ns : List Int} {i x z i' x' z' : Int} (g : Good C K r H) (hr : H r = some (.lst [.ref a, .int i, .int x, .int z])) (hS : SqF K H a (ns.map V.int)) (hl : ns.length ≤ 63) (h1 : 0 ≤ i') (h2 : 0 ≤ x') (h3 : x' < 2147483647) (h4 : 0 ≤ z') :
    Ext r H (upd H r (.lst [.ref a, .int i', .int x', .int z'])) ∧ Good C K r (upd H r (.lst [.ref a, .int i', .int x', .int z'])) := by
  refine ⟨⟨fun b o e => ?_, fun b e => ?_, fun q h => tabW_write hr h⟩, ⟨a, ns, i', x', z', hS.same fun b o u e => ?_, hl, upd_same, h1, h2, h3, h4⟩, fun p hp => ?_⟩
  · by_cases hb : b = r
    · subst hb
      rw [hr] at e
      exact .inr (.inl ⟨rfl, _, (Option.some.inj e).symm⟩)
    · exact .inr (.inr (by rw [upd_ne hb]; exact e))
  · by_cases hb : b = r
    · rw [hb, upd_same] at e; cases e
    · rw [upd_ne hb] at e; exact e
  · rw [upd_ne (fun z => by rw [z, hr] at e; cases e)]; exact e
  · exact tabW_write hr (g.tab p hp)
theorem pure_taken {vs : List V} {E : XK} (h : spD C K 2 fs_law_taken vs H Q E) : t_taken K { nx := fun _ H' => Q .non H', rt := Q } (L2.start ["_law_row", "_law_many", "_law_found", "_law_cell"] vs) H := by
  obtain ⟨hl, r, ds, Q0, g, rv, ⟨m, rfl, hm, hQ0⟩, hQ⟩ := h
  obtain ⟨v1, v2, rfl, h1, h2⟩ := reps2 rv
  obtain ⟨a, ns, i, x, z, hS, hn, hr, hi, hx0, hx1, hz⟩ := g.row
  have e1 : v1 = .ref r := rep_row h1
  have e2 : v2 = .int m := by cases h2; rfl
  subst e1 e2
  have fin : ∀ (v : Int) (i' x' z' : Int), 0 ≤ v → v < m → 0 ≤ i' → 0 ≤ x' → x' < 2147483647 → 0 ≤ z' → Q (.int v) (upd H r (.lst [.ref a, .int i', .int x', .int z'])) := fun v i' x' z' h1 h2 h3 h4 h5 h6 => by
    obtain ⟨ee, gg⟩ := row_upd (i' := i') (x' := x') (z' := z') g hr hS hn h3 h4 h5 h6
    exact hQ (.int v) (.int v) _ (hQ0 v h1 h2) ee gg (RepR.flat (P := fun _ => True) .int rfl)
  have m1 : ∀ k : Int, 0 ≤ k.fmod m ∧ k.fmod m < m := fun k => mod_ok hm
  have m2 : ∀ k : Int, 0 ≤ k.fmod 2147483647 ∧ k.fmod 2147483647 < 2147483647 := fun k => mod_ok (by decide)
  have hm0 : m ≠ 0 := by omega
  have ml : MulFits x 48271 := by
    unfold MulFits
    have h1 : x.natAbs < 2 ^ 31 := by omega
    have h2 : x.natAbs.log2 < 32 := by
      by_cases hz : x.natAbs = 0
      · rw [hz]; decide
      · have := (Nat.log2_lt hz).mpr (show x.natAbs < 2 ^ 32 by omega)
        exact this
    have h3 : (48271 : Int).natAbs.log2 < 32 := by decide
    omega
  show t_taken K _ [some (.ref r), some (.int m), none, none] H
  -- row[3] > 0
  refine rd rfl hr rfl ?_
  refine ⟨z, 0, rfl, rfl, _, rfl, ite2 (fun hz0 => ?_) fun hz0 => ?_⟩
  · refine rd rfl hr rfl (.inl ⟨z, rfl, .int m, rfl, z, m, rfl, rfl, hm0, ?_⟩)
    refine rd (xs := [.ref a, .int i, .int x, .int z]) rfl hr rfl ⟨.int m, rfl, z, m, rfl, rfl, hm0, ?_⟩
    refine wr (xs := [.ref a, .int i, .int x, .int z]) rfl hr rfl ⟨_, rfl, ?_⟩
    exact fin _ _ _ _ (m1 z).1 (m1 z).2 hi hx0 hx1 (Int.fdiv_nonneg hz (by omega))
  · refine rd (xs := [.ref a, .int i, .int x, .int z]) rfl hr rfl ⟨i, 1, rfl, rfl, ?_⟩
    refine wr (xs := [.ref a, .int i, .int x, .int z]) rfl hr rfl ?_
    obtain ⟨eA, gA⟩ := row_upd (i' := i + 1) (x' := x) (z' := z) g hr hS hn (by omega) hx0 hx1 hz
    have hrA : (upd H r (.lst [.ref a, .int (i + 1), .int x, .int z])) r = some (.lst [.ref a, .int (i + 1), .int x, .int z]) := upd_same
    have hSA : SqF K (upd H r (.lst [.ref a, .int (i + 1), .int x, .int z])) a (ns.map V.int) := hS.same fun b o u e => eA.frz e
    refine rd (xs := [.ref a, .int (i + 1), .int x, .int z]) rfl hrA rfl ?_
    refine rd (xs := [.ref a, .int (i + 1), .int x, .int z]) rfl hrA rfl ?_
    refine ⟨.ref a, (ns.map V.int).length, rfl, .inl ⟨_, hSA.sql, rfl⟩, i + 1, _, rfl, rfl, _, rfl, ite2 (fun hc => ?_) fun hc => ?_⟩
    · refine rd (xs := [.ref a, .int (i + 1), .int x, .int z]) rfl hrA rfl ⟨x, 48271, rfl, rfl, ml, _, 11, rfl, rfl, .inl ⟨_, rfl, _, 2147483647, rfl, rfl, (by decide : (2147483647 : Int) ≠ 0), ?_⟩⟩
      refine wr (xs := [.ref a, .int (i + 1), .int x, .int z]) rfl hrA rfl ?_
      rw [upd_upd]
      refine rd (xs := [.ref a, .int (i + 1), .int ((x * 48271 + 11).fmod 2147483647), .int z]) rfl upd_same rfl ⟨_, 7, rfl, rfl, (by decide : (7 : Int) ≠ 0), .inl ⟨_, rfl, .int m, rfl, _, m, rfl, rfl, hm0, ?_⟩⟩
      exact fin _ _ _ _ (m1 _).1 (m1 _).2 (by omega) (m2 _).1 (m2 _).2 hz
    · have hlt : i < ns.length := by
        have := of_decide_eq_false (Bool.eq_false_iff.mpr hc)
        rw [List.length_map] at this
        omega
      refine rd (xs := [.ref a, .int (i + 1), .int x, .int z]) rfl hrA rfl ?_
      refine rd (xs := [.ref a, .int (i + 1), .int x, .int z]) rfl hrA rfl ⟨_, 1, rfl, rfl, ?_⟩
      obtain ⟨j, hj⟩ : ∃ j : Nat, i = j := ⟨i.toNat, by omega⟩
      have hj2 : j < ns.length := by omega
      have hcell : atI (ns.map V.int) (i + 1 - 1) = some (.int ns[j]) := by
        rw [show i + 1 - 1 = (j : Int) by omega]
        exact atI_nat (by rw [List.getElem?_map, List.getElem?_eq_getElem hj2]; rfl)
      refine ⟨a, ns.map V.int, i + 1 - 1, _, rfl, rfl, hSA.sql, hcell, ?_⟩
      generalize ns[j] = cell
      refine rd (xs := [.ref a, .int (i + 1), .int x, .int z]) rfl hrA rfl ⟨x, 48271, rfl, rfl, ml, .int cell, rfl, _, cell, rfl, rfl, _, 11, rfl, rfl, .inl ⟨_, rfl, _, 2147483647, rfl, rfl, (by decide : (2147483647 : Int) ≠ 0), ?_⟩⟩
      refine wr (xs := [.ref a, .int (i + 1), .int x, .int z]) rfl hrA rfl ?_
      rw [upd_upd]
      refine ⟨.int cell, rfl, 10, 18, rfl, rfl, ⟨by decide, by decide, by decide⟩, cell, _, rfl, rfl, _, rfl, ite2 (fun hb => ?_) fun hb => ?_⟩
      · refine ⟨.int cell, rfl, .int m, rfl, cell, m, rfl, rfl, hm0, ?_⟩
        refine wr (xs := [.ref a, .int (i + 1), .int ((x * 48271 + cell + 11).fmod 2147483647), .int z]) rfl upd_same rfl ?_
        rw [upd_upd]
        refine ⟨.int cell, rfl, .inl ⟨cell, rfl, .int m, rfl, cell, m, rfl, rfl, hm0, ?_⟩⟩
        have hb := of_decide_eq_true hb
        refine fin _ _ _ _ (m1 _).1 (m1 _).2 (by omega) (m2 _).1 (m2 _).2 (Int.fdiv_nonneg ?_ (by omega))
        have : (0 : Int) ≤ 10 ^ (18 : Int).toNat := by decide
        omega
      · refine ⟨.int cell, rfl, .inl ⟨cell, rfl, .int m, rfl, cell, m, rfl, rfl, hm0, ?_⟩⟩
        exact fin _ _ _ _ (m1 _).1 (m1 _).2 (by omega) (m2 _).1 (m2 _).2 hz
end
end DL
namespace DL
open PySem PySem.Spec PyProof.Rows L2 GX GxR
section
variable {P : Program} {w : World} {K : PySem.W.Frag} {mg : Str → Option Value} {base : Heap} {x qual : Str} {params : Arguments} {body : List Stmt} {scope : Scope} {dvs : List V} {kws : List (Str × V)} {at_ : Str × Option Str} {fd : FuncData} {C : List Addr}
theorem ok_taken (F : FunD K x qual params body scope dvs kws (He.fAd K at_) fd) (S : FnScope ["_law_row", "_law_many", "_law_found", "_law_cell"] ["_law_row", "_law_many"] scope)
    (hbody : ∀ (A : Around) (outer : List Env) (s : Shared) (H : Hp) (E : XK), Room 40 (A.deeper (envOfC qual scope s.heap.objs.size (He.fAd K at_) (.ref (He.cT K at_).1))) → PSs (dcx P w K mg base ["_law_row", "_law_many", "_law_found", "_law_cell"] qual scope (He.fAd K at_) (He.cT K at_).1 A outer s H E) body (t_taken K)) :
    FnOk P w K mg base CX0 41 (He.fAd K at_) fd ["_law_row", "_law_many"] (spD C K 2 fs_law_taken) := by
  obtain ⟨oc, od, osl, dV, kV, doc, pm, an, ct, lk, hcd, rfl⟩ := funD_code F
  refine fn_of lk hcd S (fun vs H Q E h => h.1) fun A outer s H vs Q E hr h => ⟨_, (hbody A outer s H E hr).nox, pure_taken h⟩
/-- no promise at all -/
def fsNo : FS := fun _ _ => False
theorem fnB_no {f : Addr} {ps : List Str} {n : Nat} {y : Str} {k : Nat} (hn : ps.length = n) (hm : mg y = some (.ref f)) (hk : PySem.W.keepIn K (.ref f) = true) (hb : Binds K fd ps []) : FnB P w K mg base C y k n fsNo :=
  ⟨f, fd, ps, ⟨fun vs H Q E h => h.1.trans hn.symm, fun A outer s H args us vs Q E _ _ _ _ h => by obtain ⟨_, _, _, _, _, _, h, _⟩ := h; exact h.elim⟩, hm, hk, hb⟩
end
end DL
namespace GX
open PySem PySem.Spec PyProof.Rows L2 GenW GxR
open Sem (wp)
section
variable {X' : Cx} {B A0 : Around} {a gi n : Nat} {Cs fp : List Addr} {tn : Nat → Heap → Prop} {σ0 : L2.St} {out : Nat → Option V} {Pi : Nat → Hp → Prop}
theorem CE'.turned {S : Addr} {s : Shared} {f : Obj → Obj} {o : Obj} {tk : Nat} (hS1 : X'.s_0.heap.objs.size ≤ S) (hpn : X'.pn = []) (hcell : ∀ x c, X'.env.cells.lookup x = some c → c ≠ S) (hSL : S ≠ X'.env.locals) (hSC : S ∈ Cs)
    (h : CE' X' Cs σ0 Pi s) (ho : s.heap.get? S = some o) (hf : ∀ v, (f o).data ≠ .cell v) (hfree : (f o).isFreed = false) : CE' X' Cs σ0 Pi { s with heap := s.heap.update S f, toks := tk } := by
  obtain ⟨i, H, I, th, p⟩ := h
  have oth : ∀ b, b ≠ S → (s.heap.update S f).get? b = s.heap.get? b := fun b hb => Heap.get?_update_other _ _ (Ne.symm hb)
  have slf : (s.heap.update S f).get? S = some (f o) := Heap.get?_update_self _ ho hfree
  have pS := I.pin (S, o) (List.mem_append_right _ (mem_pinsAt hSC ho))
  have I0 : Inv X' (pinsAt (Cs.filter fun b => decide (b ≠ S)) s.heap) σ0 H s := inv_repin I fun q hq => by
    obtain ⟨hb, e⟩ := of_pinsAt hq
    exact mem_pinsAt (List.mem_filter.mp hb).1 e
  have I1 : Inv X' (pinsAt (Cs.filter fun b => decide (b ≠ S)) s.heap) σ0 H { s with heap := s.heap.update S f, toks := tk } :=
    I0.turned (it := S) (fun b o' hb e => (oth b hb).trans e) pS.2.1 hSL (.inr hS1) hcell fun q hq => by
      rw [hpn, List.nil_append] at hq
      obtain ⟨hb, _⟩ := of_pinsAt hq
      exact of_decide_eq_true (List.mem_filter.mp hb).2
  refine ⟨i, H, I1.pins_of fun q hq => ?_, fun b hb => ?_, p⟩
  · obtain ⟨hb, e⟩ := of_pinsAt hq
    by_cases hbS : q.1 = S
    · have e' : (s.heap.update S f).get? q.1 = some q.2 := e
      rw [hbS, slf] at e'
      have q2 : f o = q.2 := Option.some.inj e'
      refine ⟨e, ?_, ?_, ?_, fun v => ?_⟩
      · rw [hbS]; exact pS.2.1
      · rw [hbS]; exact pS.2.2.1
      · rw [hbS]; exact pS.2.2.2.1
      · rw [← q2]; exact hf v
    · have e' : s.heap.get? q.1 = some q.2 := (oth _ hbS).symm.trans e
      have z := I.pin q (List.mem_append_right _ (mem_pinsAt hb e'))
      exact ⟨e, z.2⟩
  · by_cases hbS : b = S
    · rw [hbS]; exact ⟨_, slf⟩
    · obtain ⟨o', e⟩ := th b hb
      exact ⟨o', (oth b hbS).trans e⟩
theorem gt_ints {prog : Program} {w : World} {A : Around} (x b : Int) (t u : Tok) {s : Shared} {Q : Value → Shared → Prop} {E : Value → Shared → Prop} (h : Q (.bool (decide (x > b))) s) : wpAny (model prog w) A (richCompare .Gt (.int x t) (.int b u)) Q E s :=
  CmpOf.ints_gt (prog := prog) (w := w) (A := A) (P := fun i v => ∃ t, v = Value.int (if i = 0 then x else b) t) (fun i => if i = 0 then x else b) (fun i v z => z) 0 1 _ _ s Q E ⟨t, rfl⟩ ⟨u, rfl⟩ h
theorem ci_max (hh : A0.handled = none) (hroom : A0.depth < recursionLimit) {R : Result → Shared → Prop} {S : Addr} (so : SOk X' a fp tn S) (mem : S ∈ Cs) : ∀ (ns : List Int) (b : Int) (tb : Tok) (c : Nat) (i : Nat) (s : Shared), CI X' A0.in1 a gi Cs fp tn σ0 n out Pi i s → outs n out i = ns.map V.int →
    s.heap.get? S = some (accObj #[.int b tb, .int b tb] c) → (∀ s' t, CE' X' Cs σ0 Pi s' → R (.ok (.ret (.int (ns.foldl max b) t))) s') → codeAny (model X'.prog X'.w) A0 (.builtin "max.loop" ⟨[.ref a, .none, .ref S], []⟩) R s := by
  have hname : (toString "max" ++ toString ".loop" : String) = "max.loop" := by decide
  intro ns
  induction ns with
  | nil =>
    intro b tb c i s h ho hS hR
    refine codeAny_builtin F.entry_max_loop ?_
    rw [Around.under_plainId F.plain_max_loop _]
    show wpAny _ A0.in1 (seqItems? (.ref S) >>= _) _ _ s
    refine wpAny_bind (wpAny_seqItems hS rfl ?_)
    show wpAny _ A0.in1 (tryCatch (pyNext (.ref a)) _ >>= _) _ _ s
    refine wpAny_bind (wpAny_tryCatch (ci_end (B := A0.in1) hh hroom h ho fun s' e st => ?_))
    have hS' := (st S mem).trans hS
    show wpAny _ A0.in1 (updateSeq S (fun _ => #[]) >>= _) _ _ _
    refine wpAny_bind ?_
    refine wpAny_updateSeq hS' rfl (wpAny_bind (wpAny_letGo (wpAny_pure ?_)))
    exact hR _ _ (CE'.turned so.big so.pn so.cell so.loc mem e hS' (fun v z => by cases z) rfl)
  | cons x ns ih =>
    intro b tb c i s h ho hS hR
    refine codeAny_builtin F.entry_max_loop ?_
    rw [Around.under_plainId F.plain_max_loop _]
    show wpAny _ A0.in1 (seqItems? (.ref S) >>= _) _ _ s
    refine wpAny_bind (wpAny_seqItems hS rfl ?_)
    show wpAny _ A0.in1 (tryCatch (pyNext (.ref a)) _ >>= _) _ _ s
    refine wpAny_bind (wpAny_tryCatch (ci_item (B := A0.in1) hh hroom h ho fun v s' i' r e _ ci st => ?_))
    obtain ⟨t, rfl⟩ : ∃ t, v = Value.int x t := r
    have hS' := (st S mem).trans hS
    show wpAny _ A0.in1 (tryCatch (holding [.int x t, .int x t] (richCompare .Gt (.int x t) (.int b tb) >>= _)) _ >>= _) _ _ _
    refine wpAny_bind (wpAny_tryCatch (wpAny_holding (wpAny_bind (gt_ints x b t tb ?_))))
    refine wpAny_bind (wpAny_holding (wpAny_truthy_bool ?_))
    refine wpAny_bind (wpAny_letGo (wpAny_pure ?_))
    by_cases hb : x > b
    · rw [decide_eq_true hb]
      simp only [if_true]
      refine wpAny_bind ?_
      refine wpAny_updateSeq hS' rfl (wpAny_bind (wpAny_letGo ?_))
      rw [hname]
      refine wpAny_pure ⟨plainId_quiet F.plain_max_loop _, ih x t _ i' _ (CI.turned so.tn so.fp so.big so.pn so.cell so.loc so.ne mem ci hS' (fun v z => by cases z) rfl) e (Heap.get?_update_self _ hS' rfl) fun s'' t' z => ?_⟩
      have q := hR s'' t' z
      rw [List.foldl_cons, show max b x = x by omega] at q
      exact q
    · rw [decide_eq_false hb]
      simp only [Bool.false_eq_true, if_false]
      refine wpAny_bind (wpAny_letGo ?_)
      rw [hname]
      refine wpAny_pure ⟨plainId_quiet F.plain_max_loop _, ih b tb c i' _ ci e hS' fun s'' t' z => ?_⟩
      have q := hR s'' t' z
      rw [List.foldl_cons, show max b x = b by omega] at q
      exact q
end

section
variable {X' : Cx} {B A0 : Around} {a gi n : Nat} {Cs fp : List Addr} {tn : Nat → Heap → Prop} {σ0 : L2.St} {out : Nat → Option V} {Pi : Nat → Hp → Prop}
theorem ci_max0 (hh : A0.handled = none) (hroom : A0.depth < recursionLimit) {R : Result → Shared → Prop} {S : Addr} (so : SOk X' a fp tn S) (mem : S ∈ Cs) (ns : List Int) (x : Int) (c : Nat) (i : Nat) (s : Shared) (h : CI X' A0.in1 a gi Cs fp tn σ0 n out Pi i s) (ho : outs n out i = (x :: ns).map V.int)
    (hS : s.heap.get? S = some (accObj #[] c)) (hR : ∀ s' t, CE' X' Cs σ0 Pi s' → R (.ok (.ret (.int (ns.foldl max x) t))) s') : codeAny (model X'.prog X'.w) A0 (.builtin "max.loop" ⟨[.ref a, .none, .ref S], []⟩) R s := by
  have hname : (toString "max" ++ toString ".loop" : String) = "max.loop" := by decide
  refine codeAny_builtin F.entry_max_loop ?_
  rw [Around.under_plainId F.plain_max_loop _]
  show wpAny _ A0.in1 (seqItems? (.ref S) >>= _) _ _ s
  refine wpAny_bind (wpAny_seqItems hS rfl ?_)
  show wpAny _ A0.in1 (tryCatch (pyNext (.ref a)) _ >>= _) _ _ s
  refine wpAny_bind (wpAny_tryCatch (ci_item (B := A0.in1) hh hroom h ho fun v s' i' r e _ ci st => ?_))
  obtain ⟨t, rfl⟩ : ∃ t, v = Value.int x t := r
  have hS' := (st S mem).trans hS
  show wpAny _ A0.in1 (updateSeq S (fun _ => #[.int x t, .int x t]) >>= _) _ _ _
  refine wpAny_bind ?_
  refine wpAny_updateSeq hS' rfl ?_
  rw [hname]
  exact wpAny_pure ⟨plainId_quiet F.plain_max_loop _, ci_max hh hroom so mem ns x t _ i' _ (CI.turned so.tn so.fp so.big so.pn so.cell so.loc so.ne mem ci hS' (fun v z => by cases z) rfl) e (Heap.get?_update_self _ hS' rfl) hR⟩
end
theorem foldl_max : ∀ (ns : List Int) (b : Int), (ns.foldl max b ∈ b :: ns) ∧ b ≤ ns.foldl max b ∧ ∀ y ∈ ns, y ≤ ns.foldl max b
  | [], b => ⟨by simp, by simp, by simp⟩
  | x :: ns, b => by
    obtain ⟨h1, h2, h3⟩ := foldl_max ns (max b x)
    rw [List.foldl_cons]
    refine ⟨?_, by omega, fun y hy => ?_⟩
    · rcases List.mem_cons.mp h1 with h | h
      · rw [h]
        by_cases e : b ≤ x
        · rw [show max b x = x by omega]; simp
        · rw [show max b x = b by omega]; simp
      · simp [h]
    · rcases List.mem_cons.mp hy with rfl | hy
      · omega
      · exact h3 y hy
def resMax (ys : List V) (r : V) : Prop := ∃ ns : List Int, ys = ns.map V.int ∧ 0 < ns.length ∧ ∃ m, r = .int m ∧ m ∈ ns ∧ (∀ y ∈ ns, y ≤ m) ∧ ∀ m', m' ∈ ns → (∀ y ∈ ns, y ≤ m') → m' = m
theorem boot_max7 : bootBuiltins "max" = some (.builtin "max") := by decide +kernel
section
variable {X : Cx}
theorem pe_max {P : Addr} {k : Nat} {elt iter tg : Expr} {ifs : List Expr} {p pos gpos : Pos} {scope : Scope} {own : List (Str × Nat)} {wi : TI} {g : TG} {tt : Addr → TT} {te : Addr → TE}
    (hr : Room (k + 1) X.A) (hgl : Gl X "max") (hm : X.mg "max" = none) (hc : X.calm = true) (hN : X.N.Nodup) (TB : TabC X P) (ok : GBlk X.N X.env.scope scope own) (hi : PI X tg iter wi) (hp : GParts X k elt tg ifs scope g tt te)
    (hs : ∀ v, genFold iter X.env v = pure v := by intro _; rfl)
    (he : starEach [.GeneratorExp elt [⟨tg, iter, ifs, 0⟩] scope gpos] X.env = (false, eval (.GeneratorExp elt [⟨tg, iter, ifs, 0⟩] scope gpos) X.env) :: starEach [] X.env := by rfl) :
    PE X (.Call (.Name "max" p) [.GeneratorExp elt [⟨tg, iter, ifs, 0⟩] scope gpos] [] pos) (tGen resMax P wi g tt te (ownIx own)) := by
  have hname : (toString "max" ++ toString ".loop" : String) = "max.loop" := by decide
  refine ⟨fun pins s σ H Q I h => ?_⟩
  refine wpAny_Call_Name_kw (ld_blt I hgl hm boot_max7 ?_)
  refine PyProof.Rows.callWith_builtin1 ?_ he (by rfl)
  rw [he]
  show wpAny _ _ (spliced ((false, eval (.GeneratorExp elt [⟨tg, iter, ifs, 0⟩] scope gpos) X.env) :: backTo pos (starEach [] X.env))) _ _ s
  refine Calls.spliced_cons (gen_ready hc hN hr TB ok hi hp hs I h fun X' a gi fp tn n out Pi s5 r eP eW back hga so hres hPQ ci => ?_)
  refine Calls.spliced_nil ?_
  obtain ⟨ns, eb, hne, m, rfl, hm1, hm2, hm3⟩ := hres
  refine call_function_tree F.kind_max F.plain_max F.entry_max (F.args_max1 _) ?_
  show wpAny _ _ (Builtin.Builtins.bindParams "max" ["key", "default"] 0 ⟨[], []⟩ >>= _) _ _ _
  refine wpAny_bind (wpAny_of_eq (show Builtin.Builtins.bindParams "max" ["key", "default"] 0 ⟨[], []⟩ = pure [none, none] from rfl) ?_)
  refine wpAny_bind (wpAny_pure ?_)
  refine wpAny_bind (wpAny_pyIter_gen hga ?_)
  refine wpAny_bind (wpAny_newObj_type ?_)
  rw [hname]
  have C0 := ci [s5.heap.objs.size] { s5 with heap := s5.heap.push (accObj #[] 0), toks := s5.toks } (fun b hb => ?_) (fun b o e => Heap.get?_push_of_some _ e) rfl rfl
  · rw [← eP, ← eW]
    cases ns with
    | nil => cases hne
    | cons x ns =>
      have hm4 : m = ns.foldl max x := (hm3 _ (foldl_max ns x).1 (fun y hy => by
        rcases List.mem_cons.mp hy with rfl | hy
        · exact (foldl_max ns _).2.1
        · exact (foldl_max ns x).2.2 y hy)).symm
      refine wpAny_pure ⟨plainId_quiet F.plain_max_loop _, ci_max0 (A0 := X.A) hr.hd hr.depth (so _ (Nat.le_refl _)) (List.mem_cons_of_mem _ List.mem_cons_self) ns x 0 0 _ C0 eb (Heap.get?_push_size _ rfl) fun s' t ⟨i, H3, I3, _, p3⟩ => ?_⟩
      exact ⟨.int _, H3, back H3 s' _ I3, ⟨t, by rw [hm4]⟩, hPQ i H3 p3⟩
  · rw [List.mem_singleton.mp hb]
    exact ⟨Nat.le_refl _, _, Heap.get?_push_size _ rfl, fun v z => by cases z⟩
end
end GX
namespace DL
open PySem PySem.Spec PyProof.Rows L2 GX GxR
/-! max of a generator expression -/
section
variable {C : List Addr} {X : Cx} {elt tg iter : Expr} {ifs : List Expr} {scope : Scope} {own : List (Str × Nat)} {ix : List Nat} {wl : WL} {wg : WG} {wt : WT} {we : WE}
def fGMax : List D → (D → Prop) → Prop := fun ys Q => ∃ (ns : List Int) (m : Int), ys = ns.map PyData.int ∧ m ∈ ns ∧ (∀ y ∈ ns, y ≤ m) ∧ Q (.int m)
theorem genR_max : GenR resMax fGMax := fun ys Q ⟨ns, m, e, h1, h2, q⟩ => by
  subst e
  refine ⟨fun y hy => by obtain ⟨b, _, rfl⟩ := List.mem_map.mp hy; rfl, _, _, ⟨ns, by rw [List.map_map]; rfl, List.length_pos_of_mem h1, m, rfl, h1, h2, fun m' h3 h4 => ?_⟩, q, fun _ _ _ _ => .int⟩
  have a := h2 m' h3
  have b := h4 m h1
  omega
theorem de_gmax {P : Addr} {k : Nat} {p gpos : Pos} (hr : Room (k + 1) X.A) (hgl : Gl X "max") (hm : X.mg "max" = none) (hc : X.calm = true) (hN : X.N.Nodup) (TB : TabC X P) (hPC : P ∈ C) (ok : GBlk X.N X.env.scope scope own)
    (hi : DJ C X tg iter wl) (hg : ∀ i, DG C (gcF X scope i) tg ix wg) (ht : ∀ P' i, Room k i.1 → TabC (gcF X scope i) P' → DTs (P' :: C) (gcF X scope i) ifs wt) (he : ∀ P' i, Room k i.1 → TabC (gcF X scope i) P' → DE (P' :: C) (gcF X scope i) elt we) (hix : ix.all (fun i => decide (i ∈ ownIx own)) = true := by rfl)
    (hs : ∀ v, genFold iter X.env v = pure v := by intro _; rfl) (hst : starEach [.GeneratorExp elt [⟨tg, iter, ifs, 0⟩] scope gpos] X.env = (false, eval (.GeneratorExp elt [⟨tg, iter, ifs, 0⟩] scope gpos) X.env) :: starEach [] X.env := by rfl) :
    DE C X (.Call (.Name "max" p) [.GeneratorExp elt [⟨tg, iter, ifs, 0⟩] scope gpos] [] pos) (wGen fGMax wl wg wt we (ownIx own)) :=
  de_gen genR_max hc hPC (fun pi gp => pe_max hr hgl hm hc hN TB ok pi gp hs hst) hi hg ht he hix
end
/-! any of a tuple of ints; xs[::-1] -/
section
variable {prog : Program} {w : World} {A : Around} {E : Value → Shared → Prop} {s : Shared} {l : Addr} {its : List Value} {ns : List Int} {Q : Value → Shared → Prop}
theorem any_rawT (hh : A.handled = none) (hl : s.heap.IsTuple l its.toArray) (hi : IntsAre its ns)
    (h : ∀ h' tk, (∀ b o, s.heap.get? b = some o → h'.get? b = some o) → Q (.bool (ns.any fun i => i != 0)) { s with heap := h', toks := tk }) : wpAny (model prog w) A (call (.builtin "any") [.ref l]) Q E s := by
  obtain ⟨xs, e⟩ := hi.allInts.items
  have hn : numsOf (intItems xs).toList = ns := by rw [← e]; exact hi.numsOf
  rw [nums_intItems] at hn
  subst hn
  rw [e] at hl
  refine call_any_walk (iter_tupI hl fun s₂ e2 st hfp hlI => ?_)
  subst e2
  refine ⟨_, _, _, _, _, _, fun i => numAt xs i != 0, rfl, Walks.tuple (A := A.in1) hh _ l hlI (intItems xs), st, ?_, fun h' tk hk => ?_⟩
  · intro i v s' Q' E' hv hq
    obtain ⟨t, rfl⟩ := intItems_at hv
    exact P.truthy_int hq
  · have e : ((List.range (intItems xs).size).any fun i => numAt xs i != 0) = (xs.toList.map (·.1)).any fun i => i != 0 := by
      have hs : (intItems xs).size = (xs.toList.map (·.1)).length := by simp [intItems]
      rw [hs]
      have q := PySem.W.range_any (fun i : Int => i != 0) 0 (xs.toList.map (·.1))
      rw [← q]
      congr 1
      funext i
      rw [numAt_eq]
    rw [e]
    exact h h' tk (kept1 hk)
end
section
variable {C : List Addr} {X : Cx} {e a b c : Expr} {es rest : List Expr} {w wa wb wc : WE} {wl : WL} {pos p : Pos}
def rAnyA (K : PySem.W.Frag) : List V → Hp → VK → Prop := fun vs H Q => ∃ (a : Addr) (ns : List Int), vs = [V.ref a] ∧ SqT K H a (ns.map V.int) ∧ Q (.bl (ns.any fun i => i != 0)) H
theorem cr_anyA (hc : X.calm = true) : CallR X (.builtin "any") (rAnyA X.K) := by
  intro pins s σ H vs us Q I r ⟨a, ns, e, hs, q⟩
  subst e
  obtain ⟨its, rv, hl, _⟩ := I.tuple hs
  rw [Vals.ref1 r]
  exact any_rawT (I.ok.hd hc) hl rv.ints fun h' tk hk => ⟨.bl _, H, I.kept hk, rfl, q⟩
def fAnyA : List D → (D → Prop) → Prop := fun ds Q => ∃ ns : List Int, ds = [.tuple (ns.map PyData.int)] ∧ Q (.bool (ns.any fun i => i != 0))
theorem cd_anyA : CallD C X (rAnyA X.K) fAnyA := fun r H vs ds Q Qh g rv ⟨ns, e, q⟩ k => by
  subst e
  obtain ⟨v, rfl, h⟩ := reps1 rv
  cases h
  rename_i ht hs
  have e := hs.ints
  subst e
  exact ⟨_, ns, rfl, ht, k _ H _ (.refl _ _) g .bl q⟩
theorem de_anyA (hc : X.calm = true) (hm : X.mg "any" = none) (ha : DA C X (e :: es) wl) (hg : Gl X "any" := by rfl) (he : starEach (e :: es) X.env = (false, eval e X.env) :: starEach es X.env := by rfl) (hpl : (backTo pos (starEach es X.env)).any (·.1) = false := by rfl) : DE C X (.Call (.Name "any" p) (e :: es) [] pos) (wFn fAnyA wl) := de_callB (cr_anyA hc) cd_anyA hg hm (by decide +kernel) ha (by decide) (by decide) he hpl
/-- xs[::-1] of a list -/
def wRev (we : WE) : WE := fun env Q => we env fun d => match d with
  | .list ds => Q (.list ds.reverse)
  | _ => False
def wRevN (we : WE) : WL := fun env Q => we env fun d => match d with
  | .list ds => flats ds = true ∧ Q ds.reverse
  | _ => False
theorem de_rev {k : Nat} {p1 p2 p3 : Pos} (hc : X.calm = true) (he : DE C X e w) : DE C X (.Subscript e (.Slice none none (some (.UnaryOp .USub (.Constant (.int 1) k p1) p2)) p3) pos) (wRev w) := by
  obtain ⟨te, pe, se⟩ := he
  refine ⟨_, pe_revL pe, fun r H0 O σ H env Q Qh S hw k => ?_⟩
  refine se r H0 O σ H env _ _ S hw fun x H1 dx e1 g1 r1 q1 => ?_
  cases r1 with
  | @lst a xs ds hp hl hs =>
    refine ⟨a, xs, rfl, SqL.of hl, fun p np => ?_⟩
    have e := Ext.upd (r := r) (o := .lst xs.reverse) np
    exact k _ _ _ (e1.trans e) (g1.upd np) (.lst (g1.new np) upd_same (hs.reverse.ext e (fun _ z => z) fun _ z => z)) q1
  | _ => exact q1.elim
theorem dn_rev {k : Nat} {p1 p2 p3 : Pos} (he : DE C X e w) : DN C X (.Subscript e (.Slice none none (some (.UnaryOp .USub (.Constant (.int 1) k p1) p2)) p3) pos) (wRevN w) := by
  obtain ⟨te, pe, se⟩ := he
  refine ⟨_, pe_revL pe, fun r H0 O σ H env Q Qh S hw k => ?_⟩
  refine se r H0 O σ H env _ _ S hw fun x H1 dx e1 g1 r1 q1 => ?_
  cases r1 with
  | @lst a xs ds hp hl hs =>
    refine ⟨a, xs, rfl, SqL.of hl, fun p np => ?_⟩
    have e := Ext.upd (r := r) (o := .lst xs.reverse) np
    exact k p _ _ _ (e1.trans e) (g1.upd np) (e1.dom p np) upd_same ((hs.reverse.ext e (fun _ z => z) fun _ z => z).flats (flats_sub q1.1 fun d hd => List.mem_reverse.mp hd)) q1.2
  | _ => exact q1.elim
end
/-! lists in lists: values that hold no list of a slot's own -/
def DV (C : List Addr) (X : Cx) (e : Expr) (w : WE) : Prop := ∃ t, PE X e t ∧ ∀ (r : Addr) (H0 : Hp) (O : Nat → Option Addr) (σ : L2.St) (H : Hp) (env : SDs) (Q : D → Prop) (Qh : VK), SI C X.K r H0 O H σ env → w env Q →
  (∀ v H' d, Ext r H H' → Good C X.K r H' → Rep X.K r H' (Pv O r) v d → Q d → Qh v H') → t σ H Qh
def wVarV (i : Nat) : WE := fun env Q => match env[i]? with
  | some (SD.val d) => Q d
  | _ => False
def wFlt (w : WE) : WE := fun env Q => w env fun d => flat d = true ∧ Q d
def wIxO (i : Nat) (w : WE) : WE := fun env Q => onOwn env i fun ds => w env fun y => dIx (.list ds) y Q
def wSetV (i : Nat) (w : WE) : WS := fun K env => w env fun d => i < env.length ∧ K.nx (env.set i (SD.val d))
def wParV (i j : Nat) (wa wb : WE) : WS := fun K env => wa env fun x => wb env fun y => (i < env.length ∧ j < env.length) ∧ K.nx ((env.set i (SD.val x)).set j (SD.val y))
def wLst1 (w : WL) : WL := fun env Q => w env fun ds => Q [.list ds]
def wSlO (i : Nat) (wl wh : WO) : WL := fun env Q => onOwn env i fun ds => wl env fun lo => wh env fun hi => Q (cutD ds lo hi)
def wInsO (i j : Nat) (wa : WE) : WS := fun K env => onOwn env i fun ds => wa env fun y => match y with
  | .int k => (ds.length < 16777216 ∧ 0 ≤ k ∧ k < 2 ^ 63) ∧ i ≠ j ∧ onOwn env j fun es => K.nx ((env.set j SD.no).set i (SD.own (ds.take k.toNat ++ [.list es] ++ ds.drop k.toNat)))
  | _ => False
section
variable {C : List Addr} {X : Cx} {W : WX} {e a b c : Expr} {es rest : List Expr} {w wa wb wc : WE} {wl : WL} {pos p : Pos} {tg iter elt : Expr} {ifs : List Expr} {wg : WG} {ix : List Nat} {wt : WT} {we : WE} {scope : Scope} {own : List (Str × Nat)}
theorem DV.de (h : DV C X e w) : DE C X e w := let ⟨t, pe, s⟩ := h; ⟨t, pe, fun r H0 O σ H env Q Qh S hw k => s r H0 O σ H env Q Qh S hw fun v H' d e g rv q => k v H' d e g (rv.mono fun _ z => z.1) q⟩
theorem dv_var (i : Nat) {x : Str} (hN : X.N[i]? = some x := by rfl) (hv : Vis X.env.scope x := by first | exact Or.inl rfl | exact Or.inr (Or.inl rfl) | exact Or.inr (Or.inr rfl)) (hd : (x == ("__debug__" : Str)) = false := by decide)
    (hcd : (x == ("__classdict__" : Str)) = false := by decide) : DV C X (.Name x pos) (wVarV i) := by
  refine ⟨_, pe_var hN hv hd hcd, fun r H0 O σ H env Q Qh S hw k => ?_⟩
  unfold wVarV at hw
  split at hw
  · rename_i d hd
    obtain ⟨v, h1, h2⟩ := S.val i d hd
    exact ⟨v, h1, k v H d (.refl _ _) S.good h2 hw⟩
  · exact hw.elim
theorem dv_new (h : DN C X e wl) : DV C X e (wDe wl) := by
  obtain ⟨t, pe, s⟩ := h
  refine ⟨t, pe, fun r H0 O σ H env Q Qh S hw k => s r H0 O σ H env _ Qh S hw fun p H' vs ds e g n h1 h2 q => ?_⟩
  have pn := S.fresh n
  exact k (.ref p) H' _ e g (.lst ⟨pn.1, pn.2.1⟩ h1 (h2.mono fun _ z => ⟨z.1.1, z.1.2.1⟩)) q
theorem dv_flat (h : DE C X e w) : DV C X e (wFlt w) := by
  obtain ⟨t, pe, s⟩ := h
  exact ⟨t, pe, fun r H0 O σ H env Q Qh S hw k => s r H0 O σ H env _ Qh S hw fun v H' d e g rv q => k v H' d e g (rv.flat q.1) q.2⟩
theorem dv_ix (ha : DV C X a wa) (hb : DE C X b wb) (hs : PlainIx b := by exact fun _ _ => rfl) : DV C X (.Subscript a b pos) (wBin dIx wa wb) := by
  obtain ⟨ta, pa, sa⟩ := ha
  obtain ⟨tb, pb, sb⟩ := hb
  refine ⟨_, pe_ix ix_seq pa pb hs, fun r H0 O σ H env Q Qh S hw k => ?_⟩
  refine sa r H0 O σ H env _ _ S hw fun x H1 dx e1 g1 rx q1 => ?_
  refine sb r H0 O σ H1 env _ _ (S.step e1 g1) q1 fun y H2 dy e2 g2 ry h => ?_
  have rx := rx.ext e2 (P' := Pv O r) (fun _ z => z.1) fun _ z => z
  have E := e1.trans e2
  cases rx with
  | tup ht hs =>
    cases dy <;> first | exact h.elim | skip
    cases ry
    obtain ⟨d, hd, h⟩ := onSome_some h
    obtain ⟨v, h1, h2⟩ := reps_atI hs hd
    exact .inr (.inl ⟨_, _, _, v, rfl, rfl, ht, h1, k v H2 d E g2 h2 h⟩)
  | lst hp hl hs =>
    cases dy <;> first | exact h.elim | skip
    cases ry
    obtain ⟨d, hd, h⟩ := onSome_some h
    obtain ⟨v, h1, h2⟩ := reps_atI hs hd
    exact .inl ⟨_, _, _, v, rfl, rfl, SqL.of hl, h1, k v H2 d E g2 h2 h⟩
  | str =>
    cases dy <;> first | exact h.elim | skip
    cases ry
    obtain ⟨hz, h⟩ := h
    obtain ⟨c, hc, h⟩ := onSome_some h
    exact .inr (.inr ⟨_, _, c, rfl, rfl, by rw [sizeLine_eq]; exact hz, hc, k _ H2 _ E g2 .str h⟩)
  | _ => cases dy <;> exact h.elim
theorem dv_ixO (i : Nat) {x : Str} {px : Pos} (hb : DE C X b wb) (hN : X.N[i]? = some x := by rfl) (hv : Vis X.env.scope x := by first | exact Or.inl rfl | exact Or.inr (Or.inl rfl) | exact Or.inr (Or.inr rfl)) (hd : (x == ("__debug__" : Str)) = false := by decide)
    (hcd : (x == ("__classdict__" : Str)) = false := by decide) (hs : PlainIx b := by exact fun _ _ => rfl) : DV C X (.Subscript (.Name x px) b pos) (wIxO i wb) := by
  obtain ⟨tb, pb, sb⟩ := hb
  refine ⟨_, pe_ix ix_seq (pe_var hN hv hd hcd) pb hs, fun r H0 O σ H env Q Qh S hw k => ?_⟩
  obtain ⟨ds, he, hw⟩ := onOwn_some hw
  obtain ⟨a, vs, h1, h2, h3, h4⟩ := S.own i ds he
  refine ⟨.ref a, h2, ?_⟩
  refine sb r H0 O σ H env _ _ S hw fun y H2 dy e2 g2 ry h => ?_
  have h3' := e2.lst (S.new i a h1).2 h3
  have h4' := h4.ext e2 (P' := Po O r H0) (fun _ z => z.1) fun _ z => z
  cases dy <;> first | exact h.elim | skip
  cases ry
  obtain ⟨d, hd, h⟩ := onSome_some h
  obtain ⟨v, q1, q2⟩ := reps_atI h4' hd
  exact .inl ⟨_, _, _, v, rfl, rfl, SqL.of h3', q1, k v H2 d e2 g2 (q2.mono fun _ z => ⟨z.1, z.2.1⟩) h⟩
theorem dv_callF {k j n : Nat} {fs : FS} {x : Str} (B : FnB X.prog X.w X.K X.mg X.base C x k n fs) (hR : Room j X.A) (ha : DA C X (e :: es) wl) (hj : k ≤ j := by decide) (hg : Gl X x := by rfl) (hdb : (x == ("__debug__" : Str)) = false := by decide)
    (he : starEach (e :: es) X.env = (false, eval e X.env) :: starEach es X.env := by rfl) (hpl : (backTo pos (starEach es X.env)).any (·.1) = false := by rfl) : DV C X (.Call (.Name x p) (e :: es) [] pos) (wFn (fun ds Q => ds.length = n ∧ fs ds Q) wl) := by
  obtain ⟨f, fd, ps, F, hm, hk, hb⟩ := B.ex
  obtain ⟨t, pa, s⟩ := ha
  refine ⟨_, pe_call F (hR.mono hj) hg hm hk hb .nil pass0 pa hdb he hpl, fun r H0 O σ H env Q Qh S hw k => s r H0 O σ H env _ _ S hw fun vs H1 ds e1 g1 rv q => ?_⟩
  rw [List.append_nil]
  exact ⟨by rw [rv.length]; exact q.1, r, ds, Q, g1, rv, q.2, fun d v H' q' e' g' r' => k v H' d (e1.trans e') g' (r'.rep.mono fun b z => ⟨z.1, (S.fresh (e1.dom b z.2)).2.1⟩) q'⟩
/-! statements -/
theorem pv_off {O : Nat → Option Addr} {r : Addr} {i : Nat} : ∀ a, Pv O r a → Pv (offO O i) r a := fun a z => ⟨z.1, fun j y => z.2 j (offO_some y).2⟩
theorem ds_setV (i : Nat) {x : Str} {pos' : Pos} (hN : X.N.Nodup) (hi : X.N[i]? = some x) (hx : Loc X.env.scope x) (he : DV C X e w) (hs : swapsWith e (some (.Name x pos')) pos.line X.env = pure false := by rfl) (hf : X.fn x = true ∨ X.env.scope.names.lookup x = some .local := by first | exact .inl rfl | exact .inr rfl | assumption) : DS C X W (.Assign [.Name x pos'] e pos) (wSetV i w) := by
  obtain ⟨t, pe, s⟩ := he
  refine ⟨_, ps_set hN hi hx pe hs hf, fun r H0 O σ H env Kd E S hw m => s r H0 O σ H env _ _ S hw fun v H1 d e1 g1 rv q => ?_⟩
  exact m.nx _ _ H1 _ ((Frm.of_ext e1).trans .off) ((S.step e1 g1).set_val q.1 (rv.mono pv_off)) q.2
theorem ds_parV2 (i j : Nat) {x y : Str} {px py pt : Pos} {kt k2 pt2} (hc : X.calm = true) (hN : X.N.Nodup) (hi : X.N[i]? = some x) (hj : X.N[j]? = some y) (hx : X.env.scope.names.lookup x = some .local) (hy : X.env.scope.names.lookup y = some .local) (ha : DV C X a wa) (hb : DV C X b wb)
    (hw : swappedStores [.Tuple [.Name x px, .Name y py] kt pt] (.Tuple [a, b] k2 pt2) X.env = pure (some [x, y])) (hij : (i == j) = false := by rfl) (hs : swapsWithSole [.Tuple [.Name x px, .Name y py] kt pt] (.Tuple [a, b] k2 pt2) pos.line X.env = pure false := by rfl)
    (h1 : starEach (a :: [b]) X.env = (false, eval a X.env) :: starEach [b] X.env := by rfl) (h2 : starEach (b :: []) X.env = (false, eval b X.env) :: starEach [] X.env := by rfl) :
    DS C X W (.Assign [.Tuple [.Name x px, .Name y py] kt pt] (.Tuple [a, b] k2 pt2) pos) (wParV i j wa wb) := by
  obtain ⟨ta, pa, sa⟩ := ha
  obtain ⟨tb, pb, sb⟩ := hb
  refine ⟨_, ps_par hc hN hi hj (by intro z; rw [z] at hij; simp at hij) hx hy (pa_cons pa (pa_cons pb pa_nil h2) h1) hw hs, fun r H0 O σ H env Kd E S hw m => ?_⟩
  refine sa r H0 O σ H env _ _ S hw fun v H1 d e1 g1 rv q => ?_
  refine sb r H0 O σ H1 env _ _ (S.step e1 g1) q fun u H2 d2 e2 g2 ru q => ?_
  have rv := rv.ext e2 (P' := Pv O r) (fun _ z => z.1) fun _ z => z
  have S2 := ((S.step e1 g1).step e2 g2).set_val q.1.1 (rv.mono pv_off)
  have S3 := S2.set_val (i := j) (v := u) (d := d2) (by rw [List.length_set]; exact q.1.2) (ru.mono fun a z => pv_off a (pv_off a z))
  exact ⟨v, u, rfl, m.nx _ _ H2 _ (((Frm.of_ext (e1.trans e2)).trans .off).trans .off) S3 q.2⟩
/-- a list of one new list -/
theorem dn_lst1 (h : DN C X e wl) (h1 : starEach (e :: []) X.env = (false, eval e X.env) :: starEach [] X.env := by rfl) : DN C X (.List [e] pos) (wLst1 wl) := by
  obtain ⟨t, pe, s⟩ := h
  refine ⟨_, pe_lst (pa_cons pe pa_nil h1), fun r H0 O σ H env Q Qh S hw k => s r H0 O σ H env _ _ S hw fun p H1 vs ds e1 g1 n l1 r1 q => ?_⟩
  refine ⟨by rw [sizeLine_eq]; show 1 ≤ _; omega, fun p2 np => ?_⟩
  have e2 := Ext.upd (r := r) (o := .lst [.ref p]) np
  have ne : p ≠ p2 := fun z => by rw [z, np] at l1; cases l1
  have pn := S.fresh n
  have l2 := e2.lst (S.good.new n) l1
  exact k p2 _ _ _ (e1.trans e2) (g1.upd np) (e1.dom p2 np) upd_same (.cons (.lst ⟨pn, ne⟩ l2 ((r1.lift (P' := fun a => Po O r H0 a ∧ a ≠ p2) (fun _ _ x => e2.sqT x) (fun b xs q x => e2.lst q.1.1 x) (fun b kvs q x => e2.rd x) fun b q x => ⟨q.1, fun z => x (by rw [z]; exact np)⟩))) .nil) q
/-- a part of a list of one's own -/
theorem dn_slO (i : Nat) {x : Str} {px : Pos} {lo hi : Option Expr} {wl wh : WO} {p2 : Pos} (hl : DO C X lo wl) (hh : DO C X hi wh) (hN : X.N[i]? = some x := by rfl) (hv : Vis X.env.scope x := by first | exact Or.inl rfl | exact Or.inr (Or.inl rfl) | exact Or.inr (Or.inr rfl)) (hd : (x == ("__debug__" : Str)) = false := by decide)
    (hcd : (x == ("__classdict__" : Str)) = false := by decide) : DN C X (.Subscript (.Name x px) (.Slice lo hi none p2) pos) (wSlO i wl wh) := by
  obtain ⟨tl, pl, sl⟩ := hl
  obtain ⟨th, ph, sh⟩ := hh
  refine ⟨_, pe_slice sl_list (pe_var hN hv hd hcd) pl ph, fun r H0 O σ H env Q Qh S hw k => ?_⟩
  obtain ⟨ds, he, hw⟩ := onOwn_some hw
  obtain ⟨a, vs, h1, h2, h3, h4⟩ := S.own i ds he
  refine ⟨.ref a, h2, ?_⟩
  refine sl r H0 O σ H env _ _ S hw fun lo H2 e2 g2 q2 => ?_
  refine sh r H0 O σ H2 env _ _ (S.step e2 g2) q2 fun hi H3 e3 g3 q3 => ?_
  have E := e2.trans e3
  have h3' := E.lst (S.new i a h1).2 h3
  have h4' := h4.ext E (P' := Po O r H0) (fun _ z => z.1) fun _ z => z
  refine ⟨a, vs, rfl, SqL.of h3', fun p np => ?_⟩
  have e := Ext.upd (r := r) (o := .lst (cutV vs lo hi)) np
  refine k p _ _ _ (E.trans e) (g3.upd np) (E.dom p np) upd_same ((reps_cut h4' lo hi).lift (fun _ _ x => e.sqT x) (fun b xs q x => e.lst q.1 x) (fun b kvs q x => e.rd x) fun b q x => ⟨q, fun z => x (by rw [z]; exact np)⟩) q3
theorem SI.drop {K : PySem.W.Frag} {r : Addr} {H0 H : Hp} {O : Nat → Option Addr} {σ : L2.St} {env : SDs} (S : SI C K r H0 O H σ env) {j : Nat} {sd : SD} (he : env[j]? = some sd) : SI C K r H0 (offO O j) H σ (env.set j SD.no) := by
  have hj : j < env.length := (List.getElem?_eq_some_iff.mp he).1
  have back : ∀ k u, (env.set j SD.no)[k]? = some u → u ≠ SD.no → j ≠ k ∧ env[k]? = some u := fun k u h hu => by
    by_cases e : j = k
    · subst e
      rw [List.getElem?_set_self hj] at h
      exact absurd (Option.some.inj h).symm hu
    · rw [List.getElem?_set_ne e] at h; exact ⟨e, h⟩
  refine ⟨S.good, S.ext, by rw [List.length_set]; exact S.len, fun i k a h1 h2 => S.inj i k a (offO_some h1).2 (offO_some h2).2, fun i a h => S.new i a (offO_some h).2, fun i d h => ?_, fun i sd' h zo => ?_, fun i a h => S.dom i a (offO_some h).2⟩
  · obtain ⟨_, h⟩ := back i _ h (by intro z; cases z)
    obtain ⟨v, q1, q2⟩ := S.val i d h
    exact ⟨v, q1, q2.mono pv_off⟩
  · obtain ⟨ne, h⟩ := back i _ h (by intro z; rw [z] at zo; exact zo)
    obtain ⟨a, q1, q2, q3⟩ := S.obj i sd' h zo
    exact ⟨a, by unfold offO; rw [if_neg (Ne.symm ne)]; exact q1, q2, q3.mono fun b z => ⟨z.1, fun k y => z.2.1 k (offO_some y).2, z.2.2⟩⟩
/-- a list of one's own changes its slot -/
def mvO (O : Nat → Option Addr) (i j : Nat) : Nat → Option Addr := fun k => if k = i then O j else if k = j then none else O k
theorem mvO_sub {O : Nat → Option Addr} {i j k : Nat} {a : Addr} (h : mvO O i j k = some a) : ∃ l, O l = some a := by
  unfold mvO at h
  split at h
  · exact ⟨j, h⟩
  · split at h
    · cases h
    · exact ⟨k, h⟩
theorem pv_mv {O : Nat → Option Addr} {r : Addr} {i j : Nat} : ∀ a, Pv O r a → Pv (mvO O i j) r a := fun a z => ⟨z.1, fun k y => by obtain ⟨l, y⟩ := mvO_sub y; exact z.2 l y⟩
theorem po_mv {O : Nat → Option Addr} {r : Addr} {H0 : Hp} {i j : Nat} : ∀ a, Po O r H0 a → Po (mvO O i j) r H0 a := fun a z => ⟨z.1, fun k y => by obtain ⟨l, y⟩ := mvO_sub y; exact z.2.1 l y, z.2.2⟩
theorem SI.move {K : PySem.W.Frag} {r : Addr} {H0 H : Hp} {O : Nat → Option Addr} {σ : L2.St} {env : SDs} (S : SI C K r H0 O H σ env) {i j : Nat} {sd : SD} {b : Addr} (hij : i ≠ j) (hi : i < env.length) (he : env[j]? = some sd) (zo : OwnS sd) (hb : O j = some b) :
    SI C K r H0 (mvO O i j) H (σ.set i (some (.ref b))) ((env.set j SD.no).set i sd) := by
  have hj : j < env.length := (List.getElem?_eq_some_iff.mp he).1
  have back : ∀ k u, i ≠ k → ((env.set j SD.no).set i sd)[k]? = some u → u ≠ SD.no → j ≠ k ∧ env[k]? = some u := fun k u hk h hu => by
    rw [List.getElem?_set_ne hk] at h
    by_cases e : j = k
    · subst e
      rw [List.getElem?_set_self hj] at h
      exact absurd (Option.some.inj h).symm hu
    · rw [List.getElem?_set_ne e] at h; exact ⟨e, h⟩
  refine ⟨S.good, S.ext, by rw [List.length_set, List.length_set, List.length_set]; exact S.len, fun k l a h1 h2 => ?_, fun k a h => ?_, fun k d h => ?_, fun k sd' h zo' => ?_, fun k a h => ?_⟩
  · unfold mvO at h1 h2
    split at h1 <;> split at h2
    · omega
    · split at h2
      · cases h2
      · have := S.inj _ _ _ h1 h2; omega
    · split at h1
      · cases h1
      · have := S.inj _ _ _ h1 h2; omega
    · split at h1 <;> split at h2
      · cases h1
      · cases h1
      · cases h2
      · exact S.inj _ _ _ h1 h2
  · obtain ⟨l, h⟩ := mvO_sub h
    exact S.new l a h
  · by_cases hk : i = k
    · subst hk
      rw [List.getElem?_set_self (by rw [List.length_set]; exact hi)] at h
      cases h
      exact zo.elim
    · obtain ⟨_, h⟩ := back k _ hk h (by intro z; cases z)
      obtain ⟨v, q1, q2⟩ := S.val k d h
      exact ⟨v, by rw [List.getElem?_set_ne hk]; exact q1, q2.mono pv_mv⟩
  · by_cases hk : i = k
    · subst hk
      rw [List.getElem?_set_self (by rw [List.length_set]; exact hi)] at h
      cases h
      obtain ⟨a, q1, q2, q3⟩ := S.obj j _ he zo
      rw [hb] at q1; cases q1
      exact ⟨b, by unfold mvO; rw [if_pos rfl]; exact hb, List.getElem?_set_self (by rw [S.len]; exact hi), q3.mono po_mv⟩
    · obtain ⟨ne, h⟩ := back k _ hk h (by intro z; rw [z] at zo'; exact zo')
      obtain ⟨a, q1, q2, q3⟩ := S.obj k sd' h zo'
      exact ⟨a, by unfold mvO; rw [if_neg (Ne.symm hk), if_neg (Ne.symm ne)]; exact q1, by rw [List.getElem?_set_ne hk]; exact q2, q3.mono po_mv⟩
  · obtain ⟨l, h⟩ := mvO_sub h
    exact S.dom l a h
theorem Frm.mv {r : Addr} {O : Nat → Option Addr} {H : Hp} {i j : Nat} : Frm r O H (mvO O i j) H := ⟨fun b o h => .inr (.inr (.inr h)), fun b h => h, fun k a h => .inl (mvO_sub h)⟩
def wMov (i j : Nat) : WS := fun K env => onOwn env j fun ds => (i ≠ j ∧ i < env.length) ∧ K.nx ((env.set j SD.no).set i (SD.own ds))
theorem ds_mov (i j : Nat) {x y : Str} {py : Pos} {pos' : Pos} (hN : X.N.Nodup) (hi : X.N[i]? = some x) (hx : Loc X.env.scope x) (hNj : X.N[j]? = some y := by rfl) (hvj : Vis X.env.scope y := by first | exact Or.inl rfl | exact Or.inr (Or.inl rfl) | exact Or.inr (Or.inr rfl)) (hdj : (y == ("__debug__" : Str)) = false := by decide)
    (hcdj : (y == ("__classdict__" : Str)) = false := by decide) (hs : swapsWith (.Name y py) (some (.Name x pos')) pos.line X.env = pure false := by rfl) (hf : X.fn x = true ∨ X.env.scope.names.lookup x = some .local := by first | exact .inl rfl | exact .inr rfl | assumption) : DS C X W (.Assign [.Name x pos'] (.Name y py) pos) (wMov i j) := by
  refine ⟨_, ps_set hN hi hx (pe_var hNj hvj hdj hcdj) hs hf, fun r H0 O σ H env Kd E S hw m => ?_⟩
  obtain ⟨ds, he, hw⟩ := onOwn_some hw
  obtain ⟨b, us, b1, b2, b3, b4⟩ := S.own j ds he
  exact ⟨.ref b, b2, m.nx _ _ H _ .mv (S.move hw.1.1 hw.1.2 he trivial b1) hw.2⟩
/-- a list of one's own goes into another -/
theorem ds_insO (i j : Nat) {x y : Str} {py : Pos} {i' : Expr} {px apos cpos : Pos} (hi : DE C X i' wa) (hN : X.N[i]? = some x := by rfl) (hv : Vis X.env.scope x := by first | exact Or.inl rfl | exact Or.inr (Or.inl rfl) | exact Or.inr (Or.inr rfl)) (hd : (x == ("__debug__" : Str)) = false := by decide)
    (hcd : (x == ("__classdict__" : Str)) = false := by decide) (hNj : X.N[j]? = some y := by rfl) (hvj : Vis X.env.scope y := by first | exact Or.inl rfl | exact Or.inr (Or.inl rfl) | exact Or.inr (Or.inr rfl)) (hdj : (y == ("__debug__" : Str)) = false := by decide)
    (hcdj : (y == ("__classdict__" : Str)) = false := by decide) (hst : starEach (i' :: .Name y py :: []) X.env = (false, eval i' X.env) :: starEach [.Name y py] X.env := by rfl) (hst2 : starEach (.Name y py :: []) X.env = (false, eval (.Name y py) X.env) :: starEach [] X.env := by rfl)
    (hs : swapsWith (.Call (.Attribute (.Name x px) "insert" apos) [i', .Name y py] [] cpos) none pos.line X.env = pure false := by rfl)
    (hbase : attributeBase (.Name x px) "insert" X.env (eval (.Name x px) X.env) = eval (.Name x px) X.env := by rfl)
    (hfew : ((backTo cpos (starEach (i' :: [.Name y py]) X.env)).all (fun x => !x.1) && (backToKw cpos (keywordEach [] X.env)).all (fun x => x.1.isSome)
      && decide ((i' :: [.Name y py]).length + ([] : List Keyword).length + (if ([] : List Keyword).isEmpty then 0 else 1) < 30)) = true := by rfl)
    (hline : (apos.endLine == cpos.line) = true := by rfl) (hplain : (backTo cpos (starEach [.Name y py] X.env)).any (·.1) = false := by rfl) :
    DS C X W (.Expr (.Call (.Attribute (.Name x px) "insert" apos) [i', .Name y py] [] cpos) pos) (wInsO i j wa) := by
  obtain ⟨ti, pi, si⟩ := hi
  refine ⟨_, ps_expr (pe_bm PySem.F.plainAttrs_list PySem.F.slot_list_insert PySem.F.type_list_insert mt_insert (pe_var hN hv hd hcd) (pa_cons pi (pa_cons (pe_var hNj hvj hdj hcdj) pa_nil hst2) hst) hbase hfew hline hst hplain) hs, fun r H0 O σ H env Kd E S hw m => ?_⟩
  obtain ⟨ds, he, hw⟩ := onOwn_some hw
  obtain ⟨a, vs, h1, h2, h3, h4⟩ := S.own i ds he
  refine ⟨.ref a, h2, .inl ⟨rfl, _, SqL.of h3⟩, ?_⟩
  refine si r H0 O σ H env _ _ S hw fun y H1 dy e1 g1 rj q => ?_
  have S1 := S.step e1 g1
  cases dy <;> first | exact q.elim | skip
  cases rj with
  | @int k =>
    obtain ⟨q0, hij, q⟩ := q
    obtain ⟨es, he2, q⟩ := onOwn_some q
    obtain ⟨b, us, b1, b2, b3, b4⟩ := S1.own j es he2
    obtain ⟨a', vs', h1', h2', h3', h4'⟩ := S1.own i ds he
    rw [h1] at h1'; cases h1'
    have S2 := S1.drop he2
    have he' : (env.set j SD.no)[i]? = some (SD.own ds) := by rw [List.getElem?_set_ne (Ne.symm hij)]; exact he
    have h1' : offO O j i = some a := by unfold offO; rw [if_neg hij]; exact h1
    have rb : Rep X.K r H1 (Po (offO O j) r H0) (.ref b) (.list es) := .lst ⟨(S1.new j b b1).2, fun k z => (offO_some z).1 (S1.inj _ _ _ (offO_some z).2 b1), (S1.new j b b1).1⟩ b3 (b4.mono fun c z => ⟨z.1, fun k y => z.2.1 k (offO_some y).2, z.2.2⟩)
    have h5 := h4'.mono (P' := Po (offO O j) r H0) fun c z => ⟨z.1, fun k y => z.2.1 k (offO_some y).2, z.2.2⟩
    refine ⟨.ref b, b2, a, vs', _, .ref b, rfl, rfl, h3', by rw [sizeLine_eq, h4'.length]; exact q0.1, q0.2.1, q0.2.2, ?_⟩
    exact m.nx _ σ _ _ (((Frm.of_ext e1).trans .off).trans (.upd h1' h3')) (S2.write he' h1' h3' (((h5.take _).append (.cons rb .nil)).append (h5.drop _))) q
/-! walks over lists of lists -/
def ItmP (K : PySem.W.Frag) (r : Addr) (P : Addr → Prop) (J : It) (H : Hp) (ds : List D) : Prop := ∀ i, (∀ d, ds[i]? = some d → J.go i H ∧ ∀ x H', J.yld i H x H' → Same H H' ∧ Rep K r H' P x d) ∧ (ds.length = i → J.stop i H)
theorem itmP_list {K : PySem.W.Frag} {r a : Addr} {H : Hp} {P : Addr → Prop} {xs : List V} {ds : List D} (h : H a = some (.lst xs)) (hr : Reps K r H P xs ds) : ItmP K r P (Itl K a) H ds := fun i => ⟨fun d hd => by
  obtain ⟨v, h1, h2⟩ := hr.get hd
  refine ⟨⟨xs, v, SqL.of h, h1⟩, fun x H' ⟨e1, e2⟩ => ?_⟩
  subst e1
  have := e2 xs (SqL.of h)
  rw [h1] at this
  cases this
  exact ⟨.refl _, h2⟩, fun hi => ⟨xs, SqL.of h, by rw [hr.length]; exact Nat.le_of_eq hi⟩⟩
theorem itmP_tup {K : PySem.W.Frag} {r a : Addr} {H : Hp} {P : Addr → Prop} {xs : List V} {ds : List D} (h : SqT K H a xs) (hr : Reps K r H P xs ds) : ItmP K r P (Itt K a) H ds := fun i => ⟨fun d hd => by
  obtain ⟨v, h1, h2⟩ := hr.get hd
  refine ⟨⟨xs, v, h, h1⟩, fun x H' ⟨e1, e2⟩ => ?_⟩
  subst e1
  have := e2 xs h
  rw [h1] at this
  cases this
  exact ⟨.refl _, h2⟩, fun hi => ⟨xs, h, by rw [hr.length]; exact Nat.le_of_eq hi⟩⟩
def DJV (C : List Addr) (X : Cx) (tg iter : Expr) (w : WL) : Prop := ∃ t, PI X tg iter t ∧ ∀ (r : Addr) (H0 : Hp) (O : Nat → Option Addr) (σ : L2.St) (H : Hp) (env : SDs) (Q : List D → Prop) (R : It → Hp → Prop), SI C X.K r H0 O H σ env → w env Q →
  (∀ J H1 ds, Ext r H H1 → Good C X.K r H1 → (∀ H', Ext r H1 H' → ItmP X.K r (Pv O r) J H' ds) → Q ds → R J H1) → t σ H R
def DGV (C : List Addr) (X : Cx) (tg : Expr) (ix : List Nat) (w : WG) : Prop := ∃ t, PG X tg t ∧ ∀ (r : Addr) (H0 : Hp) (O : Nat → Option Addr) (σ : L2.St) (H : Hp) (env : SDs) (v : V) (d : D) (Q : SDs → Prop) (Qh : L2.St → Hp → Prop), SI C X.K r H0 O H σ env → Rep X.K r H (Pv O r) v d → w d env Q →
  (∀ O' σ' env', Frm r O H O' H → SI C X.K r H0 O' H σ' env' → σ'.length = σ.length → (∀ j, j ∉ ix → σ'[j]? = σ[j]?) → (∀ j a, O' j = some a → O j = some a) → Q env' → Qh σ' H) → t v σ H Qh
theorem djv_seq (h : DV C X e wa) : DJV C X tg e (wSeq1 wa) := by
  obtain ⟨t, pe, st⟩ := h
  refine ⟨_, pi_seq pe, fun r H0 O σ H env Q R S hw k => st r H0 O σ H env _ _ S hw fun v H1 d e1 g1 r1 q => ?_⟩
  cases r1 with
  | tup ht hs => exact ⟨_, rfl, .inr ⟨⟨_, ht⟩, k _ H1 _ e1 g1 (fun H' e' => itmP_tup (e'.sqT ht) (hs.ext e' (fun _ z => z.1) fun _ z => z)) q⟩⟩
  | lst hp hl hs => exact ⟨_, rfl, .inl ⟨⟨_, SqL.of hl⟩, k _ H1 _ e1 g1 (fun H' e' => itmP_list (e'.lst hp.1 hl) (hs.ext e' (fun _ z => z.1) fun _ z => z)) q⟩⟩
  | _ => exact q.elim
def wOwnL (i : Nat) : WL := fun env Q => onOwn env i Q
theorem djv_own (i : Nat) {x : Str} {px : Pos} (hN : X.N[i]? = some x := by rfl) (hv : Vis X.env.scope x := by first | exact Or.inl rfl | exact Or.inr (Or.inl rfl) | exact Or.inr (Or.inr rfl)) (hd : (x == ("__debug__" : Str)) = false := by decide)
    (hcd : (x == ("__classdict__" : Str)) = false := by decide) : DJV C X tg (.Name x px) (wOwnL i) := by
  refine ⟨_, pi_seq (pe_var hN hv hd hcd), fun r H0 O σ H env Q R S hw k => ?_⟩
  obtain ⟨ds, he, hw⟩ := onOwn_some hw
  obtain ⟨a, vs, h1, h2, h3, h4⟩ := S.own i ds he
  have ar := (S.new i a h1).2
  have h5 := h4.mono (P' := Pv O r) fun _ z => ⟨z.1, z.2.1⟩
  exact ⟨_, h2, a, rfl, .inl ⟨⟨_, SqL.of h3⟩, k _ H _ (.refl _ _) S.good (fun H' e' => itmP_list (e'.lst ar h3) (h5.ext e' (fun _ z => z.1) fun _ z => z)) hw⟩⟩
def wgV (i : Nat) : WG := fun d env Q => i < env.length ∧ Q (env.set i (SD.val d))
theorem dgv_name (i : Nat) {x : Str} (hN : X.N.Nodup) (hi : X.N[i]? = some x) (hx : Loc X.env.scope x) (hf : X.fn x = true ∨ X.env.scope.names.lookup x = some .local := by first | exact .inl rfl | exact .inr rfl | assumption) : DGV C X (.Name x pos) [i] (wgV i) := by
  refine ⟨_, pg_name hN hi hx hf, fun r H0 O σ H env v d Q Qh S hv hw k => ?_⟩
  exact k (offO O i) _ _ .off (S.set_val hw.1 (hv.mono pv_off)) (List.length_set ..) (fun j hj => List.getElem?_set_ne (fun z => hj (by rw [z]; simp))) (fun j a z => (offO_some z).2) hw.2
theorem unif_gV {wg : WG} {ix : List Nat} {I : Type} {P0 : I → Prop} {Xf : I → Cx} {K : PySem.W.Frag} {e : Expr} (hK : ∀ i, (Xf i).K = K) (h : ∀ i, P0 i → DGV C (Xf i) e ix wg) :
    ∃ t, (∀ i, P0 i → PG (Xf i) e t) ∧ ∀ (r : Addr) (H0 : Hp) (O : Nat → Option Addr) (σ : L2.St) (H : Hp) (env : SDs) (v : V) (d : D) (Q : SDs → Prop) (Qh : L2.St → Hp → Prop), SI C K r H0 O H σ env → Rep K r H (Pv O r) v d → wg d env Q →
      (∀ O' σ' env', Frm r O H O' H → SI C K r H0 O' H σ' env' → σ'.length = σ.length → (∀ j, j ∉ ix → σ'[j]? = σ[j]?) → (∀ j a, O' j = some a → O j = some a) → Q env' → Qh σ' H) → t v σ H Qh := by
  refine ⟨fun v σ H Q => ∀ i, P0 i → ∀ pins s u, Inv (Xf i) pins σ H s → RelV v u → wpAny (model (Xf i).prog (Xf i).w) (Xf i).A (assign e (Xf i).env u) (fun _ s' => ∃ σ' H', Inv (Xf i) pins σ' H' s' ∧ Q σ' H') (Xf i).xe s, fun i hi => ⟨fun pins s σ H v u Q I rv q => q i hi pins s u I rv⟩, ?_⟩
  intro r H0 O σ H env v d Q Qh S hv hw k i hi pins s u I rv
  obtain ⟨t, pt, st⟩ := h i hi
  have e := hK i
  subst e
  exact pt.run pins s σ H v u _ I rv (st r H0 O σ H env v d Q Qh S hv hw k)
end
section
variable {C : List Addr} {K : PySem.W.Frag} {r : Addr} {H0 : Hp} {O : Nat → Option Addr} {σ : L2.St} {env : SDs} {ix : List Nat}
theorem lc_readP {P : Addr → Prop} {tgt : TG} {ttt : TT} {tee : TE} {vs : List Nat} {ds : List D} {J : It} {H1 : Hp} {Q : List D → Prop} {Qh : VK}
    (S : SI C K r H0 O H1 σ env) (it : ∀ H', Ext r H1 H' → ItmP K r P J H' ds) (F : List D → List D → Prop) (h0 : F ds [])
    (hF0 : ∀ acc, F [] acc → Q acc)
    (turn : ∀ d ds' acc (x : V) (p : Addr) (us : List V) (H2 : Hp) (Nx : Hp → Prop), SI C K r H0 O H2 (wipe σ vs) (wipeE env vs) → Rep K r H2 P x d → F (d :: ds') acc → Po O r H0 p → H2 p = some (.lst us) → us.length = acc.length →
      (∀ H3, Ext r H2 H3 → Good C K r H3 → F ds' acc → Nx H3) →
      (∀ y dy H4, Ext r H2 H4 → Good C K r H4 → acc.length < 16777216 → Rep K r H4 (fun a => Po O r H0 a ∧ a ≠ p) y dy → F ds' (acc ++ [dy]) → Nx (upd H4 p (.lst (us ++ [y])))) →
      tgt x (wipe σ vs) H2 fun σ2 H2 => wipe σ2 vs = wipe σ vs ∧ ttt σ2 H2 fun b H3 => if b = true then tee σ2 H3 fun y H4 => ∃ acc, H4 p = some (.lst acc) ∧ acc.length < sizeLine ∧ Nx (upd H4 p (.lst (acc ++ [y]))) else Nx H3)
    (k : ∀ p H' us acc, Ext r H1 H' → Good C K r H' → H1 p = none → H' p = some (.lst us) → Reps K r H' (fun a => Po O r H0 a ∧ a ≠ p) us acc → Q acc → Qh (.ref p) H') :
    ∀ D, H1 D = none → ∃ W : Nat → Nat → Hp → Prop, (∃ m, W 0 m (upd H1 D (.lst []))) ∧ ∀ i m H, W i m H →
      (J.stop i H ∧ Qh (.ref D) H) ∨ (J.go i H ∧ ∃ Nx : Hp → Prop, (∀ H', Nx H' → ∃ m', m' < m ∧ W (i + 1) m' H') ∧ ∀ x H', J.yld i H x H' → tgt x (wipe σ vs) H' fun σ2 H2 => wipe σ2 vs = wipe σ vs ∧ ttt σ2 H2 fun b H3 =>
        if b = true then tee σ2 H3 fun y H4 => ∃ acc, H4 D = some (.lst acc) ∧ acc.length < sizeLine ∧ Nx (upd H4 D (.lst (acc ++ [y]))) else Nx H3) := by
  intro p np
  have pn := S.fresh np
  refine ⟨fun i n H' => n = ds.length - i ∧ i ≤ ds.length ∧ Ext r H1 H' ∧ Good C K r H' ∧ ∃ us acc, H' p = some (.lst us) ∧ Reps K r H' (fun a => Po O r H0 a ∧ a ≠ p) us acc ∧ F (ds.drop i) acc, ⟨ds.length, rfl, Nat.zero_le _, .upd np, S.good.upd np, [], [], upd_same, .nil, by simpa using h0⟩, ?_⟩
  rintro i n H2 ⟨rfl, hi, e2, g2, us, acc, l2, r2, q2⟩
  obtain ⟨a1, a2⟩ := it H2 e2 i
  by_cases hlt : i < ds.length
  · have hd : ds[i]? = some ds[i] := by simp [hlt]
    obtain ⟨go, y⟩ := a1 _ hd
    rw [List.drop_eq_getElem_cons hlt] at q2
    refine .inr ⟨go, fun H' => Ext r H1 H' ∧ Good C K r H' ∧ ∃ us acc, H' p = some (.lst us) ∧ Reps K r H' (fun a => Po O r H0 a ∧ a ≠ p) us acc ∧ F (ds.drop (i + 1)) acc, fun H' z => ⟨ds.length - (i + 1), by omega, rfl, hlt, z⟩, fun x H3 hy => ?_⟩
    obtain ⟨sm, rx⟩ := y x H3 hy
    have e3 : Ext r H2 H3 := .of_same sm
    have g3 := g2.same sm
    have S3 := (S.step (e2.trans e3) g3).wiped vs
    have l3 := e3.lst pn.1 l2
    have r3 := r2.ext e3 (P' := fun a => Po O r H0 a ∧ a ≠ p) (fun _ z => z.1.1) fun _ z => z
    refine turn ds[i] (ds.drop (i + 1)) acc x p us H3 _ S3 rx q2 pn l3 r3.length (fun H4 e4 g4 f4 => ?_) fun v dv H4 e4 g4 hl rv f4 => ?_
    · exact ⟨(e2.trans e3).trans e4, g4, us, acc, e4.lst pn.1 l3, r3.ext e4 (fun _ z => z.1.1) fun _ z => z, f4⟩
    · have l4 := e4.lst pn.1 l3
      have r4 := r3.ext e4 (P' := fun a => Po O r H0 a ∧ a ≠ p) (fun _ z => z.1.1) fun _ z => z
      have E : Ext r H1 H4 := (e2.trans e3).trans e4
      refine ⟨⟨fun b o hb => ?_, fun b hb => ?_, fun q h => tabW_write l4 (E.tab q h)⟩, g4.write l4 pn.1, us ++ [v], acc ++ [dv], upd_same, (r4.append (.cons rv .nil)).write l4 (fun _ z => z.2), f4⟩
      · rcases E.keep b o hb with z | z | z
        · exact .inl z
        · exact .inr (.inl z)
        · exact .inr (.inr (by rw [upd_ne (ne_of_none hb np)]; exact z))
      · by_cases hbp : b = p
        · rw [hbp]; exact np
        · rw [upd_ne hbp] at hb; exact E.dom b hb
  · have e : i = ds.length := by omega
    subst e
    rw [List.drop_length] at q2
    exact .inl ⟨a2 rfl, k p H2 us acc e2 g2 np l2 r2 (hF0 acc q2)⟩
end
section
variable {C : List Addr} {X : Cx} {W : WX} {e a b c : Expr} {es rest : List Expr} {w wa wb wc : WE} {wl : WL} {pos p : Pos} {tg iter elt : Expr} {ifs : List Expr} {wg : WG} {ix : List Nat} {wt : WT} {we : WE} {scope : Scope} {own : List (Str × Nat)}
theorem dn_lcV (hc : X.calm = true) (hN : X.N.Nodup) (ok : BlkOk X.N X.env.scope scope own) (hi : DJV C X tg iter wl) (hg : ∀ i, DGV C (bcx X scope i) tg ix wg) (ht : ∀ i, DTs C (bcx X scope i) ifs wt) (he : ∀ i, DE C (bcx X scope i) elt we)
    (hix : ix.all (fun i => decide (i ∈ ownIx own)) = true := by rfl) (hs : ∀ x, foldedSetIterable iter X.env x = pure x := by intro _; rfl) : DN C X (.ListComp elt [⟨tg, iter, ifs, 0⟩] scope pos) (wLc wl wg wt we (ownIx own)) := by
  have hix' : ∀ i ∈ ix, i ∈ ownIx own := fun i hi => of_decide_eq_true (List.all_eq_true.mp hix i hi)
  obtain ⟨ti, pi, si⟩ := hi
  obtain ⟨tgt, pg, sg⟩ := unif_gV (P0 := fun _ => True) (Xf := bcx X scope) (fun _ => rfl) fun i _ => hg i
  obtain ⟨ttt, pt, stt⟩ := unif_t (P0 := fun _ => True) (Xf := bcx X scope) (fun _ => rfl) fun i _ => ht i
  obtain ⟨tee, pe, se⟩ := unif_e (P0 := fun _ => True) (Xf := bcx X scope) (fun _ => rfl) fun i _ => he i
  refine ⟨_, pe_lc hc hN pi ok (fun s H A cl fp => pg (s, H, A, cl, fp) trivial) (fun s H A cl fp => pt (s, H, A, cl, fp) trivial) (fun s H A cl fp => pe (s, H, A, cl, fp) trivial) hs, fun r H0 O σ H env Q Qh S hw k => ?_⟩
  refine si r H0 O σ H env _ _ S hw fun J H1 ds e1 g1 it q => ?_
  refine lc_readP (S.step e1 g1) it (F := fun ds acc => lcW wg wt we (wipeE env (ownIx own)) Q ds acc) q (fun _ z => z) ?_ fun p H' us acc e g np l rr q => k p H' us acc (e1.trans e) g (e1.dom p np) l rr q
  intro d ds' acc x p us H2 Nx S2 rx q2 pn l2 hl k0 k1
  refine sg r H0 O _ H2 _ x d _ _ S2 rx q2 fun O3 σ3 env3 f3 S3 hlen hout oo q3 => ?_
  refine ⟨(wipe_same hlen fun j hj => hout j fun z => hj (hix' j z)).trans (wipe_wipe _ _), ?_⟩
  refine stt r H0 O3 σ3 H2 env3 _ _ S3 q3 fun c H4 e4 g4 q4 => ?_
  cases c with
  | false => exact k0 H4 e4 g4 q4
  | true =>
    refine se r H0 O3 σ3 H4 env3 _ _ (S3.step e4 g4) q4 fun v H5 dv e5 g5 rv q5 => ?_
    have l5 := (e4.trans e5).lst pn.1 l2
    exact ⟨us, l5, by rw [sizeLine_eq, hl]; exact q5.1.1, k1 v dv H5 (e4.trans e5) g5 q5.1.1 (rv.flat q5.1.2) q5.2⟩
/-- a list of new lists -/
theorem dn_lcNV {we : WL} (hc : X.calm = true) (hN : X.N.Nodup) (ok : BlkOk X.N X.env.scope scope own) (hi : DJV C X tg iter wl) (hg : ∀ i, DGV C (bcx X scope i) tg ix wg) (ht : ∀ i, DTs C (bcx X scope i) ifs wt) (he : ∀ i, DN C (bcx X scope i) elt we)
    (hix : ix.all (fun i => decide (i ∈ ownIx own)) = true := by rfl) (hs : ∀ x, foldedSetIterable iter X.env x = pure x := by intro _; rfl) : DN C X (.ListComp elt [⟨tg, iter, ifs, 0⟩] scope pos) (wLcN wl wg wt we (ownIx own)) := by
  have hix' : ∀ i ∈ ix, i ∈ ownIx own := fun i hi => of_decide_eq_true (List.all_eq_true.mp hix i hi)
  obtain ⟨ti, pi, si⟩ := hi
  obtain ⟨tgt, pg, sg⟩ := unif_gV (P0 := fun _ => True) (Xf := bcx X scope) (fun _ => rfl) fun i _ => hg i
  obtain ⟨ttt, pt, stt⟩ := unif_t (P0 := fun _ => True) (Xf := bcx X scope) (fun _ => rfl) fun i _ => ht i
  obtain ⟨tee, pe, se⟩ := unif_n (P0 := fun _ => True) (Xf := bcx X scope) (fun _ => rfl) fun i _ => he i
  refine ⟨_, pe_lc hc hN pi ok (fun s H A cl fp => pg (s, H, A, cl, fp) trivial) (fun s H A cl fp => pt (s, H, A, cl, fp) trivial) (fun s H A cl fp => pe (s, H, A, cl, fp) trivial) hs, fun r H0 O σ H env Q Qh S hw k => ?_⟩
  refine si r H0 O σ H env _ _ S hw fun J H1 ds e1 g1 it q => ?_
  refine lc_readP (S.step e1 g1) it (F := fun ds acc => lcWN wg wt we (wipeE env (ownIx own)) Q ds acc) q (fun _ z => z) ?_ fun p H' us acc e g np l rr q => k p H' us acc (e1.trans e) g (e1.dom p np) l rr q
  intro d ds' acc x p us H2 Nx S2 rx q2 pn l2 hl k0 k1
  refine sg r H0 O _ H2 _ x d _ _ S2 rx q2 fun O3 σ3 env3 f3 S3 hlen hout oo q3 => ?_
  refine ⟨(wipe_same hlen fun j hj => hout j fun z => hj (hix' j z)).trans (wipe_wipe _ _), ?_⟩
  refine stt r H0 O3 σ3 H2 env3 _ _ S3 q3 fun c H4 e4 g4 q4 => ?_
  cases c with
  | false => exact k0 H4 e4 g4 q4
  | true =>
    refine se r H0 O3 σ3 H4 env3 _ _ (S3.step e4 g4) q4 fun v H5 vs dv e5 g5 nv lv rv q5 => ?_
    have l4 := e4.lst pn.1 l2
    have l5 := e5.lst pn.1 l4
    -- O3 only drops slots that the block owns: a new list is new for O as well
    have vp : v ≠ p := fun z => by rw [z, l4] at nv; cases nv
    have S4 := (S2.step e4 g4)
    have pv := S4.fresh nv
    refine ⟨us, l5, by rw [sizeLine_eq, hl]; exact q5.1.1, k1 (.ref v) (.list dv) H5 (e4.trans e5) g5 q5.1.1 ?_ q5.2⟩
    exact .lst ⟨pv, vp⟩ lv (rv.flats q5.1.2)

end
/-! lists in lists: loops over them, pairs of them, their hand-back -/
theorem Rep.frmV {K : PySem.W.Frag} {r : Addr} {O O' : Nat → Option Addr} {H H' : Hp} (f : Frm r O H O' H') {v : V} {d : D} (h : Rep K r H (Pv O r) v d) : Rep K r H' (Pv O' r) v d :=
  h.lift (fun _ _ x => f.sqT x) (fun _ _ p x => f.lst p.1 p.2 x) (fun _ _ p x => f.rd p.2 x) fun a p x => ⟨p.1, fun j y => by
    rcases f.tops j a y with ⟨k, q⟩ | q
    · exact p.2 k q
    · exact x q⟩
theorem Reps.frmV {K : PySem.W.Frag} {r : Addr} {O O' : Nat → Option Addr} {H H' : Hp} (f : Frm r O H O' H') {v : List V} {d : List D} (h : Reps K r H (Pv O r) v d) : Reps K r H' (Pv O' r) v d :=
  h.lift (fun _ _ x => f.sqT x) (fun _ _ p x => f.lst p.1 p.2 x) (fun _ _ p x => f.rd p.2 x) fun a p x => ⟨p.1, fun j y => by
    rcases f.tops j a y with ⟨k, q⟩ | q
    · exact p.2 k q
    · exact x q⟩
def DIV (C : List Addr) (X : Cx) (tg iter : Expr) (w : WL) : Prop := ∃ t, PI X tg iter t ∧ ∀ (r : Addr) (H0 : Hp) (O : Nat → Option Addr) (σ : L2.St) (H : Hp) (env : SDs) (Q : List D → Prop) (R : It → Hp → Prop), SI C X.K r H0 O H σ env → w env Q →
  (∀ J H1 ds, Ext r H H1 → Good C X.K r H1 → (∀ O' H', Frm r O H1 O' H' → ItmP X.K r (Pv O' r) J H' ds) → Q ds → R J H1) → t σ H R
def DGVs (C : List Addr) (X : Cx) (tg : List Expr) (ix : List Nat) (w : WGs) : Prop := ∃ t, PGs X tg t ∧ ∀ (r : Addr) (H0 : Hp) (O : Nat → Option Addr) (σ : L2.St) (H : Hp) (env : SDs) (v : List V) (d : List D) (Q : SDs → Prop) (Qh : L2.St → Hp → Prop), SI C X.K r H0 O H σ env → Reps X.K r H (Pv O r) v d → w d env Q →
  (∀ O' σ' env', Frm r O H O' H → SI C X.K r H0 O' H σ' env' → σ'.length = σ.length → (∀ j, j ∉ ix → σ'[j]? = σ[j]?) → (∀ j a, O' j = some a → O j = some a) → Q env' → Qh σ' H) → t v σ H Qh
section
variable {C : List Addr} {X : Cx} {W : WX} {e e2 a b c : Expr} {es rest : List Expr} {w wa wb wc : WE} {wl wl2 : WL} {pos p : Pos} {tg iter elt : Expr} {ifs : List Expr} {wg : WG} {ix : List Nat} {wt : WT} {we : WE} {body : List Stmt} {wbd : WS}
theorem DG.dgv (h : DG C X tg ix wg) : DGV C X tg ix wg := by
  obtain ⟨t, pt, st⟩ := h
  exact ⟨t, pt, fun r H0 O σ H env v d Q Qh S hv hw k => st r H0 O σ H env v d Q Qh S (hv.mono fun _ z => z.1) hw k⟩
theorem dgvs_nil : DGVs C X [] [] wgNil := ⟨_, pgs_nil, fun r H0 O σ H env v d Q Qh S hv hw k => by
  unfold wgNil at hw
  split at hw <;> first | exact hw.elim | skip
  cases hv
  exact ⟨rfl, k O σ env .refl S rfl (fun _ _ => rfl) (fun _ _ z => z) hw⟩⟩
theorem dgvs_cons {e : Expr} {es : List Expr} {w : WG} {u : WGs} {ix jx : List Nat} (h : DGV C X e ix w) (h2 : DGVs C X es jx u) (hs : (assignEach (e :: es) X.env).map (·.2) = assign e X.env :: (assignEach es X.env).map (·.2) := by rfl) : DGVs C X (e :: es) (ix ++ jx) (wgCons w u) := by
  obtain ⟨t, pt, st⟩ := h
  obtain ⟨t2, pt2, st2⟩ := h2
  refine ⟨_, pgs_cons pt pt2 hs, fun r H0 O σ H env v d Q Qh S hv hw k => ?_⟩
  unfold wgCons at hw
  split at hw <;> first | exact hw.elim | skip
  cases hv with
  | cons h1 h2 =>
    refine ⟨_, _, rfl, st r H0 O σ H env _ _ _ _ S h1 hw fun O1 σ1 env1 f1 S1 l1 o1 oo1 q1 => ?_⟩
    exact st2 r H0 O1 σ1 H env1 _ _ _ _ S1 (h2.frmV f1) q1 fun O2 σ2 env2 f2 S2 l2 o2 oo2 q2 => k O2 σ2 env2 (f1.trans f2) S2 (l2.trans l1) (fun j hj => (o2 j fun z => hj (List.mem_append_right _ z)).trans (o1 j fun z => hj (List.mem_append_left _ z))) (fun j a z => oo1 j a (oo2 j a z)) q2
theorem dgv_tup {es : List Expr} {k : Nat} {u : WGs} {n : Nat} {ix : List Nat} (hc : X.calm = true) (h : DGVs C X es ix u)
    (hn : (assignEach es X.env).length = n := by rfl) (hst : (assignEach es X.env).findIdx? (·.1) = none := by rfl) : DGV C X (.Tuple es k pos) ix (wgTup n u) := by
  obtain ⟨t, pt, st⟩ := h
  refine ⟨_, pg_tup hc pt hn hst, fun r H0 O σ H env v d Q Qh S hv hw k => ?_⟩
  unfold wgTup at hw
  split at hw <;> first | exact hw.elim | skip
  cases hv with
  | tup ht hs => exact ⟨_, _, rfl, ht, by rw [hs.length]; exact hw.1, st r H0 O σ H env _ _ _ _ S hs hw.2 k⟩
theorem div_seq (h : DV C X e wa) : DIV C X tg e (wSeq1 wa) := by
  obtain ⟨t, pe, st⟩ := h
  refine ⟨_, pi_seq pe, fun r H0 O σ H env Q R S hw k => st r H0 O σ H env _ _ S hw fun v H1 d e1 g1 r1 q => ?_⟩
  cases r1 with
  | tup ht hs => exact ⟨_, rfl, .inr ⟨⟨_, ht⟩, k _ H1 _ e1 g1 (fun O' H' f => itmP_tup (f.sqT ht) (hs.frmV f)) q⟩⟩
  | lst hp hl hs => exact ⟨_, rfl, .inl ⟨⟨_, SqL.of hl⟩, k _ H1 _ e1 g1 (fun O' H' f => itmP_list (f.lst hp.1 hp.2 hl) (hs.frmV f)) q⟩⟩
  | _ => exact q.elim
theorem itmP_zipB {K : PySem.W.Frag} {r a b : Addr} {H : Hp} {l m : Bool} {P : Addr → Prop} {xs ys : List V} {ds es : List D} (hP : ∀ a, P a → a ≠ r) (h : SqB l K H a xs) (hr : Reps K r H P xs ds) (h2 : SqB m K H b ys) (hr2 : Reps K r H P ys es) : ItmP K r P (ItzB l m K a b) H (zipD ds es) := fun i => ⟨fun d hd => by
  obtain ⟨x, y, hx, hy, rfl⟩ := zipD_get hd
  obtain ⟨v, h3, h4⟩ := hr.get hx
  obtain ⟨v', h5, h6⟩ := hr2.get hy
  refine ⟨⟨xs, ys, v, v', h, h2, h3, h5⟩, fun u H' ⟨T, x', y', e1, nT, e2, f, f2⟩ => ?_⟩
  subst e1 e2
  have q := f xs h
  rw [h3] at q
  cases q
  have q := f2 ys h2
  rw [h5] at q
  cases q
  have e : Ext r H (upd H T (.tup [v, v'])) := .upd nT
  exact ⟨fun b o q => by rw [upd_ne (ne_of_none q nT)]; exact q, .tup (SqT.of upd_same) (.cons (h4.ext e hP fun _ z => z) (.cons (h6.ext e hP fun _ z => z) .nil))⟩, fun hi => ⟨xs, ys, h, h2, by rw [hr.length, hr2.length, ← zipD_length]; exact hi⟩⟩
/-- what is walked: its kind, its place -/
def seqv {K : PySem.W.Frag} {r : Addr} {H : Hp} {P : Addr → Prop} (l : Bool) (a : Addr) (v : V) (xs : List V) (ds : List D) : Prop := v = .ref a ∧ (if l = true then P a ∧ H a = some (.lst xs) else SqT K H a xs) ∧ Reps K r H P xs ds
theorem rep_seq {K : PySem.W.Frag} {r : Addr} {H : Hp} {P : Addr → Prop} {v : V} {d : D} {Q : List D → Prop} (h : Rep K r H P v d) (q : dSeq d Q) : ∃ l a xs ds, seqv (K := K) (r := r) (H := H) (P := P) l a v xs ds ∧ Q ds := by
  cases h with
  | tup ht hs => exact ⟨false, _, _, _, ⟨rfl, ht, hs⟩, q⟩
  | lst hp hl hs => exact ⟨true, _, _, _, ⟨rfl, ⟨hp, hl⟩, hs⟩, q⟩
  | _ => exact q.elim
theorem seqv_B {K : PySem.W.Frag} {r : Addr} {O O' : Nat → Option Addr} {H H' : Hp} {l : Bool} {a : Addr} {v : V} {xs : List V} {ds : List D} (h : seqv (K := K) (r := r) (H := H) (P := Pv O r) l a v xs ds) (f : Frm r O H O' H') : SqB l K H' a xs ∧ Reps K r H' (Pv O' r) xs ds := by
  obtain ⟨_, h2, h3⟩ := h
  refine ⟨?_, h3.frmV f⟩
  cases l
  · exact f.sqT h2
  · exact SqL.of (f.lst h2.1.1 h2.1.2 h2.2)
theorem div_zip {tpos p pos : Pos} {elts : List Expr} {kk : Nat} (hm : X.mg "zip" = none) (h : DV C X e wa) (h2 : DV C X e2 wb) (hg : Gl X "zip" := by rfl) (hs : starEach [e, e2] X.env = (false, eval e X.env) :: starEach [e2] X.env := by rfl) (hs2 : starEach [e2] X.env = (false, eval e2 X.env) :: starEach [] X.env := by rfl) (hpl : (backTo pos (starEach [e2] X.env)).any (·.1) = false := by rfl) :
    DIV C X (.Tuple elts kk tpos) (.Call (.Name "zip" p) [e, e2] [] pos) (wZip (wSeq1 wa) (wSeq1 wb)) := by
  obtain ⟨t, pe, st⟩ := h
  obtain ⟨t2, pe2, st2⟩ := h2
  refine ⟨_, pi_zipB hg hm (pa_cons pe (pa_cons pe2 pa_nil hs2) hs) hs hpl, fun r H0 O σ H env Q R S hw k => st r H0 O σ H env _ _ S hw fun v H1 d e1 g1 rv q => ?_⟩
  obtain ⟨l, a, xs, ds, s1, q⟩ := rep_seq rv q
  refine st2 r H0 O σ H1 env _ _ (S.step e1 g1) q fun u H2 d2 e2 g2 ru q2 => ?_
  obtain ⟨m, b, ys, es, s2, q2⟩ := rep_seq ru q2
  have e1v := s1.1
  have e2v := s2.1
  subst e1v e2v
  have k1 := seqv_B s1 (Frm.of_ext (O := O) e2)
  have k2 := seqv_B s2 (Frm.refl (O := O))
  exact ⟨l, m, a, b, xs, ys, rfl, k1.1, k2.1, k _ H2 _ (e1.trans e2) g2 (fun O' H' f => itmP_zipB (fun _ z => z.1) (seqv_B s1 ((Frm.of_ext e2).trans f)).1 (seqv_B s1 ((Frm.of_ext e2).trans f)).2 (seqv_B s2 f).1 (seqv_B s2 f).2) q2⟩
theorem ds_forV (hp : PassesOwn (model X.prog X.w) X.A X.env X.xe) (hc : X.calm = true) (hi : DIV C X tg iter wl) (hg : DGV C X tg ix wg) (hb : DSs C X W body wbd)
    (hs : ∀ x, foldedSetIterable iter X.env x = pure x := by intro _; rfl) : DS C X W (.For tg iter body [] pos) (wFor wl wg wbd) := by
  obtain ⟨ti, pi, si⟩ := hi
  obtain ⟨tgt, pg, sg⟩ := hg
  obtain ⟨tb, pb, sb⟩ := hb
  refine ⟨_, ps_for hp hc pi pg pb hs, fun r H0 O σ H env Kd E S hw m => si r H0 O σ H env _ _ S hw fun J H1 ds e1 g1 it q => ?_⟩
  have S1 := S.step e1 g1
  refine ⟨fun i n σ' H' => n = ds.length - i ∧ i ≤ ds.length ∧ ∃ O' env', Frm r O H1 O' H' ∧ SI C X.K r H0 O' H' σ' env' ∧ forW wg wbd Kd (ds.drop i) env', ⟨ds.length, rfl, Nat.zero_le _, O, env, .refl, S1, by simpa using q⟩, ?_⟩
  rintro i n σ2 H2 ⟨rfl, hi, O2, env2, f2, S2, q2⟩
  obtain ⟨a1, a2⟩ := it O2 H2 f2 i
  by_cases hlt : i < ds.length
  · have hd : ds[i]? = some ds[i] := by simp [hlt]
    obtain ⟨go, y⟩ := a1 _ hd
    rw [List.drop_eq_getElem_cons hlt] at q2
    refine .inr ⟨go, fun σ' H' => i + 1 ≤ ds.length ∧ ∃ O' env', Frm r O H1 O' H' ∧ SI C X.K r H0 O' H' σ' env' ∧ forW wg wbd Kd (ds.drop (i + 1)) env', fun σ' H' z => ⟨ds.length - (i + 1), by omega, rfl, z.1, z.2⟩, fun x H3 hy => ?_⟩
    obtain ⟨sm, rx⟩ := y x H3 hy
    have e3 : Ext r H2 H3 := .of_same sm
    have S3 := S2.step e3 (S2.good.same sm)
    have f3 : Frm r O H1 O2 H3 := f2.trans (.of_ext e3)
    refine sg r H0 O2 σ2 H3 env2 x _ _ _ S3 rx q2 fun O4 σ4 env4 f4 S4 _ _ _ q4 => ?_
    have f14 : Frm r O H1 O4 H3 := f3.trans f4
    have f04 : Frm r O H O4 H3 := (Frm.of_ext e1).trans f14
    refine sb r H0 O4 σ4 H3 env4 _ _ S4 q4 ⟨fun O' σ' H' env' f S' z => ⟨hlt, O', env', f14.trans f, S', z⟩, fun O' σ' H' env' f S' z => m.nx O' σ' H' env' (f04.trans f) S' z, fun O' σ' H' env' f S' z => ⟨hlt, O', env', f14.trans f, S', z⟩, m.rt, m.ex⟩
  · have e : i = ds.length := by omega
    subst e
    rw [List.drop_length] at q2
    exact .inl ⟨a2 rfl, m.nx O2 σ2 H2 env2 ((Frm.of_ext e1).trans f2) S2 q2⟩
/-- two lists of one's own are handed back -/
def wRetO2 (i j : Nat) : WS := fun K env => onOwn env i fun ds => onOwn env j fun es => K.rt (.tuple [.list ds, .list es])
theorem ds_retO2 (i j : Nat) {x y : Str} {px py pt : Pos} {kt} (hN : X.N[i]? = some x := by rfl) (hv : Vis X.env.scope x := by first | exact Or.inl rfl | exact Or.inr (Or.inl rfl) | exact Or.inr (Or.inr rfl)) (hd : (x == ("__debug__" : Str)) = false := by decide)
    (hcd : (x == ("__classdict__" : Str)) = false := by decide) (hNj : X.N[j]? = some y := by rfl) (hvj : Vis X.env.scope y := by first | exact Or.inl rfl | exact Or.inr (Or.inl rfl) | exact Or.inr (Or.inr rfl)) (hdj : (y == ("__debug__" : Str)) = false := by decide)
    (hcdj : (y == ("__classdict__" : Str)) = false := by decide) (h1 : starEach (.Name x px :: [.Name y py]) X.env = (false, eval (.Name x px) X.env) :: starEach [.Name y py] X.env := by rfl) (h2 : starEach (.Name y py :: []) X.env = (false, eval (.Name y py) X.env) :: starEach [] X.env := by rfl) :
    DS C X W (.Return (some (.Tuple [.Name x px, .Name y py] kt pt)) pos) (wRetO2 i j) := by
  refine ⟨_, ps_ret (pe_tup (pa_cons (pe_var hN hv hd hcd) (pa_cons (pe_var hNj hvj hdj hcdj) pa_nil h2) h1)), fun r H0 O σ H env Kd E S hw m => ?_⟩
  obtain ⟨ds, he, hw⟩ := onOwn_some hw
  obtain ⟨es, he2, hw⟩ := onOwn_some hw
  obtain ⟨a, vs, a1, a2, a3, a4⟩ := S.own i ds he
  obtain ⟨b, us, b1, b2, b3, b4⟩ := S.own j es he2
  refine ⟨.ref a, a2, .ref b, b2, ⟨by rw [sizeLine_eq]; show 2 ≤ _; omega, fun p np => ?_⟩⟩
  have e := Ext.upd (r := r) (o := .tup [V.ref a, V.ref b]) np
  refine m.rt _ _ (.tuple [.list ds, .list es]) (S.ext.trans e) (S.good.upd np) ?_ hw
  refine Rep.tup (SqT.of upd_same) (.cons (Rep.lst ⟨(S.new i a a1).2, (S.new i a a1).1⟩ (e.lst (S.new i a a1).2 a3) ?_) (.cons (Rep.lst ⟨(S.new j b b1).2, (S.new j b b1).1⟩ (e.lst (S.new j b b1).2 b3) ?_) .nil))
  · exact a4.ext e (fun _ z => z.1) fun _ z => ⟨z.1, z.2.2⟩
  · exact b4.ext e (fun _ z => z.1) fun _ z => ⟨z.1, z.2.2⟩
/-- name.insert(i, [..]) -/
def wInsN (i : Nat) (wi : WE) (wl : WL) : WS := fun K env => onOwn env i fun ds => wi env fun j => wl env fun es => match j with
  | .int k => (ds.length < 16777216 ∧ flats es = true ∧ 0 ≤ k ∧ k < 2 ^ 63) ∧ K.nx (env.set i (SD.own (ds.take k.toNat ++ [.list es] ++ ds.drop k.toNat)))
  | _ => False
theorem ds_insN (i : Nat) {x : Str} {i' : Expr} {px apos cpos : Pos} (hi : DE C X i' wa) (he : DN C X e wl) (hN : X.N[i]? = some x := by rfl) (hv : Vis X.env.scope x := by first | exact Or.inl rfl | exact Or.inr (Or.inl rfl) | exact Or.inr (Or.inr rfl)) (hd : (x == ("__debug__" : Str)) = false := by decide)
    (hcd : (x == ("__classdict__" : Str)) = false := by decide) (hst : starEach (i' :: e :: []) X.env = (false, eval i' X.env) :: starEach [e] X.env := by rfl) (hst2 : starEach (e :: []) X.env = (false, eval e X.env) :: starEach [] X.env := by rfl)
    (hs : swapsWith (.Call (.Attribute (.Name x px) "insert" apos) [i', e] [] cpos) none pos.line X.env = pure false := by rfl)
    (hbase : attributeBase (.Name x px) "insert" X.env (eval (.Name x px) X.env) = eval (.Name x px) X.env := by rfl)
    (hfew : ((backTo cpos (starEach (i' :: [e]) X.env)).all (fun x => !x.1) && (backToKw cpos (keywordEach [] X.env)).all (fun x => x.1.isSome)
      && decide ((i' :: [e]).length + ([] : List Keyword).length + (if ([] : List Keyword).isEmpty then 0 else 1) < 30)) = true := by rfl)
    (hline : (apos.endLine == cpos.line) = true := by rfl) (hplain : (backTo cpos (starEach [e] X.env)).any (·.1) = false := by rfl) :
    DS C X W (.Expr (.Call (.Attribute (.Name x px) "insert" apos) [i', e] [] cpos) pos) (wInsN i wa wl) := by
  obtain ⟨t, pe, s⟩ := he
  obtain ⟨ti, pi, si⟩ := hi
  refine ⟨_, ps_expr (pe_bm PySem.F.plainAttrs_list PySem.F.slot_list_insert PySem.F.type_list_insert mt_insert (pe_var hN hv hd hcd) (pa_cons pi (pa_cons pe pa_nil hst2) hst) hbase hfew hline hst hplain) hs, fun r H0 O σ H env Kd E S hw m => ?_⟩
  obtain ⟨ds, he, hw⟩ := onOwn_some hw
  obtain ⟨a, vs, h1, h2, h3, h4⟩ := S.own i ds he
  refine ⟨.ref a, h2, .inl ⟨rfl, _, SqL.of h3⟩, ?_⟩
  refine si r H0 O σ H env _ _ S hw fun j H1 dj e1 g1 rj q => ?_
  have S1 := S.step e1 g1
  refine s r H0 O σ H1 env _ _ S1 q fun p H2 us d e2 g2 np l2 r2 q => ?_
  cases dj <;> first | exact q.elim | skip
  cases rj with
  | @int k =>
    have S2 := S1.step e2 g2
    have e12 := e1.trans e2
    have h3' := e12.lst (S.new i a h1).2 h3
    have h4' := h4.ext e12 (P' := Po O r H0) (fun _ z => z.1) fun _ z => z
    refine ⟨a, vs, _, .ref p, rfl, rfl, h3', by rw [sizeLine_eq, h4'.length]; exact q.1.1, q.1.2.2.1, q.1.2.2.2, ?_⟩
    exact m.nx _ σ _ _ ((Frm.of_ext e12).trans (.upd h1 h3')) (S2.write he h1 h3' (((h4'.take _).append (.cons (.lst (S1.fresh np) l2 (r2.flats q.1.2.1)) .nil)).append (h4'.drop _))) q.2
/-- three names at once: a value that may be a list, a flat one, a new list -/
def wParV3 (i j l : Nat) (wa wb : WE) (wl : WL) : WS := fun K env => wa env fun x => wb env fun y => wl env fun ds => (i < env.length ∧ j < env.length ∧ l < env.length) ∧ flat y = true ∧ K.nx (((env.set i (SD.val x)).set j (SD.val y)).set l (SD.own ds))
end
end DL
namespace HT
open PySem PySem.Spec PyProof.Rows
section
variable {prog : Program} {w : World} {A : Around} {E : Value → Shared → Prop} {s : Shared}
theorem sliceApplied_rev {sl : Addr} {vl vu vs : Value} {n : Nat} {Q : Int × Int × Nat → Shared → Prop} (hs : s.heap.IsSliceOf sl vl vu vs) (pl : IsPart vl none) (pu : IsPart vu none) (ps : IsPart vs (some (-1)))
    (h : Q ((n : Int) - 1, -1, n) s) : wpAny (model prog w) A (Builtin.Slice.sliceApplied (.ref sl) (pure (n : Int))) Q E s := by
  obtain ⟨os, hos, hcs, hds⟩ := id hs
  unfold Builtin.Slice.sliceApplied Builtin.Slice.sliceFields
  refine wpAny_bind (wpAny_bind (wpAny_field hos hds (x := vl) rfl (wpAny_bind (wpAny_field hos hds (x := vu) rfl (wpAny_bind (wpAny_field hos hds (x := vs) rfl (wpAny_pure ?_)))))))
  refine wpAny_bind (slicePart_ ps ?_)
  show wpAny _ _ (if ((-1 : Int) == 0) = true then _ else _) _ _ s
  rw [if_neg (by decide)]
  refine wpAny_bind (slicePart_ pl (wpAny_bind (slicePart_ pu (wpAny_bind (wpAny_pure ?_)))))
  show wpAny _ _ (match Builtin.Slice.sliceAdjust none none (-1) (n : Int) with | (lo, hi) => pure (lo, (-1 : Int), Builtin.Slice.slicePlaces lo hi (-1))) _ _ s
  rw [show Builtin.Slice.sliceAdjust none none (-1) (n : Int) = ((n : Int) - 1, -1) from rfl]
  show wpAny _ _ (pure ((n : Int) - 1, (-1 : Int), Builtin.Slice.slicePlaces ((n : Int) - 1) (-1) (-1))) _ _ s
  rw [show Builtin.Slice.slicePlaces ((n : Int) - 1) (-1) (-1) = n by
    unfold Builtin.Slice.slicePlaces
    rw [if_neg (by decide)]
    by_cases e : (n : Int) - 1 > -1
    · rw [if_pos e]
      show (((n : Int) - 1 - -1 - 1) / (- (-1 : Int)) + 1).toNat = n
      rw [show (- (-1 : Int)) = 1 from rfl, Int.ediv_one]
      omega
    · rw [if_neg e]
      show (0 : Int).toNat = n
      omega]
  exact wpAny_pure h
theorem pick_rev (xs : Array Value) : ((List.range xs.size).filterMap fun (k : Nat) => xs[(((xs.size : Int) - 1) + (k : Int) * (-1)).toNat]?).toArray = xs.toList.reverse.toArray := by
  congr 1
  have e : ∀ k, k ∈ List.range xs.size → (fun (k : Nat) => xs[(((xs.size : Int) - 1) + (k : Int) * (-1)).toNat]?) k = some (xs.toList.reverse.getD k .none) := by
    intro k hk
    have hk := List.mem_range.mp hk
    show xs[(((xs.size : Int) - 1) + (k : Int) * (-1)).toNat]? = _
    rw [show (((xs.size : Int) - 1) + (k : Int) * (-1)).toNat = xs.size - 1 - k by omega, List.getD_eq_getElem?_getD, List.getElem?_reverse (by simpa using hk)]
    rw [Array.length_toList, Array.getElem?_toList, Array.getElem?_eq_getElem (show xs.size - 1 - k < xs.size by omega)]
    rfl
  have go : ∀ (l : List Nat), (∀ k ∈ l, (fun (k : Nat) => xs[(((xs.size : Int) - 1) + (k : Int) * (-1)).toNat]?) k = some (xs.toList.reverse.getD k .none)) → l.filterMap (fun (k : Nat) => xs[(((xs.size : Int) - 1) + (k : Int) * (-1)).toNat]?) = l.map fun k => xs.toList.reverse.getD k .none := by
    intro l hl
    induction l with
    | nil => rfl
    | cons a l ih =>
      have ha := hl a (by simp)
      rw [List.filterMap_cons]
      simp only [ha]
      rw [List.map_cons, ih fun k hk => hl k (by simp [hk])]
  rw [go _ e]
  apply List.ext_getElem
  · simp
  · intro i h1 h2
    simp only [List.getElem_map, List.getElem_range]
    rw [List.getD_eq_getElem?_getD, List.getElem?_eq_getElem h2]; rfl
theorem getItem_tuple_rev {t sl : Addr} {items : Array Value} {vl vu vs : Value} {Q : Value → Shared → Prop} (ht : IsTup s.heap t items) (hs : s.heap.IsSliceOf sl vl vu vs) (pl : IsPart vl none) (pu : IsPart vu none) (ps : IsPart vs (some (-1)))
    (h : Q (.ref s.heap.objs.size) { s with heap := s.heap.push { cls := .type "tuple", data := .seq items.toList.reverse.toArray } })
    (hsz : items.size ≤ sizeLine) : wpAny (model prog w) A (getItem (.ref t) (.ref sl)) Q E s := by
  have htake : sizeOk (.seq items.toList.reverse.toArray) := by
    show items.toList.reverse.toArray.size ≤ sizeLine
    rw [List.size_toArray, List.length_reverse, Array.length_toList]
    exact hsz
  obtain ⟨os, hos, hcs, hds⟩ := id hs
  have hTs : s.TypeIs (.ref sl) "slice" := ⟨os, hos, hcs⟩
  unfold getItem
  try with_reducible refine wpAny_holding ?_
  first | refine wpAny_bind (wpAny_pure ?_) | skip
  refine wpAny_bind (wpAny_sequenceKey ht.typeIs (by decide) ?_)
  refine wpAny_bind (wpAny_callSpecial?_slot (name := Str.ofString "__getitem__") ht.typeIs PyProof.Rows.slot_tuple_getitem
    (wpAny_call_entry PyProof.Rows.slot_tuple_getitem ht.typeIs entry_tuple_getitem ?_ (args_tuple_getitem _ _)))
  show wpAny _ _ (Builtin.Tuple.tupleItemsOf (.ref t) >>= _) _ _ s
  refine wpAny_bind (tupleItemsOf_ ht ?_)
  refine wpAny_bind (wpAny_typeOf hTs ?_)
  rw [if_pos (by decide)]
  refine wpAny_bind (sliceApplied_rev hs pl pu ps ?_)
  have hno : ¬ ((((items.size : Int) - 1) == 0 && (-1 : Int) == 1 && items.size == items.size) = true) := by
    intro q
    rw [Bool.and_eq_true, Bool.and_eq_true] at q
    exact absurd q.1.2 (by decide)
  show wpAny _ _ (if (((items.size : Int) - 1) == 0 && (-1 : Int) == 1 && items.size == items.size) = true then _ else _) _ _ s
  rw [if_neg hno, pick_rev]
  first
    | exact wpAny_bind (m := Builtin.Tuple.tupleExact _) (wpAny_newObj_type (wpAny_pure ⟨_, rfl, wpAny_pure h⟩) htake)
    | exact wpAny_bind (m := Builtin.Tuple.tupleExact _) (wpAny_newObj_type (wpAny_bind (wpAny_pure (wpAny_pure ⟨_, rfl, wpAny_pure h⟩))) htake)
    | exact wpAny_bind (wpAny_bind (m := Builtin.Tuple.tupleExact _) (wpAny_newObj_type (wpAny_pure (wpAny_pure ⟨_, rfl, wpAny_pure h⟩)) htake))
    | exact wpAny_bind (wpAny_bind (m := Builtin.Tuple.tupleExact _) (wpAny_newObj_type (wpAny_pure ⟨_, rfl, wpAny_pure h⟩) htake))
end
end HT
namespace DL
open PySem PySem.Spec PyProof.Rows L2 GX GxR
/-! t[::-1] of a tuple -/
def tRevT (K : PySem.W.Frag) (te : TE) : TE := fun σ H Q => te σ H fun x H1 => ∃ a xs, x = .ref a ∧ SqT K H1 a xs ∧ ∀ p, H1 p = none → Q (.ref p) (upd H1 p (.tup xs.reverse))
section
variable {C : List Addr} {X : Cx} {e a b c : Expr} {es rest : List Expr} {w wa wb wc : WE} {wl : WL} {pos p : Pos}
theorem pe_revT {e : Expr} {te : TE} {k : Nat} {p1 p2 p3 pos : Pos} (he : PE X e te) : PE X (.Subscript e (.Slice none none (some (.UnaryOp .USub (.Constant (.int 1) k p1) p2)) p3) pos) (tRevT X.K te) := by
  refine ⟨fun pins s σ H Q I h => ?_⟩
  refine Subscript_ (thn (he.run pins s σ H _ I h) fun v s1 ⟨x, H1, I1, r1, q1⟩ => ?_)
  obtain ⟨a, xs, ex, hx, q⟩ := q1
  subst ex
  cases r1
  have hst : PO X (some (.UnaryOp .USub (.Constant (.int 1) k p1) p2)) (tPart (tUn (rU fun i => .int (-i)) (tC (.int 1)))) := po_some (pe_un un_neg pe_int)
  refine wpAny_Slice (thn (po_none.run pins s1 σ H1 (fun o H2 => o = none ∧ H2 = H1) I1 ⟨rfl, rfl⟩) fun vl s2 ⟨l, H2, I2, pl, el, e2⟩ => ?_)
  subst el e2
  refine thn (po_none.run pins s2 σ H2 (fun o H3 => o = none ∧ H3 = H2) I2 ⟨rfl, rfl⟩) fun vu s3 ⟨u, H3, I3, pu, eu, e3⟩ => ?_
  subst eu e3
  refine thn (hst.run pins s3 σ H3 (fun o H4 => o = some (-1) ∧ H4 = H3) I3 ⟨1, rfl, -1, rfl, rfl, rfl⟩) fun vs s4 ⟨o, H4, I4, ps, eo, e4⟩ => ?_
  subst eo e4
  have I5 : Inv X pins σ H4 { s4 with heap := s4.heap.push { cls := .type "slice", data := .fields #[vl, vu, vs] } } := I4.kept (t' := s4.toks) fun b ob q => Heap.get?_push_of_some _ q
  obtain ⟨its, r, ht, hz⟩ := I5.tuple hx
  have hlen := r.length
  show wpAny (model X.prog X.w) X.A (subscriptTail e (.Slice none none (some (.UnaryOp .USub (.Constant (.int 1) k p1) p2)) p3) (.ref a) (.ref s4.heap.objs.size)) (EP X pins σ Q) X.xe { s4 with heap := s4.heap.push { cls := .type "slice", data := .fields #[vl, vu, vs] } }
  refine tail_any (ops := [.ref a, .ref s4.heap.objs.size]) ht.typeIs (PyProof.Rows.slot_tuple_getitem.lookup) ?_ (by with_unfolding_all rfl)
  refine HT.getItem_tuple_rev ht (Heap.IsSliceOf.new _ vl vu vs) pl pu ps ?_ (by rw [List.size_toArray]; omega)
  refine ⟨.ref _, _, I5.laid (t' := s4.toks) (o := .tup xs.reverse) (fun b ob q => Heap.get?_push_of_some _ q) (Nat.le_refl _) ?_, rfl, q _ (I5.hok.fresh (Nat.le_refl _))⟩
  exact ⟨by rw [List.length_reverse]; exact hz, _, r.reverse, IsTup.new _ _⟩
def wRevT (we : WE) : WE := fun env Q => we env fun d => match d with
  | .tuple ds => Q (.tuple ds.reverse)
  | _ => False
theorem de_revT {k : Nat} {p1 p2 p3 : Pos} (he : DE C X e w) : DE C X (.Subscript e (.Slice none none (some (.UnaryOp .USub (.Constant (.int 1) k p1) p2)) p3) pos) (wRevT w) := by
  obtain ⟨te, pe, se⟩ := he
  refine ⟨_, pe_revT pe, fun r H0 O σ H env Q Qh S hw k => ?_⟩
  refine se r H0 O σ H env _ _ S hw fun x H1 dx e1 g1 r1 q1 => ?_
  cases r1 with
  | @tup a xs ds ht hs =>
    refine ⟨a, xs, rfl, ht, fun p np => ?_⟩
    have e := Ext.upd (r := r) (o := .tup xs.reverse) np
    exact k _ _ _ (e1.trans e) (g1.upd np) (.tup (SqT.of upd_same) (hs.reverse.ext e (fun _ z => z) fun _ z => z)) q1
  | _ => exact q1.elim
end
end DL
set_option maxHeartbeats 2000000
/-! a lambda made where tables are tracked, handed to a def that calls it in a try -/
namespace GX
open PySem PySem.Spec PyProof.Rows L2 GenW GxR
section
variable {X : Cx} {pins : List (Addr × Obj)} {σ : L2.St} {H : Hp} {s : Shared}
abbrev lamO (X : Cx) (params : Arguments) (body : Expr) (scope : Scope) (pm : Value) (c' : Addr) (ctv : Value) : Obj := PySem.W.kla_obj "<lambda>" (X.env.qual ++ "<lambda>") params body scope (cloFrom X.env.cells scope.names []) pm c' ctv
theorem lam_makeW {P : Addr} {params : Arguments} {body : Expr} {scope : Scope} {lpos : Pos} {E : Value → Shared → Prop} {Q : Value → Shared → Prop} (I : Inv X pins σ H s) (TB : TabC X P) (hW : TabW H P)
    (hdef : defaultsOf params X.env = ([], [])) (hfree : ∀ y ∈ scope.names, y.2 = .free → ∃ c, X.env.cells.lookup y.1 = some c)
    (h : ∀ (f c' P' : Addr) (pm ctv : Value) (H1 : Hp) (s' : Shared), Inv X pins σ H1 s' → Grown P H H1 (.ref c') P' → s'.heap.get? f = some (lamO X params body scope pm c' ctv) → H1 f = none → f ∉ frs X.stack → Q (.ref f) s') :
    wpAny (model X.prog X.w) X.A (eval (.Lambda params body scope lpos) X.env) Q E s := by
  obtain ⟨⟨c, hcode, hcd⟩, bm, ob, e1, e2, e3, e4, e5, e6, e7, e8⟩ := TB
  obtain ⟨ps, hP, ht⟩ := hW.tab
  have nofr : ∀ {s2 : Shared} {H2 : Hp} (I2 : Inv X pins σ H2 s2) (f : Addr), s2.heap.objs.size ≤ f → f ∉ frs X.stack := fun {s2 H2} I2 f hf z => by
    rcases List.mem_cons.mp (I2.stkSub _ z) with e | e
    · have h1 := I2.lt
      rw [← e] at h1
      exact Nat.lt_irrefl _ (Nat.lt_of_lt_of_le h1 hf)
    · exact I2.nofs hf e
  -- behind the code
  have fin : ∀ (c' P' : Addr) (H3 : Hp) (s3 : Shared) (ctv : Value), Inv X pins σ H3 s3 → Grown P H H3 (.ref c') P' → ∀ clos, clos = cloFrom X.env.cells scope.names [] →
      Q (.ref s3.heap.objs.size) { s3 with heap := s3.heap.push (PySem.W.kla_obj "<lambda>" (X.env.qual ++ "<lambda>") params body scope clos ((X.mg "__name__").getD .none) c' ctv) } := by
    intro c' P' H3 s3 ctv I3 gr clos hc
    subst hc
    refine h s3.heap.objs.size c' P' ((X.mg "__name__").getD .none) ctv H3 _ (I3.kept (t' := s3.toks) fun b u e => Heap.get?_push_of_some _ e) gr (Heap.get?_push_size _ rfl) (I3.hok.fresh (Nat.le_refl _)) (nofr I3 _ (Nat.le_refl _))
  have codes : ∀ (s2 : Shared) (Qc : Value → Shared → Prop), Inv X pins σ H s2 → (∀ (c' P' : Addr) (H3 : Hp) (h3 : Heap) (tk : Nat), Inv X pins σ H3 { s2 with heap := h3, toks := tk } → Grown P H H3 (.ref c') P' → Qc (.ref c') { s2 with heap := h3, toks := tk }) →
      wpAny (model X.prog X.w) X.A (functionCode X.env lpos lpos.line "<lambda>" (X.env.qual ++ "<lambda>") params scope (.expr body)) Qc E s2 := by
    intro s2 Qc I2 k
    have hPs : s2.heap.get? P = some { cls := .none, data := .fields ps } := I2.hok P _ hP
    have cd : PySem.W.CodeHd s2.heap c P := hcd pins σ H s2 I2
    cases hf : codeAmong lpos ps.toList with
    | none =>
      refine wpAny_functionCodeX hcode (cd.code hPs ht) (cd.tab hPs) hf fun c' h' tk hx hge hlt hco' hrecc htab' ⟨P', hgeP, hcoP, htabP⟩ => ?_
      obtain ⟨oc, hoc, hcoo⟩ := CodeObj.of (PySem.W.CodeHd.of hcoP htabP) hrecc
      have I3 := inv_code (t' := tk) (g' := s2.gens) (d' := s2.drawn) (h' := h') I2 hP (fun b o hb e => hx b o hb e) htab'.2 hge hgeP hcoo.ne hoc htabP.2 I2.bare
      exact k c' P' _ h' tk I3 (Grown.made (pos := lpos) hW hP (I2.hok.fresh hge) (I2.hok.fresh hgeP) hcoo.ne hcoo)
    | some cv =>
      obtain ⟨P', gr⟩ := Grown.hit hW hP hf
      obtain ⟨c', oc, ec, _, _⟩ := id gr.code
      subst ec
      exact wpAny_functionCode_hit hcode (cd.code hPs ht) hf (k c' P' H s2.heap s2.toks I2 gr)
  refine PySem.W.kla_eval hdef ?_
  rw [makeFunction_eq]
  simp only [List.zip_nil_right, List.filterMap_nil, List.isEmpty_nil, if_true, pure_bind]
  unfold makeTail
  rw [closure_ok hfree, I.ok.glob]
  refine wpAny_bind (wpAny_pure ?_)
  generalize hcl : cloFrom X.env.cells scope.names [] = clos
  cases clos with
  | nil =>
    simp only [List.isEmpty_nil, if_true]
    refine wpAny_bind (wpAny_pure (wpAny_bind (codes _ _ I fun c' P' H3 h3 tk I3 gr => ?_)))
    have hg3 := I3.mod.glob.keeps I3.bk
    refine wpAny_bind (wpAny_builtinsFor hg3 e1 e2 (I3.bk _ _ e5) e6 e7 e8 (wpAny_bind (wpAny_nsGet hg3 (wpAny_bind (wpAny_pure (wpAny_newObj_type ?_ (by size_fits)))))))
    exact fin c' P' H3 _ _ I3 gr _ hcl.symm
  | cons q r =>
    simp only [List.isEmpty_cons, Bool.false_eq_true, if_false]
    refine wpAny_bind (wpAny_newTextTuple (wpAny_bind (codes _ _ (I.kept fun b u e => Heap.get?_push_of_some _ e) fun c' P' H3 h3 tk I3 gr => ?_)))
    have hg3 := I3.mod.glob.keeps I3.bk
    refine wpAny_bind (wpAny_builtinsFor hg3 e1 e2 (I3.bk _ _ e5) e6 e7 e8 (wpAny_bind (wpAny_nsGet hg3 (wpAny_bind (wpAny_pure (wpAny_newObj_type ?_ (by size_fits)))))))
    exact fin c' P' H3 _ _ I3 gr _ hcl.symm
/-- a lambda called, its code's name whatever it is -/
theorem lam_callE {A : Around} {R : Result → Shared → Prop} {a c : Addr} {args : Args} {o oc : Obj} {fd : FuncData} {body : Expr} {vs : Array Value} {q : Str} {tq : Tok} (hroom : A.depth < recursionLimit) (ho : s.heap.get? a = some o) (hfd : o.data = .func fd)
    (hco : fd.scope.isCoroutine = false) (hgen : fd.scope.isGenerator = false) (hbody : fd.body = .expr body) (hcd : fd.code = .ref c) (hoc : s.heap.get? c = some oc) (hdc : oc.data = .fields vs) (hv : vs[1]? = some (.str q tq))
    (h : wpAny (model X.prog X.w) A.in1 (bindArgs fd args) (fun binds s₁ => wpAny (model X.prog X.w) A.in1 (newFunctionEnv fd.scope fd.globals fd.closure binds (q ++ ".<locals>.") (some a) (.ref c) none fd.builtins)
      (fun env s₂ => s₂.heap.NoLimit ∧ codeAny (model X.prog X.w) A (.expr body env) R s₂) (fun e s' => R (.error e) s') s₁) (fun e s' => R (.error e) s') s) :
    codeAny (model X.prog X.w) A (.call (.ref a) args) R s := by
  refine codeAny_of_tree ?_
  show wpAny _ A.in1 (callAny (.ref a) args) _ _ s
  simp only [callAny]
  refine wpAny_bind (wpAny_load ho ?_)
  simp only [hfd, callFunction, hco, hgen, hbody, hcd]
  refine wpAny_bind (m := field (.ref c) 1) (wpAny_field hoc hdc hv (wpAny_bind (wpAny_pure ?_)))
  refine wpAny_bind (wpAny_mono h (fun binds s₁ h₁ => wpAny_bind (wpAny_mono h₁ (fun env s₂ h₂ => ?_) fun _ _ h' => h')) fun _ _ h' => h')
  exact wpAny_bind (wpAny_enterFrame h₂.1 hroom (wpAny_pure ⟨rfl, h₂.2⟩))
abbrev lamEnvQ (X : Cx) (q : Str) (scope : Scope) (L f c' : Addr) : Env := PySem.W.envX q scope L f (.ref c') (cloFrom X.env.cells scope.names [])
/-- the lambda's context, its code named q -/
def lamCxQ (X : Cx) (q : Str) (A : Around) (outer : List Env) (s : Shared) (H : Hp) (E : XK) (scope : Scope) (f c' : Addr) : Cx :=
  { LamX.lamCx X A outer s H E scope f c' with
    A := A.deeper (lamEnvQ X q scope s.heap.objs.size f c')
    env := lamEnvQ X q scope s.heap.objs.size f c'
    stack := lamEnvQ X q scope s.heap.objs.size f c' :: outer
    xe := fun e s' => wpAny (model X.prog X.w) (A.deeper (lamEnvQ X q scope s.heap.objs.size f c')) (leaving (lamEnvQ X q scope s.heap.objs.size f c') e) (fun _ s'' => L2.CX X.prog X.w outer H s E e s'') (fun e' s'' => L2.CX X.prog X.w outer H s E e' s'') s' }
theorem inv_lamQ {A : Around} {outer : List Env} {s1 S : Shared} {HZ : Hp} {E : XK} {scope : Scope} {f c' : Addr} {q : Str} (L : LamX.LamS X.env.scope scope) (e0 : Env0 X.prog X.w X.K X.mg X.base A outer s1 HZ) (hd : A.handled = none) (J : Inv (LamX.lamCx X A outer s1 HZ E scope f c') [] σ HZ S) : Inv (lamCxQ X q A outer s1 HZ E scope f c') [] σ HZ S := by
  have j1 : ∀ x y c, (cloFrom X.env.cells scope.names []).lookup x = some c → (cloFrom X.env.cells scope.names []).lookup y = some c → x = y := J.ok.inj
  have j2 : ∀ x, (scope.names.lookup x = some .cell ∨ scope.names.lookup x = some .free) → ∃ c, (cloFrom X.env.cells scope.names []).lookup x = some c := J.ok.has
  have j3 : S.os = s1.os := J.os
  have j4 : Un (frs outer) [] HZ HZ s1.heap S.heap := J.base
  have j5 : ∃ m, S.heap.Ns s1.heap.objs.size m ∧ ∀ (i : Nat) (x : Str) (v : V), X.N[i]? = some x → σ[i]? = some (some v) → Vis scope x → ∃ u, RelV v u ∧ ((scope.names.lookup x = some .local ∧ m x = some u) ∨ ((scope.names.lookup x = some .cell ∨ scope.names.lookup x = some .free) ∧ ∃ c, (cloFrom X.env.cells scope.names []).lookup x = some c ∧ S.heap.IsCell c (some u))) := J.loc
  have j6 : ∀ x c, (cloFrom X.env.cells scope.names []).lookup x = some c → ∃ v, S.heap.IsCell c v := J.cell
  have j7 : HZ s1.heap.objs.size = none := J.free
  have j8 : ∀ x c, (cloFrom X.env.cells scope.names []).lookup x = some c → HZ c = none := J.freeC
  have j9 : HOk X.prog X.w HZ S.heap := J.hok
  have j10 : σ.length = X.N.length := J.len
  have no : ∀ b : Addr, b ∉ ([] : List Addr) := fun b z => nomatch z
  exact ⟨⟨e0.mod, L.kind, rfl, rfl, Nat.le_refl _, j1, j2, fun x c z => Bool.noConfusion z, fun _ => hd, Around.frames_deeper e0.frames, .inr ⟨rfl, rfl⟩, fun b z => absurd z (no b), e0.bs, e0.bsz, fun b _ _ => no b, fun b z => absurd z (no b), e0.funs, e0.frf⟩,
    j3, J.bare, j4, j5, j6, j7, j8, fun p hp => absurd (show p ∈ ([] : List (Addr × Obj)) ++ [] from hp) (by simp), j9, j10⟩
abbrev tcx (X : Cx) (Ng : List Str) (qg : Str) (sg : Scope) (g : Addr) (cdg : Value) (s : Shared) (H : Hp) : Cx := cxOf C8.CX0 X.prog X.w X.K X.mg X.base Ng qg sg g cdg X.A X.stack s H C8.E0
/-- a(), in the def that got the lambda -/
theorem pe_actW {Ng : List Str} {qg : Str} {sg : Scope} {g f c' P' : Addr} {cdg pm ctv : Value} {params : Arguments} {body : Expr} {scope : Scope} {k i : Nat} {a : Str} {pn : List (Addr × Obj)} {xe : Value → Shared → Prop} {W : WX} {E : XK} {tb : TE} {p1 p2 : Pos} {oc : Obj}
    (I : Inv X pins σ H s) (L : LamX.LamS X.env.scope scope) (hf : s.heap.get? f = some (lamO X params body scope pm c' ctv)) (hfn : H f = none) (hfr : f ∉ frs X.stack) (hcc : H c' = some (.frz oc U0)) (hco : CodeObj oc c' P')
    (hbind : bindArgs (PySem.W.kla_fn "<lambda>" (X.env.qual ++ "<lambda>") params body scope (cloFrom X.env.cells scope.names []) pm (.ref c') ctv) ⟨[], []⟩ = pure [])
    (tk : Takes ((tcx X Ng qg sg g cdg s H).tr pn xe) W) (hW : ∀ cls d σ' H', E cls d H' → W cls d σ' H') (hr : Room (k + 1) (X.A.deeper (envOfC qg sg s.heap.objs.size g cdg)))
    (hbody : ∀ (q : Str) (A : Around) (outer : List Env) (s : Shared) (H : Hp), Room k (A.deeper (lamEnvQ X q scope s.heap.objs.size f c')) → PE (lamCxQ X q A outer s H E scope f c') body tb)
    (hN : Ng[i]? = some a) (hv : Vis sg a) (hd : (a == ("__debug__" : Str)) = false := by decide) (hcd : (a == ("__classdict__" : Str)) = false := by decide) :
    PE ((tcx X Ng qg sg g cdg s H).tr pn xe) (.Call (.Name a p1) [] [] p2) (fun σZ HZ Q => σZ[i]? = some (some (.ref f)) ∧ tb σ HZ Q) := by
  refine ⟨fun pinsZ sZ σZ HZ Q IZ h => ?_⟩
  obtain ⟨hs, htb⟩ := h
  refine wpAny_Call_Name_kw (thn ((pe_var (pos := p1) (i := i) hN hv hd hcd).run pinsZ sZ σZ HZ (fun v H1 => v = .ref f ∧ H1 = HZ) IZ ⟨.ref f, hs, rfl, rfl⟩) fun u s1 ⟨v, H1, I1, r1, ev, eH⟩ => ?_)
  subst ev
  rw [eH] at I1
  obtain rfl : u = Value.ref f := r1
  have un : Un (frs X.stack) [] H HZ s.heap s1.heap := I1.base
  have of1 : s1.heap.get? f = some (lamO X params body scope pm c' ctv) := un.keep f _ hf hfn hfr (fun z => nomatch (show f ∈ ([] : List Addr) from z))
  refine PySem.W.callWith_F0 ⟨_, _, _, _, of1⟩ ?_
  have hcc1 : HZ c' = some (.frz oc U0) := un.frzs c' oc U0 hcc
  have hoc : s1.heap.get? c' = some oc := (I1.hok c' _ hcc1).1
  obtain ⟨vs, _, _, _, _, _, _, _, _, hdc, _, _, _, _, _, _, _, q, tq, hvc⟩ := hco
  have rc : codeAny (model X.prog X.w) (X.A.deeper (envOfC qg sg s.heap.objs.size g cdg)) (.call (.ref f) ⟨[], []⟩) (CR (L2.CX X.prog X.w) (envOfC qg sg s.heap.objs.size g cdg :: X.stack) X.prog X.w HZ s1 Q E) s1 := by
    refine lam_callE hr.depth of1 rfl L.co L.gen rfl rfl hoc hdc hvc ?_
    rw [hbind]
    refine wpAny_pure (wpAny_newFunctionEnv (fun y hy => (L.own y hy).2) (fun y hy => absurd hy (by simp)) (fun h₁ hns hsb => ⟨I1.nolimit.fresh _ hsb, ?_⟩) L.kind)
    show codeAny _ _ (.expr body (lamEnvQ X q scope s1.heap.objs.size f c')) _ _
    have J0 : Inv (LamX.lamCx X (X.A.deeper (envOfC qg sg s.heap.objs.size g cdg)) (envOfC qg sg s.heap.objs.size g cdg :: X.stack) s1 HZ E scope f c') [] σ HZ { s1 with heap := h₁, toks := s1.toks + ([] : List (Str × Value)).length } :=
      LamX.lam_start2 I L I1.env0 hr.hd un hns fun b o e => hsb.extBut b o (Nat.ne_of_lt (Heap.lt_size e)) (Heap.get?_push_of_some _ e)
    have J := inv_lamQ (q := q) L I1.env0 hr.hd J0
    refine PySem.W.kla_codeExpr (wpAny_mono ((hbody q _ _ s1 HZ (hr.deeper _)).run [] _ _ HZ Q J htb) (fun v s' hq => ?_) fun e s' hq => hq)
    obtain ⟨w', H', J', rv, q⟩ := hq
    exact ⟨w', H', J'.os, J'.bare, J'.base, J'.hok, rv, q⟩
  refine wpAny_call (codeAny_mono rc fun r s' hq => ?_)
  cases r with
  | error e => exact passes_call tk hW pinsZ σZ HZ s1 e s' I1 hq
  | ok fl =>
    cases fl with
    | ret u => exact I1.after hq
    | next => exact False.elim hq
    | brk => exact False.elim hq
    | cont => exact False.elim hq
/-- the def that calls what it got -/
def GivesW (X : Cx) (Ng : List Str) (x : Str) (sg : Scope) (g : Addr) (cdg : Value) (bg : List Stmt) (a : Str) (TT : (XK → Hp → VK → Prop) → Hp → VK → Prop) : Prop :=
  ∀ (f : Addr) (s : Shared) (H : Hp) (Q : VK) (tl : XK → Hp → VK → Prop),
    (∀ (W : WX) (pn : List (Addr × Obj)) (xe : Value → Shared → Prop) (E : XK) (p1 p2 : Pos), Takes ((tcx X Ng x sg g cdg s H).tr pn xe) W → (∀ cls d σ' H', E cls d H' → W cls d σ' H') →
      PE ((tcx X Ng x sg g cdg s H).tr pn xe) (.Call (.Name a p1) [] [] p2) (fun σZ HZ Q => σZ[0]? = some (some (.ref f)) ∧ tl E HZ Q)) →
    TT tl H Q → ∃ t, PSs (tcx X Ng x sg g cdg s H).nox bg t ∧ t { nx := fun _ H' => Q .non H', rt := Q } (L2.start Ng [.ref f]) H
def tLamW (P : Addr) (TT : (XK → Hp → VK → Prop) → Hp → VK → Prop) (t : XK → TE) : TE := fun σ H Q => TabW H P ∧ ∀ H1 cv P', Grown P H H1 cv P' → TT (fun E H' Q' => t E σ H' Q') H1 Q
/-- the def that got the lambda, as the text has it -/
structure TakF (K : PySem.W.Frag) (mg : Str → Option Value) (x a : Str) (Ng : List Str) (pg : Arguments) (bg : List Stmt) (sg : Scope) (g : Addr) (cdv : Value) : Prop where
  m : mg x = some (.ref g)
  k : PySem.W.keepIn K (.ref g) = true
  lk : ∃ (oc : Value) (od an : Option Addr) (osl : Array (Option Value)) (dV kV doc pm ct : Value), K.lookup g = some ⟨oc, od, .func (PySem.W.fnOf x x pg bg sg dV kV doc pm an cdv ct), osl⟩ ∧ L2.Binds K (PySem.W.fnOf x x pg bg sg dV kV doc pm an cdv ct) [a] []
  cd : PySem.W.codeIn K cdv x = true
  S : FnScope Ng [a] sg
/-- x(lambda: body) -/
theorem pe_lamW {TT : (XK → Hp → VK → Prop) → Hp → VK → Prop} {x a : Str} {g P : Addr} {k : Nat} {pg : Arguments} {bg : List Stmt} {sg : Scope} {cdv : Value} {Ng : List Str} {params : Arguments} {body : Expr} {scope : Scope} {t : XK → TE} {p lpos pos : Pos} (hg : Gl X x) (T : TakF X.K X.mg x a Ng pg bg sg g cdv)
    (hNg : Ng[0]? = some a) (hva : Vis sg a) (hG : GivesW X Ng x sg g cdv bg a TT) (TB : TabC X P) (hr : Room (k + 2) X.A) (L : LamX.LamS X.env.scope scope) (hdef : defaultsOf params X.env = ([], []))
    (hbind : ∀ (q : Str) (cl : List (Str × Addr)) (pm cv ctv : Value), bindArgs (PySem.W.kla_fn "<lambda>" q params body scope cl pm cv ctv) ⟨[], []⟩ = pure [])
    (hbody : ∀ (q : Str) (A : Around) (outer : List Env) (s : Shared) (H : Hp) (E : XK) (f c' : Addr), Room k (A.deeper (lamEnvQ X q scope s.heap.objs.size f c')) → PE (lamCxQ X q A outer s H E scope f c') body (t E))
    (hdb : (x == ("__debug__" : Str)) = false := by decide) (hd : (a == ("__debug__" : Str)) = false := by decide) (hcd : (a == ("__classdict__" : Str)) = false := by decide) :
    PE X (.Call (.Name x p) [.Lambda params body scope lpos] [] pos) (tLamW P TT t) := by
  refine ⟨fun pins s σ H Q I h => ?_⟩
  obtain ⟨hT, h⟩ := h
  obtain ⟨hm, hk, ⟨oc, od, an, osl, dV, kV, doc, pm, ct, lk, hb⟩, hcg, Sg⟩ := T
  refine wpAny_Call_Name_kw (ld_glob I hg hm ?_ hdb)
  refine PySem.W.callWith_K (h₀ := X.base) I.ok.mod.kin hk ?_ (by rfl) (by rfl)
  show wpAny _ _ (spliced ((false, eval (.Lambda params body scope lpos) X.env) :: backTo pos (starEach [] X.env))) _ _ s
  refine Calls.spliced_cons (lam_makeW I TB hT hdef (L.has I.ok) fun f c' P' pm' ctv H1 s' I1 gr hf hfn hfr => ?_)
  refine Calls.spliced_nil ⟨I1.kIn, ?_⟩
  obtain ⟨c2, oc2, e2, hcc, hco⟩ := gr.code
  cases e2
  have rc : codeAny (model X.prog X.w) X.A (.call (.ref g) ⟨[.ref f], []⟩) (CR C8.CX0 X.stack X.prog X.w H1 s' Q C8.E0) s' := by
    refine LamX.run_ofS (N := Ng) (ps := [a]) (us := [.ref f]) (vs := [.ref f]) lk hcg Sg hr I1.env0 (hb s' [.ref f] I1.kIn rfl) (.cons rfl .nil) rfl fun hr' => ?_
    obtain ⟨t', ht', hq'⟩ := hG f s' H1 Q (fun E H' Q' => t E σ H' Q') (fun W pn xe E p1 p2 tk hW => pe_actW (i := 0) I1 L hf hfn hfr hcc hco (hbind _ _ _ _ _) tk hW hr' (fun q A outer s H hr2 => hbody q A outer s H E f c' hr2) hNg hva hd hcd) (h H1 _ _ gr)
    exact ⟨t', ht'.nox, hq'⟩
  refine wpAny_call (codeAny_mono rc fun r s2 hq => ?_)
  cases r with
  | error e => exact (show False from hq).elim
  | ok fl =>
    cases fl with
    | ret u => exact I1.after hq
    | next => exact False.elim hq
    | brk => exact False.elim hq
    | cont => exact False.elim hq
/-! ### try: return a() / except L as e: return .. -/
theorem takesN {X : Cx} : Takes X (fun _ _ _ _ => False) := fun _ _ ⟨_, _, _, _, _, _, _, _, _, _, _, _, _, _, _, _, z⟩ => z.elim
/-- the suite's reading as a def's wish -/
def TTry (K : PySem.W.Frag) (CL : Addr) (R : Addr → Value → Option Addr → Hp → VK → Prop) : (XK → Hp → VK → Prop) → Hp → VK → Prop := fun tl H Q => tl (fun cls d H' => PySem.W.exmOne K cls (.ref CL) = some true ∧ ∀ a, H' a = none → R a cls d H' Q) H Q
/-- .. where the error is named -/
theorem gives_as {Ng : List Str} {x a n l : Str} {sg : Scope} {g CL : Addr} {cdg : Value} {p1 p2 p3 p4 p5 p6 : Pos} {b₀ : Stmt} {suite : List Stmt} {i : Nat} {ts : Addr → Value → Option Addr → TS} {R : Addr → Value → Option Addr → Hp → VK → Prop}
    (hN : Ng.Nodup) (hi : Ng[i]? = some n) (hi1 : i = 1) (hlen : 1 < Ng.length) (hge : sg.names.lookup l = some .globalImplicit) (hme : X.mg l = some (.ref CL)) (hde : (l == ("__debug__" : Str)) = false) (hkind : sg.names.lookup n = some .local)
    (hsu : ∀ (s : Shared) (H : Hp) (e : Addr) (oe : Obj) (cls : Value) (d : Option Addr) (pn : List (Addr × Obj)), Zc cls d oe → (∃ vs, oe.data = .fields vs) → PSs ((tcx X Ng x sg g cdg s H).nox.suite e ((e, oe) :: pn)) (b₀ :: suite) (ts e cls d))
    (hR : ∀ e cls d H' (D : Ends) σ, σ[i]? = some (some (V.ref e)) → R e cls d H' D.rt → ts e cls d D σ H') :
    GivesW X Ng x sg g cdg [.Try [.Return (some (.Call (.Name a p1) [] [] p2)) p3] [.ExceptHandler (some (.Name l p4)) (some n) (b₀ :: suite) p5] [] [] p6] a (TTry X.K CL R) := by
  intro f s H Q tl act h
  have hgl : Gl (tcx X Ng x sg g cdg s H).nox l := hge
  refine ⟨_, pss_one (ps_try_as (X := (tcx X Ng x sg g cdg s H).nox) (c := .ref CL) (i := i) (ts := ts) (tb := fun W D σ H => ∃ Ech : XK, (∀ cls d σ' H', (σ'.length = Ng.length → Ech cls d H' → W cls d σ' H')) ∧ σ[0]? = some (some (.ref f)) ∧ tl Ech H D.rt)
      rfl rfl hN hi hkind ⟨hgl, hde, .inl hme⟩ takesN (fun W pn xe tk _ => ?_) (hsu s H)), ?_⟩
  · refine ⟨fun pins s' σ H' D I h' => ?_⟩
    obtain ⟨Ech, hW, h1, h3⟩ := h'
    have tk' : Takes ((tcx X Ng x sg g cdg s H).tr pn xe) (fun cls d σ H => σ.length = Ng.length → W cls d σ H) := fun u s' ⟨a, B, sI, pins, σ, H, cls, d, e, I, nb, up, sky, na, os, ag, w⟩ => tk u s' ⟨a, B, sI, pins, σ, H, cls, d, e, I, nb, up, sky, na, os, ag, w I.len⟩
    have hp := act (fun cls d σ H => σ.length = Ng.length → W cls d σ H) pn xe Ech p1 p2 tk' fun cls d σ' H' h hl => hW cls d σ' H' hl h
    have hq := pss_one (ps_ret (pos := p3) hp)
    exact hq.run pins s' σ H' D I ⟨h1, h3⟩
  · refine ⟨fun cls d H' => PySem.W.exmOne X.K cls (.ref CL) = some true ∧ ∀ a, H' a = none → R a cls d H' Q, fun cls d σ' H' hl ⟨e1, e2⟩ => ⟨true, e1, fun _ a ha => hR a cls d H' _ _ ?_ (e2 a ha), fun z => Bool.noConfusion z⟩, ?_, h⟩
    · rw [List.getElem?_set_self]
      subst hi1
      rw [hl]; exact hlen
    · show (L2.start Ng [V.ref f])[0]? = _
      rfl
end
end GX
set_option maxHeartbeats 2000000
/-! defs that may raise; told(lambda: f(..)) -/
namespace DL
open PySem PySem.Spec PyProof.Rows L2 GX GxR
abbrev EK := Str → Option (Str × D) → Prop
abbrev WXE := SDs → (D → Prop) → EK → Prop
abbrev FX := List D → (D → Prop) → EK → Prop
/-- an expression that may raise -/
def DX (C : List Addr) (X : Cx) (W : WX) (e : Expr) (w : WXE) : Prop := ∃ t, PE X e t ∧ ∀ (r : Addr) (H0 : Hp) (O : Nat → Option Addr) (σ : L2.St) (H : Hp) (env : SDs) (Q : D → Prop) (R : EK) (Qh : VK), SI C X.K r H0 O H σ env → w env Q R →
  (∀ v H' d, Ext r H H' → Good C X.K r H' → Rep X.K r H' (fun a => a ≠ r) v d → Q d → Qh v H') → (∀ cls d H' nm vl, Ext r H H' → Good C X.K r H' → ErrOk X.K X.mg r H' cls d nm vl → R nm vl → W cls d σ H') → t σ H Qh
/-- the one reading of all contexts -/
def canX (C : List Addr) (K : PySem.W.Frag) (mg : Str → Option Value) (W : WX) (w : WXE) : TE := fun σ H Qh => ∃ (r : Addr) (H0 : Hp) (O : Nat → Option Addr) (env : SDs) (Q : D → Prop) (R : EK), SI C K r H0 O H σ env ∧ w env Q R ∧
  (∀ v H' d, Ext r H H' → Good C K r H' → Rep K r H' (fun a => a ≠ r) v d → Q d → Qh v H') ∧ ∀ cls d H' nm vl, Ext r H H' → Good C K r H' → ErrOk K mg r H' cls d nm vl → R nm vl → W cls d σ H'
section
variable {C : List Addr} {X : Cx} {W : WX} {e : Expr} {es : List Expr} {w : WE} {wx : WXE} {wl : WL} {pos p : Pos}
theorem DX.can (h : DX C X W e wx) : PE X e (canX C X.K X.mg W wx) := by
  obtain ⟨t, pe, s⟩ := h
  exact ⟨fun pins s1 σ H Q I ⟨r, H0, O, env, Q0, R, S, hw, k, kx⟩ => pe.run pins s1 σ H Q I (s r H0 O σ H env Q0 R Q S hw k kx)⟩
theorem dx_of (h : DE C X e w) : DX C X W e (fun env Q _ => w env Q) := by
  obtain ⟨t, pe, s⟩ := h
  exact ⟨t, pe, fun r H0 O σ H env Q R Qh S hw k _ => s r H0 O σ H env Q Qh S hw k⟩
/-- a def that may raise, its promise -/
def spX (C : List Addr) (K : PySem.W.Frag) (mg : Str → Option Value) (n : Nat) (fs : FX) : Sp := fun vs H Q E => vs.length = n ∧ ∃ (r : Addr) (ds : List D) (Q0 : D → Prop) (R0 : EK), Good C K r H ∧ Reps K r H (fun a => a ≠ r) vs ds ∧ fs ds Q0 R0 ∧
  (∀ d v H', Q0 d → Ext r H H' → Good C K r H' → RepR K r H H' v d → Q v H') ∧ ∀ cls d H' nm vl, R0 nm vl → Ext r H H' → Good C K r H' → ErrOk K mg r H' cls d nm vl → E cls d H'
structure FnX (P : Program) (w : World) (K : PySem.W.Frag) (mg : Str → Option Value) (base : Heap) (C : List Addr) (x : Str) (k n : Nat) (fs : FX) : Prop where
  ex : ∃ (f : Addr) (fd : FuncData) (ps : List Str), FnOk P w K mg base (L2.CX P w) k f fd ps (spX C K mg n fs) ∧ mg x = some (.ref f) ∧ PySem.W.keepIn K (.ref f) = true ∧ Binds K fd ps []
def wCallX (n : Nat) (fs : FX) (wl : WL) : WXE := fun env Q R => wl env fun ds => ds.length = n ∧ fs ds Q R
theorem dx_call {k j n : Nat} {fs : FX} {x : Str} (tk : Takes X W) (B : FnX X.prog X.w X.K X.mg X.base C x k n fs) (hR : Room j X.A) (ha : DA C X (e :: es) wl) (hj : k ≤ j := by decide) (hg : Gl X x := by rfl) (hdb : (x == ("__debug__" : Str)) = false := by decide)
    (he : starEach (e :: es) X.env = (false, eval e X.env) :: starEach es X.env := by rfl) (hpl : (backTo pos (starEach es X.env)).any (·.1) = false := by rfl) : DX C X W (.Call (.Name x p) (e :: es) [] pos) (wCallX n fs wl) := by
  obtain ⟨f, fd, ps, F, hm, hk, hb⟩ := B.ex
  obtain ⟨t, pa, s⟩ := ha
  refine ⟨_, pe_callS F (hR.mono hj) hg hm hk hb (fun σ => passAt tk σ) pa hdb he hpl, fun r H0 O σ H env Q R Qh S hw kv kx => s r H0 O σ H env _ _ S hw fun vs H1 ds e1 g1 rv q => ?_⟩
  exact ⟨by rw [rv.length]; exact q.1, r, ds, Q, R, g1, rv, q.2, fun d v H' q' e' g' r' => kv v H' d (e1.trans e') g' (r'.rep.mono fun _ z => z.1) q', fun cls d H' nm vl hr e' g' er => kx cls d H' nm vl (e1.trans e') g' er hr⟩
/-! ### statements -/
def wExprX (w : WXE) : WS := fun K env => w env (fun _ => K.nx env) K.ex
def wRetX (w : WXE) : WS := fun K env => w env (fun d => flat d = true ∧ K.rt d) K.ex
def wRaise (x : Str) : WS := fun K _ => K.ex x none
def wSetX (i : Nat) (w : WXE) : WS := fun K env => w env (fun d => i < env.length ∧ flat d = true ∧ K.nx (env.set i (SD.val d))) K.ex
theorem ds_exprX (h : DX C X W e wx) (hs : swapsWith e none pos.line X.env = pure false := by rfl) : DS C X W (.Expr e pos) (wExprX wx) := by
  obtain ⟨t, pe, s⟩ := h
  exact ⟨_, ps_expr pe hs, fun r H0 O σ H env Kd E S hw m => s r H0 O σ H env _ _ _ S hw (fun v H1 d e1 g1 rv q => m.nx O σ H1 env (.of_ext e1) (S.step e1 g1) q) fun cls d H1 nm vl e1 g1 er q => m.ex cls d σ H1 nm vl (S.ext.trans e1) g1 er q⟩
theorem ds_retX (h : DX C X W e wx) : DS C X W (.Return (some e) pos) (wRetX wx) := by
  obtain ⟨t, pe, s⟩ := h
  exact ⟨_, ps_ret pe, fun r H0 O σ H env Kd E S hw m => s r H0 O σ H env _ _ _ S hw (fun v H1 d e1 g1 rv q => m.rt v H1 d (S.ext.trans e1) g1 (.flat rv q.1) q.2) fun cls d H1 nm vl e1 g1 er q => m.ex cls d σ H1 nm vl (S.ext.trans e1) g1 er q⟩
theorem ds_setX (i : Nat) {x : Str} {pos' : Pos} (hN : X.N.Nodup) (hi : X.N[i]? = some x) (hx : Loc X.env.scope x) (he : DX C X W e wx) (hs : swapsWith e (some (.Name x pos')) pos.line X.env = pure false := by rfl) (hf : X.fn x = true ∨ X.env.scope.names.lookup x = some .local := by first | exact .inl rfl | exact .inr rfl | assumption) : DS C X W (.Assign [.Name x pos'] e pos) (wSetX i wx) := by
  obtain ⟨t, pe, s⟩ := he
  refine ⟨_, ps_set hN hi hx pe hs hf, fun r H0 O σ H env Kd E S hw m => s r H0 O σ H env _ _ _ S hw (fun v H1 d e1 g1 rv q => ?_) fun cls d H1 nm vl e1 g1 er q => m.ex cls d σ H1 nm vl (S.ext.trans e1) g1 er q⟩
  exact m.nx _ _ H1 _ ((Frm.of_ext e1).trans .off) ((S.step e1 g1).set_val q.1 (rv.flat q.2.1)) q.2.2
/-! ### raise X() -/
theorem pmk_own0 {A : Addr} {bmB : List Value} {B newId initId : String} {x : Str} (F : ExcBaseFacts B newId initId bmB) (q : PySem.W.excIn X.K A bmB newId = true) (gC : X.mg x = some (.ref A)) (kC : PySem.W.keepIn X.K (.ref A) = true) (r : Raises X (.ref A)) (hg : Gl X x) (hdb : (x == ("__debug__" : Str)) = false := by decide) :
    PMk X (.Call (.Name x p) [] [] pos) (fun _ H Q => Q (.ref A) none H) := by
  intro pins s σ H Q I h
  refine wpAny_Call_Name_kw (ld_glob I hg gC ?_ hdb)
  refine PySem.W.callWith_K0 I.kIn kC ?_
  show wpAny _ _ (call (.ref A) []) _ _ _
  obtain ⟨bm, N, nm, qn, bs, hdct, sn, sub, ab, col, dd, k0, k1, k2, k3, k5, mN, hC, hN, hni, T⟩ := exc_obj I.kIn q
  refine wpAny_call_exc_subT F T hC hN hni (fun h' e hm => ?_) (by show 0 ≤ sizeLine; omega)
  exact mk_of I hm r h (I.hok.gone hm.new)
/-- what the text says of an error class without __init__ -/
structure Exc0 (K : PySem.W.Frag) (mg : Str → Option Value) (x : Str) (A : Addr) : Prop where
  g : mg x = some (.ref A)
  q : PySem.W.excIn K A He.veBase "ValueError.__new__" = true
  k : PySem.W.keepIn K (.ref A) = true
  b : PySem.W.subIn K (.ref A) (.type "BaseException") = some true
  t : PySem.W.typeIn K (.ref A) = some (.type "type")
theorem ds_raise0 {x : Str} {pos2 : Pos} {A : Addr} (hc : X.calm = true) (tk : Takes X W) (T : Exc0 X.K X.mg x A) (hg : Gl X x := by rfl) (hdb : (x == ("__debug__" : Str)) = false := by decide) : DS C X W (.Raise (some (.Call (.Name x p) [] [] pos)) none pos2) (wRaise x) :=
  ⟨_, ps_raise hc tk (pmk_own0 PySem.F.excBase_ValueError T.q T.g T.k (raises_own T.b T.t) hg hdb), fun r H0 O σ H env Kd E S hw m => m.ex (.ref A) none σ H x none S.ext S.good ⟨⟨A, T.g, rfl⟩, rfl⟩ hw⟩
end
/-! ### a def that may raise by its body -/
section
variable {P : Program} {w : World} {K : PySem.W.Frag} {mg : Str → Option Value} {base : Heap} {x qual : Str} {params : Arguments} {body : List Stmt} {scope : Scope} {dvs : List V} {kws : List (Str × V)} {at_ : Str × Option Str} {fd : FuncData} {C : List Addr}
def kdX (Q0 : D → Prop) (R0 : EK) : KD := { nx := fun _ => Q0 .none, rt := Q0, ex := R0 }
abbrev xcx (P : Program) (w : World) (K : PySem.W.Frag) (mg : Str → Option Value) (base : Heap) (N : List Str) (qual : Str) (scope : Scope) (f : Addr) (c : Addr) (A : Around) (outer : List Env) (s : Shared) (H : Hp) (E : XK) : Cx := cxOf (L2.CX P w) P w K mg base N qual scope f (.ref c) A outer s H E
abbrev WE0 (E : XK) : WX := fun cls d _ H => E cls d H
theorem xtk {N : List Str} {f c : Addr} {A : Around} {outer : List Env} {s : Shared} {H : Hp} {E : XK} : Takes (xcx P w K mg base N qual scope f c A outer s H E) (WE0 E) := takes_of rfl rfl rfl rfl
theorem ok_ofX {N ps : List Str} {k n : Nat} {fs : FX} {wb : WS} (F : FunD K x qual params body scope dvs kws (He.fAd K at_) fd) (S : FnScope N ps scope) (hn : ps.length = n)
    (hbody : ∀ (A : Around) (outer : List Env) (s : Shared) (H : Hp) (E : XK), Room k (A.deeper (envOfC qual scope s.heap.objs.size (He.fAd K at_) (.ref (He.cT K at_).1))) → DSs C (xcx P w K mg base N qual scope (He.fAd K at_) (He.cT K at_).1 A outer s H E) (WE0 E) body wb)
    (hp : ∀ ds Q0 R0, fs ds Q0 R0 → wb (kdX Q0 R0) (startD N ds)) : FnOk P w K mg base (L2.CX P w) (k + 1) (He.fAd K at_) fd ps (spX C K mg n fs) := by
  obtain ⟨oc, od, osl, dV, kV, doc, pm, an, ct, lk, hcd, rfl⟩ := funD_code F
  refine fn_of lk hcd S (fun vs H Q E h => h.1.trans hn.symm) fun A outer s H vs Q E hr h => ?_
  obtain ⟨hl, r, ds, Q0, R0, g, rv, hf, hQ, hE⟩ := h
  obtain ⟨t, pt, st⟩ := hbody A outer s H E hr
  refine ⟨t, pt, st r H (fun _ => none) _ H _ _ _ (si_start g rv) (hp ds Q0 R0 hf) ⟨fun O' σ' H' env' f S' q => ?_, fun O' σ' H' env' f S' q => q.elim, fun O' σ' H' env' f S' q => q.elim, fun v H' d e g rv q => hQ d v H' q e g rv, fun cls d σ' H' nm vl e g er q => hE cls d H' nm vl q e g er⟩⟩
  exact hQ .none .non H' q S'.ext S'.good (RepR.flat (P := fun _ => True) .non rfl)
end
/-! ### told(lambda: f(..)) -/
section
variable {C : List Addr} {X : Cx} {e : Expr} {wx : WXE} {pos p lpos : Pos}
/-- what a try makes of an error -/
abbrev CT := Str → Option (Str × D) → (D → Prop) → Prop
def wTold (ct : CT) (wx : WXE) : WE := fun env Q => wx env Q fun nm vl => ct nm vl Q
/-- the suite's reading serves the catch -/
def Catches (C : List Addr) (K : PySem.W.Frag) (mg : Str → Option Value) (CL : Addr) (R : Addr → Value → Option Addr → Hp → VK → Prop) (ct : CT) : Prop :=
  ∀ (r : Addr) (H : Hp) (cls : Value) (d : Option Addr) (nm : Str) (vl : Option (Str × D)) (Q : D → Prop) (Qh : VK), Good C K r H → ErrOk K mg r H cls d nm vl → ct nm vl Q →
    (∀ v H' d, Ext r H H' → Good C K r H' → Rep K r H' (fun a => a ≠ r) v d → Q d → Qh v H') → PySem.W.exmOne K cls (.ref CL) = some true ∧ ∀ a, H a = none → R a cls d H Qh
theorem de_told {x a : Str} {g P CL : Addr} {k j : Nat} {pg : Arguments} {bg : List Stmt} {sg : Scope} {cdv : Value} {Ng : List Str} {params : Arguments} {body : Expr} {scope : Scope} {R : Addr → Value → Option Addr → Hp → VK → Prop} {ct : CT}
    (T : TakF X.K X.mg x a Ng pg bg sg g cdv) (hG : GivesW X Ng x sg g cdv bg a (TTry X.K CL R)) (hct : Catches C X.K X.mg CL R ct) (TB : TabC X P) (hPC : P ∈ C) (hr : Room j X.A) (hj : k + 2 ≤ j)
    (hNg : Ng[0]? = some a) (hva : Vis sg a) (L : LamX.LamS X.env.scope scope)
    (hbody : ∀ (q : Str) (A : Around) (outer : List Env) (s : Shared) (H : Hp) (E : XK) (f c' : Addr), Room k (A.deeper (lamEnvQ X q scope s.heap.objs.size f c')) → DX C (lamCxQ X q A outer s H E scope f c') (WE0 E) body wx)
    (hg : Gl X x := by rfl) (hdef : defaultsOf params X.env = ([], []) := by rfl)
    (hbind : ∀ (q : Str) (cl : List (Str × Addr)) (pm cv ctv : Value), bindArgs (PySem.W.kla_fn "<lambda>" q params body scope cl pm cv ctv) ⟨[], []⟩ = pure [] := by exact fun _ _ _ _ _ => rfl)
    (hdb : (x == ("__debug__" : Str)) = false := by decide) (hd : (a == ("__debug__" : Str)) = false := by decide) (hcd : (a == ("__classdict__" : Str)) = false := by decide) :
    DE C X (.Call (.Name x p) [.Lambda params body scope lpos] [] pos) (wTold ct wx) := by
  refine ⟨_, pe_lamW (k := k) (t := fun E => canX C X.K X.mg (WE0 E) wx) hg T hNg hva hG TB (hr.mono hj) L hdef hbind (fun q A outer s H E f c' hr2 => (hbody q A outer s H E f c' hr2).can) hdb hd hcd, fun r H0 O σ H env Q Qh S hw kv => ?_⟩
  refine ⟨S.good.tab P hPC, fun H1 cv P' gr => ?_⟩
  have eg := Ext.grown (r := r) gr (S.good.tab P hPC)
  have gg := S.good.grown gr (S.good.tab P hPC)
  refine ⟨r, H0, O, env, Q, _, S.step eg gg, hw, fun v H' d e1 g1 rv q => kv v H' d (eg.trans e1) g1 rv q, fun cls d H' nm vl e1 g1 er q => ?_⟩
  exact hct r H' cls d nm vl Q Qh g1 er q fun v H2 d e2 g2 rv q2 => kv v H2 d ((eg.trans e1).trans e2) g2 rv q2
/-! the suites -/
/-- isinstance(e, c), e the exception that the suite holds -/
def rIsX (K : PySem.W.Frag) (a : Addr) (cls : Value) (d : Option Addr) : List V → Hp → VK → Prop := fun xs H Q => ∃ (A : Addr) (c : V) (cv : Value) (b : Bool), cls = .ref A ∧ d = none ∧ ExcC K A ∧ xs = [.ref a, c] ∧ (∀ u, RelV c u → u = cv) ∧ PySem.W.kitOne K (.ref A) cv = some b ∧ Q (.bl b) H
theorem call_isX {a : Addr} {oe : Obj} {cls : Value} {d : Option Addr} {pn : List (Addr × Obj)} (hz : Zc cls d oe) (hf : ∃ vs, oe.data = .fields vs) : CallR (X.suite a ((a, oe) :: pn)) (.builtin "isinstance") (rIsX X.K a cls d) := by
  intro pins s σ H xs us Q I r h
  obtain ⟨A, c, cv, b, e1, e2, T, e3, h1, h2, q⟩ := h
  subst e1 e2
  exact call_isE T hz hf pins s σ H xs us Q I r ⟨c, cv, b, e3, h1, h2, q⟩
end
section
variable {C : List Addr} {X : Cx} {Ng : List Str} {x a n l cn : Str} {sg : Scope} {g CL CN : Addr} {cdg : Value} {v0 v1 v2 : V} {d0 d1 d2 : D} {e0 e1 e2 : Expr}
/-- except L as n: return c -/
theorem gives0 {p1 p2 p3 p4 p5 p6 q6 : Pos} (hN : Ng.Nodup) (hi : Ng[1]? = some n) (hlen : 1 < Ng.length) (hge : sg.names.lookup l = some .globalImplicit) (hme : X.mg l = some (.ref CL)) (hde : (l == ("__debug__" : Str)) = false) (hkind : sg.names.lookup n = some .local)
    (h0 : ∀ X', PE X' e0 (tC v0)) : GivesW X Ng x sg g cdg [.Try [.Return (some (.Call (.Name a p1) [] [] p2)) p3] [.ExceptHandler (some (.Name l p4)) (some n) [.Return (some e0) q6] p5] [] [] p6] a (TTry X.K CL fun _ _ _ H Q => Q v0 H) :=
  gives_as (i := 1) (ts := fun _ _ _ => fun D σ H => tC v0 σ H fun v H' => D.rt v H') hN hi rfl hlen hge hme hde hkind (fun s H e oe cls d pn hz hf => pss_one (ps_ret (h0 _))) fun e cls d H' D σ _ q => q
def ct0 (L : List Str) (d0 : D) : CT := fun nm _ Q => nm ∈ L ∧ Q d0
theorem catches0 {K : PySem.W.Frag} {mg : Str → Option Value} {L : List Str} (hL : ∀ nm ∈ L, ∃ A, mg nm = some (.ref A) ∧ PySem.W.exmOne K (.ref A) (.ref CL) = some true) (hr : ∀ r H, Rep K r H (fun a => a ≠ r) v0 d0) : Catches C K mg CL (fun _ _ _ H Q => Q v0 H) (ct0 L d0) := by
  intro r H cls d nm vl Q Qh g er ⟨hm, q⟩ k
  obtain ⟨A, e1, e2⟩ := hL nm hm
  obtain ⟨⟨B, f1, f2⟩, _⟩ := er
  rw [e1] at f1
  cases f1
  subst f2
  exact ⟨e2, fun a _ => k v0 H d0 (.refl _ _) g (hr r H) q⟩
/-- except L as n: return c1 if isinstance(n, N) else c2 -/
def R1 (K : PySem.W.Frag) (CN : Addr) (v1 v2 : V) : Addr → Value → Option Addr → Hp → VK → Prop := fun _ cls d H Q => ∃ (A : Addr) (b : Bool), cls = .ref A ∧ d = none ∧ ExcC K A ∧ PySem.W.kitOne K (.ref A) (.ref CN) = some b ∧ Q (if b = true then v1 else v2) H
theorem gives1 {p1 p2 p3 p4 p5 p6 q1 q2 q3 q4 q5 q6 : Pos} (hN : Ng.Nodup) (hi : Ng[1]? = some n) (hlen : 1 < Ng.length) (hge : sg.names.lookup l = some .globalImplicit) (hme : X.mg l = some (.ref CL)) (hde : (l == ("__debug__" : Str)) = false) (hkind : sg.names.lookup n = some .local)
    (hgi : sg.names.lookup ("isinstance" : Str) = some .globalImplicit) (hmi : X.mg "isinstance" = none) (hgn : sg.names.lookup cn = some .globalImplicit) (hmn : X.mg cn = some (.ref CN)) (hdn : (cn == ("__debug__" : Str)) = false) (hnd : (n == ("__debug__" : Str)) = false) (hnc : (n == ("__classdict__" : Str)) = false)
    (h1 : ∀ X', PE X' e1 (tC v1)) (h2 : ∀ X', PE X' e2 (tC v2)) :
    GivesW X Ng x sg g cdg [.Try [.Return (some (.Call (.Name a p1) [] [] p2)) p3] [.ExceptHandler (some (.Name l p4)) (some n) [.Return (some (.IfExp (.Call (.Name "isinstance" q1) [.Name n q2, .Name cn q3] [] q4) e1 e2 q5)) q6] p5] [] [] p6] a (TTry X.K CL (R1 X.K CN v1 v2)) := by
  refine gives_as (i := 1) hN hi rfl hlen hge hme hde hkind (fun s H e oe cls d pn hz hf => ?_) (fun e cls d H' D σ hs q => ?_) (ts := ?ts)
  case ts => exact fun e cls d => fun D σ H => tVar 1 σ H fun x1 H1 => tC (.ref CN) σ H1 fun x2 H2 => rIsX X.K e cls d [x1, x2] H2 fun v H3 => ∃ b, v = .bl b ∧ if b = true then tC v1 σ H3 fun v H' => D.rt v H' else tC v2 σ H3 fun v H' => D.rt v H'
  · have hgi' : Gl ((tcx X Ng x sg g cdg s H).nox.suite e ((e, oe) :: pn)) "isinstance" := hgi
    have hgn' : Gl ((tcx X Ng x sg g cdg s H).nox.suite e ((e, oe) :: pn)) cn := hgn
    exact pss_one (ps_ret (pe_ifExp (pt_val (pe_callB (call_isX hz hf) hgi' hmi (by decide +kernel) (pa_cons (pe_var (i := 1) hi (.inl hkind) hnd hnc) (pa_cons (pe_glob (v := .ref CN) hgn' hmn rfl hdn) pa_nil)) (by decide) (by decide)) (by intro _; rfl)) (h1 _) (h2 _)))
  · obtain ⟨A, b, c1, c2, T, hk, q⟩ := q
    refine ⟨_, hs, A, .ref CN, .ref CN, b, c1, c2, T, rfl, fun u r => r, hk, b, rfl, ?_⟩
    cases b with
    | true => exact q
    | false => exact q
/-- the classes that may come, and whether they are N -/
def ct1 (L : List (Str × Bool)) (d1 d2 : D) : CT := fun nm vl Q => vl = none ∧ ∃ b, (nm, b) ∈ L ∧ Q (if b = true then d1 else d2)
structure ErrF (K : PySem.W.Frag) (mg : Str → Option Value) (CL CN : Addr) (nm : Str) (b : Bool) : Prop where
  ex : ∃ A, mg nm = some (.ref A) ∧ ExcC K A ∧ PySem.W.exmOne K (.ref A) (.ref CL) = some true ∧ PySem.W.kitOne K (.ref A) (.ref CN) = some b
theorem catches1 {K : PySem.W.Frag} {mg : Str → Option Value} {L : List (Str × Bool)} (hL : ∀ p ∈ L, ErrF K mg CL CN p.1 p.2) (hr1 : ∀ r H, Rep K r H (fun a => a ≠ r) v1 d1) (hr2 : ∀ r H, Rep K r H (fun a => a ≠ r) v2 d2) : Catches C K mg CL (R1 K CN v1 v2) (ct1 L d1 d2) := by
  intro r H cls d nm vl Q Qh g er ⟨hv, b, hm, q⟩ k
  obtain ⟨A, e1, T, e2, e3⟩ := (hL _ hm).ex
  obtain ⟨⟨B, f1, f2⟩, f3⟩ := er
  rw [e1] at f1
  cases f1
  subst f2 hv
  refine ⟨e2, fun a _ => ⟨A, b, rfl, f3, T, e3, ?_⟩⟩
  cases b with
  | true => exact k v1 H d1 (.refl _ _) g (hr1 r H) q
  | false => exact k v2 H d2 (.refl _ _) g (hr2 r H) q
theorem q_ct1 {nm : Str} {b : Bool} {L : List (Str × Bool)} {Q : D → Prop} (q : Q (if b = true then d1 else d2)) : ct1 ((nm, b) :: L) d1 d2 nm none Q := ⟨rfl, b, List.mem_cons_self, q⟩
theorem q_ct0 {nm : Str} {vl : Option (Str × D)} {L : List Str} {Q : D → Prop} (q : Q d0) : ct0 (nm :: L) d0 nm vl Q := ⟨List.mem_cons_self, q⟩
end
end DL
namespace DL
open PySem PySem.Spec PyProof.Rows L2 GX GxR
/-! the head's facts about errors -/
def excB (K : PySem.W.Frag) (A : Addr) : Bool :=
  He.eqO (PySem.W.findIn K (.ref A) "__getattribute__") (some (some (.builtin "BaseException.__getattribute__"))) && (He.eqO (PySem.W.findIn K (.ref A) "__getattr__") (some none) && (decide (PySem.W.subIn K (.ref A) (.type "BaseException") = some true) &&
  (PySem.W.hasDictIn K A && (He.eqO (PySem.W.findIn K (.ref A) "__class__") (some (some (.builtin "object.__class__"))) && (He.eqO (PySem.W.specialIn K (.builtin "object.__class__") "__get__") (some (some (.builtin "getset_descriptor.__get__"))) &&
  (decide (PySem.W.takesIn K (.builtin "object.__class__") = some true) && decide (PySem.W.mroIn K A (.type "object") = some true)))))))
theorem excB_ok {K : PySem.W.Frag} {A : Addr} (h : excB K A = true) : ExcC K A := by
  obtain ⟨h1, h⟩ := He.ba h
  obtain ⟨h2, h⟩ := He.ba h
  obtain ⟨h3, h⟩ := He.ba h
  obtain ⟨h4, h⟩ := He.ba h
  obtain ⟨h5, h⟩ := He.ba h
  obtain ⟨h6, h⟩ := He.ba h
  obtain ⟨h7, h8⟩ := He.ba h
  exact ⟨He.eqO_ok h1, He.eqO_ok h2, of_decide_eq_true h3, h4, He.eqO_ok h5, He.eqO_ok h6, of_decide_eq_true h7, of_decide_eq_true h8⟩
def errB (K : PySem.W.Frag) (nm l cn : Str) (b : Bool) : Bool := excB K (He.ga K nm) && (decide (PySem.W.exmOne K (.ref (He.ga K nm)) (.ref (He.ga K l)) = some true) && decide (PySem.W.kitOne K (.ref (He.ga K nm)) (.ref (He.ga K cn)) = some b))
theorem errB_ok {K : PySem.W.Frag} {mg : Str → Option Value} {nm l cn : Str} {b : Bool} (hm : mg nm = some (.ref (He.ga K nm))) (h : errB K nm l cn b = true) : ErrF K mg (He.ga K l) (He.ga K cn) nm b := by
  obtain ⟨h1, h⟩ := He.ba h
  obtain ⟨h2, h3⟩ := He.ba h
  exact ⟨_, hm, excB_ok h1, of_decide_eq_true h2, of_decide_eq_true h3⟩
theorem exc0_ok {K : PySem.W.Frag} {mg : Str → Option Value} {x : Str} (hm : mg x = some (.ref (He.ga K x))) (h : (He.Fa.exc x).ok K = true) : Exc0 K mg x (He.ga K x) := by
  obtain ⟨h1, h⟩ := He.ba h
  obtain ⟨h2, h⟩ := He.ba h
  obtain ⟨h3, h4⟩ := He.ba h
  exact ⟨hm, h1, h2, of_decide_eq_true h3, of_decide_eq_true h4⟩
theorem takF_of {K : PySem.W.Frag} {mg : Str → Option Value} {x a : Str} {Ng : List Str} {params : Arguments} {body : List Stmt} {scope : Scope} {at_ : Str × Option Str} {fd : FuncData} (F : FunD K x x params body scope [] [] (He.fAd K at_) fd) (hm : mg x = some (.ref (He.fAd K at_))) (hk : PySem.W.keepIn K (.ref (He.fAd K at_)) = true) (S : FnScope Ng [a] scope) (hb : Binds K fd [a] []) :
    TakF K mg x a Ng params body scope (He.fAd K at_) (.ref (He.cT K at_).1) := by
  obtain ⟨oc, od, osl, dV, kV, doc, pm, an, ct, lk, hcd, rfl⟩ := funD_code F
  exact ⟨hm, hk, ⟨oc, od, an, osl, dV, kV, doc, pm, ct, lk, hb⟩, hcd, S⟩
end DL
set_option maxHeartbeats 2000000
/-! expressions inside which a def raises -/
namespace DL
open PySem PySem.Spec PyProof.Rows L2 GX GxR
/-- an expression that raises -/
def DR (C : List Addr) (X : Cx) (W : WX) (e : Expr) (w : SDs → EK → Prop) : Prop := ∃ t : L2.St → Hp → Prop, PE X e (fun σ H _ => t σ H) ∧ ∀ (r : Addr) (H0 : Hp) (O : Nat → Option Addr) (σ : L2.St) (H : Hp) (env : SDs) (R : EK), SI C X.K r H0 O H σ env → w env R →
  (∀ cls d H' nm vl, Ext r H H' → Good C X.K r H' → ErrOk X.K X.mg r H' cls d nm vl → R nm vl → W cls d σ H') → t σ H
section
variable {C : List Addr} {X : Cx} {W : WX} {e e2 : Expr} {es : List Expr} {w : WE} {wx : WXE} {wr : SDs → EK → Prop} {wl : WL} {pos p : Pos}
theorem pe_false {t : TE} (h : PE X e t) : PE X e (fun σ H _ => t σ H fun _ _ => False) := ⟨fun pins s σ H Q I hw => wpAny_mono (h.run pins s σ H (fun _ _ => False) I hw) (fun v s' hq => by obtain ⟨x, H', I', r', q⟩ := hq; exact q.elim) fun _ _ z => z⟩
theorem pe_nev : PE X e (fun _ _ _ => False) := ⟨fun _ _ _ _ _ _ z => z.elim⟩
theorem pa_nev : PA X es (fun _ _ _ => False) := ⟨fun _ _ _ _ _ _ _ z => z.elim⟩
theorem pi_r {tg : Expr} {t : L2.St → Hp → Prop} (h : PE X e (fun σ H _ => t σ H)) : PI X tg e (fun σ H _ => t σ H) := ⟨fun pins s σ H R I hw => wpAny_mono (h.run pins s σ H (fun _ _ => False) I hw) (fun v s' hq => by obtain ⟨x, H', I', r', q⟩ := hq; exact q.elim) fun _ _ z => z⟩
def wDr (wx : WXE) : SDs → EK → Prop := fun env R => wx env (fun _ => False) R
theorem dr_dx (h : DX C X W e wx) : DR C X W e (wDr wx) := by
  obtain ⟨t, pe, s⟩ := h
  exact ⟨_, pe_false pe, fun r H0 O σ H env R S hw kx => s r H0 O σ H env _ R _ S hw (fun _ _ _ _ _ _ q => q) kx⟩
/-- it is well, or it raises -/
def wAlt (w : WE) (wr : SDs → EK → Prop) : WXE := fun env Q R => w env Q ∨ wr env R
theorem dx_alt (h : DE C X e w) (h2 : DR C X W e wr) : DX C X W e (wAlt w wr) := by
  obtain ⟨t, pe, s⟩ := h
  obtain ⟨u, pu, su⟩ := h2
  refine ⟨fun σ H Q => t σ H Q ∨ u σ H, ⟨fun pins s1 σ H Q I hw => hw.elim (fun z => pe.run pins s1 σ H Q I z) fun z => pu.run pins s1 σ H Q I z⟩, fun r H0 O σ H env Q R Qh S hw k kx => ?_⟩
  rcases hw with hw | hw
  · exact .inl (s r H0 O σ H env Q Qh S hw k)
  · exact .inr (su r H0 O σ H env R S hw kx)
/-- T(e, ..), a built-in type, e raises -/
theorem dr_ty {x : Str} {T : String} (h : DR C X W e wr) (hm : X.mg x = none) (hv : bootBuiltins x = some (.type T)) (hg : Gl X x := by rfl) (hn : x ≠ "__name__" := by decide) (hdb : (x == ("__debug__" : Str)) = false := by decide)
    (he : starEach (e :: es) X.env = (false, eval e X.env) :: starEach es X.env := by rfl) (hpl : (backTo pos (starEach es X.env)).any (·.1) = false := by rfl) : DR C X W (.Call (.Name x p) (e :: es) [] pos) wr := by
  obtain ⟨t, pe, s⟩ := h
  exact ⟨t, pe_callTy (r := fun _ _ _ => False) (fun _ _ _ _ _ _ _ _ _ (z : False) => z.elim) hg hm hv (pa_cons pe pa_nev he) hn hdb he hpl, s⟩
/-- f(e, ..), a def, e raises -/
theorem dr_fn {k j n : Nat} {fs : FS} {x : Str} (h : DR C X W e wr) (B : FnB X.prog X.w X.K X.mg X.base C x k n fs) (hR : Room j X.A) (hj : k ≤ j := by decide) (hg : Gl X x := by rfl) (hdb : (x == ("__debug__" : Str)) = false := by decide)
    (he : starEach (e :: es) X.env = (false, eval e X.env) :: starEach es X.env := by rfl) (hpl : (backTo pos (starEach es X.env)).any (·.1) = false := by rfl) : DR C X W (.Call (.Name x p) (e :: es) [] pos) wr := by
  obtain ⟨f, fd, ps, F, hm, hk, hb⟩ := B.ex
  obtain ⟨t, pe, s⟩ := h
  exact ⟨t, pe_call F (hR.mono hj) hg hm hk hb .nil pass0 (pa_cons pe pa_nev he) hdb he hpl, s⟩
/-- [.. for .. in e], e raises -/
theorem dr_lc {tg elt : Expr} {ifs : List Expr} {scope : Scope} {own : List (Str × Nat)} (hc : X.calm = true) (hN : X.N.Nodup) (ok : BlkOk X.N X.env.scope scope own) (h : DR C X W e wr) (hs : ∀ x, foldedSetIterable e X.env x = pure x := by intro _; rfl) : DR C X W (.ListComp elt [⟨tg, e, ifs, 0⟩] scope pos) wr := by
  obtain ⟨t, pe, s⟩ := h
  exact ⟨t, pe_lc (g := fun _ _ _ _ => False) (tt := fun _ _ _ => False) (te := fun _ _ _ => False) hc hN (pi_r pe) ok (fun _ _ _ _ _ => ⟨fun _ _ _ _ _ _ _ _ _ z => z.elim⟩) (fun _ _ _ _ _ => ⟨fun _ _ _ _ _ _ z => z.elim⟩) (fun _ _ _ _ _ => pe_nev) hs, s⟩
end
end DL
set_option maxHeartbeats 2000000
/-! three names, one a value that may hold lists; list(range(n)), tuple(range(n)) -/
namespace DL
open PySem PySem.Spec PyProof.Rows L2 GX GxR
section
variable {C : List Addr} {X : Cx} {W : WX} {e a b c : Expr} {w wa wb wc : WE} {wl : WL} {pos p : Pos}
theorem ds_parV3 (i j l : Nat) {x y z : Str} {px py pz pt : Pos} {kt k2 pt2} (hc : X.calm = true) (hN : X.N.Nodup) (hi : X.N[i]? = some x) (hj : X.N[j]? = some y) (hl : X.N[l]? = some z) (hx : X.env.scope.names.lookup x = some .local) (hy : X.env.scope.names.lookup y = some .local) (hz : X.env.scope.names.lookup z = some .local)
    (ha : DV C X a wa) (hb : DE C X b wb) (hcl : DN C X c wl)
    (hw : swappedStores [.Tuple [.Name x px, .Name y py, .Name z pz] kt pt] (.Tuple [a, b, c] k2 pt2) X.env = pure (some [x, y, z])) (hij : (i == j) = false := by rfl) (hil : (i == l) = false := by rfl) (hjl : (j == l) = false := by rfl) (hs : swapsWithSole [.Tuple [.Name x px, .Name y py, .Name z pz] kt pt] (.Tuple [a, b, c] k2 pt2) pos.line X.env = pure false := by rfl)
    (h1 : starEach (a :: [b, c]) X.env = (false, eval a X.env) :: starEach [b, c] X.env := by rfl) (h2 : starEach (b :: [c]) X.env = (false, eval b X.env) :: starEach [c] X.env := by rfl) (h3 : starEach (c :: []) X.env = (false, eval c X.env) :: starEach [] X.env := by rfl) :
    DS C X W (.Assign [.Tuple [.Name x px, .Name y py, .Name z pz] kt pt] (.Tuple [a, b, c] k2 pt2) pos) (wParV3 i j l wa wb wl) := by
  obtain ⟨ta, pa, sa⟩ := ha
  obtain ⟨tb, pb, sb⟩ := hb
  obtain ⟨tc, pc, sc⟩ := hcl
  refine ⟨_, L2.ps_par3 hc hN hi hj hl (by intro z; rw [z] at hij; simp at hij) (by intro z; rw [z] at hil; simp at hil) (by intro z; rw [z] at hjl; simp at hjl) hx hy hz (pa_cons pa (pa_cons pb (pa_cons pc pa_nil h3) h2) h1) hw hs, fun r H0 O σ H env Kd E S hw m => ?_⟩
  refine sa r H0 O σ H env _ _ S hw fun v H1 d e1 g1 rv q => ?_
  have S1 := S.step e1 g1
  refine sb r H0 O σ H1 env _ _ S1 q fun u H2 d2 e2 g2 ru q => ?_
  have S2 := S1.step e2 g2
  refine sc r H0 O σ H2 env _ _ S2 q fun p H3 vs ds e3 g3 np l3 r3 q => ?_
  have rv := rv.ext e2 (P' := Pv O r) (fun _ z => z.1) fun _ z => z
  have S3 := S2.set_val q.1.1 (rv.mono pv_off)
  have S4 := S3.set_val (i := j) (v := u) (d := d2) (by rw [List.length_set]; exact q.1.2.1) (ru.flat q.2.1)
  have S5 := S4.set_own e3 g3 (i := l) (by rw [List.length_set, List.length_set]; exact q.1.2.2) np l3 (r3.mono fun c z => ⟨⟨z.1.1, fun k y => z.1.2.1 k (offO_some (offO_some y).2).2, z.1.2.2⟩, z.2⟩)
  exact ⟨v, u, .ref p, rfl, m.nx _ _ H3 _ ((((Frm.of_ext (e1.trans e2)).trans .off).trans .off).trans (.new e3 np)) S5 q.2.2⟩
theorem ds_parTV3 (i j l : Nat) {t1 t2 t3 : Expr} {kt k2 : Nat} {pt pt2 : Pos} (hc : X.calm = true) (hN : X.N.Nodup) (ht : NmTgs X [t1, t2, t3] [i, j, l]) (ha : DV C X a wa) (hb : DE C X b wb) (hcl : DN C X c wl)
    (hn : (assignEach [t1, t2, t3] X.env).length = 3 := by rfl) (hst : (assignEach [t1, t2, t3] X.env).findIdx? (·.1) = none := by rfl)
    (hs : swapsWithSole [.Tuple [t1, t2, t3] kt pt] (.Tuple [a, b, c] k2 pt2) pos.line X.env = pure false := by rfl) (hw : swappedStores [.Tuple [t1, t2, t3] kt pt] (.Tuple [a, b, c] k2 pt2) X.env = pure none := by rfl)
    (hh : (assignEach [.Tuple [t1, t2, t3] kt pt] X.env).map (·.2) = [assign (.Tuple [t1, t2, t3] kt pt) X.env] := by rfl)
    (h1 : starEach (a :: [b, c]) X.env = (false, eval a X.env) :: starEach [b, c] X.env := by rfl) (h2 : starEach (b :: [c]) X.env = (false, eval b X.env) :: starEach [c] X.env := by rfl) (h3 : starEach (c :: []) X.env = (false, eval c X.env) :: starEach [] X.env := by rfl) :
    DS C X W (.Assign [.Tuple [t1, t2, t3] kt pt] (.Tuple [a, b, c] k2 pt2) pos) (wParV3 i j l wa wb wl) := by
  obtain ⟨ta, pa, sa⟩ := ha
  obtain ⟨tb, pb, sb⟩ := hb
  obtain ⟨tc, pc, sc⟩ := hcl
  refine ⟨_, ps_asg (pe_tup (pa_cons pa (pa_cons pb (pa_cons pc pa_nil h3) h2) h1)) (pg_tup hc (ht.pgs hN) hn hst) hs hw hh, fun r H0 O σ H env Kd E S hw m => ?_⟩
  refine sa r H0 O σ H env _ _ S hw fun v H1 d e1 g1 rv q => ?_
  have S1 := S.step e1 g1
  refine sb r H0 O σ H1 env _ _ S1 q fun u H2 d2 e2 g2 ru q => ?_
  have S2 := S1.step e2 g2
  refine sc r H0 O σ H2 env _ _ S2 q fun p H3 vs ds e3 g3 np l3 r3 q => ?_
  have rv := rv.ext e2 (P' := Pv O r) (fun _ z => z.1) fun _ z => z
  have S3 := S2.set_val q.1.1 (rv.mono pv_off)
  have S4 := S3.set_val (i := j) (v := u) (d := d2) (by rw [List.length_set]; exact q.1.2.1) (ru.flat q.2.1)
  refine ⟨by rw [sizeLine_eq]; show 3 ≤ _; omega, fun T nT => ?_⟩
  have e4 := Ext.upd (r := r) (o := .tup [v, u, .ref p]) nT
  have pr : p ≠ r := S2.good.new np
  have r4 := (r3.mono (P' := fun a => Po (offO (offO O i) j) r H0 a ∧ a ≠ p) fun c z => ⟨⟨z.1.1, fun k y => z.1.2.1 k (offO_some (offO_some y).2).2, z.1.2.2⟩, z.2⟩).ext e4 (fun a z => z.1.1) fun _ z => z
  have S5 := S4.set_own (e3.trans e4) (g3.upd nT) (i := l) (by rw [List.length_set, List.length_set]; exact q.1.2.2) np (e4.lst pr l3) r4
  refine ⟨T, [v, u, .ref p], rfl, SqT.of upd_same, rfl, gNames_run rfl ?_⟩
  exact m.nx _ _ _ _ ((((Frm.of_ext (e1.trans e2)).trans .off).trans .off).trans (.new (e3.trans e4) np)) S5 q.2.2
theorem reps_rg {K : PySem.W.Frag} {r : Addr} {H : Hp} {P : Addr → Prop} (a : Int) : ∀ k : List Nat, Reps K r H P (k.map fun i => V.int (a + (i : Nat))) (k.map fun i => PyData.int (a + (i : Nat) * 1))
  | [] => .nil
  | i :: k => by
    rw [List.map_cons, List.map_cons, Int.mul_one]
    exact .cons .int (reps_rg a k)
theorem rg_eq (n : Int) : rgV 0 n = (List.range n.toNat).map fun i => V.int (0 + (i : Nat)) := by unfold rgV; rw [Int.sub_zero]
/-- list(range(n)) -/
def wLrg (w : WE) : WL := fun env Q => w env fun d => match d with
  | .int n => (0 ≤ n ∧ n ≤ 16777216) ∧ Q (rngD 0 1 n.toNat)
  | _ => False
/-- tuple(range(n)) -/
def wTrg (w : WE) : WE := fun env Q => w env fun d => match d with
  | .int n => (0 ≤ n ∧ n ≤ 16777216) ∧ Q (.tuple (rngD 0 1 n.toNat))
  | _ => False
theorem dn_lrg {p2 pos2 : Pos} (hc : X.calm = true) (hg : Gl X "list") (hm : X.mg "list" = none) (hg2 : Gl X "range") (hm2 : X.mg "range" = none) (ha : DE C X a w) (na : starEach [a] X.env = (false, eval a X.env) :: starEach [] X.env := by rfl)
    (nb : starEach [.Call (.Name "range" p2) [a] [] pos2] X.env = (false, eval (.Call (.Name "range" p2) [a] [] pos2) X.env) :: starEach [] X.env := by rfl) : DN C X (.Call (.Name "list" p) [.Call (.Name "range" p2) [a] [] pos2] [] pos) (wLrg w) := by
  obtain ⟨t, pe, s⟩ := ha
  refine ⟨_, pe_listRg hc hg hm (prg_1 hg2 hm2 pe na) nb, fun r H0 O σ H env Q Qh S hw k => s r H0 O σ H env _ _ S hw fun v H1 d e1 g1 rv q => ?_⟩
  split at q <;> first | exact q.elim | skip
  rename_i n
  cases rv
  refine ⟨n, rfl, RgOk.of_le (by omega) q.1.2 (by omega) q.1.1, fun p np => ?_⟩
  have e := Ext.upd (r := r) (o := .lst (rgV 0 n)) np
  refine k p _ (rgV 0 n) _ (e1.trans e) (g1.upd np) (e1.dom p np) upd_same ?_ q.2
  rw [rg_eq]
  exact reps_rg 0 _
theorem de_trg {p2 pos2 : Pos} (hc : X.calm = true) (hg : Gl X "tuple") (hm : X.mg "tuple" = none) (hg2 : Gl X "range") (hm2 : X.mg "range" = none) (ha : DE C X a w) (na : starEach [a] X.env = (false, eval a X.env) :: starEach [] X.env := by rfl)
    (nb : starEach [.Call (.Name "range" p2) [a] [] pos2] X.env = (false, eval (.Call (.Name "range" p2) [a] [] pos2) X.env) :: starEach [] X.env := by rfl) : DE C X (.Call (.Name "tuple" p) [.Call (.Name "range" p2) [a] [] pos2] [] pos) (wTrg w) := by
  obtain ⟨t, pe, s⟩ := ha
  refine ⟨_, pe_tupRg hc hg hm (prg_1 hg2 hm2 pe na) nb, fun r H0 O σ H env Q Qh S hw k => s r H0 O σ H env _ _ S hw fun v H1 d e1 g1 rv q => ?_⟩
  split at q <;> first | exact q.elim | skip
  rename_i n
  cases rv
  refine ⟨n, rfl, RgOk.of_le (by omega) q.1.2 (by omega) q.1.1, fun p np => ?_⟩
  have e := Ext.upd (r := r) (o := .tup (rgV 0 n)) np
  refine k _ _ _ (e1.trans e) (g1.upd np) (.tup (SqT.of upd_same) ?_) q.2
  rw [rg_eq]
  exact reps_rg 0 _
/-! a whole number and a truth -/
def b2z (k : Bool) : Int := if k = true then 1 else 0
def dSubB : D → D → (D → Prop) → Prop
  | .int i, .bool k, Q => Q (.int (i - b2z k))
  | _, _, _ => False
def dMulB : D → D → (D → Prop) → Prop
  | .int i, .bool k, Q => Q (.int (i * b2z k))
  | _, _, _ => False
def rIB (g : Int → Int → Int) : V → V → Hp → VK → Prop := fun x y H Q => ∃ i k, x = V.int i ∧ y = V.bl k ∧ Q (V.int (g i (b2z k))) H
theorem op_subB : OpR X (binaryOp .Sub) (rIB fun i j => i - j) := by
  intro pins s σ H x y v u Q I rx ry h
  obtain ⟨i, k, rfl, rfl, q⟩ := h
  obtain ⟨t, rfl⟩ := rx
  obtain rfl : u = Value.bool k := ry
  exact PySem.IntBool.sub_int_bool ⟨.int (i - b2z k), H, I.tok _, ⟨_, rfl⟩, q⟩
theorem op_mulB : OpR X (binaryOp .Mult) (rIB fun i j => i * j) := by
  intro pins s σ H x y v u Q I rx ry h
  obtain ⟨i, k, rfl, rfl, q⟩ := h
  obtain ⟨t, rfl⟩ := rx
  obtain rfl : u = Value.bool k := ry
  exact PySem.IntBool.mul_int_bool ⟨.int (i * b2z k), H, I.tok _, ⟨_, rfl⟩, q⟩
theorem opd_ib {g : Int → Int → Int} {f : D → D → (D → Prop) → Prop} (hf : ∀ dx dy Q, f dx dy Q → ∃ i k, dx = .int i ∧ dy = .bool k ∧ Q (.int (g i (b2z k)))) : OpD C X (rIB g) f := fun r H x y dx dy Q Qh gd rx ry h k => by
  obtain ⟨i, b, rfl, rfl, q⟩ := hf dx dy Q h
  cases rx; cases ry
  exact ⟨i, b, rfl, rfl, k _ H _ (.refl _ _) gd .int q⟩
theorem opd_subB : OpD C X (rIB fun i j => i - j) dSubB := opd_ib fun dx dy Q h => by cases dx <;> cases dy <;> first | exact ⟨_, _, rfl, rfl, h⟩ | exact h.elim
theorem opd_mulB : OpD C X (rIB fun i j => i * j) dMulB := opd_ib fun dx dy Q h => by cases dx <;> cases dy <;> first | exact ⟨_, _, rfl, rfl, h⟩ | exact h.elim
theorem de_subB (ha : DE C X a wa) (hb : DE C X b wb) : DE C X (.BinOp a .Sub b pos) (wBin dSubB wa wb) := de_bin op_subB opd_subB ha hb
theorem de_mulB (ha : DE C X a wa) (hb : DE C X b wb) : DE C X (.BinOp a .Mult b pos) (wBin dMulB wa wb) := de_bin op_mulB opd_mulB ha hb
/-- is, of truths -/
def dIsB : D → D → (D → Prop) → Prop
  | .bool a, .bool b, Q => Q (.bool (decide (a = b)))
  | _, _, _ => False
theorem opd_isB : OpD C X (fun x y H Q => ∃ a b, x = .bl a ∧ y = .bl b ∧ Q (.bl (decide (a = b))) H) dIsB := fun r H x y dx dy Q Qh gd rx ry h k => by
  cases dx <;> cases dy <;> first | exact h.elim | skip
  cases rx; cases ry
  exact ⟨_, _, rfl, rfl, k _ H _ (.refl _ _) gd .bl h⟩
theorem de_isb (ha : DE C X a wa) (hb : DE C X b wb) : DE C X (.Compare a [.Is] [b] pos) (wBin dIsB wa wb) := de_cmp op_is_bl opd_isB ha hb (nomark _)
theorem dt_isb (ha : DE C X a wa) (hb : DE C X b wb) : DT C X (.Compare a [.Is] [b] pos) (wTst (wBin dIsB wa wb)) := dt_cmp op_is_bl opd_isB ha hb (nomark _)
end
end DL
namespace DL
open PySem PySem.Spec PyProof.Rows L2 GX GxR
/-! stores into a list of lists: a new list, two items exchanged -/
def wStoN (i : Nat) (wi : WE) (wl : WL) : WS := fun K env => wl env fun es => flats es = true ∧ onOwn env i fun ds => wi env fun j => match j with
  | .int k => onSome (ixN ds.length k) fun n => K.nx (env.set i (SD.own (ds.set n (.list es))))
  | _ => False
def wSwp (i : Nat) (wa wb wc wd : WE) : WS := fun K env => onOwn env i fun ds => wc env fun y => match y with
  | .int c => onSome (atI ds c) fun x1 => wd env fun z => match z with
    | .int d => onSome (atI ds d) fun x2 => wa env fun u => match u with
      | .int a => onSome (ixN ds.length a) fun n => wb (env.set i (SD.own (ds.set n x1))) fun w => match w with
        | .int b => onSome (ixN ds.length b) fun l => K.nx ((env.set i (SD.own (ds.set n x1))).set i (SD.own ((ds.set n x1).set l x2)))
        | _ => False
      | _ => False
    | _ => False
  | _ => False
section
variable {C : List Addr} {X : Cx} {W : WX} {e ia ib ic id' : Expr} {wa wb wc wd : WE} {wl : WL} {pos : Pos}
theorem ds_stoN (i : Nat) {x : Str} {px spos : Pos} (he : DN C X e wl) (hi : DE C X ia wa) (hN : X.N[i]? = some x := by rfl) (hv : Vis X.env.scope x := by first | exact Or.inl rfl | exact Or.inr (Or.inl rfl) | exact Or.inr (Or.inr rfl)) (hd : (x == ("__debug__" : Str)) = false := by decide)
    (hcd : (x == ("__classdict__" : Str)) = false := by decide) (hs : swapsWithSole [.Subscript (.Name x px) ia spos] e pos.line X.env = pure false := by rfl) (hw : swappedStores [.Subscript (.Name x px) ia spos] e X.env = pure none := by rfl)
    (h1 : (assignEach [.Subscript (.Name x px) ia spos] X.env).map (·.2) = [assign (.Subscript (.Name x px) ia spos) X.env] := by rfl)
    (ha : ∀ v, assign (.Subscript (.Name x px) ia spos) X.env v = (do
      let ov ← holding [v] (eval (.Name x px) X.env)
      let iv ← holding [v, ov] (eval ia X.env)
      standAt spos
      holding [v, ov, iv] (setItem ov iv v)
      release [v, ov, iv] []) := by intro _; rfl) : DS C X W (.Assign [.Subscript (.Name x px) ia spos] e pos) (wStoN i wa wl) := by
  obtain ⟨t, pe, s⟩ := he
  obtain ⟨ti, pi, si⟩ := hi
  refine ⟨_, ps_asg pe (pg_sub (pe_var hN hv hd hcd) pi set_list ha) hs hw h1, fun r H0 O σ H env Kd E S hw m => s r H0 O σ H env _ _ S hw fun p H1 us es e1 g1 np l1 r1 q => ?_⟩
  obtain ⟨hf, q⟩ := q
  obtain ⟨ds, he, q⟩ := onOwn_some q
  have S1 := S.step e1 g1
  have pn := S.fresh np
  obtain ⟨a, vs, h1, h2, h3, h4⟩ := S1.own i ds he
  refine ⟨.ref a, h2, si r H0 O σ H1 env _ _ S1 q fun j H2 dj e2 g2 rj q2 => ?_⟩
  cases dj <;> first | exact q2.elim | skip
  cases rj
  obtain ⟨n, hn, q2⟩ := onSome_some q2
  have S2 := S1.step e2 g2
  have h3' := e2.lst (S1.new i a h1).2 h3
  have h4' := h4.ext e2 (P' := Po O r H0) (fun _ z => z.1) fun _ z => z
  have l2 := e2.lst pn.1 l1
  refine ⟨a, vs, _, n, rfl, rfl, h3', by rw [h4.length]; exact hn, ?_⟩
  exact m.nx O σ _ _ (((Frm.of_ext e1).trans (.of_ext e2)).trans (.upd h1 h3')) (S2.write he h1 h3' (h4'.set (.lst pn l2 ((r1.flats hf).ext e2 (fun _ (z : False) => z.elim) fun _ z => z.elim)) n)) q2
theorem ds_swp (i : Nat) {x : Str} {p1 p2 p3 p4 s1 s2 s3 s4 pt pt2 : Pos} {kt k2} (hc : X.calm = true) (ea : DE C X ia wa) (eb : DE C X ib wb) (ec : DE C X ic wc) (ed : DE C X id' wd) (hN : X.N[i]? = some x := by rfl) (hv : Vis X.env.scope x := by first | exact Or.inl rfl | exact Or.inr (Or.inl rfl) | exact Or.inr (Or.inr rfl)) (hd : (x == ("__debug__" : Str)) = false := by decide)
    (hcd : (x == ("__classdict__" : Str)) = false := by decide)
    (hs : swapsWithSole [.Tuple [.Subscript (.Name x p1) ia s1, .Subscript (.Name x p2) ib s2] kt pt] (.Tuple [.Subscript (.Name x p3) ic s3, .Subscript (.Name x p4) id' s4] k2 pt2) pos.line X.env = pure false := by rfl)
    (hw : swappedStores [.Tuple [.Subscript (.Name x p1) ia s1, .Subscript (.Name x p2) ib s2] kt pt] (.Tuple [.Subscript (.Name x p3) ic s3, .Subscript (.Name x p4) id' s4] k2 pt2) X.env = pure none := by rfl)
    (h1 : (assignEach [.Tuple [.Subscript (.Name x p1) ia s1, .Subscript (.Name x p2) ib s2] kt pt] X.env).map (·.2) = [assign (.Tuple [.Subscript (.Name x p1) ia s1, .Subscript (.Name x p2) ib s2] kt pt) X.env] := by rfl)
    (n1 : PlainIx ic := by exact fun _ _ => rfl) (n2 : PlainIx id' := by exact fun _ _ => rfl)
    (v1 : starEach (.Subscript (.Name x p3) ic s3 :: [.Subscript (.Name x p4) id' s4]) X.env = (false, eval (.Subscript (.Name x p3) ic s3) X.env) :: starEach [.Subscript (.Name x p4) id' s4] X.env := by rfl)
    (v2 : starEach (.Subscript (.Name x p4) id' s4 :: []) X.env = (false, eval (.Subscript (.Name x p4) id' s4) X.env) :: starEach [] X.env := by rfl)
    (a1 : (assignEach [.Subscript (.Name x p1) ia s1, .Subscript (.Name x p2) ib s2] X.env).map (·.2) = assign (.Subscript (.Name x p1) ia s1) X.env :: (assignEach [.Subscript (.Name x p2) ib s2] X.env).map (·.2) := by rfl)
    (a2 : (assignEach [.Subscript (.Name x p2) ib s2] X.env).map (·.2) = assign (.Subscript (.Name x p2) ib s2) X.env :: (assignEach [] X.env).map (·.2) := by rfl)
    (t1 : (assignEach [.Subscript (.Name x p1) ia s1, .Subscript (.Name x p2) ib s2] X.env).length = 2 := by rfl) (t2 : (assignEach [.Subscript (.Name x p1) ia s1, .Subscript (.Name x p2) ib s2] X.env).findIdx? (·.1) = none := by rfl)
    (ha : ∀ v, assign (.Subscript (.Name x p1) ia s1) X.env v = (do
      let ov ← holding [v] (eval (.Name x p1) X.env)
      let iv ← holding [v, ov] (eval ia X.env)
      standAt s1
      holding [v, ov, iv] (setItem ov iv v)
      release [v, ov, iv] []) := by intro _; rfl)
    (hb : ∀ v, assign (.Subscript (.Name x p2) ib s2) X.env v = (do
      let ov ← holding [v] (eval (.Name x p2) X.env)
      let iv ← holding [v, ov] (eval ib X.env)
      standAt s2
      holding [v, ov, iv] (setItem ov iv v)
      release [v, ov, iv] []) := by intro _; rfl) :
    DS C X W (.Assign [.Tuple [.Subscript (.Name x p1) ia s1, .Subscript (.Name x p2) ib s2] kt pt] (.Tuple [.Subscript (.Name x p3) ic s3, .Subscript (.Name x p4) id' s4] k2 pt2) pos) (wSwp i wa wb wc wd) := by
  obtain ⟨ta, pa, sa⟩ := ea
  obtain ⟨tb, pb, sb⟩ := eb
  obtain ⟨tc, pc, sc⟩ := ec
  obtain ⟨td, pd, sd⟩ := ed
  refine ⟨_, ps_asg (pe_tup (pa_cons (pe_ix ix_seq (pe_var hN hv hd hcd) pc n1) (pa_cons (pe_ix ix_seq (pe_var hN hv hd hcd) pd n2) pa_nil v2) v1))
    (pg_tup hc (pgs_cons (pg_sub (pe_var hN hv hd hcd) pa set_list ha) (pgs_cons (pg_sub (pe_var hN hv hd hcd) pb set_list hb) pgs_nil a2) a1) t1 t2) hs hw h1, fun r H0 O σ H env Kd E S hw m => ?_⟩
  obtain ⟨ds, he, hw⟩ := onOwn_some hw
  obtain ⟨a, vs, h1, h2, h3, h4⟩ := S.own i ds he
  refine ⟨.ref a, h2, ?_⟩
  refine sc r H0 O σ H env _ _ S hw fun y H1 dy e1 g1 ry q => ?_
  cases dy <;> first | exact q.elim | skip
  cases ry
  obtain ⟨d1, hd1, q⟩ := onSome_some q
  have S1 := S.step e1 g1
  have h3a := e1.lst (S.new i a h1).2 h3
  have h4a := h4.ext e1 (P' := Po O r H0) (fun _ z => z.1) fun _ z => z
  obtain ⟨u1, b1, c1⟩ := reps_atI h4a hd1
  refine .inl ⟨_, _, _, u1, rfl, rfl, SqL.of h3a, b1, ?_⟩
  refine ⟨.ref a, h2, ?_⟩
  refine sd r H0 O σ H1 env _ _ S1 q fun z H2 dz e2 g2 rz q => ?_
  cases dz <;> first | exact q.elim | skip
  cases rz
  obtain ⟨d2, hd2, q⟩ := onSome_some q
  have S2 := S1.step e2 g2
  have h3b := e2.lst (S.new i a h1).2 h3a
  have h4b := h4a.ext e2 (P' := Po O r H0) (fun _ z => z.1) fun _ z => z
  obtain ⟨u2, b2, c2⟩ := reps_atI h4b hd2
  have c1 := c1.ext e2 (P' := Po O r H0) (fun _ z => z.1) fun _ z => z
  refine .inl ⟨_, _, _, u2, rfl, rfl, SqL.of h3b, b2, ?_⟩
  refine ⟨by rw [sizeLine_eq]; show 2 ≤ _; omega, fun p np => ?_⟩
  have e3 := Ext.upd (r := r) (o := .tup [u1, u2]) np
  have g3 := g2.upd (o := .tup [u1, u2]) np
  have S3 := S2.step e3 g3
  have h3c := e3.lst (S.new i a h1).2 h3b
  have h4c := h4b.ext e3 (P' := Po O r H0) (fun _ z => z.1) fun _ z => z
  have c1 := c1.ext e3 (P' := Po O r H0) (fun _ z => z.1) fun _ z => z
  have c2 := c2.ext e3 (P' := Po O r H0) (fun _ z => z.1) fun _ z => z
  refine ⟨p, [u1, u2], rfl, SqT.of upd_same, rfl, u1, [u2], rfl, .ref a, h2, ?_⟩
  refine sa r H0 O σ _ env _ _ S3 q fun j H4 dj e4 g4 rj q => ?_
  cases dj <;> first | exact q.elim | skip
  cases rj
  obtain ⟨n, hn, q⟩ := onSome_some q
  have S4 := S3.step e4 g4
  have h3d := e4.lst (S.new i a h1).2 h3c
  have h4d := h4c.ext e4 (P' := Po O r H0) (fun _ z => z.1) fun _ z => z
  have c1 := c1.ext e4 (P' := Po O r H0) (fun _ z => z.1) fun _ z => z
  have c2 := c2.ext e4 (P' := Po O r H0) (fun _ z => z.1) fun _ z => z
  refine ⟨a, vs, _, n, rfl, rfl, h3d, by rw [h4.length]; exact hn, ?_⟩
  have S5 := S4.write he h1 h3d (h4d.set c1 n)
  have f5 : Frm r O H4 O (upd H4 a (.lst (vs.set n u1))) := .upd h1 h3d
  have c2 := c2.frm f5 fun b z => ⟨z.1, z.2.1⟩
  have hi : i < env.length := (List.getElem?_eq_some_iff.mp he).1
  have he5 : (env.set i (SD.own (ds.set n d1)))[i]? = some (SD.own (ds.set n d1)) := List.getElem?_set_self hi
  refine ⟨u2, [], rfl, .ref a, h2, ?_⟩
  refine sb r H0 O σ _ _ _ _ S5 q fun j H6 dj e6 g6 rj q => ?_
  cases dj <;> first | exact q.elim | skip
  cases rj
  obtain ⟨l, hl, q⟩ := onSome_some q
  have S6 := S5.step e6 g6
  obtain ⟨a', vs', k1, k2, k3, k4⟩ := S6.own i _ he5
  rw [h1] at k1
  cases k1
  have c2 := c2.ext e6 (P' := Po O r H0) (fun _ z => z.1) fun _ z => z
  refine ⟨a, vs', _, l, rfl, rfl, k3, by rw [k4.length, List.length_set]; exact hl, ?_⟩
  refine ⟨rfl, ?_⟩
  exact m.nx O σ _ _ ((((((Frm.of_ext e1).trans (.of_ext e2)).trans (.of_ext e3)).trans (.of_ext e4)).trans f5).trans ((Frm.of_ext e6).trans (.upd h1 k3))) (S6.write he5 h1 k3 (k4.set c2 l)) q
/-- name.append(list of one's own): it is given up -/
def wAppO (i j : Nat) : WS := fun K env => onOwn env i fun ds => (ds.length < 16777216 ∧ i ≠ j) ∧ onOwn env j fun es => K.nx ((env.set j SD.no).set i (SD.own (ds ++ [.list es])))
theorem ds_appO (i j : Nat) {x y : Str} {px py apos cpos : Pos} (hN : X.N[i]? = some x := by rfl) (hv : Vis X.env.scope x := by first | exact Or.inl rfl | exact Or.inr (Or.inl rfl) | exact Or.inr (Or.inr rfl)) (hd : (x == ("__debug__" : Str)) = false := by decide)
    (hcd : (x == ("__classdict__" : Str)) = false := by decide) (hNj : X.N[j]? = some y := by rfl) (hvj : Vis X.env.scope y := by first | exact Or.inl rfl | exact Or.inr (Or.inl rfl) | exact Or.inr (Or.inr rfl)) (hdj : (y == ("__debug__" : Str)) = false := by decide)
    (hcdj : (y == ("__classdict__" : Str)) = false := by decide) (hst : starEach (.Name y py :: []) X.env = (false, eval (.Name y py) X.env) :: starEach [] X.env := by rfl) (hs : swapsWith (.Call (.Attribute (.Name x px) "append" apos) [.Name y py] [] cpos) none pos.line X.env = pure false := by rfl)
    (hbase : attributeBase (.Name x px) "append" X.env (eval (.Name x px) X.env) = eval (.Name x px) X.env := by rfl)
    (hfew : ((backTo cpos (starEach (.Name y py :: []) X.env)).all (fun x => !x.1) && (backToKw cpos (keywordEach [] X.env)).all (fun x => x.1.isSome)
      && decide (((.Name y py : Expr) :: []).length + ([] : List Keyword).length + (if ([] : List Keyword).isEmpty then 0 else 1) < 30)) = true := by rfl)
    (hline : (apos.endLine == cpos.line) = true := by rfl) (hplain : (backTo cpos (starEach [] X.env)).any (·.1) = false := by rfl) :
    DS C X W (.Expr (.Call (.Attribute (.Name x px) "append" apos) [.Name y py] [] cpos) pos) (wAppO i j) := by
  refine ⟨_, ps_expr (pe_bm PySem.F.plainAttrs_list PySem.F.slot_list_append PySem.F.type_list_append mt_append (pe_var hN hv hd hcd) (pa_cons (pe_var hNj hvj hdj hcdj) pa_nil hst) hbase hfew hline hst hplain) hs, fun r H0 O σ H env Kd E S hw m => ?_⟩
  obtain ⟨ds, he, hw⟩ := onOwn_some hw
  obtain ⟨a, vs, h1, h2, h3, h4⟩ := S.own i ds he
  refine ⟨.ref a, h2, .inl ⟨rfl, _, SqL.of h3⟩, ?_⟩
  obtain ⟨⟨q0, hij⟩, q⟩ := hw
  obtain ⟨es, he2, q⟩ := onOwn_some q
  obtain ⟨b, us, b1, b2, b3, b4⟩ := S.own j es he2
  have S2 := S.drop he2
  have he' : (env.set j SD.no)[i]? = some (SD.own ds) := by rw [List.getElem?_set_ne (Ne.symm hij)]; exact he
  have h1' : offO O j i = some a := by unfold offO; rw [if_neg hij]; exact h1
  have rb : Rep X.K r H (Po (offO O j) r H0) (.ref b) (.list es) := .lst ⟨(S.new j b b1).2, fun k z => (offO_some z).1 (S.inj _ _ _ (offO_some z).2 b1), (S.new j b b1).1⟩ b3 (b4.mono fun c z => ⟨z.1, fun k y => z.2.1 k (offO_some y).2, z.2.2⟩)
  have h5 := h4.mono (P' := Po (offO O j) r H0) fun c z => ⟨z.1, fun k y => z.2.1 k (offO_some y).2, z.2.2⟩
  refine ⟨.ref b, b2, a, vs, .ref b, rfl, rfl, h3, by rw [sizeLine_eq, h4.length]; exact q0, ?_⟩
  exact m.nx _ σ _ _ ((Frm.off).trans (.upd h1' h3)) (S2.write he' h1' h3 (h5.append (.cons rb .nil))) q
/-! pairs of places and lists -/
theorem itmP_enumB {K : PySem.W.Frag} {r a : Addr} {H : Hp} {l : Bool} {P : Addr → Prop} {xs : List V} {ds : List D} (hP : ∀ a, P a → a ≠ r) (h : SqB l K H a xs) (hr : Reps K r H P xs ds) : ItmP K r P (IteB l K a) H (enumD ds) := fun i => ⟨fun d hd => by
  obtain ⟨x, hx, rfl⟩ := enumD_get hd
  obtain ⟨v, h1, h2⟩ := hr.get hx
  refine ⟨⟨xs, v, h, h1⟩, fun y H' ⟨T, x', e1, nT, e2, f⟩ => ?_⟩
  subst e1 e2
  have := f xs h
  rw [h1] at this
  cases this
  have e : Ext r H (upd H T (.tup [.int (i : Nat), v])) := .upd nT
  exact ⟨fun b o q => by rw [upd_ne (ne_of_none q nT)]; exact q, .tup (SqT.of upd_same) (.cons .int (.cons (h2.ext e hP fun _ z => z) .nil))⟩, fun hi => ⟨xs, h, by rw [hr.length, ← enumD_length]; exact hi⟩⟩
theorem div_enumerate {tpos p pos : Pos} {elts : List Expr} {kk : Nat} {wv : WE} (hm : X.mg "enumerate" = none) (h : DV C X e wv) (hg : Gl X "enumerate" := by rfl) (hs : starEach [e] X.env = [(false, eval e X.env)] := by rfl) (hs2 : starEach (e :: []) X.env = (false, eval e X.env) :: starEach [] X.env := by rfl) :
    DIV C X (.Tuple elts kk tpos) (.Call (.Name "enumerate" p) [e] [] pos) (wEnum (wSeq1 wv)) := by
  obtain ⟨t, pe, st⟩ := h
  refine ⟨_, pi_enumB hg hm (pa_cons pe pa_nil hs2) hs, fun r H0 O σ H env Q R S hw k => st r H0 O σ H env _ _ S hw fun v H1 d e1 g1 rv q => ?_⟩
  obtain ⟨l, a, xs, ds, s1, q⟩ := rep_seq rv q
  have e1v := s1.1
  subst e1v
  exact ⟨l, a, xs, rfl, (seqv_B s1 (Frm.refl (O := O))).1, k _ H1 _ e1 g1 (fun O' H' f => itmP_enumB (fun _ z => z.1) (seqv_B s1 f).1 (seqv_B s1 f).2) q⟩
end
end DL
/-! name = comprehension over a list of lists -/
namespace DL
open PySem PySem.Spec PyProof.Rows L2 GX GxR
section
variable {C : List Addr} {X : Cx} {W : WX} {e a b c : Expr} {es rest : List Expr} {w wa wb wc : WE} {wl : WL} {pos p : Pos} {tg iter elt : Expr} {ifs : List Expr} {wg : WG} {ix : List Nat} {wt : WT} {we : WE} {scope : Scope} {own : List (Str × Nat)}
theorem ds_setLcV (i : Nat) {y : Str} {py : Pos} {spos : Pos} (hy : X.N[i]? = some y) (hyl : X.env.scope.names.lookup y = some .local) (hsw : swapsWith (.ListComp elt [⟨tg, iter, ifs, 0⟩] scope pos) (some (.Name y py)) spos.line X.env = pure true)
    (hc : X.calm = true) (hN : X.N.Nodup) (ok : BlkOk X.N X.env.scope scope own) (hi : DJV C X tg iter wl) (hg : ∀ i, DGV C (bcx X scope i) tg ix wg) (ht : ∀ i, DTs C (bcx X scope i) ifs wt) (he : ∀ i, DE C (bcx X scope i) elt we)
    (hix : ix.all (fun i => decide (i ∈ ownIx own)) = true := by rfl) (hs : ∀ x, foldedSetIterable iter X.env x = pure x := by intro _; rfl) : DS C X W (.Assign [.Name y py] (.ListComp elt [⟨tg, iter, ifs, 0⟩] scope pos) spos) (wSetN i (wLc wl wg wt we (ownIx own))) := by
  have hix' : ∀ i ∈ ix, i ∈ ownIx own := fun i hi => of_decide_eq_true (List.all_eq_true.mp hix i hi)
  obtain ⟨ti, pi, si⟩ := hi
  obtain ⟨tgt, pg, sg⟩ := unif_gV (P0 := fun _ => True) (Xf := bcx X scope) (fun _ => rfl) fun i _ => hg i
  obtain ⟨ttt, pt, stt⟩ := unif_t (P0 := fun _ => True) (Xf := bcx X scope) (fun _ => rfl) fun i _ => ht i
  obtain ⟨tee, pe, se⟩ := unif_e (P0 := fun _ => True) (Xf := bcx X scope) (fun _ => rfl) fun i _ => he i
  refine ⟨_, ps_setLc hc hN hy hyl hsw pi ok (fun s H A cl fp => pg (s, H, A, cl, fp) trivial) (fun s H A cl fp => pt (s, H, A, cl, fp) trivial) (fun s H A cl fp => pe (s, H, A, cl, fp) trivial) hs, fun r H0 O σ H env Kd E S hw m => ?_⟩
  refine si r H0 O σ H env _ _ S hw fun J H1 ds e1 g1 it q => ?_
  refine lc_readP (S.step e1 g1) it (Q := fun ds => i < env.length ∧ Kd.nx (env.set i (SD.own ds))) (Qh := fun x H1 => gName i x σ H1 E.nx) (F := fun ds acc => lcW wg wt we (wipeE env (ownIx own)) (fun ds => i < env.length ∧ Kd.nx (env.set i (SD.own ds))) ds acc) q (fun _ z => z) ?_ fun p H' us acc e g np l rr q => m.nx _ _ H' _ (.new (e1.trans e) (e1.dom p np)) (S.set_own (e1.trans e) g q.1 (e1.dom p np) l rr) q.2
  intro d ds' acc x p us H2 Nx S2 rx q2 pn l2 hl k0 k1
  refine sg r H0 O _ H2 _ x d _ _ S2 rx q2 fun O3 σ3 env3 f3 S3 hlen hout oo q3 => ?_
  refine ⟨(wipe_same hlen fun j hj => hout j fun z => hj (hix' j z)).trans (wipe_wipe _ _), ?_⟩
  refine stt r H0 O3 σ3 H2 env3 _ _ S3 q3 fun c H4 e4 g4 q4 => ?_
  cases c with
  | false => exact k0 H4 e4 g4 q4
  | true =>
    refine se r H0 O3 σ3 H4 env3 _ _ (S3.step e4 g4) q4 fun v H5 dv e5 g5 rv q5 => ?_
    have l5 := (e4.trans e5).lst pn.1 l2
    exact ⟨us, l5, by rw [sizeLine_eq, hl]; exact q5.1.1, k1 v dv H5 (e4.trans e5) g5 q5.1.1 (rv.flat q5.1.2) q5.2⟩
theorem ds_setLcNV {we : WL} (i : Nat) {y : Str} {py : Pos} {spos : Pos} (hy : X.N[i]? = some y) (hyl : X.env.scope.names.lookup y = some .local) (hsw : swapsWith (.ListComp elt [⟨tg, iter, ifs, 0⟩] scope pos) (some (.Name y py)) spos.line X.env = pure true)
    (hc : X.calm = true) (hN : X.N.Nodup) (ok : BlkOk X.N X.env.scope scope own) (hi : DJV C X tg iter wl) (hg : ∀ i, DGV C (bcx X scope i) tg ix wg) (ht : ∀ i, DTs C (bcx X scope i) ifs wt) (he : ∀ i, DN C (bcx X scope i) elt we)
    (hix : ix.all (fun i => decide (i ∈ ownIx own)) = true := by rfl) (hs : ∀ x, foldedSetIterable iter X.env x = pure x := by intro _; rfl) : DS C X W (.Assign [.Name y py] (.ListComp elt [⟨tg, iter, ifs, 0⟩] scope pos) spos) (wSetN i (wLcN wl wg wt we (ownIx own))) := by
  have hix' : ∀ i ∈ ix, i ∈ ownIx own := fun i hi => of_decide_eq_true (List.all_eq_true.mp hix i hi)
  obtain ⟨ti, pi, si⟩ := hi
  obtain ⟨tgt, pg, sg⟩ := unif_gV (P0 := fun _ => True) (Xf := bcx X scope) (fun _ => rfl) fun i _ => hg i
  obtain ⟨ttt, pt, stt⟩ := unif_t (P0 := fun _ => True) (Xf := bcx X scope) (fun _ => rfl) fun i _ => ht i
  obtain ⟨tee, pe, se⟩ := unif_n (P0 := fun _ => True) (Xf := bcx X scope) (fun _ => rfl) fun i _ => he i
  refine ⟨_, ps_setLc hc hN hy hyl hsw pi ok (fun s H A cl fp => pg (s, H, A, cl, fp) trivial) (fun s H A cl fp => pt (s, H, A, cl, fp) trivial) (fun s H A cl fp => pe (s, H, A, cl, fp) trivial) hs, fun r H0 O σ H env Kd E S hw m => ?_⟩
  refine si r H0 O σ H env _ _ S hw fun J H1 ds e1 g1 it q => ?_
  refine lc_readP (S.step e1 g1) it (Q := fun ds => i < env.length ∧ Kd.nx (env.set i (SD.own ds))) (Qh := fun x H1 => gName i x σ H1 E.nx) (F := fun ds acc => lcWN wg wt we (wipeE env (ownIx own)) (fun ds => i < env.length ∧ Kd.nx (env.set i (SD.own ds))) ds acc) q (fun _ z => z) ?_ fun p H' us acc e g np l rr q => m.nx _ _ H' _ (.new (e1.trans e) (e1.dom p np)) (S.set_own (e1.trans e) g q.1 (e1.dom p np) l rr) q.2
  intro d ds' acc x p us H2 Nx S2 rx q2 pn l2 hl k0 k1
  refine sg r H0 O _ H2 _ x d _ _ S2 rx q2 fun O3 σ3 env3 f3 S3 hlen hout oo q3 => ?_
  refine ⟨(wipe_same hlen fun j hj => hout j fun z => hj (hix' j z)).trans (wipe_wipe _ _), ?_⟩
  refine stt r H0 O3 σ3 H2 env3 _ _ S3 q3 fun c H4 e4 g4 q4 => ?_
  cases c with
  | false => exact k0 H4 e4 g4 q4
  | true =>
    refine se r H0 O3 σ3 H4 env3 _ _ (S3.step e4 g4) q4 fun v H5 vs dv e5 g5 nv lv rv q5 => ?_
    have l4 := e4.lst pn.1 l2
    have l5 := e5.lst pn.1 l4
    have vp : v ≠ p := fun z => by rw [z, l4] at nv; cases nv
    have S4 := (S2.step e4 g4)
    have pv := S4.fresh nv
    refine ⟨us, l5, by rw [sizeLine_eq, hl]; exact q5.1.1, k1 (.ref v) (.list dv) H5 (e4.trans e5) g5 q5.1.1 ?_ q5.2⟩
    exact .lst ⟨pv, vp⟩ lv (rv.flats q5.1.2)
/-- two names at once: a value that may be a list, a new list -/
def wParVL (i j : Nat) (wa : WE) (wl : WL) : WS := fun K env => wa env fun x => wl env fun ds => (i < env.length ∧ j < env.length) ∧ K.nx ((env.set i (SD.val x)).set j (SD.own ds))
theorem ds_parVL (i j : Nat) {x y : Str} {px py pt : Pos} {kt k2 pt2} (hc : X.calm = true) (hN : X.N.Nodup) (hi : X.N[i]? = some x) (hj : X.N[j]? = some y) (hx : X.env.scope.names.lookup x = some .local) (hy : X.env.scope.names.lookup y = some .local) (ha : DV C X a wa) (hb : DN C X b wl)
    (hw : swappedStores [.Tuple [.Name x px, .Name y py] kt pt] (.Tuple [a, b] k2 pt2) X.env = pure (some [x, y])) (hij : (i == j) = false := by rfl) (hs : swapsWithSole [.Tuple [.Name x px, .Name y py] kt pt] (.Tuple [a, b] k2 pt2) pos.line X.env = pure false := by rfl)
    (h1 : starEach (a :: [b]) X.env = (false, eval a X.env) :: starEach [b] X.env := by rfl) (h2 : starEach (b :: []) X.env = (false, eval b X.env) :: starEach [] X.env := by rfl) :
    DS C X W (.Assign [.Tuple [.Name x px, .Name y py] kt pt] (.Tuple [a, b] k2 pt2) pos) (wParVL i j wa wl) := by
  obtain ⟨ta, pa, sa⟩ := ha
  obtain ⟨tb, pb, sb⟩ := hb
  refine ⟨_, ps_par hc hN hi hj (by intro z; rw [z] at hij; simp at hij) hx hy (pa_cons pa (pa_cons pb pa_nil h2) h1) hw hs, fun r H0 O σ H env Kd E S hw m => ?_⟩
  refine sa r H0 O σ H env _ _ S hw fun v H1 d e1 g1 rv q => ?_
  have S1 := S.step e1 g1
  refine sb r H0 O σ H1 env _ _ S1 q fun p H3 vs ds e3 g3 np l3 r3 q => ?_
  have S3 := S1.set_val q.1.1 (rv.mono pv_off)
  have S5 := S3.set_own e3 g3 (i := j) (by rw [List.length_set]; exact q.1.2) np l3 (r3.mono fun c z => ⟨⟨z.1.1, fun k y => z.1.2.1 k (offO_some y).2, z.1.2.2⟩, z.2⟩)
  exact ⟨v, .ref p, rfl, m.nx _ _ H3 _ (((Frm.of_ext e1).trans .off).trans (.new e3 np)) S5 q.2⟩
end
end DL
/-! generator expressions over a list of lists -/
namespace DL
open PySem PySem.Spec PyProof.Rows L2 GX GxR
section
variable {C : List Addr} {X : Cx} {e tg iter elt : Expr} {ifs : List Expr} {wl : WL} {wg : WG} {ix : List Nat} {pos : Pos} {wt : WT} {we : WE} {scope : Scope} {own : List (Str × Nat)}
/-- the reading of a generator expression in its consumer -/
theorem gen_readV {res : List V → V → Prop} {f : List D → (D → Prop) → Prop} (hf : GenR res f) {P : Addr} {t : TI} {tgt : TG} {ttt : Addr → TT} {tee : Addr → TE}
    (hPC : P ∈ C) (hix : ∀ i ∈ ix, i ∈ ownIx own)
    (si : ∀ (r : Addr) (H0 : Hp) (O : Nat → Option Addr) (σ : L2.St) (H : Hp) (env : SDs) (Q : List D → Prop) (R : It → Hp → Prop), SI C X.K r H0 O H σ env → wl env Q →
      (∀ J H1 ds, Ext r H H1 → Good C X.K r H1 → (∀ H', Ext r H1 H' → ItmP X.K r (Pv O r) J H' ds) → Q ds → R J H1) → t σ H R)
    (sg : ∀ (r : Addr) (H0 : Hp) (O : Nat → Option Addr) (σ : L2.St) (H : Hp) (env : SDs) (v : V) (d : D) (Q : SDs → Prop) (Qh : L2.St → Hp → Prop), SI C X.K r H0 O H σ env → Rep X.K r H (Pv O r) v d → wg d env Q →
      (∀ O' σ' env', Frm r O H O' H → SI C X.K r H0 O' H σ' env' → σ'.length = σ.length → (∀ j, j ∉ ix → σ'[j]? = σ[j]?) → (∀ j a, O' j = some a → O j = some a) → Q env' → Qh σ' H) → tgt v σ H Qh)
    (stt : ∀ (P' r : Addr) (H0 : Hp) (O : Nat → Option Addr) (σ : L2.St) (H : Hp) (env : SDs) (Q : Bool → Prop) (Qh : Bool → Hp → Prop), SI (P' :: C) X.K r H0 O H σ env → wt env Q →
      (∀ b H', Ext r H H' → Good (P' :: C) X.K r H' → Q b → Qh b H') → ttt P' σ H Qh)
    (se : ∀ (P' r : Addr) (H0 : Hp) (O : Nat → Option Addr) (σ : L2.St) (H : Hp) (env : SDs) (Q : D → Prop) (Qh : VK), SI (P' :: C) X.K r H0 O H σ env → we env Q →
      (∀ v H' d, Ext r H H' → Good (P' :: C) X.K r H' → Rep X.K r H' (fun a => a ≠ r) v d → Q d → Qh v H') → tee P' σ H Qh) :
    ∀ (r : Addr) (H0 : Hp) (O : Nat → Option Addr) (σ : L2.St) (H : Hp) (env : SDs) (Q : D → Prop) (Qh : VK), SI C X.K r H0 O H σ env → wGen f wl wg wt we (ownIx own) env Q →
      (∀ v H' d, Ext r H H' → Good C X.K r H' → Rep X.K r H' (fun a => a ≠ r) v d → Q d → Qh v H') → tGen res P t tgt ttt tee (ownIx own) σ H Qh := by
  intro r H0 O σ H env Q Qh S hw k
  refine si r H0 O σ H env _ _ S hw fun J H1 ds e1 g1 it q => ?_
  have hT := g1.tab P hPC
  refine ⟨hT, fun H2 cv P' tb => ?_⟩
  have e2 : Ext r H1 H2 := .grown tb hT
  have g2 := g1.grown tb hT
  obtain ⟨os, hl, ho, hQ⟩ := genW_outs ds [] q
  obtain ⟨hat, rv, rd, hres, hq, hrep⟩ := hf _ _ hQ
  rw [List.nil_append] at hat hres
  refine ⟨ds.length, fun i => (os[i]?).join.map vOf, fun _ H' => Ext r H2 H' ∧ Good C X.K r H', ⟨.refl _ _, g2⟩, ⟨fun i H3 hi ⟨e3, g3⟩ => ?_, fun H3 ⟨e3, g3⟩ => (it H3 (e2.trans e3) ds.length).2 rfl⟩, rv, ?_, fun i H3 ⟨e3, g3⟩ => k rv H3 rd ((e1.trans e2).trans e3) g3 (hrep _ _ _ _) hq⟩
  · have hd : ds[i]? = some ds[i] := by simp [hi]
    have hos : os[i]? = some os[i] := by simp [hl, hi]
    obtain ⟨go, y⟩ := (it H3 (e2.trans e3) i).1 _ hd
    refine ⟨go, fun x H4 hy => ?_⟩
    obtain ⟨sm, rx⟩ := y x H4 hy
    have e4 : Ext r H3 H4 := .of_same sm
    have g4 := g3.same sm
    have S4 := (S.step (((e1.trans e2).trans e3).trans e4) g4).wiped (ownIx own)
    refine sg r H0 O _ H4 _ x _ _ _ S4 rx (ho i _ _ hd hos) fun O5 σ5 env5 f5 S5 hlen hout oo q5 => ?_
    refine ⟨(wipe_same hlen fun j hj => hout j fun z => hj (hix j z)).trans (wipe_wipe _ _), ?_⟩
    have S5 := S5.cons (P := P') ((e3.trans e4).tab _ tb.tab)
    refine stt P' r H0 O5 σ5 H4 env5 _ _ S5 q5 fun c H6 e6 g6 q6 => ?_
    cases c with
    | false =>
      refine ⟨?_, (e3.trans e4).trans e6, g6.less⟩
      rw [hos]
      have z : os[i] = none := q6
      rw [z]; rfl
    | true =>
      refine se P' r H0 O5 σ5 H6 env5 _ _ (S5.step e6 g6) q6 fun v H7 dv e7 g7 rv7 q7 => ?_
      refine ⟨?_, ((e3.trans e4).trans e6).trans e7, g7.less⟩
      rw [hos]
      have z : os[i] = some dv := q7
      have m : dv ∈ os.filterMap id := List.mem_filterMap.mpr ⟨some dv, by rw [← z]; exact List.getElem_mem _, rfl⟩
      rw [z, rep_atom rv7 (hat dv m)]; rfl
  · have z : outs ds.length (fun i => (os[i]?).join.map vOf) 0 = (os.filterMap id).map vOf := by
      unfold outs
      rw [List.drop_zero, ← hl]
      have go : ∀ (l : List (Option D)), (List.range l.length).filterMap (fun i => (l[i]?).join.map vOf) = (l.filterMap id).map vOf := by
        intro l
        induction l with
        | nil => rfl
        | cons a l ih =>
          rw [List.length_cons, List.range_succ_eq_map, List.filterMap_cons, List.filterMap_map]
          have e : ((fun i => ((a :: l)[i]?).join.map vOf) ∘ Nat.succ) = fun i => (l[i]?).join.map vOf := by funext i; simp
          rw [e, ih]
          cases a <;> simp
      exact go os
    rw [z]; exact hres
/-- consumer(elt for tg in iter if ..) -/
theorem de_genV {x : Str} {res : List V → V → Prop} {f : List D → (D → Prop) → Prop} (hf : GenR res f) {P : Addr} {k : Nat} {p gpos : Pos} (hc : X.calm = true) (hPC : P ∈ C)
    (rule : ∀ {wi : TI} {g : TG} {tt : Addr → TT} {te : Addr → TE}, PI X tg iter wi → GParts X k elt tg ifs scope g tt te → PE X (.Call (.Name x p) [.GeneratorExp elt [⟨tg, iter, ifs, 0⟩] scope gpos] [] pos) (tGen res P wi g tt te (ownIx own)))
    (hi : DJV C X tg iter wl) (hg : ∀ i, DGV C (gcF X scope i) tg ix wg) (ht : ∀ P' i, Room k i.1 → TabC (gcF X scope i) P' → DTs (P' :: C) (gcF X scope i) ifs wt) (he : ∀ P' i, Room k i.1 → TabC (gcF X scope i) P' → DE (P' :: C) (gcF X scope i) elt we) (hix : ix.all (fun i => decide (i ∈ ownIx own)) = true := by rfl) :
    DE C X (.Call (.Name x p) [.GeneratorExp elt [⟨tg, iter, ifs, 0⟩] scope gpos] [] pos) (wGen f wl wg wt we (ownIx own)) := by
  have hix' : ∀ i ∈ ix, i ∈ ownIx own := fun i hi => of_decide_eq_true (List.all_eq_true.mp hix i hi)
  obtain ⟨ti, pi, si⟩ := hi
  obtain ⟨tgt, pg, sg⟩   := unif_gV (P0 := fun _ => True) (Xf := gcF X scope) (fun _ => rfl) fun i _ => hg i
  have HT := fun P' => unif_t (C := P' :: C) (P0 := fun i : Around × Shared × Hp × Value × Addr × List Addr => Room k i.1 ∧ TabC (gcF X scope i) P') (Xf := gcF X scope) (fun _ => rfl) fun i h => ht P' i h.1 h.2
  have HE := fun P' => unif_e (C := P' :: C) (P0 := fun i : Around × Shared × Hp × Value × Addr × List Addr => Room k i.1 ∧ TabC (gcF X scope i) P') (Xf := gcF X scope) (fun _ => rfl) fun i h => he P' i h.1 h.2
  obtain ⟨ttt, hT⟩ := Classical.axiomOfChoice HT
  obtain ⟨tee, hE⟩ := Classical.axiomOfChoice HE
  exact ⟨_, rule pi ⟨fun A' s H code C fp => pg (A', s, H, code, C, fp) trivial, fun A' s H code C fp P' hr hi => (hT P').1 (A', s, H, code, C, fp) ⟨hr, hi.tc⟩, fun A' s H code C fp P' hr hi => (hE P').1 (A', s, H, code, C, fp) ⟨hr, hi.tc⟩⟩, gen_readV hf hPC hix' si sg (fun P' => (hT P').2) (fun P' => (hE P').2)⟩
theorem de_allV {P : Addr} {k : Nat} {p gpos : Pos} (hr : Room (k + 1) X.A) (hgl : Gl X "all") (hm : X.mg "all" = none) (hc : X.calm = true) (hN : X.N.Nodup) (TB : TabC X P) (hPC : P ∈ C) (ok : GBlk X.N X.env.scope scope own)
    (hi : DJV C X tg iter wl) (hg : ∀ i, DGV C (gcF X scope i) tg ix wg) (ht : ∀ P' i, Room k i.1 → TabC (gcF X scope i) P' → DTs (P' :: C) (gcF X scope i) ifs wt) (he : ∀ P' i, Room k i.1 → TabC (gcF X scope i) P' → DE (P' :: C) (gcF X scope i) elt we) (hix : ix.all (fun i => decide (i ∈ ownIx own)) = true := by rfl)
    (hs : ∀ v, genFold iter X.env v = pure v := by intro _; rfl) (hst : starEach [.GeneratorExp elt [⟨tg, iter, ifs, 0⟩] scope gpos] X.env = (false, eval (.GeneratorExp elt [⟨tg, iter, ifs, 0⟩] scope gpos) X.env) :: starEach [] X.env := by rfl) :
    DE C X (.Call (.Name "all" p) [.GeneratorExp elt [⟨tg, iter, ifs, 0⟩] scope gpos] [] pos) (wGen (fBools fun bs => bs.all id) wl wg wt we (ownIx own)) :=
  de_genV genR_all hc hPC (fun pi gp => pe_all hr hgl hm hc hN TB ok pi gp hs hst) hi hg ht he hix
theorem de_gsumV {P : Addr} {k : Nat} {p gpos : Pos} (hr : Room (k + 1) X.A) (hgl : Gl X "sum") (hm : X.mg "sum" = none) (hc : X.calm = true) (hN : X.N.Nodup) (TB : TabC X P) (hPC : P ∈ C) (ok : GBlk X.N X.env.scope scope own)
    (hi : DJV C X tg iter wl) (hg : ∀ i, DGV C (gcF X scope i) tg ix wg) (ht : ∀ P' i, Room k i.1 → TabC (gcF X scope i) P' → DTs (P' :: C) (gcF X scope i) ifs wt) (he : ∀ P' i, Room k i.1 → TabC (gcF X scope i) P' → DE (P' :: C) (gcF X scope i) elt we) (hix : ix.all (fun i => decide (i ∈ ownIx own)) = true := by rfl)
    (hs : ∀ v, genFold iter X.env v = pure v := by intro _; rfl) (hst : starEach [.GeneratorExp elt [⟨tg, iter, ifs, 0⟩] scope gpos] X.env = (false, eval (.GeneratorExp elt [⟨tg, iter, ifs, 0⟩] scope gpos) X.env) :: starEach [] X.env := by rfl) :
    DE C X (.Call (.Name "sum" p) [.GeneratorExp elt [⟨tg, iter, ifs, 0⟩] scope gpos] [] pos) (wGen fSum wl wg wt we (ownIx own)) :=
  de_genV genR_sum hc hPC (fun pi gp => pe_sum hr hgl hm hc hN TB ok pi gp hs hst) hi hg ht he hix
end
end DL
/-! two stores at once: `x[a], y[b] = e, f` -/
namespace DL
open PySem PySem.Spec PyProof.Rows L2 GX GxR
def wPSto (i j : Nat) (wa wb w1 w2 : WE) : WS := fun K env => w1 env fun v1 => flat v1 = true ∧ w2 env fun v2 => flat v2 = true ∧ onOwn env i fun ds => wa env fun k1 => match k1 with
  | .int a => onSome (ixN ds.length a) fun n => onOwn (env.set i (SD.own (ds.set n v1))) j fun es => wb (env.set i (SD.own (ds.set n v1))) fun k2 => match k2 with
    | .int b => onSome (ixN es.length b) fun l => K.nx ((env.set i (SD.own (ds.set n v1))).set j (SD.own (es.set l v2)))
    | _ => False
  | _ => False
section
variable {C : List Addr} {X : Cx} {W : WX} {e1 e2 ia ib : Expr} {wa wb w1 w2 : WE} {pos : Pos}
theorem ds_psto (i j : Nat) {x y : Str} {p1 p2 s1 s2 pt pt2 : Pos} {kt k2} (hc : X.calm = true) (ea : DE C X ia wa) (eb : DE C X ib wb) (ec : DE C X e1 w1) (ed : DE C X e2 w2)
    (hN : X.N[i]? = some x := by rfl) (hv : Vis X.env.scope x := by first | exact Or.inl rfl | exact Or.inr (Or.inl rfl) | exact Or.inr (Or.inr rfl)) (hd : (x == ("__debug__" : Str)) = false := by decide) (hcd : (x == ("__classdict__" : Str)) = false := by decide)
    (hNy : X.N[j]? = some y := by rfl) (hvy : Vis X.env.scope y := by first | exact Or.inl rfl | exact Or.inr (Or.inl rfl) | exact Or.inr (Or.inr rfl)) (hdy : (y == ("__debug__" : Str)) = false := by decide) (hcdy : (y == ("__classdict__" : Str)) = false := by decide)
    (hs : swapsWithSole [.Tuple [.Subscript (.Name x p1) ia s1, .Subscript (.Name y p2) ib s2] kt pt] (.Tuple [e1, e2] k2 pt2) pos.line X.env = pure false := by rfl)
    (hw : swappedStores [.Tuple [.Subscript (.Name x p1) ia s1, .Subscript (.Name y p2) ib s2] kt pt] (.Tuple [e1, e2] k2 pt2) X.env = pure none := by rfl)
    (h1 : (assignEach [.Tuple [.Subscript (.Name x p1) ia s1, .Subscript (.Name y p2) ib s2] kt pt] X.env).map (·.2) = [assign (.Tuple [.Subscript (.Name x p1) ia s1, .Subscript (.Name y p2) ib s2] kt pt) X.env] := by rfl)
    (v1 : starEach (e1 :: [e2]) X.env = (false, eval e1 X.env) :: starEach [e2] X.env := by rfl)
    (v2 : starEach (e2 :: []) X.env = (false, eval e2 X.env) :: starEach [] X.env := by rfl)
    (a1 : (assignEach [.Subscript (.Name x p1) ia s1, .Subscript (.Name y p2) ib s2] X.env).map (·.2) = assign (.Subscript (.Name x p1) ia s1) X.env :: (assignEach [.Subscript (.Name y p2) ib s2] X.env).map (·.2) := by rfl)
    (a2 : (assignEach [.Subscript (.Name y p2) ib s2] X.env).map (·.2) = assign (.Subscript (.Name y p2) ib s2) X.env :: (assignEach [] X.env).map (·.2) := by rfl)
    (t1 : (assignEach [.Subscript (.Name x p1) ia s1, .Subscript (.Name y p2) ib s2] X.env).length = 2 := by rfl) (t2 : (assignEach [.Subscript (.Name x p1) ia s1, .Subscript (.Name y p2) ib s2] X.env).findIdx? (·.1) = none := by rfl)
    (ha : ∀ v, assign (.Subscript (.Name x p1) ia s1) X.env v = (do
      let ov ← holding [v] (eval (.Name x p1) X.env)
      let iv ← holding [v, ov] (eval ia X.env)
      standAt s1
      holding [v, ov, iv] (setItem ov iv v)
      release [v, ov, iv] []) := by intro _; rfl)
    (hb : ∀ v, assign (.Subscript (.Name y p2) ib s2) X.env v = (do
      let ov ← holding [v] (eval (.Name y p2) X.env)
      let iv ← holding [v, ov] (eval ib X.env)
      standAt s2
      holding [v, ov, iv] (setItem ov iv v)
      release [v, ov, iv] []) := by intro _; rfl) :
    DS C X W (.Assign [.Tuple [.Subscript (.Name x p1) ia s1, .Subscript (.Name y p2) ib s2] kt pt] (.Tuple [e1, e2] k2 pt2) pos) (wPSto i j wa wb w1 w2) := by
  obtain ⟨ta, pa, sa⟩ := ea
  obtain ⟨tb, pb, sb⟩ := eb
  obtain ⟨tc, pc, sc⟩ := ec
  obtain ⟨td, pd, sd⟩ := ed
  refine ⟨_, ps_asg (pe_tup (pa_cons pc (pa_cons pd pa_nil v2) v1))
    (pg_tup hc (pgs_cons (pg_sub (pe_var hN hv hd hcd) pa set_list ha) (pgs_cons (pg_sub (pe_var hNy hvy hdy hcdy) pb set_list hb) pgs_nil a2) a1) t1 t2) hs hw h1, fun r H0 O σ H env Kd E S hw m => ?_⟩
  refine sc r H0 O σ H env _ _ S hw fun u1 H1 d1 e1 g1 r1 q => ?_
  obtain ⟨f1, q⟩ := q
  have S1 := S.step e1 g1
  refine sd r H0 O σ H1 env _ _ S1 q fun u2 H2 d2 e2 g2 r2 q => ?_
  obtain ⟨f2, q⟩ := q
  have S2 := S1.step e2 g2
  have c1 := (r1.flat (P' := fun _ => False) f1).ext e2 (P' := fun _ => False) (fun _ (z : False) => z.elim) fun _ z => z
  have c2 := r2.flat (P' := fun _ => False) f2
  refine ⟨by rw [sizeLine_eq]; show 2 ≤ _; omega, fun p np => ?_⟩
  have e3 := Ext.upd (r := r) (o := .tup [u1, u2]) np
  have g3 := g2.upd (o := .tup [u1, u2]) np
  have S3 := S2.step e3 g3
  have c1 := c1.ext e3 (P' := fun _ => False) (fun _ (z : False) => z.elim) fun _ z => z
  have c2 := c2.ext e3 (P' := fun _ => False) (fun _ (z : False) => z.elim) fun _ z => z
  obtain ⟨ds, he, q⟩ := onOwn_some q
  obtain ⟨a, vs, h1, h2, h3, h4⟩ := S3.own i ds he
  refine ⟨p, [u1, u2], rfl, SqT.of upd_same, rfl, u1, [u2], rfl, .ref a, h2, ?_⟩
  refine sa r H0 O σ _ env _ _ S3 q fun j1 H4 dj e4 g4 rj q => ?_
  cases dj <;> first | exact q.elim | skip
  cases rj
  obtain ⟨n, hn, q⟩ := onSome_some q
  have S4 := S3.step e4 g4
  have h3d := e4.lst (S3.new i a h1).2 h3
  have h4d := h4.ext e4 (P' := Po O r H0) (fun _ z => z.1) fun _ z => z
  have c1 := c1.ext e4 (P' := fun _ => False) (fun _ (z : False) => z.elim) fun _ z => z
  have c2 := c2.ext e4 (P' := fun _ => False) (fun _ (z : False) => z.elim) fun _ z => z
  refine ⟨a, vs, _, n, rfl, rfl, h3d, by rw [h4.length]; exact hn, ?_⟩
  have S5 := S4.write he h1 h3d (h4d.set (c1.mono fun _ (z : False) => z.elim) n)
  have f5 : Frm r O H4 O (upd H4 a (.lst (vs.set n u1))) := .upd h1 h3d
  have c2 := c2.frm f5 fun b (z : False) => z.elim
  obtain ⟨es, he5, q⟩ := onOwn_some q
  obtain ⟨a', vs', k1, k2, k3, k4⟩ := S5.own j es he5
  refine ⟨u2, [], rfl, .ref a', k2, ?_⟩
  refine sb r H0 O σ _ _ _ _ S5 q fun j2 H6 dj e6 g6 rj q => ?_
  cases dj <;> first | exact q.elim | skip
  cases rj
  obtain ⟨l, hl, q⟩ := onSome_some q
  have S6 := S5.step e6 g6
  have k3d := e6.lst (S5.new j a' k1).2 k3
  have k4d := k4.ext e6 (P' := Po O r H0) (fun _ z => z.1) fun _ z => z
  have c2 := c2.ext e6 (P' := fun _ => False) (fun _ (z : False) => z.elim) fun _ z => z
  refine ⟨a', vs', _, l, rfl, rfl, k3d, by rw [k4.length]; exact hl, ?_⟩
  refine ⟨rfl, ?_⟩
  exact m.nx O σ _ _ ((((((Frm.of_ext e1).trans (.of_ext e2)).trans (.of_ext e3)).trans (.of_ext e4)).trans f5).trans ((Frm.of_ext e6).trans (.upd k1 k3d))) (S6.write he5 k1 k3d (k4d.set (c2.mono fun _ (z : False) => z.elim) l)) q
end
end DL
namespace L2
open PySem PySem.Spec PyProof.Rows
/-- list(o.values()) -/
def tListVals (td : TE) : TE := fun σ H Q => td σ H fun x H1 => ∃ a kvs, x = V.ref a ∧ Rd H1 a (.dK kvs) ∧ ∀ p, H1 p = none → Q (.ref p) (upd H1 p (.lst (kvs.map (·.2))))
section
variable {X : Cx} {o : Expr} {p pos apos mpos : Pos} {td : TE}
theorem KV.atL {κ : Type} {kvs : List (κ × V)} {vs : List (κ × Value)} (r : KV kvs vs) : ∀ {i : Nat} {k : κ} {v : Value}, vs[i]? = some (k, v) → ∃ x, kvs[i]? = some (k, x) ∧ RelV x v := by
  unfold KV at r
  induction r with
  | nil =>
    intro i k v e
    simp at e
  | cons r t ih =>
    intro i k v e
    cases i with
    | zero =>
      have e' := Option.some.inj (show some _ = some (k, v) from e)
      rw [e'] at r
      exact ⟨_, (show some _ = some (k, _) from congrArg some (Prod.ext r.1 rfl)), r.2⟩
    | succ i =>
      obtain ⟨x, h1, h2⟩ := ih (i := i) (k := k) (v := v) (by simpa using e)
      exact ⟨x, by simpa using h1, h2⟩
theorem pe_listVals (hc : X.calm = true) (hg : Gl X "list") (hm : X.mg "list" = none) (hd : PE X o td) (hbase : attributeBase o "values" X.env (eval o X.env) = eval o X.env := by rfl) (hline : (apos.endLine == mpos.line) = true := by rfl)
    (na : starEach [Expr.Call (.Attribute o "values" apos) [] [] mpos] X.env = (false, eval (Expr.Call (.Attribute o "values" apos) [] [] mpos) X.env) :: starEach [] X.env := by rfl) :
    PE X (.Call (.Name "list" p) [.Call (.Attribute o "values" apos) [] [] mpos] [] pos) (tListVals td) := by
  refine ⟨fun pins s σ H Q I h => ?_⟩
  refine Call_ (ld_blt I hg hm boot_list (PyProof.Rows.callWith_type1 (args_cons (wpAny_Call_method0_late hbase hline (thn (hd.run pins s σ H _ I h) fun v s1 ⟨x, H1, I1, r1, a, kvs, ex, ha, q⟩ => ?_)) na) na))
  subst ex
  obtain rfl : v = Value.ref a := r1
  obtain ⟨z, hsys, vs, rel, dof⟩ := dk_rd I1.hok ha
  obtain ⟨ep, dat⟩ := dof.dictAt
  have dat' := dat
  obtain ⟨ob, es, ho, ex, hdat, hko, hpr, hnd⟩ := dat'
  refine ⟨"dict", "dict.values", F.plainAttrs_dict, F.slot_dict_values, F.type_dict_values, ⟨ob, ho, ex.1⟩, fun b e => ?_, Calls.callWith_builtin rfl (PySem.evalArgs_none ?_)⟩
  · cases e
    exact ⟨ob, ho, ex.2.1⟩
  refine call_meetsIn F.slot_dict_values ⟨ob, ho, ex.1⟩ F.entry_dict_values (F.args_dict_values_1 _) (meets_dict_values (mixKind X.prog X.w) a hsys) ⟨⟨vs, dof⟩, ?_⟩
  refine args_nil ?_
  have k1 : ∀ b u, s1.heap.get? b = some u → (s1.heap.push { cls := .type "dict_values", data := .fields #[.ref a] }).get? b = some u := fun b u e => Heap.get?_push_of_some _ e
  have dat1 : (s1.heap.push { cls := .type "dict_values", data := .fields #[.ref a] }).DictAt (mixKind X.prog X.w) a vs ep := dat.keep k1
  have hl : kvs.length = vs.length := rel.length
  refine PySem.W.kdl_call (PySem.W.kdl_values (r := s1.heap.objs.size) (d := a) (knd := mixKind X.prog X.w) (kvs := vs) (ep := ep)) (I1.ok.hd hc) ⟨⟨_, Heap.get?_push_size _ rfl, rfl, rfl⟩, dat1⟩ (by rw [← hl]; exact z) fun h' tk acc c' hk hD hacc => ?_
  have hv : Vals (kvs.map (·.2)) acc.toList := by
    refine vals_of_at ((List.length_map ..).trans (hl.trans (by simpa using hacc.1.symm))) fun j x w h1 h2 => ?_
    obtain ⟨k, hk⟩ := hacc.2 j w (by rw [← Array.getElem?_toList]; exact h2)
    obtain ⟨y, hy, ry⟩ := KV.atL rel hk
    rw [List.getElem?_map, hy] at h1
    cases h1
    exact ry
  have I2 : Inv X pins σ H1 { s1 with heap := s1.heap.push { cls := .type "dict_values", data := .fields #[.ref a] }, toks := s1.toks } := I1.kept k1
  refine ⟨.ref _, upd H1 _ (.lst (kvs.map (·.2))), I2.laid (t' := tk) hk (Nat.le_refl _)
    (show ObjOk X.prog X.w _ _ _ (.lst (kvs.map (·.2))) from ⟨by rw [List.length_map]; exact z, acc.toList, c', hv, by rw [Array.toArray_toList]; exact hD⟩), rfl, q _ (I2.hok.fresh (Nat.le_refl _))⟩
end
end L2
namespace GX
theorem TabW.keepU {H H' : L2.Hp} (k1 : ∀ b ps, H b = some (.tbl ps) → H' b = some (.tbl ps)) (k2 : ∀ b o, H b = some (.frz o U0) → H' b = some (.frz o U0)) {P : PySem.Addr} (h : TabW H P) : TabW H' P := by
  induction h with
  | mk P ps h t cs sub ih =>
    refine ⟨P, ps, k1 _ _ h, t, fun pos cv hc => ?_, fun pos c oc P' hc ho co => ?_⟩
    · obtain ⟨c, e, oc, P', h1, h2⟩ := cs pos cv hc
      exact ⟨c, e, oc, P', k2 _ _ h1, h2⟩
    · obtain ⟨c', e, oc', P'', h1, h2⟩ := cs pos _ hc
      cases e
      have z := k2 _ _ h1
      rw [ho] at z
      cases z
      exact ih pos c oc P' hc h1 co
end GX
namespace DL
open PySem PySem.Spec PyProof.Rows L2 GX GxR
/-! dicts whose keys are ints and texts, their values flat -/
def lkD (ps : List (Key × D)) (k : Key) : Option D := (ps.find? fun p => decide (p.1 = k)).map (·.2)
def putD (ps : List (Key × D)) (k : Key) (d : D) : List (Key × D) := if (ps.any fun p => decide (p.1 = k)) = true then ps.map (fun p => if p.1 = k then (p.1, d) else p) else ps ++ [(k, d)]
def kOf : D → Option Key
  | .int i => some (.inl i)
  | .str x => some (.inr x)
  | _ => none
def unD : List (D × D) → Option (List (Key × D))
  | [] => some []
  | (k, d) :: r => match kOf k, unD r with
    | some k, some r => some ((k, d) :: r)
    | _, _ => none
theorem unD_dD : ∀ ps : List (Key × D), unD (dD ps) = some ps
  | [] => rfl
  | (k, d) :: r => by
    have ih := unD_dD r
    show (match kOf (kD k), unD (dD r) with
      | some k, some r => some ((k, d) :: r)
      | _, _ => none) = _
    rw [ih]
    cases k <;> rfl
theorem rep_key {K : PySem.W.Frag} {r : Addr} {H : Hp} {P : Addr → Prop} {v : V} {d : D} {k : Key} (h : Rep K r H P v d) (e : kOf d = some k) : v = kV k := by
  cases h <;> cases e <;> rfl
theorem rep_kD {K : PySem.W.Frag} {r : Addr} {H : Hp} {P : Addr → Prop} : ∀ k : Key, Rep K r H P (kV k) (kD k)
  | .inl _ => .int
  | .inr _ => .str
section
variable {K : PySem.W.Frag} {r : Addr} {H : Hp} {P : Addr → Prop}
theorem dk_len {kvs : List (Key × V)} {ps : List (Key × D)} (hk : kvs.map (·.1) = ps.map (·.1)) : kvs.length = ps.length := by
  have := congrArg List.length hk
  simpa using this
theorem dk_val (k : Key) : ∀ {kvs : List (Key × V)} {ps : List (Key × D)}, kvs.map (·.1) = ps.map (·.1) → Reps K r H P (kvs.map (·.2)) (ps.map (·.2)) →
    (∃ v d, valV kvs k = some v ∧ lkD ps k = some d ∧ Rep K r H P v d) ∨ (valV kvs k = none ∧ lkD ps k = none)
  | [], [], _, _ => .inr ⟨rfl, rfl⟩
  | [], _ :: _, h, _ => by simp at h
  | _ :: _, [], h, _ => by simp at h
  | (k1, v1) :: kvs, (k2, d2) :: ps, h, hr => by
    rw [List.map_cons, List.map_cons] at h
    injection h with h1 h2
    have h1 : k1 = k2 := h1
    subst h1
    cases hr with
    | cons a t =>
      by_cases e : k1 = k
      · exact .inl ⟨v1, d2, valV_pos e, by simp [lkD, List.find?_cons, e], a⟩
      · have q : lkD ((k1, d2) :: ps) k = lkD ps k := by simp [lkD, List.find?_cons, e]
        rw [valV_neg (p := (k1, v1)) e, q]
        exact dk_val k h2 t
theorem dk_any (k : Key) {kvs : List (Key × V)} {ps : List (Key × D)} (h : kvs.map (·.1) = ps.map (·.1)) : (kvs.any fun p => decide (p.1 = k)) = ps.any fun p => decide (p.1 = k) := by
  have e1 : (kvs.any fun p => decide (p.1 = k)) = (kvs.map (·.1)).any fun x => decide (x = k) := by rw [List.any_map]; rfl
  have e2 : (ps.any fun p => decide (p.1 = k)) = (ps.map (·.1)).any fun x => decide (x = k) := by rw [List.any_map]; rfl
  rw [e1, e2, h]
theorem dk_put {k : Key} {v : V} {d : D} {kvs : List (Key × V)} {ps : List (Key × D)} (h : kvs.map (·.1) = ps.map (·.1)) (hr : Reps K r H P (kvs.map (·.2)) (ps.map (·.2))) (rv : Rep K r H P v d) :
    (putK kvs k v).map (·.1) = (putD ps k d).map (·.1) ∧ Reps K r H P ((putK kvs k v).map (·.2)) ((putD ps k d).map (·.2)) := by
  unfold putK putD
  rw [dk_any k h]
  split
  · rename_i hh
    clear hh
    induction kvs generalizing ps with
    | nil => cases ps with
      | nil => exact ⟨rfl, .nil⟩
      | cons p ps => simp at h
    | cons p kvs ih => cases ps with
      | nil => simp at h
      | cons q ps =>
        rw [List.map_cons, List.map_cons] at h
        injection h with h1 h2
        cases hr with
        | cons a t =>
          obtain ⟨i1, i2⟩ := ih h2 t
          simp only [List.map_cons]
          by_cases e : p.1 = k
          · rw [if_pos e, if_pos (h1.symm.trans e)]
            exact ⟨by rw [i1]; exact congrArg (· :: _) h1, .cons rv i2⟩
          · rw [if_neg e, if_neg (fun z => e (h1.trans z))]
            exact ⟨by rw [i1]; exact congrArg (· :: _) h1, .cons a i2⟩
  · rw [List.map_append, List.map_append, List.map_append, List.map_append, h]
    exact ⟨rfl, hr.append (.cons rv .nil)⟩
end
/-! readings -/
abbrev WQ := SDs → (List (Key × D) → Prop) → Prop
def dcS (i : Nat) : WQ := fun env Q => match env[i]? with
  | some (SD.dic ps) => Q ps
  | some (SD.val (.dict ds)) => onSome (unD ds) Q
  | _ => False
def onDic (env : SDs) (i : Nat) (k : List (Key × D) → Prop) : Prop := match env[i]? with
  | some (SD.dic ps) => k ps
  | _ => False
theorem onDic_some {env : SDs} {i : Nat} {k : List (Key × D) → Prop} (h : onDic env i k) : ∃ ds, env[i]? = some (SD.dic ds) ∧ k ds := by
  unfold onDic at h
  split at h <;> first | exact h.elim | exact ⟨_, by assumption, h⟩
section
variable {C : List Addr} {K : PySem.W.Frag} {r : Addr} {H0 H H' : Hp} {O : Nat → Option Addr} {σ : L2.St} {env : SDs}
theorem dcS_at (S : SI C K r H0 O H σ env) {i : Nat} {Q : List (Key × D) → Prop} (h : dcS i env Q) : ∃ a kvs ps, σ[i]? = some (some (.ref a)) ∧ Q ps ∧ Rd H a (.dK kvs) ∧ kvs.map (·.1) = ps.map (·.1) ∧ Reps K r H (fun a => a ≠ r) (kvs.map (·.2)) (ps.map (·.2)) := by
  unfold dcS at h
  split at h
  · rename_i ps hd
    obtain ⟨a, kvs, h1, h2, h3, h4, h5⟩ := S.dic i ps hd
    exact ⟨a, kvs, ps, h2, h, .inl h3, h4, h5.mono fun _ z => z.elim⟩
  · rename_i ds hd
    obtain ⟨v, h1, h2⟩ := S.val i _ hd
    obtain ⟨ps, hp, h⟩ := onSome_some h
    generalize hdd : PyData.dict ds = d at h2
    cases h2 with
    | row =>
      have e : PyData.dict ds = PyData.dict [(.none, .none)] := hdd
      injection e with e
      rw [e] at hp
      cases hp
    | @dic a kvs ps2 ds2 hp2 hr hk e hs =>
      injection hdd with e3
      rw [e3, e, unD_dD] at hp
      cases hp
      exact ⟨a, kvs, _, h1, h, hr, hk, hs.mono fun _ z => z.1⟩
    | _ => cases hdd
  · exact h.elim
/-- a dict's object is locked, unlocked -/
theorem SI.swap (S : SI C K r H0 O H σ env) {a : Addr} {u : HO} {kvs : List (Key × V)} (hO : ∀ j, O j ≠ some a) (h0 : H0 a = none) (hv : Rd H a (.dK kvs)) (hu : u = .dK kvs ∨ ∃ o, u = .frz o (.dK kvs)) : SI C K r H0 O (upd H a u) σ env := by
  have ne : ∀ {b o}, H b = some o → (∀ k, o ≠ .dK k) → (∀ o' k, o ≠ .frz o' (.dK k)) → b ≠ a := fun {b o} e h1 h2 z => by
    rw [z] at e
    rcases hv with y | ⟨o', y⟩ <;> rw [y] at e <;> cases e
    · exact h1 _ rfl
    · exact h2 _ _ rfl
  have kT : ∀ b xs, SqT K H b xs → SqT K (upd H a u) b xs := fun b xs q => by
    rcases q with (q | ⟨o, q⟩) | q
    · exact .inl (.inl (by rw [upd_ne (ne q (fun _ z => by cases z) fun _ _ z => by cases z)]; exact q))
    · exact .inl (.inr ⟨o, by rw [upd_ne (ne q (fun _ z => by cases z) fun _ _ z => by cases z)]; exact q⟩)
    · exact .inr q
  have kL : ∀ {P : Addr → Prop} b xs, P b → H b = some (.lst xs) → upd H a u b = some (.lst xs) := fun b xs _ l => by
    rw [upd_ne (ne l (fun _ z => by cases z) fun _ _ z => by cases z)]; exact l
  have kD' : ∀ {P : Addr → Prop} b kv, P b → Rd H b (.dK kv) → Rd (upd H a u) b (.dK kv) := fun b kv _ l => by
    by_cases hb : b = a
    · subst hb
      have e : kv = kvs := by
        rcases l with l | ⟨o, l⟩ <;> rcases hv with y | ⟨o', y⟩ <;> rw [l] at y <;> cases y <;> rfl
      subst e
      rcases hu with hu | ⟨o, hu⟩
      · exact .inl (by rw [upd_same, hu])
      · exact .inr ⟨o, by rw [upd_same, hu]⟩
    · unfold Rd; rw [upd_ne hb]; exact l
  have tb : ∀ q, TabW H q → TabW (upd H a u) q := fun q h => h.keepU (fun b ps e => by rw [upd_ne (ne e (fun _ z => by cases z) fun _ _ z => by cases z)]; exact e) fun b o e => by
    rw [upd_ne (ne e (fun _ z => by cases z) fun _ _ z => by unfold U0 at z; cases z)]; exact e
  refine ⟨⟨?_, fun q hq => tb q (S.good.tab q hq)⟩, ⟨fun b o q => ?_, fun b q => ?_, fun q h => tb q (S.ext.tab q h)⟩, S.len, S.inj, S.new, fun j d' e' => ?_, fun j sd e' z => ?_, fun j b q z => ?_⟩
  · obtain ⟨c, ns, i, x, z, h2, h3, h4, h5⟩ := S.good.row
    refine ⟨c, ns, i, x, z, ?_, h3, by rw [upd_ne (ne h4 (fun _ z => by cases z) fun _ _ z => by cases z)]; exact h4, h5⟩
    exact h2.elim (fun ⟨o, e⟩ => .inl ⟨o, by rw [upd_ne (ne e (fun _ z => by cases z) fun _ _ z => by cases z)]; exact e⟩) .inr
  · rcases S.ext.keep b o q with z | z | z
    · exact .inl z
    · exact .inr (.inl z)
    · refine .inr (.inr ?_)
      rw [upd_ne (fun y => by rw [y, h0] at q; cases q)]
      exact z
  · by_cases hb : b = a
    · rw [hb, upd_same] at q; cases q
    · rw [upd_ne hb] at q; exact S.ext.dom b q
  · obtain ⟨v', h1, h2⟩ := S.val j d' e'
    exact ⟨v', h1, h2.lift kT kL kD' fun _ q _ => q⟩
  · obtain ⟨b, h1, h2, h3⟩ := S.obj j sd e' z
    have hba : b ≠ a := fun y => hO j (by rw [h1, y])
    exact ⟨b, h1, h2, h3.lift (fun o x _ => by rw [upd_ne hba]; exact x) kT kL kD' fun _ q _ => q⟩
  · by_cases hb : b = a
    · rw [hb, upd_same] at z; cases z
    · rw [upd_ne hb] at z; exact S.dom j b q z
end
section
variable {C : List Addr} {X : Cx} {W : WX} {e f a b c : Expr} {es rest : List Expr} {w wa wb wc wk wx : WE} {wl : WL} {pos p : Pos} {tg : Expr} {wg : WG} {ix : List Nat} {body : List Stmt} {ws : WS}
def wDGet2 (i : Nat) (wk wx : WE) : WE := fun env Q => dcS i env fun ps => wk env fun y => onSome (kOf y) fun k => wx env fun x => Q ((lkD ps k).getD x)
theorem de_dget2 (i : Nat) {x : Str} {px apos cpos : Pos} (hu : X.A.units + 1 < cLine) (he : DE C X e wk) (hf : DE C X f wx) (hN : X.N[i]? = some x := by rfl) (hv : Vis X.env.scope x := by first | exact Or.inl rfl | exact Or.inr (Or.inl rfl) | exact Or.inr (Or.inr rfl)) (hd : (x == ("__debug__" : Str)) = false := by decide)
    (hcd : (x == ("__classdict__" : Str)) = false := by decide) (m : M2 X (.Name x px) "get" apos e f cpos := by exact ⟨rfl, rfl, rfl, rfl⟩) : DE C X (.Call (.Attribute (.Name x px) "get" apos) [e, f] [] cpos) (wDGet2 i wk wx) := by
  obtain ⟨te, pe, se⟩ := he
  obtain ⟨tf, pf, sf⟩ := hf
  refine ⟨_, pe_dget2 hu (pe_var hN hv hd hcd) pe pf m, fun r H0 O σ H env Q Qh S hw k => ?_⟩
  obtain ⟨a, kvs, ps, h1, hw, h2, h3, h4⟩ := dcS_at S hw
  refine ⟨.ref a, h1, a, rfl, .inl ⟨kvs, h2⟩, ?_⟩
  refine se r H0 O σ H env _ _ S hw fun y H1 dy e1 g1 ry q1 => ?_
  obtain ⟨key, hkey, q1⟩ := onSome_some q1
  refine sf r H0 O σ H1 env _ _ (S.step e1 g1) q1 fun z H2 dz e2 g2 rz q2 => ?_
  have E := e1.trans e2
  have h4 := h4.ext E (P' := fun a => a ≠ r) (fun _ z => z) fun _ z => z
  refine ⟨valV kvs key, .inl ⟨kvs, key, E.rd h2, rep_key ry hkey, rfl⟩, ?_⟩
  rcases dk_val key h3 h4 with ⟨v, d, v1, v2, rv⟩ | ⟨v1, v2⟩
  · rw [v2] at q2
    rw [v1]
    exact k v H2 _ E g2 rv q2
  · rw [v2] at q2
    rw [v1]
    exact k z H2 _ E g2 rz q2
def wDIx (i : Nat) (wk : WE) : WE := fun env Q => dcS i env fun ps => wk env fun y => onSome (kOf y) fun k => onSome (lkD ps k) Q
theorem de_dix (i : Nat) {x : Str} {px : Pos} (hu : X.A.units + 1 < cLine) (he : DE C X e wk) (hN : X.N[i]? = some x := by rfl) (hv : Vis X.env.scope x := by first | exact Or.inl rfl | exact Or.inr (Or.inl rfl) | exact Or.inr (Or.inr rfl)) (hd : (x == ("__debug__" : Str)) = false := by decide)
    (hcd : (x == ("__classdict__" : Str)) = false := by decide) (hs : NoSl e := by exact fun _ _ => rfl) : DE C X (.Subscript (.Name x px) e pos) (wDIx i wk) := by
  obtain ⟨te, pe, se⟩ := he
  refine ⟨_, pe_dget hu (pe_var hN hv hd hcd) pe hs, fun r H0 O σ H env Q Qh S hw k => ?_⟩
  obtain ⟨a, kvs, ps, h1, hw, h2, h3, h4⟩ := dcS_at S hw
  refine ⟨.ref a, h1, ?_⟩
  refine se r H0 O σ H env _ _ S hw fun y H1 dy e1 g1 ry q1 => ?_
  obtain ⟨key, hkey, q1⟩ := onSome_some q1
  obtain ⟨d, hd, q1⟩ := onSome_some q1
  have h4 := h4.ext e1 (P' := fun a => a ≠ r) (fun _ z => z) fun _ z => z
  rcases dk_val key h3 h4 with ⟨v, d', v1, v2, rv⟩ | ⟨v1, v2⟩
  · rw [v2] at hd
    cases hd
    exact ⟨a, v, rfl, .inl ⟨kvs, key, e1.rd h2, rep_key ry hkey, v1.symm⟩, k v H1 _ e1 g1 rv q1⟩
  · rw [v2] at hd; cases hd
def wDIn (i : Nat) (wk : WE) : WE := fun env Q => wk env fun y => dcS i env fun ps => onSome (kOf y) fun k => Q (.bool (lkD ps k).isSome)
def wDNotIn (i : Nat) (wk : WE) : WE := fun env Q => wk env fun y => dcS i env fun ps => onSome (kOf y) fun k => Q (.bool (!(lkD ps k).isSome))
section
variable (i : Nat) {x : Str} {px : Pos} (hu : X.A.units + 1 < cLine) (he : DE C X e wk) (hN : X.N[i]? = some x) (hv : Vis X.env.scope x) (hd : (x == ("__debug__" : Str)) = false) (hcd : (x == ("__classdict__" : Str)) = false)
include hu he hN hv hd hcd
theorem din_core : ∃ t, PC X .In e (.Name x px) t ∧ ∀ (r : Addr) (H0 : Hp) (O : Nat → Option Addr) (σ : L2.St) (H : Hp) (env : SDs) (Q : D → Prop) (Qh : VK), SI C X.K r H0 O H σ env → wDIn i wk env Q →
    (∀ b H', Ext r H H' → Good C X.K r H' → Q (.bool b) → Qh (.bl b) H') → t σ H Qh := by
  obtain ⟨te, pe, se⟩ := he
  refine ⟨_, pc_din hu pe (pe_var hN hv hd hcd), fun r H0 O σ H env Q Qh S hw k => ?_⟩
  refine se r H0 O σ H env _ _ S hw fun y H1 dy e1 g1 ry q1 => ?_
  obtain ⟨a, kvs, ps, h1, q1, h2, h3, h4⟩ := dcS_at (S.step e1 g1) q1
  obtain ⟨key, hkey, q1⟩ := onSome_some q1
  refine ⟨.ref a, h1, a, valV kvs key, rfl, .inl ⟨kvs, key, h2, rep_key ry hkey, rfl⟩, ?_⟩
  have e : (valV kvs key).isSome = (lkD ps key).isSome := by
    rcases dk_val key h3 h4 with ⟨v, d', v1, v2, rv⟩ | ⟨v1, v2⟩ <;> rw [v1, v2] <;> rfl
  rw [e]
  exact k _ H1 e1 g1 q1
theorem dnotin_core : ∃ t, PC X .NotIn e (.Name x px) t ∧ ∀ (r : Addr) (H0 : Hp) (O : Nat → Option Addr) (σ : L2.St) (H : Hp) (env : SDs) (Q : D → Prop) (Qh : VK), SI C X.K r H0 O H σ env → wDNotIn i wk env Q →
    (∀ b H', Ext r H H' → Good C X.K r H' → Q (.bool b) → Qh (.bl b) H') → t σ H Qh := by
  obtain ⟨te, pe, se⟩ := he
  refine ⟨_, pc_dnotin hu pe (pe_var hN hv hd hcd), fun r H0 O σ H env Q Qh S hw k => ?_⟩
  refine se r H0 O σ H env _ _ S hw fun y H1 dy e1 g1 ry q1 => ?_
  obtain ⟨a, kvs, ps, h1, q1, h2, h3, h4⟩ := dcS_at (S.step e1 g1) q1
  obtain ⟨key, hkey, q1⟩ := onSome_some q1
  refine ⟨.ref a, h1, a, valV kvs key, rfl, .inl ⟨kvs, key, h2, rep_key ry hkey, rfl⟩, ?_⟩
  have e : (valV kvs key).isSome = (lkD ps key).isSome := by
    rcases dk_val key h3 h4 with ⟨v, d', v1, v2, rv⟩ | ⟨v1, v2⟩ <;> rw [v1, v2] <;> rfl
  rw [e]
  exact k _ H1 e1 g1 q1
end
section
variable (i : Nat) {x : Str} {px : Pos} (hu : X.A.units + 1 < cLine) (he : DE C X e wk) (hN : X.N[i]? = some x := by rfl) (hv : Vis X.env.scope x := by first | exact Or.inl rfl | exact Or.inr (Or.inl rfl) | exact Or.inr (Or.inr rfl)) (hd : (x == ("__debug__" : Str)) = false := by decide)
  (hcd : (x == ("__classdict__" : Str)) = false := by decide)
include hu he hN hv hd hcd
theorem de_din : DE C X (.Compare e [.In] [.Name x px] pos) (wDIn i wk) := by
  obtain ⟨t, pc, s⟩ := din_core (C := C) i hu he hN hv hd hcd
  exact ⟨t, pe_cmp pc, fun r H0 O σ H env Q Qh S hw k => s r H0 O σ H env Q Qh S hw fun b H' e' g q => k _ H' _ e' g .bl q⟩
theorem de_dnotin : DE C X (.Compare e [.NotIn] [.Name x px] pos) (wDNotIn i wk) := by
  obtain ⟨t, pc, s⟩ := dnotin_core (C := C) i hu he hN hv hd hcd
  exact ⟨t, pe_cmp pc, fun r H0 O σ H env Q Qh S hw k => s r H0 O σ H env Q Qh S hw fun b H' e' g q => k _ H' _ e' g .bl q⟩
end
/-- len(d) -/
def wDLen (i : Nat) : WE := fun env Q => onDic env i fun ps => Q (.int ps.length)
/-- list(d), list(d.values()) -/
def wDKeys (i : Nat) : WL := fun env Q => dcS i env fun ps => Q (ps.map fun p => kD p.1)
def wDVals (i : Nat) : WL := fun env Q => dcS i env fun ps => flats (ps.map (·.2)) = true ∧ Q (ps.map (·.2))
theorem reps_keys {K : PySem.W.Frag} {r : Addr} {H : Hp} {P : Addr → Prop} : ∀ {kvs : List (Key × V)} {ps : List (Key × D)}, kvs.map (·.1) = ps.map (·.1) → Reps K r H P (kvs.map fun kv => kV kv.1) (ps.map fun p => kD p.1)
  | [], [], _ => .nil
  | [], _ :: _, h => by simp at h
  | _ :: _, [], h => by simp at h
  | (k, v) :: kvs, (k', d) :: ps, h => by
    rw [List.map_cons, List.map_cons] at h
    injection h with h1 h2
    have h1 : k = k' := h1
    subst h1
    exact .cons (rep_kD k) (reps_keys h2)
theorem dn_dkeys (i : Nat) {x : Str} {px : Pos} (hc : X.calm = true) (hg : Gl X "list") (hm : X.mg "list" = none) (hN : X.N[i]? = some x := by rfl) (hv : Vis X.env.scope x := by first | exact Or.inl rfl | exact Or.inr (Or.inl rfl) | exact Or.inr (Or.inr rfl)) (hd : (x == ("__debug__" : Str)) = false := by decide)
    (hcd : (x == ("__classdict__" : Str)) = false := by decide) (he : starEach [.Name x px] X.env = (false, eval (.Name x px) X.env) :: starEach [] X.env := by rfl) : DN C X (.Call (.Name "list" p) [.Name x px] [] pos) (wDKeys i) := by
  refine ⟨_, pe_callTy (call_listD hc) hg hm (by decide +kernel : bootBuiltins "list" = some (.type "list")) (pa_cons (pe_var hN hv hd hcd) pa_nil he) (by decide) (by decide) he rfl, fun r H0 O σ H env Q Qh S hw k => ?_⟩
  obtain ⟨a, kvs, ps, h1, hw, h2, h3, h4⟩ := dcS_at S hw
  refine ⟨.ref a, h1, ?_⟩
  refine ⟨a, kvs, rfl, h2, fun p np => ?_⟩
  have e := Ext.upd (r := r) (o := .lst (kvs.map fun kv => kV kv.1)) np
  exact k p _ _ _ e (S.good.upd np) np upd_same (reps_keys h3) hw
theorem dn_dvals (i : Nat) {x : Str} {px apos mpos : Pos} (hc : X.calm = true) (hg : Gl X "list") (hm : X.mg "list" = none) (hN : X.N[i]? = some x := by rfl) (hv : Vis X.env.scope x := by first | exact Or.inl rfl | exact Or.inr (Or.inl rfl) | exact Or.inr (Or.inr rfl)) (hd : (x == ("__debug__" : Str)) = false := by decide)
    (hcd : (x == ("__classdict__" : Str)) = false := by decide) (hbase : attributeBase (.Name x px) "values" X.env (eval (.Name x px) X.env) = eval (.Name x px) X.env := by rfl) (hline : (apos.endLine == mpos.line) = true := by rfl)
    (na : starEach [Expr.Call (.Attribute (.Name x px) "values" apos) [] [] mpos] X.env = (false, eval (Expr.Call (.Attribute (.Name x px) "values" apos) [] [] mpos) X.env) :: starEach [] X.env := by rfl) :
    DN C X (.Call (.Name "list" p) [.Call (.Attribute (.Name x px) "values" apos) [] [] mpos] [] pos) (wDVals i) := by
  refine ⟨_, pe_listVals hc hg hm (pe_var hN hv hd hcd) hbase hline na, fun r H0 O σ H env Q Qh S hw k => ?_⟩
  obtain ⟨a, kvs, ps, h1, hw, h2, h3, h4⟩ := dcS_at S hw
  refine ⟨.ref a, h1, a, kvs, rfl, h2, fun p np => ?_⟩
  have e := Ext.upd (r := r) (o := .lst (kvs.map (·.2))) np
  exact k p _ _ _ e (S.good.upd np) np upd_same ((h4.flats hw.1 (P' := fun _ => False)).ext e (fun _ z => z.elim) fun _ z => z.elim) hw.2
theorem de_dlen (i : Nat) {x : Str} {px : Pos} (hg : Gl X "len") (hm : X.mg "len" = none) (hN : X.N[i]? = some x := by rfl) (hv : Vis X.env.scope x := by first | exact Or.inl rfl | exact Or.inr (Or.inl rfl) | exact Or.inr (Or.inr rfl)) (hd : (x == ("__debug__" : Str)) = false := by decide)
    (hcd : (x == ("__classdict__" : Str)) = false := by decide) (he : starEach [.Name x px] X.env = (false, eval (.Name x px) X.env) :: starEach [] X.env := by rfl) : DE C X (.Call (.Name "len" p) [.Name x px] [] pos) (wDLen i) := by
  refine ⟨_, pe_callB call_lenD hg hm (by decide +kernel : bootBuiltins "len" = some (.builtin "len")) (pa_cons (pe_var hN hv hd hcd) pa_nil he) (by decide) (by decide) he rfl, fun r H0 O σ H env Q Qh S hw k => ?_⟩
  obtain ⟨ps, he, hw⟩ := onDic_some hw
  obtain ⟨a, kvs, h1, h2, h3, h4, h5⟩ := S.dic i ps he
  refine ⟨.ref a, h2, a, kvs, rfl, h3, ?_⟩
  rw [dk_len h4]
  exact k _ H _ (.refl _ _) S.good .int hw
/-! new dicts -/
def DNd (C : List Addr) (X : Cx) (e : Expr) (w : WQ) : Prop := ∃ t, PE X e t ∧ ∀ (r : Addr) (H0 : Hp) (O : Nat → Option Addr) (σ : L2.St) (H : Hp) (env : SDs) (Q : List (Key × D) → Prop) (Qh : VK), SI C X.K r H0 O H σ env → w env Q →
  (∀ p H' ps, Ext r H H' → Good C X.K r H' → H p = none → ObjR X.K r H' (fun _ => False) p (SD.dic ps) → Q ps → Qh (.ref p) H') → t σ H Qh
def wD0 : WQ := fun _ Q => Q []
theorem dq_nil : DNd C X (.Dict [] [] pos) wD0 := ⟨_, pe_dnewK, fun r H0 O σ H env Q Qh S hw k p np => k p _ [] (.upd np) (S.good.upd np) np ⟨[], upd_same, rfl, .nil⟩ hw⟩
def wD1 (wk wx : WE) : WQ := fun env Q => wk env fun y => onSome (kOf y) fun k => wx env fun x => flat x = true ∧ Q [(k, x)]
theorem dq_one {pos : Pos} (he : DE C X e wk) (hf : DE C X f wx) : DNd C X (.Dict [some e] [f] pos) (wD1 wk wx) := by
  obtain ⟨te, pe, se⟩ := he
  obtain ⟨tf, pf, sf⟩ := hf
  refine ⟨_, pe_disp (pps_cons pe pf pps_nil) rfl rfl (by simp) (by simp), fun r H0 O σ H env Q Qh S hw k p np => ?_⟩
  have e0 := Ext.upd (r := r) (o := .dK []) np
  have S0 := S.step e0 (S.good.upd np)
  refine se r H0 O σ _ env _ _ S0 hw fun y H1 dy e1 g1 ry q1 => ?_
  obtain ⟨key, hkey, q1⟩ := onSome_some q1
  refine sf r H0 O σ H1 env _ _ (S0.step e1 g1) q1 fun z H2 dz e2 g2 rz q2 => ?_
  have E := e1.trans e2
  have hp : H2 p = some (.dK []) := E.dk upd_same
  have h0 : H0 p = none := S.ext.dom p np
  refine ⟨hp, [(key, z)], by rw [rep_key ry hkey]; rfl, by show 1 ≤ 15; decide, ?_⟩
  have em : mergeK [] [(key, z)] = [(key, z)] := rfl
  rw [em]
  have g3 : Good C X.K r (upd H2 p (.dK [(key, z)])) := by
    have pr := S.good.new np
    obtain ⟨c, ns, i, x, z', h2, h3, h4, h5⟩ := g2.row
    refine ⟨⟨c, ns, i, x, z', h2.same fun b o u e => by rw [upd_ne (fun z => by rw [z, hp] at e; cases e)]; exact e, h3, by rw [upd_ne (Ne.symm pr)]; exact h4, h5⟩, fun q hq => (g2.tab q hq).keep (fun b ps e => by rw [upd_ne (fun z => by rw [z, hp] at e; cases e)]; exact e) fun b o u e => by rw [upd_ne (fun z => by rw [z, hp] at e; cases e)]; exact e⟩
  have kT : ∀ b xs, SqT X.K H2 b xs → SqT X.K (upd H2 p (.dK [(key, z)])) b xs := fun b xs q => by
    rcases q with (q | ⟨o, q⟩) | q
    · exact .inl (.inl (by rw [upd_ne (fun z => by rw [z, hp] at q; cases q)]; exact q))
    · exact .inl (.inr ⟨o, by rw [upd_ne (fun z => by rw [z, hp] at q; cases q)]; exact q⟩)
    · exact .inr q
  refine k p _ [(key, dz)] ⟨fun b o q => ?_, fun b q => ?_, fun q hq => ?_⟩ g3 np ⟨[(key, z)], upd_same, rfl, .cons ((rz.flat q2.1 (P' := fun _ => False)).lift kT (fun _ _ z => z.elim) (fun _ _ z => z.elim) fun _ z => z.elim) .nil⟩ q2.2
  · rcases (e0.trans E).keep b o q with z | z | z
    · exact .inl z
    · exact .inr (.inl z)
    · exact .inr (.inr (by rw [upd_ne (fun y => by rw [y, np] at q; cases q)]; exact z))
  · by_cases hb : b = p
    · rw [hb]; exact np
    · rw [upd_ne hb] at q; exact (e0.trans E).dom b q
  · exact ((e0.trans E).tab q hq).keep (fun b ps e => by rw [upd_ne (fun z => by rw [z, hp] at e; cases e)]; exact e) fun b o u e => by rw [upd_ne (fun z => by rw [z, hp] at e; cases e)]; exact e
/-- as a value -/
def wDQ (wq : WQ) : WE := fun env Q => wq env fun ps => Q (.dict (dD ps))
theorem dq_de {wq : WQ} (h : DNd C X e wq) : DE C X e (wDQ wq) := by
  obtain ⟨t, pe, s⟩ := h
  refine ⟨t, pe, fun r H0 O σ H env Q Qh S hw k => s r H0 O σ H env _ Qh S hw fun p H' ps e g n h1 q => ?_⟩
  obtain ⟨kvs, h2, h3, h4⟩ := h1
  exact k (.ref p) H' _ e g (.dic (S.good.new n) (.inl h2) h3 rfl (h4.mono fun _ z => z.elim)) q
theorem un1 {k : Nat} (h : k + 64 < cLine) : k + 1 < cLine := by omega
/-- among parallel values -/
def wmDic (wq : WQ) (wm : WM) : WM := fun env Q => wq env fun ps => wm env fun sds => Q (SD.dic ps :: sds)
theorem dm_dic {wq : WQ} {wm : WM} (ha : DNd C X e wq) (hr : DM C X es wm) (hs : starEach (e :: es) X.env = (false, eval e X.env) :: starEach es X.env := by rfl) : DM C X (e :: es) (wmDic wq wm) := by
  obtain ⟨ta, pa, sa⟩ := ha
  obtain ⟨tb, pb, sb⟩ := hr
  refine ⟨_, pa_cons pa pb hs, fun r H0 O σ H env Q Qh S hw k => ?_⟩
  refine sa r H0 O σ H env _ _ S hw fun p H1 ps e1 g1 np o1 q1 => ?_
  refine sb r H0 O σ H1 env _ _ (S.step e1 g1) q1 fun ys H2 sds as e2 g2 r2 q2 => ?_
  have pr : p ≠ r := S.good.new np
  refine k (.ref p :: ys) H2 _ (p :: as) (e1.trans e2) g2 (.own np (o1.ext e2 pr (fun _ z => z.elim) fun _ z => z) (fun z => ?_) ?_) q2
  · have := r2.mem p z
    have this : H1 p = none := this
    obtain ⟨o, ho, _⟩ := o1.there
    rw [ho] at this; cases this
  · exact r2.ext (.refl _ _) (fun a z => e1.dom a z) fun a z => S.good.new (e1.dom a z)
/-- a dict of one's own is given up -/
def wDisD (i : Nat) (w : WS) : WS := fun K env => onDic env i fun ps => w K (env.set i (SD.val (.dict (dD ps))))
theorem ds_disD {st : Stmt} (i : Nat) (h : DS C X W st ws) : DS C X W st (wDisD i ws) := by
  obtain ⟨t, ps, s⟩ := h
  refine ⟨t, ps, fun r H0 O σ H env Kd E S hw m => ?_⟩
  obtain ⟨ds, he, hw⟩ := onDic_some hw
  exact s r H0 _ σ H _ Kd E (S.disownD he) hw (m.from .off)
/-! statements -/
def wSetD (i : Nat) (wq : WQ) : WS := fun K env => wq env fun ps => i < env.length ∧ K.nx (env.set i (SD.dic ps))
theorem ds_setD (i : Nat) {x : Str} {pos' : Pos} {wq : WQ} (hN : X.N.Nodup) (hi : X.N[i]? = some x) (hx : Loc X.env.scope x) (he : DNd C X e wq) (hs : swapsWith e (some (.Name x pos')) pos.line X.env = pure false := by rfl) (hf : X.fn x = true ∨ X.env.scope.names.lookup x = some .local := by first | exact .inl rfl | exact .inr rfl | assumption) : DS C X W (.Assign [.Name x pos'] e pos) (wSetD i wq) := by
  obtain ⟨t, pe, s⟩ := he
  refine ⟨_, ps_set hN hi hx pe hs hf, fun r H0 O σ H env Kd E S hw m => s r H0 O σ H env _ _ S hw fun p H1 ps e1 g1 n h1 q => ?_⟩
  exact m.nx _ _ H1 _ (.new e1 n) (S.set_obj e1 g1 q.1 n (h1.mono fun _ z => z.elim)) q.2
def wMovD (i j : Nat) : WS := fun K env => onDic env j fun ps => (i ≠ j ∧ i < env.length) ∧ K.nx ((env.set j SD.no).set i (SD.dic ps))
theorem ds_movD (i j : Nat) {x y : Str} {py : Pos} {pos' : Pos} (hN : X.N.Nodup) (hi : X.N[i]? = some x) (hx : Loc X.env.scope x) (hNj : X.N[j]? = some y := by rfl) (hvj : Vis X.env.scope y := by first | exact Or.inl rfl | exact Or.inr (Or.inl rfl) | exact Or.inr (Or.inr rfl)) (hdj : (y == ("__debug__" : Str)) = false := by decide)
    (hcdj : (y == ("__classdict__" : Str)) = false := by decide) (hs : swapsWith (.Name y py) (some (.Name x pos')) pos.line X.env = pure false := by rfl) (hf : X.fn x = true ∨ X.env.scope.names.lookup x = some .local := by first | exact .inl rfl | exact .inr rfl | assumption) : DS C X W (.Assign [.Name x pos'] (.Name y py) pos) (wMovD i j) := by
  refine ⟨_, ps_set hN hi hx (pe_var hNj hvj hdj hcdj) hs hf, fun r H0 O σ H env Kd E S hw m => ?_⟩
  obtain ⟨ps, he, hw⟩ := onDic_some hw
  obtain ⟨b, kvs, b1, b2, b3⟩ := S.dic j ps he
  exact ⟨.ref b, b2, m.nx _ _ H _ .mv (S.move hw.1.1 hw.1.2 he trivial b1) hw.2⟩
def wDPut (i : Nat) (wk wv : WE) : WS := fun K env => onDic env i fun ps => wv env fun d => wk env fun y => onSome (kOf y) fun k => (ps.length < 16777216 ∧ flat d = true) ∧ K.nx (env.set i (SD.dic (putD ps k d)))
theorem ds_dput (i : Nat) {x : Str} {px pos' : Pos} (hu : X.A.units + 1 < cLine) (hv : DE C X e w) (hk : DE C X b wb) (hN : X.N[i]? = some x := by rfl) (hvi : Vis X.env.scope x := by first | exact Or.inl rfl | exact Or.inr (Or.inl rfl) | exact Or.inr (Or.inr rfl)) (hd : (x == ("__debug__" : Str)) = false := by decide)
    (hcd : (x == ("__classdict__" : Str)) = false := by decide) (hs : swapsWith e (some (.Subscript (.Name x px) b pos')) pos.line X.env = pure false := by rfl) : DS C X W (.Assign [.Subscript (.Name x px) b pos'] e pos) (wDPut i wb w) := by
  obtain ⟨tv, pv, sv⟩ := hv
  obtain ⟨tb, pb, sb⟩ := hk
  refine ⟨_, ps_dput hu (pe_var hN hvi hd hcd) pb pv hs, fun r H0 O σ H env Kd E S hw m => ?_⟩
  obtain ⟨ps, he, hw⟩ := onDic_some hw
  refine sv r H0 O σ H env _ _ S hw fun v H1 d e1 g1 rv q1 => ?_
  obtain ⟨a, kvs, h1, h2, h3, h4, h5⟩ := S.dic i ps he
  refine ⟨.ref a, h2, ?_⟩
  refine sb r H0 O σ H1 env _ _ (S.step e1 g1) q1 fun y H3 dy e3 g3 ry q3 => ?_
  obtain ⟨key, hk, q3⟩ := onSome_some q3
  have E1 := e1.trans e3
  have hv := E1.dk h3
  have rv := (rv.flat q3.1.2 (P' := fun _ => False)).ext e3 (P' := fun _ => False) (fun _ z => z.elim) fun _ z => z
  obtain ⟨p1, p2⟩ := dk_put (k := key) h4 (h5.ext E1 (P' := fun _ => False) (fun _ z => z.elim) fun _ z => z) rv
  refine ⟨a, _, rfl, .inl ⟨kvs, key, hv, rep_key ry hk, by rw [sizeLine_eq, dk_len h4]; exact q3.1.1, rfl⟩, ?_⟩
  exact m.nx O σ _ _ ((Frm.of_ext E1).trans (.updO h1 hv trivial)) (((S.step e1 g1).step e3 g3).writeD he h1 hv p1 p2) q3.2
/-- for k in d, d one's own: it is given up; no return inside -/
def wForD (i : Nat) (wg : WG) (wb : WS) : WS := fun K env => onDic env i fun ps => forW wg wb { K with rt := fun _ => False } (ps.map fun p => kD p.1) (env.set i (SD.val (.dict (dD ps))))
theorem itm_keys {K : PySem.W.Frag} {r : Addr} {H : Hp} {a : Addr} {o : Obj} {kvs : List (Key × V)} {ps : List (Key × D)} (h : H a = some (.frz o (.dK kvs))) (hk : kvs.map (·.1) = ps.map (·.1)) : Itm K r (Itk a o kvs) H (ps.map fun p => kD p.1) := fun i => by
  refine ⟨fun d hd => ?_, fun hi => ⟨h, ?_⟩⟩
  · rw [List.getElem?_map] at hd
    cases q : ps[i]? with
    | none => rw [q] at hd; cases hd
    | some p =>
      rw [q] at hd
      cases hd
      have hi : i < ps.length := (List.getElem?_eq_some_iff.mp q).1
      refine ⟨⟨h, by rw [dk_len hk]; exact hi⟩, fun x H' ⟨e1, k, v, e2, e3⟩ => ?_⟩
      subst e1 e3
      have e4 : (kvs.map (·.1))[i]? = some k := by rw [List.getElem?_map, e2]; rfl
      rw [hk, List.getElem?_map, q] at e4
      cases e4
      exact ⟨.refl _, rep_kD _⟩
  · rw [List.length_map] at hi
    rw [dk_len hk]; omega
theorem ds_forD (i : Nat) {x : Str} {px : Pos} (hp : PassesOwn (model X.prog X.w) X.A X.env X.xe) (hc : X.calm = true) (hg : DG C X tg ix wg) (hb : DSs C X W body ws) (hN : X.N[i]? = some x := by rfl) (hvi : Vis X.env.scope x := by first | exact Or.inl rfl | exact Or.inr (Or.inl rfl) | exact Or.inr (Or.inr rfl)) (hd : (x == ("__debug__" : Str)) = false := by decide)
    (hcd : (x == ("__classdict__" : Str)) = false := by decide) (hs : ∀ y, foldedSetIterable (.Name x px) X.env y = pure y := by intro _; rfl) : DS C X W (.For tg (.Name x px) body [] pos) (wForD i wg ws) := by
  obtain ⟨tgt, pg, sg⟩ := hg
  obtain ⟨tb, pb, sb⟩ := hb
  refine ⟨_, ps_lock (ps_for hp hc (pi_keys (pe_var hN hvi hd hcd)) pg pb hs), fun r H0 O σ H env Kd E S hw m => ?_⟩
  obtain ⟨ps, he, q⟩ := onDic_some hw
  obtain ⟨a, kvs, h1, h2, h3, h4, h5⟩ := S.dic i ps he
  have ha0 := (S.new i a h1).1
  have hO : ∀ j, offO O i j ≠ some a := fun j z => (offO_some z).1 (S.inj j i a (offO_some z).2 h1)
  refine ⟨a, .dK kvs, h3, trivial, fun od => ?_⟩
  have S1 := (S.disownD he).swap hO ha0 (.inl h3) (.inr ⟨od, rfl⟩)
  -- the ends behind the lock
  have back : ∀ {O' H'}, Frm r (offO O i) (upd H a (.frz od (.dK kvs))) O' H' → H' a = some (.frz od (.dK kvs)) ∧ ∀ j, O' j ≠ some a := fun {O' H'} f => by
    refine ⟨f.frz upd_same, fun j z => ?_⟩
    rcases f.tops j a z with ⟨k, y⟩ | y
    · exact hO k y
    · rw [upd_same] at y; cases y
  have fr : ∀ {O' H'}, Frm r (offO O i) (upd H a (.frz od (.dK kvs))) O' H' → Frm r O H O' (upd H' a (.dK kvs)) := fun {O' H'} f => by
    refine ⟨fun b o hb => ?_, fun b hb => ?_, fun j b hb => ?_⟩
    · by_cases hba : b = a
      · subst hba
        rw [h3] at hb
        cases hb
        exact .inr (.inr (.inl ⟨⟨i, h1⟩, trivial⟩))
      · rcases f.keep b o (by rw [upd_ne hba]; exact hb) with z | z | ⟨⟨j, z⟩, y⟩ | z
        · exact .inl z
        · exact .inr (.inl z)
        · exact .inr (.inr (.inl ⟨⟨j, (offO_some z).2⟩, y⟩))
        · exact .inr (.inr (.inr (by rw [upd_ne hba]; exact z)))
    · by_cases hba : b = a
      · rw [hba, upd_same] at hb; cases hb
      · rw [upd_ne hba] at hb
        have z := f.dom b hb
        rw [upd_ne hba] at z
        exact z
    · rcases f.tops j b hb with ⟨k, y⟩ | y
      · exact .inl ⟨k, (offO_some y).2⟩
      · by_cases hba : b = a
        · rw [hba, upd_same] at y; cases y
        · rw [upd_ne hba] at y; exact .inr y
  have un : ∀ {O' H' σ' env'}, Frm r (offO O i) (upd H a (.frz od (.dK kvs))) O' H' → SI C X.K r H0 O' H' σ' env' → SI C X.K r H0 O' (upd H' a (.dK kvs)) σ' env' := fun {O' H' σ' env'} f S' =>
    S'.swap (back f).2 ha0 (.inr ⟨od, (back f).1⟩) (.inl rfl)
  refine ⟨.ref a, h2, a, od, rfl, .inl ⟨kvs, upd_same, ?_⟩⟩
  generalize hds : (ps.map fun p => kD p.1) = ds at q
  have it : ∀ O' H', Frm r (offO O i) (upd H a (.frz od (.dK kvs))) O' H' → Itm X.K r (Itk a od kvs) H' ds := fun O' H' f => by
    rw [← hds]; exact itm_keys (back f).1 h4
  refine ⟨fun j n σ' H' => n = ds.length - j ∧ j ≤ ds.length ∧ ∃ O' env', Frm r (offO O i) (upd H a (.frz od (.dK kvs))) O' H' ∧ SI C X.K r H0 O' H' σ' env' ∧ forW wg ws { Kd with rt := fun _ => False } (ds.drop j) env', ⟨ds.length, rfl, Nat.zero_le _, offO O i, _, .refl, S1, by simpa using q⟩, ?_⟩
  rintro j n σ2 H2 ⟨rfl, hj, O2, env2, f2, S2, q2⟩
  obtain ⟨a1, a2⟩ := it O2 H2 f2 j
  by_cases hlt : j < ds.length
  · have hd : ds[j]? = some ds[j] := by simp [hlt]
    obtain ⟨go, y⟩ := a1 _ hd
    rw [List.drop_eq_getElem_cons hlt] at q2
    refine .inr ⟨go, fun σ' H' => j + 1 ≤ ds.length ∧ ∃ O' env', Frm r (offO O i) (upd H a (.frz od (.dK kvs))) O' H' ∧ SI C X.K r H0 O' H' σ' env' ∧ forW wg ws { Kd with rt := fun _ => False } (ds.drop (j + 1)) env', fun σ' H' z => ⟨ds.length - (j + 1), by omega, rfl, z.1, z.2⟩, fun x H3 hy => ?_⟩
    obtain ⟨sm, rx⟩ := y x H3 hy
    have e3 : Ext r H2 H3 := .of_same sm
    have S3 := S2.step e3 (S2.good.same sm)
    have f3 := f2.trans (.of_ext e3)
    refine sg r H0 O2 σ2 H3 env2 x _ _ _ S3 rx q2 fun O4 σ4 env4 f4 S4 _ _ _ q4 => ?_
    have f14 := f3.trans f4
    refine sb r H0 O4 σ4 H3 env4 _ _ S4 q4 ⟨fun O' σ' H' env' f S' z => ⟨hlt, O', env', f14.trans f, S', z⟩, fun O' σ' H' env' f S' z => ?_, fun O' σ' H' env' f S' z => ⟨hlt, O', env', f14.trans f, S', z⟩, fun v H' d e' g' rr z => ?_, m.ex⟩
    · have F := f14.trans f
      exact ⟨(back F).1, m.nx O' σ' _ env' (fr F) (un F S') z⟩
    · exact z.elim
  · have e : j = ds.length := by omega
    subst e
    rw [List.drop_length] at q2
    exact .inl ⟨a2 rfl, (back f2).1, m.nx O2 σ2 _ env2 (fr f2) (un f2 S2) q2⟩
end
end DL
/-! loops and comprehensions of data, ratios -/
namespace DL
open PySem PySem.Spec PyProof.Rows L2 GX GxR

theorem forW_ind {wg : WG} {wb : WS} {K : KD} (I : List D → SDs → Prop) (hnil : ∀ env, I [] env → K.nx env)
    (hcons : ∀ d ds env (P : SDs → Prop), I (d :: ds) env → (∀ env', I ds env' → P env') → wg d env fun env' => wb { K with nx := P, ct := P, bk := K.nx } env') : ∀ ds env, I ds env → forW wg wb K ds env
  | [], env, h => hnil env h
  | d :: ds, env, h => hcons d ds env _ h fun env' h' => forW_ind I hnil hcons ds env' h'
theorem forW_idx {wg : WG} {wb : WS} {K : KD} {ds : List D} {env : SDs} (I : Nat → SDs → Prop) (h0 : I 0 env)
    (hstep : ∀ i d env (P : SDs → Prop), ds[i]? = some d → I i env → (∀ env', I (i + 1) env' → P env') → wg d env fun env' => wb { K with nx := P, ct := P, bk := K.nx } env') (hend : ∀ env, I ds.length env → K.nx env) : forW wg wb K ds env := by
  refine forW_ind (fun rest env => ∃ i, rest = ds.drop i ∧ i ≤ ds.length ∧ I i env) (fun env ⟨i, e, hi, h⟩ => ?_) (fun d rest env P ⟨i, e, hi, h⟩ hP => ?_) ds env ⟨0, by simp, Nat.zero_le _, h0⟩
  · have : i = ds.length := by
      have := congrArg List.length e
      simp at this
      omega
    subst this
    exact hend env h
  · have hlt : i < ds.length := by
      have := congrArg List.length e
      simp at this
      omega
    rw [List.drop_eq_getElem_cons hlt] at e
    injection e with e1 e2
    subst e1
    exact hstep i _ env P (by simp [hlt]) h fun env' h' => hP env' ⟨i + 1, e2, hlt, h'⟩
/-- over a range -/
theorem forW_rng {wg : WG} {wb : WS} {K : KD} {lo c : Int} {n : Nat} {env : SDs} (I : Nat → SDs → Prop) (h0 : I 0 env)
    (hstep : ∀ i env (P : SDs → Prop), i < n → I i env → (∀ env', I (i + 1) env' → P env') → wg (.int (lo + (i : Nat) * c)) env fun env' => wb { K with nx := P, ct := P, bk := K.nx } env') (hend : ∀ env, I n env → K.nx env) : forW wg wb K (rngD lo c n) env :=
  forW_idx I h0 (fun i d env P hd h hP => by
    obtain ⟨hi, rfl⟩ := rngD_get hd
    exact hstep i env P hi h hP) fun env h => hend env (by simpa [rngD] using h)
theorem lcW_idx {wg : WG} {wt : WT} {we : WE} {env : SDs} {Q : List D → Prop} {ds : List D} (I : Nat → List D → Prop) (h0 : I 0 [])
    (hstep : ∀ i d acc (P : List D → Prop), ds[i]? = some d → I i acc → (∀ acc', I (i + 1) acc' → P acc') → wg d env fun env' => wt env' fun c => if c = true then we env' fun y => (acc.length < 16777216 ∧ flat y = true) ∧ P (acc ++ [y]) else P acc)
    (hend : ∀ acc, I ds.length acc → Q acc) : lcW wg wt we env Q ds [] := by
  have go : ∀ (rest : List D) (acc : List D), (∃ i, rest = ds.drop i ∧ i ≤ ds.length ∧ I i acc) → lcW wg wt we env Q rest acc := by
    intro rest
    induction rest with
    | nil =>
      rintro acc ⟨i, e, hi, h⟩
      have : i = ds.length := by
        have := congrArg List.length e
        simp at this
        omega
      subst this
      exact hend acc h
    | cons d rest ih =>
      rintro acc ⟨i, e, hi, h⟩
      have hlt : i < ds.length := by
        have := congrArg List.length e
        simp at this
        omega
      rw [List.drop_eq_getElem_cons hlt] at e
      injection e with e1 e2
      subst e1
      exact hstep i _ acc _ (by simp [hlt]) h fun acc' h' => ih acc' ⟨i + 1, e2, hlt, h'⟩
  exact go ds [] ⟨0, by simp, Nat.zero_le _, h0⟩
/-- a plain map: each item's value is known -/
theorem lcW_map {wg : WG} {wt : WT} {we : WE} {env : SDs} {Q : List D → Prop} {ds : List D} (f : Nat → D) (hl : ds.length < 16777216)
    (hstep : ∀ i d (P : D → Prop), ds[i]? = some d → P (f i) → wg d env fun env' => wt env' fun c => c = true ∧ we env' fun y => flat y = true ∧ P y) (hend : Q ((List.range ds.length).map f))
    (hm : ∀ d (A B : SDs → Prop), (∀ e, A e → B e) → wg d env A → wg d env B := by intro d A B h z; exact z.imp id (h _))
    (hm2 : ∀ e (A B : Bool → Prop), (∀ c, A c → B c) → wt e A → wt e B := by intro e A B h z; exact h _ z)
    (hm3 : ∀ e (A B : D → Prop), (∀ c, A c → B c) → we e A → we e B) : lcW wg wt we env Q ds [] := by
  refine lcW_idx (fun i acc => acc = (List.range i).map f) rfl (fun i d acc P hd h hP => ?_) fun acc h => by rw [h]; exact hend
  have hi : i < ds.length := (List.getElem?_eq_some_iff.mp hd).1
  refine hm d _ _ (fun e he => ?_) (hstep i d (fun y => P (acc ++ [y])) hd (hP _ (by rw [h, List.range_succ, List.map_append]; rfl)))
  refine hm2 e _ _ (fun c hc => ?_) he
  rw [if_pos hc.1]
  exact hm3 e _ _ (fun y hy => ⟨⟨by rw [h, List.length_map, List.length_range]; omega, hy.1⟩, hy.2⟩) hc.2
/-- a generator expression whose items are all known -/
theorem genW_of {wg : WG} {wt : WT} {we : WE} {env : SDs} {Q : List D → Prop} {ds : List D} (f : Nat → D) (h : ∀ i d, ds[i]? = some d → wg d env fun env' => wt env' fun c => if c = true then we env' fun y => some (f i) = some y else some (f i) = none) (q : Q ((List.range ds.length).map f)) : genW wg wt we env Q ds [] := by
  have go : ∀ (rest acc : List D) (i : Nat), rest = ds.drop i → i ≤ ds.length → acc = (List.range i).map f → genW wg wt we env Q rest acc := by
    intro rest
    induction rest with
    | nil =>
      intro acc i e hi ha
      have : i = ds.length := by
        have := congrArg List.length e
        simp at this
        omega
      subst this ha
      exact q
    | cons d rest ih =>
      intro acc i e hi ha
      have hlt : i < ds.length := by
        have := congrArg List.length e
        simp at this
        omega
      rw [List.drop_eq_getElem_cons hlt] at e
      injection e with e1 e2
      subst e1
      refine ⟨some (f i), h i _ (by simp [hlt]), ih _ (i + 1) e2 hlt ?_⟩
      rw [ha, List.range_succ, List.map_append]; rfl
  exact go ds [] 0 (by simp) (Nat.zero_le _) rfl
/-- all: a known word for each item -/
theorem gen_all {wg : WG} {wt : WT} {we : WE} {env : SDs} {Q : D → Prop} {ds : List D} (b : Nat → Bool) (h : ∀ i d, ds[i]? = some d → wg d env fun env' => wt env' fun c => if c = true then we env' fun y => some (PyData.bool (b i)) = some y else some (PyData.bool (b i)) = none) (q : Q (.bool ((List.range ds.length).all b))) :
    genW wg wt we env (fun ys => fBools (fun bs => bs.all id) ys Q) ds [] :=
  genW_of (fun i => .bool (b i)) h ⟨(List.range ds.length).map b, by rw [List.map_map]; rfl, by show Q (.bool (((List.range ds.length).map b).all id)); rw [List.all_map]; exact q⟩
theorem gen_any {wg : WG} {wt : WT} {we : WE} {env : SDs} {Q : D → Prop} {ds : List D} (b : Nat → Bool) (h : ∀ i d, ds[i]? = some d → wg d env fun env' => wt env' fun c => if c = true then we env' fun y => some (PyData.bool (b i)) = some y else some (PyData.bool (b i)) = none) (q : Q (.bool ((List.range ds.length).any b))) :
    genW wg wt we env (fun ys => fBools (fun bs => bs.any id) ys Q) ds [] :=
  genW_of (fun i => .bool (b i)) h ⟨(List.range ds.length).map b, by rw [List.map_map]; rfl, by show Q (.bool (((List.range ds.length).map b).any id)); rw [List.any_map]; exact q⟩

/-! ### ratios -/
/-- the pair of a ratio -/
def rt (q : Rat) : D := .tuple [.int q.num, .int q.den]
theorem flat_rt (q : Rat) : flat (rt q) = true := rfl
theorem rt_pos {t b : Int} (hb : 0 < b) : rt ((t : Rat) / b) = .tuple [.int (t.fdiv (Int.gcd t b : Nat)), .int (b.fdiv (Int.gcd t b : Nat))] := by
  have hg : (0 : Int) ≤ (Int.gcd t b : Nat) := Int.natCast_nonneg _
  unfold rt
  rw [← Rat.divInt_eq_div, Rat.num_divInt, Rat.den_divInt, if_neg (by omega), Int.fdiv_eq_ediv_of_nonneg _ hg, Int.fdiv_eq_ediv_of_nonneg _ hg, Int.sign_eq_one_of_pos hb, Int.one_mul, Int.gcd_comm b t]
  congr 3
  rw [Int.natCast_ediv, Int.natAbs_of_nonneg (by omega)]
theorem rt_neg {t b : Int} (hb : b < 0) : rt ((t : Rat) / b) = .tuple [.int (t.fdiv (0 - (Int.gcd t b : Nat))), .int (b.fdiv (0 - (Int.gcd t b : Nat)))] := by
  have hg : (0 : Int) < (Int.gcd t b : Nat) := by
    have : Int.gcd t b ≠ 0 := fun z => by have := (Int.gcd_eq_zero_iff.mp z).2; omega
    omega
  have h1 : (Int.gcd t b : Int) ∣ t := Int.gcd_dvd_left _ _
  have h2 : (Int.gcd t b : Int) ∣ b := Int.gcd_dvd_right _ _
  have key : ∀ x : Int, (Int.gcd t b : Int) ∣ x → x.fdiv (0 - (Int.gcd t b : Nat)) = (-x) / (Int.gcd t b : Nat) := fun x ⟨k, hk⟩ => by
    generalize (Int.gcd t b : Int) = g at *
    subst hk
    rw [show g * k = (0 - g) * (-k) by grind, Int.mul_fdiv_cancel_left _ (by omega), show -((0 - g) * -k) = g * (-k) by grind, Int.mul_ediv_cancel_left _ (by omega)]
  unfold rt
  rw [← Rat.divInt_eq_div, Rat.num_divInt, Rat.den_divInt, if_neg (by omega), key t h1, key b h2, Int.sign_eq_neg_one_of_neg hb, Int.gcd_comm b t]
  congr 3
  · congr 1; omega
  · congr 1
    rw [Int.natCast_ediv]
    congr 1
    omega
theorem rt_num (q : Rat) : q = (q.num : Rat) / (q.den : Int) := by
  rw [← Rat.divInt_eq_div, Rat.num_divInt_den]
theorem den_pos (q : Rat) : (0 : Int) < q.den := by have := q.den_pos; omega
theorem rt_inj {p q : Rat} (h : rt p = rt q) : p = q := by
  unfold rt at h
  injection h with h
  injection h with h1 h2
  injection h2 with h2 _
  injection h1 with h1
  injection h2 with h2
  exact Rat.ext h1 (by omega)
/-! sizes -/
structure szLe (n : Nat) (q : Rat) : Prop where
  num : q.num.natAbs < 2 ^ n
  den : q.den < 2 ^ n
theorem mulFits_of {i j : Int} {n m : Nat} (hi : i.natAbs < 2 ^ n) (hj : j.natAbs < 2 ^ m) (h : n + m ≤ 90000000) : MulFits i j := by
  have l : ∀ (x : Int) (k : Nat), x.natAbs < 2 ^ k → x.natAbs.log2 ≤ k := fun x k hx => by
    by_cases hz : x.natAbs = 0
    · rw [hz]; simp
    · have := (Nat.log2_lt hz).mpr hx
      omega
  have h1 := l i n hi
  have h2 := l j m hj
  unfold MulFits
  omega
theorem szLe.mono {n m : Nat} {q : Rat} (h : szLe n q) (hm : n ≤ m) : szLe m q := ⟨Nat.lt_of_lt_of_le h.1 (Nat.pow_le_pow_right (by omega) hm), Nat.lt_of_lt_of_le h.2 (Nat.pow_le_pow_right (by omega) hm)⟩
/-- a reduced ratio is no larger -/
theorem szLe_div {t b : Int} {n : Nat} (hb : b ≠ 0) (ht : t.natAbs < 2 ^ n) (hb2 : b.natAbs < 2 ^ n) : szLe n ((t : Rat) / b) := by
  rw [← Rat.divInt_eq_div]
  refine ⟨?_, ?_⟩
  · rw [Rat.num_divInt]
    refine Nat.lt_of_le_of_lt ?_ ht
    have : (b.sign * t).natAbs = t.natAbs := by
      rw [Int.natAbs_mul, Int.natAbs_sign_of_ne_zero hb, Nat.one_mul]
    rw [← this]
    exact Int.natAbs_ediv_le_natAbs _ _
  · rw [Rat.den_divInt, if_neg hb]
    exact Nat.lt_of_le_of_lt (Nat.div_le_self _ _) hb2
theorem pow_mul_lt {a b n m : Nat} (h1 : a < 2 ^ n) (h2 : b < 2 ^ m) : a * b < 2 ^ (n + m) := by
  rw [Nat.pow_add]
  by_cases hb : b = 0
  · subst hb; rw [Nat.mul_zero]; exact Nat.mul_pos (Nat.pow_pos (by omega)) (Nat.pow_pos (by omega))
  · exact Nat.lt_of_lt_of_le (Nat.mul_lt_mul_of_pos_right h1 (by omega)) (Nat.mul_le_mul_left _ (Nat.le_of_lt h2))
theorem add_eq_div (a b : Rat) : a + b = ((a.num * b.den + b.num * a.den : Int) : Rat) / ((a.den * b.den : Int) : Rat) := by
  have ha : ((a.den : Int) : Rat) ≠ 0 := by have := den_pos a; simp; omega
  have hb : ((b.den : Int) : Rat) ≠ 0 := by have := den_pos b; simp; omega
  have e1 := rt_num a
  have e2 := rt_num b
  rw [Rat.intCast_add, Rat.intCast_mul, Rat.intCast_mul, Rat.intCast_mul]
  generalize ((a.den : Int) : Rat) = x at *
  generalize ((b.den : Int) : Rat) = y at *
  generalize (a.num : Rat) = u at *
  generalize (b.num : Rat) = v at *
  subst e1 e2
  grind
theorem mul_eq_div (a b : Rat) : a * b = ((a.num * b.num : Int) : Rat) / ((a.den * b.den : Int) : Rat) := by
  have ha : ((a.den : Int) : Rat) ≠ 0 := by have := den_pos a; simp; omega
  have hb : ((b.den : Int) : Rat) ≠ 0 := by have := den_pos b; simp; omega
  have e1 := rt_num a
  have e2 := rt_num b
  rw [Rat.intCast_mul, Rat.intCast_mul]
  generalize ((a.den : Int) : Rat) = x at *
  generalize ((b.den : Int) : Rat) = y at *
  generalize (a.num : Rat) = u at *
  generalize (b.num : Rat) = v at *
  subst e1 e2
  grind
theorem szLe.add {n m : Nat} {a b : Rat} (ha : szLe n a) (hb : szLe m b) : szLe (n + m + 1) (a + b) := by
  rw [add_eq_div]
  have h1 := pow_mul_lt ha.1 hb.2
  have h2 := pow_mul_lt hb.1 ha.2
  have h3 := pow_mul_lt ha.2 hb.2
  refine szLe_div (Int.ne_of_gt (Int.mul_pos (den_pos a) (den_pos b))) ?_ ?_
  · refine Nat.lt_of_le_of_lt (Int.natAbs_add_le _ _) ?_
    rw [Int.natAbs_mul, Int.natAbs_mul, Int.natAbs_natCast, Int.natAbs_natCast, Nat.pow_succ]
    rw [Nat.add_comm m n] at h2
    omega
  · rw [Int.natAbs_mul, Int.natAbs_natCast, Int.natAbs_natCast, Nat.pow_succ]
    omega
theorem szLe.mul {n m : Nat} {a b : Rat} (ha : szLe n a) (hb : szLe m b) : szLe (n + m) (a * b) := by
  rw [mul_eq_div]
  refine szLe_div (Int.ne_of_gt (Int.mul_pos (den_pos a) (den_pos b))) ?_ ?_
  · rw [Int.natAbs_mul]; exact pow_mul_lt ha.1 hb.1
  · rw [Int.natAbs_mul, Int.natAbs_natCast, Int.natAbs_natCast]; exact pow_mul_lt ha.2 hb.2
/-- the size of a ratio -/
def sz (q : Rat) : Nat := max q.num.natAbs.log2 q.den.log2 + 1
theorem szLe_sz (q : Rat) : szLe (sz q) q := by
  have l : ∀ x k : Nat, x.log2 < k → x < 2 ^ k := fun x k h => by
    by_cases hz : x = 0
    · rw [hz]; exact Nat.pow_pos (by omega)
    · exact (Nat.log2_lt hz).mp h
  exact ⟨l _ _ (by unfold sz; omega), l _ _ (by unfold sz; omega)⟩
end DL
/-! what the defs promise -/
namespace DL
open PySem PySem.Spec PyProof.Rows L2 GX GxR
def tI (L : List Int) : D := .tuple (L.map .int)
def fs_ratio : FS := fun ds Q => ∃ t b : Int, ds = [.int t, .int b] ∧ b ≠ 0 ∧ Q (rt ((t : Rat) / b))
def fs_is_in : FS := fun ds Q => ∃ v l m : Int, ds = [.int v, .int l, .int m] ∧ Q (.bool (decide (l ≤ v ∧ v ≤ m)))
def fs_need_time : FS := fun ds Q => ∃ v l m : Int, ds = [.int v, .int l, .int m] ∧ (l ≤ v ∧ v ≤ m) ∧ Q .none
/-- a life table -/
structure LivesOk (L : List Int) : Prop where
  l2 : 2 ≤ L.length
  l40 : L.length ≤ 40
  in_ : ∀ x ∈ L, 0 ≤ x ∧ x ≤ 1000000
  fall : ∀ (i : Nat) (x y : Int), L[i]? = some x → L[i + 1]? = some y → y ≤ x
  last : ∀ x, L[L.length - 1]? = some x → x = 0
  pos : ∀ (i : Nat) (x : Int), i + 1 < L.length → L[i]? = some x → 0 < x
def fs_are_lives : FS := fun ds Q => ∃ L : List Int, ds = [tI L] ∧ LivesOk L ∧ Q (.bool true)
def fs_need_lives : FS := fun ds Q => ∃ L : List Int, ds = [tI L] ∧ LivesOk L ∧ Q .none
def fs_need_age : FS := fun ds Q => ∃ (L : List Int) (a : Int), ds = [tI L, .int a] ∧ 0 ≤ a ∧ a ≤ (L.length : Int) - 2 ∧ Q .none
/-- the living at an age -/
def lv (L : List Int) (a : Nat) : Int := L[a]?.getD 0
def fs_living : FS := fun ds Q => ∃ (L : List Int) (a : Nat), ds = [tI L, .int a] ∧ Q (.int (lv L a))
def fs_lives_on : FS := fun ds Q => ∃ (L : List Int) (a y : Nat), ds = [tI L, .int a, .int y] ∧ LivesOk L ∧ a + 2 ≤ L.length ∧ y ≤ 60 ∧ Q (rt ((lv L (a + y) : Int) / (lv L a : Int)))
def fs_dies_in : FS := fun ds Q => ∃ (L : List Int) (a y : Nat), ds = [tI L, .int a, .int y] ∧ LivesOk L ∧ a + 2 ≤ L.length ∧ y ≤ 60 ∧ Q (rt (((lv L (a + y) - lv L (a + y + 1) : Int) : Rat) / (lv L a : Int)))
def fs_ages_left : FS := fun ds Q => ∃ (L : List Int) (a : Nat), ds = [tI L, .int a] ∧ LivesOk L ∧ a + 2 ≤ L.length ∧ Q (rt (((L.drop (a + 1)).sum : Int) / (lv L a : Int)))
def fs_law_pick : FS := fun ds Q => (∃ xs, (ds = [rowD, .list xs] ∨ ds = [rowD, .tuple xs]) ∧ xs ≠ [] ∧ flats xs = true ∧ ∀ d ∈ xs, Q d)
/-- plain data of some depth -/
def plainD : Nat → D → Bool
  | _, .none => true
  | _, .bool _ => true
  | _, .int _ => true
  | _, .str x => PyData.strOk x
  | n + 1, .tuple ds => ds.all (plainD n) && decide (ds.length < 16777216)
  | n + 1, .list ds => ds.all (plainD n) && decide (ds.length < 16777216)
  | _, _ => false
def fs_alike (n : Nat) : FS := fun ds Q => ∃ d, ds = [d, d] ∧ plainD n d = true ∧ Q (.bool true)
def fs_law_alike : FS := fs_alike 4
def fs_law_ratio : FS := fs_ratio
def fs_law_plus : FS := fun ds Q => ∃ (a b : Rat) (n m : Nat), ds = [rt a, rt b] ∧ szLe n a ∧ szLe m b ∧ n + m ≤ 80000000 ∧ Q (rt (a + b))
def fs_law_by : FS := fun ds Q => ∃ (a b : Rat) (n m : Nat), ds = [rt a, rt b] ∧ szLe n a ∧ szLe m b ∧ n + m ≤ 80000000 ∧ Q (rt (a * b))
def szSum (qs : List Rat) : Nat := (qs.map fun q => sz q + 1).sum
def fs_law_sum : FS := fun ds Q => ∃ qs : List Rat, (ds = [.list (qs.map rt)] ∨ ds = [.tuple (qs.map rt)]) ∧ szSum qs ≤ 30000000 ∧ Q (rt qs.sum)
def fs_law_lives : FS := fun ds Q => ∃ m : Nat, ds = [rowD, .int m] ∧ 1 ≤ m ∧ m ≤ 38 ∧ ∀ L, LivesOk L → L.length ≤ m + 1 → Q (tI L)
end DL
namespace DL
open PySem PySem.Spec PyProof.Rows L2 GX GxR
def fs_plus : FS := fs_law_plus
def fs_minus : FS := fun ds Q => ∃ (a b : Rat) (n m : Nat), ds = [rt a, rt b] ∧ szLe n a ∧ szLe m b ∧ n + m ≤ 80000000 ∧ Q (rt (a - b))
def fs_by : FS := fs_law_by
def fs_over : FS := fun ds Q => ∃ (a b : Rat) (n m : Nat), ds = [rt a, rt b] ∧ szLe n a ∧ szLe m b ∧ n + m ≤ 80000000 ∧ b ≠ 0 ∧ Q (rt (a / b))
def rpw (q : Rat) (n : Int) : Rat := if 0 ≤ n then q ^ n.toNat else q⁻¹ ^ (-n).toNat
def fs_power : FS := fun ds Q => ∃ (q : Rat) (n : Int) (k : Nat), ds = [rt q, .int n] ∧ 1 ≤ k ∧ szLe k q ∧ (n < 0 → q ≠ 0) ∧ k * n.natAbs ≤ 10000000 ∧ n.natAbs ≤ 1000000 ∧ Q (rt (rpw q n))
def fs_is_ratio : FS := fun ds Q => ∃ q : Rat, ds = [rt q] ∧ Q (.bool true)
/-- a rate of interest -/
def RateOk (q : Rat) : Prop := q.num.natAbs ≤ 1000 ∧ q.den ≤ 1000 ∧ -(q.den : Int) < q.num
def fs_need_rate : FS := fun ds Q => ∃ q : Rat, ds = [rt q] ∧ RateOk q ∧ Q .none
def fs_growth : FS := fun ds Q => ∃ q : Rat, ds = [rt q] ∧ Q (rt (1 + q))
def ratesL : List (Int × Nat) := [(0, 1), (1, 10), (1, 20), (1, 2), (1, 1), (-1, 2), (-1, 10), (3, 1), (1, 3), (7, 100)]
def RateIn (q : Rat) : Prop := ∃ p ∈ ratesL, q = mkRat p.1 p.2
def fs_law_rate : FS := fun ds Q => ds = [rowD] ∧ ∀ q, RateIn q → Q (rt q)
/-- a year's discount -/
def vv (r : Rat) : Rat := (1 + r)⁻¹
def fs_law_values : FS := fun ds Q => ∃ (L : List Int) (r : Rat), ds = [tI L, rt r] ∧ RateOk r ∧ L.length ≤ 1000 ∧ (∀ x ∈ L, x.natAbs < 2 ^ 40) ∧ Q (.list ((List.range L.length).map fun k => rt ((L.getD k 0 : Int) * vv r ^ k)))
def PayOk (L : List Int) : Prop := L.length ≤ 40 ∧ ∀ x ∈ L, -1000000 ≤ x ∧ x ≤ 1000000
def fs_need_payments : FS := fun ds Q => ∃ L : List Int, ds = [tI L] ∧ PayOk L ∧ Q .none
def fs_values_of : FS := fun ds Q => ∃ (L : List Int) (r : Rat), ds = [tI L, rt r] ∧ RateOk r ∧ L.length ≤ 1000 ∧ (∀ x ∈ L, x.natAbs < 2 ^ 40) ∧ Q (.list ((List.range L.length).map fun k => rt ((L.getD k 0 : Int) * vv r ^ k)))
/-- a sum over the first n -/
def sumR (f : Nat → Rat) : Nat → Rat
  | 0 => 0
  | n + 1 => sumR f n + f n
def fs_value_at : FS := fun ds Q => ∃ (L : List Int) (r : Rat) (t : Nat), ds = [tI L, rt r, .int t] ∧ PayOk L ∧ RateOk r ∧ t ≤ 60 ∧ Q (rt (sumR (fun k => (L.getD k 0 : Int) * vv r ^ k) L.length * (1 + r) ^ t))
def fs_shifted : FS := fun ds Q => ∃ (L : List Int) (y : Nat), ds = [tI L, .int y] ∧ PayOk L ∧ L.length + y ≤ 40 ∧ Q (tI (List.replicate y 0 ++ L))
def fs_level : FS := fun ds Q => ∃ y : Nat, ds = [.int y] ∧ y ≤ 40 ∧ Q (tI (List.replicate y 1))
-- loans
def LoanOk (a : Int) (r : Rat) (y : Nat) : Prop := (1 ≤ a ∧ a ≤ 1000000) ∧ RateOk r ∧ 1 ≤ y ∧ y ≤ 40
def fs_need_loan : FS := fun ds Q => ∃ (a : Int) (r : Rat) (y : Nat), ds = [.int a, rt r, .int y] ∧ LoanOk a r y ∧ Q .none
/-- 1 a year for y years, from the next one on -/
def worthR (r : Rat) (y : Nat) : Rat := sumR (fun k => vv r ^ (k + 1)) y
def fs_worth_of : FS := fun ds Q => ∃ (r : Rat) (y : Nat), ds = [rt r, .int y] ∧ RateOk r ∧ y ≤ 1000 ∧ Q (rt (worthR r y))
/-- what is left behind k years -/
def leftR (r p a : Rat) : Nat → Rat
  | 0 => a
  | k + 1 => leftR r p a k - (p - r * leftR r p a k)
def loanRow (r p a : Rat) (k : Nat) : D := .tuple [rt p, rt (r * leftR r p a k), rt (p - r * leftR r p a k), rt (leftR r p a (k + 1))]
def fs_loan_rows : FS := fun ds Q => ∃ (a : Int) (r : Rat) (y : Nat), ds = [.int a, rt r, .int y] ∧ LoanOk a r y ∧ Q (.tuple ((List.range y).map (loanRow r ((a : Rat) / worthR r y) a)))
def fs_left_of_loan : FS := fun ds Q => ∃ (a : Int) (r : Rat) (y t : Nat), ds = [.int a, rt r, .int y, .int t] ∧ LoanOk a r y ∧ t ≤ y ∧ Q (rt ((a : Rat) / worthR r y * worthR r (y - t)))
/-- a policy -/
structure Pol where
  L : List Int
  a : Nat
  r : Rat
  A : List Int
  B : List Int
  p : Rat
  y : Nat
namespace Pol
def d (P : Pol) : D := .tuple [tI P.L, .int P.a, rt P.r, tI P.A, tI P.B, rt P.p, .int P.y]
structure Ok (P : Pol) : Prop where
  lives : LivesOk P.L
  age : P.a + 2 ≤ P.L.length
  rate : RateOk P.r
  alive : PayOk P.A
  dead : PayOk P.B
  prem : P.p.num.natAbs ≤ 1000000 * P.p.den ∧ P.p.den ≤ 1000000
  years : P.y ≤ 40
/-- .. with a premium of any kind -/
structure OkR (P : Pol) : Prop where
  lives : LivesOk P.L
  age : P.a + 2 ≤ P.L.length
  rate : RateOk P.r
  alive : PayOk P.A
  dead : PayOk P.B
  szp : szLe 60000 P.p
  years : P.y ≤ 40
def n (P : Pol) : Nat := P.L.length - 1 - P.a
/-- those who live at a time -/
def l (P : Pol) (t : Nat) : Int := lv P.L (P.a + t)
/-- the part that dies -/
def q (P : Pol) (t : Nat) : Rat := ((P.l t - P.l (t + 1) : Int) : Rat) / (P.l t : Int)
def net (P : Pol) (t : Nat) : Rat := (P.A.getD t 0 : Int) - (if t < P.y then P.p else 0)
def dead' (P : Pol) (t : Nat) : Rat := (P.B.getD t 0 : Int)
/-- what a year's payments are worth, for all who began -/
def flow (P : Pol) (t : Nat) : Rat := (P.l t : Rat) * P.net t + vv P.r * (((P.l t - P.l (t + 1) : Int) : Rat) * P.dead' t)
/-- the reserve -/
def V (P : Pol) (t : Nat) : Rat := sumR (fun j => vv P.r ^ j * P.flow (t + j)) (P.n - t) / (P.l t : Int)
/-- the common fund's money -/
def money (P : Pol) : Nat → Rat
  | 0 => 0
  | t + 1 => (P.money t - P.l t * P.net t) * (1 + P.r) - ((P.l t - P.l (t + 1) : Int) : Rat) * P.dead' t
end Pol
def PremOk (p : Rat) : Prop := p.num.natAbs ≤ 1000000 * p.den ∧ p.den ≤ 1000000
def fs_need_premium : FS := fun ds Q => ∃ p : Rat, ds = [rt p] ∧ PremOk p ∧ Q .none
def fs_need_policy : FS := fun ds Q => ∃ P : Pol, ds = [P.d] ∧ P.Ok ∧ Q .none
def fs_entry : FS := fun ds Q => ∃ (A : List Int) (t : Nat), ds = [tI A, .int t] ∧ Q (rt (A.getD t 0 : Int))
def fs_span_of : FS := fun ds Q => ∃ P : Pol, ds = [P.d] ∧ P.Ok ∧ Q (.int P.n)
def fs_part_dying : FS := fun ds Q => ∃ (P : Pol) (t : Nat), ds = [P.d, .int t] ∧ P.Ok ∧ t < P.n ∧ Q (rt (P.q t))
def fs_net_alive : FS := fun ds Q => ∃ (P : Pol) (t : Nat), ds = [P.d, .int t] ∧ P.Ok ∧ Q (rt (P.net t))
def fs_reserves_of : FS := fun ds Q => ∃ P : Pol, ds = [P.d] ∧ P.Ok ∧ Q (.list ((List.range (P.n + 1)).map fun t => rt (P.V t)))
def fs_worth : FS := fun ds Q => ∃ P : Pol, ds = [P.d] ∧ P.Ok ∧ Q (rt (P.V 0))
def fs_changed : FS := fun ds Q => ∃ (P : Pol) (A B : List Int) (p : Rat), ds = [P.d, tI A, tI B, rt p] ∧ Q { P with A := A, B := B, p := p }.d
def fs_reserves : FS := fun ds Q => ∃ P : Pol, ds = [P.d] ∧ P.Ok ∧ Q (.tuple ((List.range P.n).map fun t => rt (P.V t)))
def fs_fund : FS := fun ds Q => ∃ P : Pol, ds = [P.d] ∧ P.Ok ∧ Q (.tuple ((List.range P.n).map fun t => rt (P.money t / (P.l t : Int))))
def fs_split_premiums : FS := fun ds Q => ∃ P : Pol, ds = [P.d] ∧ P.Ok ∧ Q (.tuple ((List.range P.n).map fun t => .tuple [rt (vv P.r * P.V (t + 1) - P.V t), rt (vv P.r * P.q t * (P.dead' t - P.V (t + 1)))]))
-- the laws' own
def fs_law_policy : FS := fun ds Q => ds = [rowD] ∧ ∀ P : Pol, P.Ok → P.L.length ≤ 8 → P.y ≤ 8 → (∀ x ∈ P.A, x.natAbs ≤ 1000) → (∀ x ∈ P.B, x.natAbs ≤ 1000) → P.p.num.natAbs ≤ 100 → P.p.den ≤ 4 → Q P.d
def fs_law_span : FS := fun ds Q => ∃ P : Pol, ds = [P.d] ∧ P.OkR ∧ Q (.int P.n)
def fs_law_entry : FS := fun ds Q => ∃ (A : List Int) (t : Nat), ds = [tI A, .int t] ∧ Q (.int (A.getD t 0))
def fs_law_net : FS := fun ds Q => ∃ (P : Pol) (t : Nat), ds = [P.d, .int t] ∧ P.OkR ∧ Q (rt (P.net t))
def fs_law_step : FS := fun ds Q => ∃ (r : Rat) (y : Nat), ds = [rt r, .int y] ∧ RateOk r ∧ y ≤ 100 ∧ Q (rt (vv r ^ y))
def fs_law_from : FS := fun ds Q => ∃ (P : Pol) (t : Nat), ds = [P.d, .int t] ∧ P.OkR ∧ t < P.n ∧ Q (rt (P.V t))
def N_ratio : List Str := ["top", "bottom", "common"]
def w_ratio : WS :=
 (wSeq (wSet 2 (wIf (wTst (wBin (dCmp fun i j => decide (j < i)) (wVar 1) (wC (.int 0)))) (wFn fGcd (wCons (wVar 0) (wCons (wVar 1) wNil))) (wBin dSub (wC (.int 0)) (wFn fGcd (wCons (wVar 0) (wCons (wVar 1) wNil))))))
 (wRet (wTup (wCons (wBin dFdiv (wVar 0) (wVar 2)) (wCons (wBin dFdiv (wVar 1) (wVar 2)) wNil)))))
def N_plus : List Str := ["one", "other"]
def w_plus : WS :=
 (wRet (wFn (fun ds Q => ds.length = 2 ∧ fs_ratio ds Q) (wCons (wBin dPlus (wBin dMul (wBin dIx (wVar 0) (wC (.int 0))) (wBin dIx (wVar 1) (wC (.int 1)))) (wBin dMul (wBin dIx (wVar 1) (wC (.int 0))) (wBin dIx (wVar 0) (wC (.int 1))))) (wCons (wBin dMul (wBin dIx (wVar 0) (wC (.int 1))) (wBin dIx (wVar 1) (wC (.int 1)))) wNil))))
def N_by : List Str := ["one", "other"]
def w_by : WS :=
 (wRet (wFn (fun ds Q => ds.length = 2 ∧ fs_ratio ds Q) (wCons (wBin dMul (wBin dIx (wVar 0) (wC (.int 0))) (wBin dIx (wVar 1) (wC (.int 0)))) (wCons (wBin dMul (wBin dIx (wVar 0) (wC (.int 1))) (wBin dIx (wVar 1) (wC (.int 1)))) wNil))))
def N_power : List Str := ["one", "times", "found", "base", "turn"]
def w_power : WS :=
 (wSeq (wPar [2, 3] (wmVal (wTup (wCons (wC (.int 1)) (wCons (wC (.int 1)) wNil))) (wmVal (wIf (wTst (wBin (dCmp fun i j => decide (j ≤ i)) (wVar 1) (wC (.int 0)))) (wVar 0) (wFn (fun ds Q => ds.length = 2 ∧ fs_ratio ds Q) (wCons (wBin dIx (wVar 0) (wC (.int 1))) (wCons (wBin dIx (wVar 0) (wC (.int 0))) wNil)))) wmNil)))
 (wSeq (wFor (wFnL fRng1 (wCons (wFn fAbs (wCons (wVar 1) wNil)) wNil)) (wgN 4) (wSet 2 (wFn (fun ds Q => ds.length = 2 ∧ fs_by ds Q) (wCons (wVar 2) (wCons (wVar 3) wNil)))))
 (wRet (wVar 2))))
def N_is_ratio : List Str := ["value", "one"]
def w_is_ratio : WS :=
 (wSeq (wIfS (wOr (wNot (wTru (wIsi "tuple" (wVar 0)))) (wTst (wBin dNe (wFn fLen (wCons (wVar 0) wNil)) (wC (.int 2))))) (wRet (wC (.bool false))) wNext)
 (wSeq (wIfS (wNot (wTru (wGen (fBools fun bs => bs.all id) (wSeq1 (wVar 0)) (wgN 1) wYes (wAndV (wIsi "int" (wVar 1)) (wNotV (wIsi "bool" (wVar 1)))) [1]))) (wRet (wC (.bool false))) wNext)
 (wRet (wAndV (wBin (dCmp fun i j => decide (j < i)) (wBin dIx (wVar 0) (wC (.int 1))) (wC (.int 0))) (wBin dEq (wFn fGcd (wCons (wBin dIx (wVar 0) (wC (.int 0))) (wCons (wBin dIx (wVar 0) (wC (.int 1))) wNil))) (wC (.int 1)))))))
def N_is_in : List Str := ["value", "least", "most"]
def w_is_in : WS :=
 (wRet (wAndV (wIsi "int" (wVar 0)) (wAndV (wNotV (wIsi "bool" (wVar 0))) (wChain (dCmp fun i j => decide (i ≤ j)) (dCmp fun i j => decide (i ≤ j)) (wVar 1) (wVar 0) (wVar 2)))))
def N_need_rate : List Str := ["rate"]
def w_need_rate : WS :=
 (wIfS (wOr (wNot (wTru (wFn (fun ds Q => ds.length = 1 ∧ fs_is_ratio ds Q) (wCons (wVar 0) wNil)))) (wOr (wTst (wBin (dCmp fun i j => decide (j < i)) (wFn fAbs (wCons (wBin dIx (wVar 0) (wC (.int 0))) wNil)) (wC (.int 1000)))) (wOr (wTst (wBin (dCmp fun i j => decide (j < i)) (wBin dIx (wVar 0) (wC (.int 1))) (wC (.int 1000)))) (wTst (wBin (dCmp fun i j => decide (i ≤ j)) (wBin dIx (wVar 0) (wC (.int 0))) (wBin dSub (wC (.int 0)) (wBin dIx (wVar 0) (wC (.int 1))))))))) wNever wNext)
def N_need_payments : List Str := ["payments", "one"]
def w_need_payments : WS :=
 (wSeq (wIfS (wOr (wNot (wTru (wIsi "tuple" (wVar 0)))) (wTst (wBin (dCmp fun i j => decide (j < i)) (wFn fLen (wCons (wVar 0) wNil)) (wC (.int 40))))) wNever wNext)
 (wIfS (wNot (wTru (wGen (fBools fun bs => bs.all id) (wSeq1 (wVar 0)) (wgN 1) wYes (wFn (fun ds Q => ds.length = 3 ∧ fs_is_in ds Q) (wCons (wVar 1) (wCons (wBin dSub (wC (.int 0)) (wC (.int 1000000))) (wCons (wC (.int 1000000)) wNil)))) [1]))) wNever wNext))
def N_need_time : List Str := ["time", "least", "most"]
def w_need_time : WS :=
 (wIfS (wNot (wTru (wFn (fun ds Q => ds.length = 3 ∧ fs_is_in ds Q) (wCons (wVar 0) (wCons (wVar 1) (wCons (wVar 2) wNil)))))) wNever wNext)
def N_growth : List Str := ["rate"]
def w_growth : WS :=
 (wRet (wFn (fun ds Q => ds.length = 2 ∧ fs_ratio ds Q) (wCons (wBin dPlus (wBin dIx (wVar 0) (wC (.int 0))) (wBin dIx (wVar 0) (wC (.int 1)))) (wCons (wBin dIx (wVar 0) (wC (.int 1))) wNil))))
def N_values_of : List Str := ["payments", "rate", "found", "here", "step", "one"]
def w_values_of : WS :=
 (wSeq (wPar [2, 3, 4] (wmOwn (wLst wNil) (wmVal (wTup (wCons (wC (.int 1)) (wCons (wC (.int 1)) wNil))) (wmVal (wFn (fun ds Q => ds.length = 2 ∧ fs_power ds Q) (wCons (wFn (fun ds Q => ds.length = 1 ∧ fs_growth ds Q) (wCons (wVar 1) wNil)) (wCons (wUn dNeg (wC (.int 1))) wNil))) wmNil))))
 (wSeq (wFor (wVarS 0) (wgN 5) (wSeq (wApp 2 (wFn (fun ds Q => ds.length = 2 ∧ fs_by ds Q) (wCons (wTup (wCons (wVar 5) (wCons (wC (.int 1)) wNil))) (wCons (wVar 3) wNil))))
 (wSet 3 (wFn (fun ds Q => ds.length = 2 ∧ fs_by ds Q) (wCons (wVar 3) (wCons (wVar 4) wNil))))))
 (wRetO 2)))
def N_value_at : List Str := ["payments", "rate", "time", "found", "one"]
def w_value_at : WS :=
 (wSeq (wDrop (wFn (fun ds Q => ds.length = 1 ∧ fs_need_payments ds Q) (wCons (wVar 0) wNil)))
 (wSeq (wDrop (wFn (fun ds Q => ds.length = 1 ∧ fs_need_rate ds Q) (wCons (wVar 1) wNil)))
 (wSeq (wDrop (wFn (fun ds Q => ds.length = 3 ∧ fs_need_time ds Q) (wCons (wVar 2) (wCons (wC (.int 0)) (wCons (wC (.int 60)) wNil)))))
 (wSeq (wSet 3 (wTup (wCons (wC (.int 0)) (wCons (wC (.int 1)) wNil))))
 (wSeq (wFor (wFnN 2 fs_values_of (wCons (wVar 0) (wCons (wVar 1) wNil))) (wgN 4) (wSet 3 (wFn (fun ds Q => ds.length = 2 ∧ fs_plus ds Q) (wCons (wVar 3) (wCons (wVar 4) wNil)))))
 (wRet (wFn (fun ds Q => ds.length = 2 ∧ fs_by ds Q) (wCons (wVar 3) (wCons (wFn (fun ds Q => ds.length = 2 ∧ fs_power ds Q) (wCons (wFn (fun ds Q => ds.length = 1 ∧ fs_growth ds Q) (wCons (wVar 1) wNil)) (wCons (wVar 2) wNil))) wNil)))))))))
def N_shifted : List Str := ["payments", "years"]
def w_shifted : WS :=
 (wSeq (wDrop (wFn (fun ds Q => ds.length = 1 ∧ fs_need_payments ds Q) (wCons (wVar 0) wNil)))
 (wSeq (wDrop (wFn (fun ds Q => ds.length = 3 ∧ fs_need_time ds Q) (wCons (wVar 1) (wCons (wC (.int 0)) (wCons (wC (.int 40)) wNil)))))
 (wSeq (wIfS (wTst (wBin (dCmp fun i j => decide (j < i)) (wBin dPlus (wFn fLen (wCons (wVar 0) wNil)) (wVar 1)) (wC (.int 40)))) wNever wNext)
 (wRet (wBin dPlus (wBin dRep (wTup (wCons (wC (.int 0)) wNil)) (wVar 1)) (wVar 0))))))
def N_level : List Str := ["many"]
def w_level : WS :=
 (wSeq (wDrop (wFn (fun ds Q => ds.length = 3 ∧ fs_need_time ds Q) (wCons (wVar 0) (wCons (wC (.int 0)) (wCons (wC (.int 40)) wNil)))))
 (wRet (wBin dRep (wTup (wCons (wC (.int 1)) wNil)) (wVar 0))))
def N_law_pick : List Str := ["_law_row", "_law_things"]
def w_law_pick : WS :=
 (wRet (wBin dIx (wVar 1) (wFn (fun ds Q => ds.length = 2 ∧ fs_law_taken ds Q) (wCons (wVar 0) (wCons (wFn fLen (wCons (wVar 1) wNil)) wNil)))))
def N_law_alike : List Str := ["_law_found", "_law_due", "_law_k"]
def w_law_alike (fs_law_alike : FS) : WS :=
 (wSeq (wIfS (wTru (wIsi2 "tuple" "list" (wVar 1))) (wSeq (wIfS (wOr (wNot (wTru (wIsi2 "tuple" "list" (wVar 0)))) (wTst (wBin dNe (wIsi "list" (wVar 0)) (wIsi "list" (wVar 1))))) (wRet (wC (.bool false))) wNext)
 (wSeq (wIfS (wTst (wBin dNe (wFn fLen (wCons (wVar 0) wNil)) (wFn fLen (wCons (wVar 1) wNil)))) (wRet (wC (.bool false))) wNext)
 (wRet (wBin dEq (wDe (wLc (wFnL fRng1 (wCons (wFn fLen (wCons (wVar 1) wNil)) wNil)) (wgN 2) (wNot (wTru (wFn (fun ds Q => ds.length = 2 ∧ fs_law_alike ds Q) (wCons (wBin dIx (wVar 0) (wVar 2)) (wCons (wBin dIx (wVar 1) (wVar 2)) wNil))))) (wVar 2) [2])) (wDe (wLst wNil)))))) wNext)
 (wSeq (wIfS (wOr (wTst (wBin dIsN (wVar 1) (wC .none))) (wTru (wIsi "str" (wVar 1)))) (wRet (wAndV (wBin dEq (wVar 0) (wVar 1)) (wBin dEq (wIsi "str" (wVar 0)) (wIsi "str" (wVar 1))))) wNext)
 (wRet (wAndV (wIsi "int" (wVar 0)) (wAndV (wBin dEq (wIsi "bool" (wVar 0)) (wIsi "bool" (wVar 1))) (wBin dEq (wVar 0) (wVar 1)))))))
def N_law_ratio : List Str := ["_law_top", "_law_bottom", "_law_one", "_law_other"]
def w_law_ratio : WS :=
 (wSeq (wPar [2, 3] (wmVal (wFn fAbs (wCons (wVar 0) wNil)) (wmVal (wFn fAbs (wCons (wVar 1) wNil)) wmNil)))
 (wSeq (wWhile (wTst (wBin dNe (wVar 3) (wC (.int 0)))) (wPar [2, 3] (wmVal (wVar 3) (wmVal (wBin dMod (wFn fInt (wCons (wVar 2) wNil)) (wVar 3)) wmNil))))
 (wRet (wIf (wTst (wBin (dCmp fun i j => decide (j < i)) (wVar 1) (wC (.int 0)))) (wTup (wCons (wBin dFdiv (wVar 0) (wVar 2)) (wCons (wBin dFdiv (wVar 1) (wVar 2)) wNil))) (wTup (wCons (wBin dSub (wC (.int 0)) (wBin dFdiv (wVar 0) (wVar 2))) (wCons (wBin dSub (wC (.int 0)) (wBin dFdiv (wVar 1) (wVar 2))) wNil)))))))
def N_law_plus : List Str := ["_law_one", "_law_other"]
def w_law_plus : WS :=
 (wRet (wFn (fun ds Q => ds.length = 2 ∧ fs_law_ratio ds Q) (wCons (wBin dPlus (wBin dMul (wBin dIx (wVar 0) (wC (.int 0))) (wBin dIx (wVar 1) (wC (.int 1)))) (wBin dMul (wBin dIx (wVar 1) (wC (.int 0))) (wBin dIx (wVar 0) (wC (.int 1))))) (wCons (wBin dMul (wBin dIx (wVar 0) (wC (.int 1))) (wBin dIx (wVar 1) (wC (.int 1)))) wNil))))
def N_law_by : List Str := ["_law_one", "_law_other"]
def w_law_by : WS :=
 (wRet (wFn (fun ds Q => ds.length = 2 ∧ fs_law_ratio ds Q) (wCons (wBin dMul (wBin dIx (wVar 0) (wC (.int 0))) (wBin dIx (wVar 1) (wC (.int 0)))) (wCons (wBin dMul (wBin dIx (wVar 0) (wC (.int 1))) (wBin dIx (wVar 1) (wC (.int 1)))) wNil))))
def N_law_sum : List Str := ["_law_some", "_law_found", "_law_one"]
def w_law_sum : WS :=
 (wSeq (wSet 1 (wTup (wCons (wC (.int 0)) (wCons (wC (.int 1)) wNil))))
 (wSeq (wFor (wVarS 0) (wgN 2) (wSet 1 (wFn (fun ds Q => ds.length = 2 ∧ fs_law_plus ds Q) (wCons (wVar 1) (wCons (wVar 2) wNil)))))
 (wRet (wVar 1))))
def N_law_rate : List Str := ["_law_row"]
def w_law_rate : WS :=
 (wRet (wFn (fun ds Q => ds.length = 2 ∧ fs_law_pick ds Q) (wCons (wVar 0) (wCons (wDe (wLst (wCons (wTup (wCons (wC (.int 0)) (wCons (wC (.int 1)) wNil))) (wCons (wTup (wCons (wC (.int 1)) (wCons (wC (.int 10)) wNil))) (wCons (wTup (wCons (wC (.int 1)) (wCons (wC (.int 20)) wNil))) (wCons (wTup (wCons (wC (.int 1)) (wCons (wC (.int 2)) wNil))) (wCons (wTup (wCons (wC (.int 1)) (wCons (wC (.int 1)) wNil))) (wCons (wTup (wCons (wUn dNeg (wC (.int 1))) (wCons (wC (.int 2)) wNil))) (wCons (wTup (wCons (wUn dNeg (wC (.int 1))) (wCons (wC (.int 10)) wNil))) (wCons (wTup (wCons (wC (.int 3)) (wCons (wC (.int 1)) wNil))) (wCons (wTup (wCons (wC (.int 1)) (wCons (wC (.int 3)) wNil))) (wCons (wTup (wCons (wC (.int 7)) (wCons (wC (.int 100)) wNil))) wNil)))))))))))) wNil))))
def N_law_values : List Str := ["_law_payments", "_law_rate_here", "_law_found", "_law_here", "_law_one"]
def w_law_values : WS :=
 (wSeq (wPar [2, 3] (wmOwn (wLst wNil) (wmVal (wTup (wCons (wC (.int 1)) (wCons (wC (.int 1)) wNil))) wmNil)))
 (wSeq (wFor (wVarS 0) (wgN 4) (wSeq (wApp 2 (wFn (fun ds Q => ds.length = 2 ∧ fs_law_ratio ds Q) (wCons (wBin dMul (wVar 4) (wBin dIx (wVar 3) (wC (.int 0)))) (wCons (wBin dIx (wVar 3) (wC (.int 1))) wNil))))
 (wSet 3 (wFn (fun ds Q => ds.length = 2 ∧ fs_law_ratio ds Q) (wCons (wBin dMul (wBin dIx (wVar 3) (wC (.int 0))) (wBin dIx (wVar 1) (wC (.int 1)))) (wCons (wBin dMul (wBin dIx (wVar 3) (wC (.int 1))) (wBin dPlus (wBin dIx (wVar 1) (wC (.int 0))) (wBin dIx (wVar 1) (wC (.int 1))))) wNil))))))
 (wRetO 2)))
def N_are_lives : List Str := ["lives", "one", "k"]
def w_are_lives : WS :=
 (wSeq (wIfS (wOr (wNot (wTru (wIsi "tuple" (wVar 0)))) (wNot (wTst (wChain (dCmp fun i j => decide (i ≤ j)) (dCmp fun i j => decide (i ≤ j)) (wC (.int 2)) (wFn fLen (wCons (wVar 0) wNil)) (wC (.int 40)))))) (wRet (wC (.bool false))) wNext)
 (wSeq (wIfS (wNot (wTru (wGen (fBools fun bs => bs.all id) (wSeq1 (wVar 0)) (wgN 1) wYes (wFn (fun ds Q => ds.length = 3 ∧ fs_is_in ds Q) (wCons (wVar 1) (wCons (wC (.int 0)) (wCons (wC (.int 1000000)) wNil)))) [1]))) (wRet (wC (.bool false))) wNext)
 (wRet (wAndV (wNotV (wGen (fBools fun bs => bs.any id) (wFnL fRng1 (wCons (wBin dSub (wFn fLen (wCons (wVar 0) wNil)) (wC (.int 1))) wNil)) (wgN 2) wYes (wBin (dCmp fun i j => decide (i < j)) (wBin dIx (wVar 0) (wVar 2)) (wBin dIx (wVar 0) (wBin dPlus (wVar 2) (wC (.int 1))))) [2])) (wAndV (wBin dEq (wBin dIx (wVar 0) (wUn dNeg (wC (.int 1)))) (wC (.int 0))) (wBin (dCmp fun i j => decide (j < i)) (wBin dIx (wVar 0) (wUn dNeg (wC (.int 2)))) (wC (.int 0))))))))
def N_need_lives : List Str := ["lives"]
def w_need_lives : WS :=
 (wIfS (wNot (wTru (wFn (fun ds Q => ds.length = 1 ∧ fs_are_lives ds Q) (wCons (wVar 0) wNil)))) wNever wNext)
def N_need_age : List Str := ["lives", "age"]
def w_need_age : WS :=
 (wIfS (wNot (wTru (wFn (fun ds Q => ds.length = 3 ∧ fs_is_in ds Q) (wCons (wVar 1) (wCons (wC (.int 0)) (wCons (wBin dSub (wFn fLen (wCons (wVar 0) wNil)) (wC (.int 2))) wNil)))))) wNever wNext)
def N_living : List Str := ["lives", "age"]
def w_living : WS :=
 (wRet (wIf (wTst (wBin (dCmp fun i j => decide (i < j)) (wVar 1) (wFn fLen (wCons (wVar 0) wNil)))) (wBin dIx (wVar 0) (wVar 1)) (wC (.int 0))))
def N_lives_on : List Str := ["lives", "age", "years"]
def w_lives_on : WS :=
 (wSeq (wDrop (wFn (fun ds Q => ds.length = 1 ∧ fs_need_lives ds Q) (wCons (wVar 0) wNil)))
 (wSeq (wDrop (wFn (fun ds Q => ds.length = 2 ∧ fs_need_age ds Q) (wCons (wVar 0) (wCons (wVar 1) wNil))))
 (wSeq (wDrop (wFn (fun ds Q => ds.length = 3 ∧ fs_need_time ds Q) (wCons (wVar 2) (wCons (wC (.int 0)) (wCons (wC (.int 60)) wNil)))))
 (wRet (wFn (fun ds Q => ds.length = 2 ∧ fs_ratio ds Q) (wCons (wFn (fun ds Q => ds.length = 2 ∧ fs_living ds Q) (wCons (wVar 0) (wCons (wBin dPlus (wVar 1) (wVar 2)) wNil))) (wCons (wBin dIx (wVar 0) (wVar 1)) wNil)))))))
def N_dies_in : List Str := ["lives", "age", "years"]
def w_dies_in : WS :=
 (wSeq (wDrop (wFn (fun ds Q => ds.length = 1 ∧ fs_need_lives ds Q) (wCons (wVar 0) wNil)))
 (wSeq (wDrop (wFn (fun ds Q => ds.length = 2 ∧ fs_need_age ds Q) (wCons (wVar 0) (wCons (wVar 1) wNil))))
 (wSeq (wDrop (wFn (fun ds Q => ds.length = 3 ∧ fs_need_time ds Q) (wCons (wVar 2) (wCons (wC (.int 0)) (wCons (wC (.int 60)) wNil)))))
 (wRet (wFn (fun ds Q => ds.length = 2 ∧ fs_ratio ds Q) (wCons (wBin dSub (wFn (fun ds Q => ds.length = 2 ∧ fs_living ds Q) (wCons (wVar 0) (wCons (wBin dPlus (wVar 1) (wVar 2)) wNil))) (wFn (fun ds Q => ds.length = 2 ∧ fs_living ds Q) (wCons (wVar 0) (wCons (wBin dPlus (wBin dPlus (wVar 1) (wVar 2)) (wC (.int 1))) wNil)))) (wCons (wBin dIx (wVar 0) (wVar 1)) wNil)))))))
def N_ages_left : List Str := ["lives", "age"]
def w_ages_left : WS :=
 (wSeq (wDrop (wFn (fun ds Q => ds.length = 1 ∧ fs_need_lives ds Q) (wCons (wVar 0) wNil)))
 (wSeq (wDrop (wFn (fun ds Q => ds.length = 2 ∧ fs_need_age ds Q) (wCons (wVar 0) (wCons (wVar 1) wNil))))
 (wRet (wFn (fun ds Q => ds.length = 2 ∧ fs_ratio ds Q) (wCons (wFn fSumA (wCons (wSl (wVar 0) (wPart (wBin dPlus (wVar 1) (wC (.int 1)))) wNoP) wNil)) (wCons (wBin dIx (wVar 0) (wVar 1)) wNil))))))
def N_law_lives : List Str := ["_law_row", "_law_most", "_law_found", "_law_here", "_law_k"]
def w_law_lives : WS :=
 (wSeq (wPar [2, 3] (wmOwn (wLst wNil) (wmVal (wFn (fun ds Q => ds.length = 2 ∧ fs_law_pick ds Q) (wCons (wVar 0) (wCons (wDe (wLst (wCons (wC (.int 1)) (wCons (wC (.int 2)) (wCons (wC (.int 5)) (wCons (wC (.int 10)) (wCons (wC (.int 100)) (wCons (wC (.int 1000000)) wNil)))))))) wNil))) wmNil)))
 (wSeq (wFor (wFnL fRng1 (wCons (wBin dPlus (wC (.int 1)) (wFn (fun ds Q => ds.length = 2 ∧ fs_law_taken ds Q) (wCons (wVar 0) (wCons (wVar 1) wNil)))) wNil)) (wgN 4) (wSeq (wApp 2 (wVar 3))
 (wSet 3 (wIf (wTst (wBin (dCmp fun i j => decide (j < i)) (wFn (fun ds Q => ds.length = 2 ∧ fs_law_taken ds Q) (wCons (wVar 0) (wCons (wC (.int 4)) wNil))) (wC (.int 0)))) (wFn fMax (wCons (wC (.int 1)) (wCons (wBin dSub (wVar 3) (wFn (fun ds Q => ds.length = 2 ∧ fs_law_taken ds Q) (wCons (wVar 0) (wCons (wBin dPlus (wVar 3) (wC (.int 1))) wNil)))) wNil))) (wVar 3)))))
 (wRet (wBin dPlus (wFn fTuple (wCons (wVar 2) wNil)) (wTup (wCons (wC (.int 0)) wNil))))))
def N_minus : List Str := ["one", "other"]
def w_minus : WS :=
 (wRet (wFn (fun ds Q => ds.length = 2 ∧ fs_ratio ds Q) (wCons (wBin dSub (wBin dMul (wBin dIx (wVar 0) (wC (.int 0))) (wBin dIx (wVar 1) (wC (.int 1)))) (wBin dMul (wBin dIx (wVar 1) (wC (.int 0))) (wBin dIx (wVar 0) (wC (.int 1))))) (wCons (wBin dMul (wBin dIx (wVar 0) (wC (.int 1))) (wBin dIx (wVar 1) (wC (.int 1)))) wNil))))
def N_over : List Str := ["one", "other"]
def w_over : WS :=
 (wRet (wFn (fun ds Q => ds.length = 2 ∧ fs_ratio ds Q) (wCons (wBin dMul (wBin dIx (wVar 0) (wC (.int 0))) (wBin dIx (wVar 1) (wC (.int 1)))) (wCons (wBin dMul (wBin dIx (wVar 0) (wC (.int 1))) (wBin dIx (wVar 1) (wC (.int 0)))) wNil))))
def N_need_loan : List Str := ["amount", "rate", "years"]
def w_need_loan : WS :=
 (wSeq (wIfS (wNot (wTru (wFn (fun ds Q => ds.length = 3 ∧ fs_is_in ds Q) (wCons (wVar 0) (wCons (wC (.int 1)) (wCons (wC (.int 1000000)) wNil)))))) wNever wNext)
 (wSeq (wDrop (wFn (fun ds Q => ds.length = 1 ∧ fs_need_rate ds Q) (wCons (wVar 1) wNil)))
 (wDrop (wFn (fun ds Q => ds.length = 3 ∧ fs_need_time ds Q) (wCons (wVar 2) (wCons (wC (.int 1)) (wCons (wC (.int 40)) wNil)))))))
def N_worth_of : List Str := ["rate", "years", "found", "here", "step", "turn"]
def w_worth_of : WS :=
 (wSeq (wPar [2, 3, 4] (wmVal (wTup (wCons (wC (.int 0)) (wCons (wC (.int 1)) wNil))) (wmVal (wTup (wCons (wC (.int 1)) (wCons (wC (.int 1)) wNil))) (wmVal (wFn (fun ds Q => ds.length = 2 ∧ fs_power ds Q) (wCons (wFn (fun ds Q => ds.length = 1 ∧ fs_growth ds Q) (wCons (wVar 0) wNil)) (wCons (wUn dNeg (wC (.int 1))) wNil))) wmNil))))
 (wSeq (wFor (wFnL fRng1 (wCons (wVar 1) wNil)) (wgN 5) (wSeq (wSet 3 (wFn (fun ds Q => ds.length = 2 ∧ fs_by ds Q) (wCons (wVar 3) (wCons (wVar 4) wNil))))
 (wSet 2 (wFn (fun ds Q => ds.length = 2 ∧ fs_plus ds Q) (wCons (wVar 2) (wCons (wVar 3) wNil))))))
 (wRet (wVar 2))))
def N_loan_rows : List Str := ["amount", "rate", "years", "paid", "left", "found", "turn", "interest", "repaid"]
def w_loan_rows : WS :=
 (wSeq (wDrop (wFn (fun ds Q => ds.length = 3 ∧ fs_need_loan ds Q) (wCons (wVar 0) (wCons (wVar 1) (wCons (wVar 2) wNil)))))
 (wSeq (wPar [3, 4, 5] (wmVal (wFn (fun ds Q => ds.length = 2 ∧ fs_over ds Q) (wCons (wTup (wCons (wVar 0) (wCons (wC (.int 1)) wNil))) (wCons (wFn (fun ds Q => ds.length = 2 ∧ fs_worth_of ds Q) (wCons (wVar 1) (wCons (wVar 2) wNil))) wNil))) (wmVal (wTup (wCons (wVar 0) (wCons (wC (.int 1)) wNil))) (wmOwn (wLst wNil) wmNil))))
 (wSeq (wFor (wFnL fRng1 (wCons (wVar 2) wNil)) (wgN 6) (wSeq (wSet 7 (wFn (fun ds Q => ds.length = 2 ∧ fs_by ds Q) (wCons (wVar 1) (wCons (wVar 4) wNil))))
 (wSeq (wSet 8 (wFn (fun ds Q => ds.length = 2 ∧ fs_minus ds Q) (wCons (wVar 3) (wCons (wVar 7) wNil))))
 (wSeq (wSet 4 (wFn (fun ds Q => ds.length = 2 ∧ fs_minus ds Q) (wCons (wVar 4) (wCons (wVar 8) wNil))))
 (wApp 5 (wTup (wCons (wVar 3) (wCons (wVar 7) (wCons (wVar 8) (wCons (wVar 4) wNil))))))))))
 (wRet (wFn fTuple (wCons (wVar 5) wNil))))))
def N_left_of_loan : List Str := ["amount", "rate", "years", "time"]
def w_left_of_loan : WS :=
 (wSeq (wDrop (wFn (fun ds Q => ds.length = 3 ∧ fs_need_loan ds Q) (wCons (wVar 0) (wCons (wVar 1) (wCons (wVar 2) wNil)))))
 (wSeq (wDrop (wFn (fun ds Q => ds.length = 3 ∧ fs_need_time ds Q) (wCons (wVar 3) (wCons (wC (.int 0)) (wCons (wVar 2) wNil)))))
 (wRet (wFn (fun ds Q => ds.length = 2 ∧ fs_by ds Q) (wCons (wFn (fun ds Q => ds.length = 2 ∧ fs_over ds Q) (wCons (wTup (wCons (wVar 0) (wCons (wC (.int 1)) wNil))) (wCons (wFn (fun ds Q => ds.length = 2 ∧ fs_worth_of ds Q) (wCons (wVar 1) (wCons (wVar 2) wNil))) wNil))) (wCons (wFn (fun ds Q => ds.length = 2 ∧ fs_worth_of ds Q) (wCons (wVar 1) (wCons (wBin dSub (wVar 2) (wVar 3)) wNil))) wNil))))))
def N_need_premium : List Str := ["premium"]
def w_need_premium : WS :=
 (wIfS (wOr (wNot (wTru (wFn (fun ds Q => ds.length = 1 ∧ fs_is_ratio ds Q) (wCons (wVar 0) wNil)))) (wOr (wTst (wBin (dCmp fun i j => decide (j < i)) (wBin dIx (wVar 0) (wC (.int 1))) (wC (.int 1000000)))) (wTst (wBin (dCmp fun i j => decide (j < i)) (wFn fAbs (wCons (wBin dIx (wVar 0) (wC (.int 0))) wNil)) (wBin dMul (wC (.int 1000000)) (wBin dIx (wVar 0) (wC (.int 1)))))))) wNever wNext)
def N_need_policy : List Str := ["policy"]
def w_need_policy : WS :=
 (wSeq (wIfS (wOr (wNot (wTru (wIsi "tuple" (wVar 0)))) (wTst (wBin dNe (wFn fLen (wCons (wVar 0) wNil)) (wC (.int 7))))) wNever wNext)
 (wSeq (wDrop (wFn (fun ds Q => ds.length = 1 ∧ fs_need_lives ds Q) (wCons (wBin dIx (wVar 0) (wC (.int 0))) wNil)))
 (wSeq (wDrop (wFn (fun ds Q => ds.length = 2 ∧ fs_need_age ds Q) (wCons (wBin dIx (wVar 0) (wC (.int 0))) (wCons (wBin dIx (wVar 0) (wC (.int 1))) wNil))))
 (wSeq (wDrop (wFn (fun ds Q => ds.length = 1 ∧ fs_need_rate ds Q) (wCons (wBin dIx (wVar 0) (wC (.int 2))) wNil)))
 (wSeq (wDrop (wFn (fun ds Q => ds.length = 1 ∧ fs_need_payments ds Q) (wCons (wBin dIx (wVar 0) (wC (.int 3))) wNil)))
 (wSeq (wDrop (wFn (fun ds Q => ds.length = 1 ∧ fs_need_payments ds Q) (wCons (wBin dIx (wVar 0) (wC (.int 4))) wNil)))
 (wSeq (wDrop (wFn (fun ds Q => ds.length = 1 ∧ fs_need_premium ds Q) (wCons (wBin dIx (wVar 0) (wC (.int 5))) wNil)))
 (wDrop (wFn (fun ds Q => ds.length = 3 ∧ fs_need_time ds Q) (wCons (wBin dIx (wVar 0) (wC (.int 6))) (wCons (wC (.int 0)) (wCons (wC (.int 40)) wNil))))))))))))
def N_entry : List Str := ["payments", "time"]
def w_entry : WS :=
 (wRet (wIf (wTst (wBin (dCmp fun i j => decide (i < j)) (wVar 1) (wFn fLen (wCons (wVar 0) wNil)))) (wTup (wCons (wBin dIx (wVar 0) (wVar 1)) (wCons (wC (.int 1)) wNil))) (wTup (wCons (wC (.int 0)) (wCons (wC (.int 1)) wNil)))))
def N_span_of : List Str := ["policy"]
def w_span_of : WS :=
 (wRet (wBin dSub (wBin dSub (wFn fLen (wCons (wBin dIx (wVar 0) (wC (.int 0))) wNil)) (wC (.int 1))) (wBin dIx (wVar 0) (wC (.int 1)))))
def N_part_dying : List Str := ["policy", "time", "lives", "age"]
def w_part_dying : WS :=
 (wSeq (wPar [2, 3] (wmVal (wBin dIx (wVar 0) (wC (.int 0))) (wmVal (wBin dPlus (wBin dIx (wVar 0) (wC (.int 1))) (wVar 1)) wmNil)))
 (wRet (wFn (fun ds Q => ds.length = 2 ∧ fs_ratio ds Q) (wCons (wBin dSub (wBin dIx (wVar 2) (wVar 3)) (wBin dIx (wVar 2) (wBin dPlus (wVar 3) (wC (.int 1))))) (wCons (wBin dIx (wVar 2) (wVar 3)) wNil)))))
def N_net_alive : List Str := ["policy", "time", "paid"]
def w_net_alive : WS :=
 (wSeq (wSet 2 (wIf (wTst (wBin (dCmp fun i j => decide (i < j)) (wVar 1) (wBin dIx (wVar 0) (wC (.int 6))))) (wBin dIx (wVar 0) (wC (.int 5))) (wTup (wCons (wC (.int 0)) (wCons (wC (.int 1)) wNil)))))
 (wRet (wFn (fun ds Q => ds.length = 2 ∧ fs_minus ds Q) (wCons (wFn (fun ds Q => ds.length = 2 ∧ fs_entry ds Q) (wCons (wBin dIx (wVar 0) (wC (.int 3))) (wCons (wVar 1) wNil))) (wCons (wVar 2) wNil)))))
def N_reserves_of : List Str := ["policy", "found", "step", "time", "dying", "later"]
def w_reserves_of : WS :=
 (wSeq (wPar [1, 2] (wmOwn (wLst (wCons (wTup (wCons (wC (.int 0)) (wCons (wC (.int 1)) wNil))) wNil)) (wmVal (wFn (fun ds Q => ds.length = 2 ∧ fs_power ds Q) (wCons (wFn (fun ds Q => ds.length = 1 ∧ fs_growth ds Q) (wCons (wBin dIx (wVar 0) (wC (.int 2))) wNil)) (wCons (wUn dNeg (wC (.int 1))) wNil))) wmNil)))
 (wSeq (wFor (wFnL fRng3 (wCons (wBin dSub (wFn (fun ds Q => ds.length = 1 ∧ fs_span_of ds Q) (wCons (wVar 0) wNil)) (wC (.int 1))) (wCons (wUn dNeg (wC (.int 1))) (wCons (wUn dNeg (wC (.int 1))) wNil)))) (wgN 3) (wSeq (wSet 4 (wFn (fun ds Q => ds.length = 2 ∧ fs_part_dying ds Q) (wCons (wVar 0) (wCons (wVar 3) wNil))))
 (wSeq (wSet 5 (wFn (fun ds Q => ds.length = 2 ∧ fs_plus ds Q) (wCons (wFn (fun ds Q => ds.length = 2 ∧ fs_by ds Q) (wCons (wVar 4) (wCons (wFn (fun ds Q => ds.length = 2 ∧ fs_entry ds Q) (wCons (wBin dIx (wVar 0) (wC (.int 4))) (wCons (wVar 3) wNil))) wNil))) (wCons (wFn (fun ds Q => ds.length = 2 ∧ fs_by ds Q) (wCons (wFn (fun ds Q => ds.length = 2 ∧ fs_minus ds Q) (wCons (wTup (wCons (wC (.int 1)) (wCons (wC (.int 1)) wNil))) (wCons (wVar 4) wNil))) (wCons (wBin dIx (wVar 1) (wC (.int 0))) wNil))) wNil))))
 (wIns 1 (wC (.int 0)) (wFn (fun ds Q => ds.length = 2 ∧ fs_plus ds Q) (wCons (wFn (fun ds Q => ds.length = 2 ∧ fs_net_alive ds Q) (wCons (wVar 0) (wCons (wVar 3) wNil))) (wCons (wFn (fun ds Q => ds.length = 2 ∧ fs_by ds Q) (wCons (wVar 2) (wCons (wVar 5) wNil))) wNil)))))))
 (wRetO 1)))
def N_worth : List Str := ["policy"]
def w_worth : WS :=
 (wSeq (wDrop (wFn (fun ds Q => ds.length = 1 ∧ fs_need_policy ds Q) (wCons (wVar 0) wNil)))
 (wRet (wBin dIx (wDe (wFnN 1 fs_reserves_of (wCons (wVar 0) wNil))) (wC (.int 0)))))
def N_changed : List Str := ["policy", "alive", "dead", "premium"]
def w_changed : WS :=
 (wRet (wTup (wStar (wSl (wVar 0) wNoP (wPart (wC (.int 3)))) (wCons (wVar 1) (wCons (wVar 2) (wCons (wVar 3) (wCons (wBin dIx (wVar 0) (wC (.int 6))) wNil)))))))
def N_reserves : List Str := ["policy"]
def w_reserves : WS :=
 (wSeq (wDrop (wFn (fun ds Q => ds.length = 1 ∧ fs_need_policy ds Q) (wCons (wVar 0) wNil)))
 (wRet (wFn fTuple (wCons (wSl (wDe (wFnN 1 fs_reserves_of (wCons (wVar 0) wNil))) wNoP (wPart (wUn dNeg (wC (.int 1))))) wNil))))
def N_law_policy : List Str := ["_law_row", "_law_lives_here", "_law_age", "_law_span_here", "_law_rate_here", "_law_way", "_law_years", "_law_alive", "_law_dead", "_law_premium", "_law_k"]
def w_law_policy : WS :=
 (wSeq (wSet 1 (wFn (fun ds Q => ds.length = 2 ∧ fs_law_lives ds Q) (wCons (wVar 0) (wCons (wC (.int 6)) wNil))))
 (wSeq (wSet 2 (wFn (fun ds Q => ds.length = 2 ∧ fs_law_taken ds Q) (wCons (wVar 0) (wCons (wBin dSub (wFn fLen (wCons (wVar 1) wNil)) (wC (.int 1))) wNil))))
 (wSeq (wPar [3, 4] (wmVal (wBin dSub (wBin dSub (wFn fLen (wCons (wVar 1) wNil)) (wC (.int 1))) (wVar 2)) (wmVal (wFn (fun ds Q => ds.length = 1 ∧ fs_law_rate ds Q) (wCons (wVar 0) wNil)) wmNil)))
 (wSeq (wPar [5, 6] (wmVal (wFn (fun ds Q => ds.length = 2 ∧ fs_law_taken ds Q) (wCons (wVar 0) (wCons (wC (.int 4)) wNil))) (wmVal (wFn (fun ds Q => ds.length = 2 ∧ fs_law_pick ds Q) (wCons (wVar 0) (wCons (wDe (wLst (wCons (wC (.int 0)) (wCons (wC (.int 1)) (wCons (wVar 3) (wCons (wVar 3) (wCons (wFn fMax (wCons (wC (.int 0)) (wCons (wBin dSub (wVar 3) (wC (.int 1))) wNil))) (wCons (wBin dPlus (wC (.int 1)) (wFn (fun ds Q => ds.length = 2 ∧ fs_law_taken ds Q) (wCons (wVar 0) (wCons (wC (.int 8)) wNil)))) wNil)))))))) wNil))) wmNil)))
 (wSeq (wPar [7, 8] (wmVal (wTup wNil) (wmVal (wTup wNil) wmNil)))
 (wSeq (wIfS (wTst (wBin dIn (wVar 5) (wDe (wLst (wCons (wC (.int 0)) (wCons (wC (.int 2)) wNil)))))) (wSet 8 (wFn fTuple (wCons (wDe (wLc (wFnL fRng1 (wCons (wVar 3) wNil)) (wgN 10) wYes (wFn (fun ds Q => ds.length = 2 ∧ fs_law_pick ds Q) (wCons (wVar 0) (wCons (wDe (wLst (wCons (wC (.int 100)) (wCons (wC (.int 100)) (wCons (wC (.int 1000)) (wCons (wC (.int 0)) wNil)))))) wNil))) [10])) wNil))) wNext)
 (wSeq (wIfS (wTst (wBin dIn (wVar 5) (wDe (wLst (wCons (wC (.int 1)) (wCons (wC (.int 2)) wNil)))))) (wSet 7 (wBin dPlus (wBin dRep (wTup (wCons (wC (.int 0)) wNil)) (wFn (fun ds Q => ds.length = 2 ∧ fs_law_taken ds Q) (wCons (wVar 0) (wCons (wBin dPlus (wVar 3) (wC (.int 1))) wNil)))) (wTup (wCons (wFn (fun ds Q => ds.length = 2 ∧ fs_law_pick ds Q) (wCons (wVar 0) (wCons (wDe (wLst (wCons (wC (.int 100)) (wCons (wC (.int 10)) wNil)))) wNil))) wNil)))) wNext)
 (wSeq (wIfS (wTst (wBin dEq (wVar 5) (wC (.int 3)))) (wSeq (wSet 7 (wFn fTuple (wCons (wDe (wLc (wFnL fRng1 (wCons (wFn (fun ds Q => ds.length = 2 ∧ fs_law_taken ds Q) (wCons (wVar 0) (wCons (wC (.int 8)) wNil))) wNil)) (wgN 10) wYes (wFn (fun ds Q => ds.length = 2 ∧ fs_law_pick ds Q) (wCons (wVar 0) (wCons (wDe (wLst (wCons (wC (.int 0)) (wCons (wC (.int 5)) (wCons (wUn dNeg (wC (.int 3))) (wCons (wC (.int 100)) wNil)))))) wNil))) [10])) wNil)))
 (wSet 8 (wFn fTuple (wCons (wDe (wLc (wFnL fRng1 (wCons (wFn (fun ds Q => ds.length = 2 ∧ fs_law_taken ds Q) (wCons (wVar 0) (wCons (wC (.int 8)) wNil))) wNil)) (wgN 10) wYes (wBin dSub (wFn (fun ds Q => ds.length = 2 ∧ fs_law_taken ds Q) (wCons (wVar 0) (wCons (wC (.int 200)) wNil))) (wC (.int 50))) [10])) wNil)))) wNext)
 (wSeq (wSet 9 (wFn (fun ds Q => ds.length = 2 ∧ fs_law_ratio ds Q) (wCons (wFn (fun ds Q => ds.length = 2 ∧ fs_law_pick ds Q) (wCons (wVar 0) (wCons (wDe (wLst (wCons (wC (.int 0)) (wCons (wC (.int 1)) (wCons (wC (.int 10)) (wCons (wC (.int 25)) (wCons (wBin dSub (wFn (fun ds Q => ds.length = 2 ∧ fs_law_taken ds Q) (wCons (wVar 0) (wCons (wC (.int 99)) wNil))) (wC (.int 20))) wNil))))))) wNil))) (wCons (wBin dPlus (wC (.int 1)) (wFn (fun ds Q => ds.length = 2 ∧ fs_law_taken ds Q) (wCons (wVar 0) (wCons (wC (.int 4)) wNil)))) wNil))))
 (wRet (wTup (wCons (wVar 1) (wCons (wVar 2) (wCons (wVar 4) (wCons (wVar 7) (wCons (wVar 8) (wCons (wVar 9) (wCons (wVar 6) wNil))))))))))))))))))
def N_law_span : List Str := ["_law_policy_here"]
def w_law_span : WS :=
 (wRet (wBin dSub (wBin dSub (wFn fLen (wCons (wBin dIx (wVar 0) (wC (.int 0))) wNil)) (wC (.int 1))) (wBin dIx (wVar 0) (wC (.int 1)))))
def N_law_entry : List Str := ["_law_payments", "_law_time"]
def w_law_entry : WS :=
 (wRet (wIf (wTst (wBin (dCmp fun i j => decide (i < j)) (wVar 1) (wFn fLen (wCons (wVar 0) wNil)))) (wBin dIx (wVar 0) (wVar 1)) (wC (.int 0))))
def N_law_net : List Str := ["_law_policy_here", "_law_time", "_law_premium"]
def w_law_net : WS :=
 (wSeq (wSet 2 (wIf (wTst (wBin (dCmp fun i j => decide (i < j)) (wVar 1) (wBin dIx (wVar 0) (wC (.int 6))))) (wBin dIx (wVar 0) (wC (.int 5))) (wTup (wCons (wC (.int 0)) (wCons (wC (.int 1)) wNil)))))
 (wRet (wFn (fun ds Q => ds.length = 2 ∧ fs_law_plus ds Q) (wCons (wTup (wCons (wFn (fun ds Q => ds.length = 2 ∧ fs_law_entry ds Q) (wCons (wBin dIx (wVar 0) (wC (.int 3))) (wCons (wVar 1) wNil))) (wCons (wC (.int 1)) wNil))) (wCons (wTup (wCons (wBin dSub (wC (.int 0)) (wBin dIx (wVar 2) (wC (.int 0)))) (wCons (wBin dIx (wVar 2) (wC (.int 1))) wNil))) wNil)))))
def N_law_step : List Str := ["_law_rate_here", "_law_years", "_law_found", "_law_turn"]
def w_law_step : WS :=
 (wSeq (wSet 2 (wTup (wCons (wC (.int 1)) (wCons (wC (.int 1)) wNil))))
 (wSeq (wFor (wFnL fRng1 (wCons (wVar 1) wNil)) (wgN 3) (wSet 2 (wFn (fun ds Q => ds.length = 2 ∧ fs_law_by ds Q) (wCons (wVar 2) (wCons (wTup (wCons (wBin dIx (wVar 0) (wC (.int 1))) (wCons (wBin dPlus (wBin dIx (wVar 0) (wC (.int 0))) (wBin dIx (wVar 0) (wC (.int 1)))) wNil))) wNil)))))
 (wRet (wVar 2))))
def N_law_from : List Str := ["_law_policy_here", "_law_time", "_law_lives_here", "_law_age", "_law_found", "_law_k", "_law_lived", "_law_died", "_law_paid"]
def w_law_from : WS :=
 (wSeq (wPar [2, 3, 4] (wmVal (wBin dIx (wVar 0) (wC (.int 0))) (wmVal (wBin dIx (wVar 0) (wC (.int 1))) (wmVal (wTup (wCons (wC (.int 0)) (wCons (wC (.int 1)) wNil))) wmNil))))
 (wSeq (wFor (wFnL fRng2 (wCons (wVar 1) (wCons (wFn (fun ds Q => ds.length = 1 ∧ fs_law_span ds Q) (wCons (wVar 0) wNil)) wNil))) (wgN 5) (wSeq (wSet 6 (wFn (fun ds Q => ds.length = 2 ∧ fs_law_ratio ds Q) (wCons (wBin dIx (wVar 2) (wBin dPlus (wVar 3) (wVar 5))) (wCons (wBin dIx (wVar 2) (wBin dPlus (wVar 3) (wVar 1))) wNil))))
 (wSeq (wSet 7 (wFn (fun ds Q => ds.length = 2 ∧ fs_law_ratio ds Q) (wCons (wBin dSub (wBin dIx (wVar 2) (wBin dPlus (wVar 3) (wVar 5))) (wBin dIx (wVar 2) (wBin dPlus (wBin dPlus (wVar 3) (wVar 5)) (wC (.int 1))))) (wCons (wBin dIx (wVar 2) (wBin dPlus (wVar 3) (wVar 1))) wNil))))
 (wSeq (wSet 4 (wFn (fun ds Q => ds.length = 2 ∧ fs_law_plus ds Q) (wCons (wVar 4) (wCons (wFn (fun ds Q => ds.length = 2 ∧ fs_law_by ds Q) (wCons (wFn (fun ds Q => ds.length = 2 ∧ fs_law_by ds Q) (wCons (wVar 6) (wCons (wFn (fun ds Q => ds.length = 2 ∧ fs_law_step ds Q) (wCons (wBin dIx (wVar 0) (wC (.int 2))) (wCons (wBin dSub (wVar 5) (wVar 1)) wNil))) wNil))) (wCons (wFn (fun ds Q => ds.length = 2 ∧ fs_law_net ds Q) (wCons (wVar 0) (wCons (wVar 5) wNil))) wNil))) wNil))))
 (wSeq (wSet 8 (wFn (fun ds Q => ds.length = 2 ∧ fs_law_by ds Q) (wCons (wTup (wCons (wFn (fun ds Q => ds.length = 2 ∧ fs_law_entry ds Q) (wCons (wBin dIx (wVar 0) (wC (.int 4))) (wCons (wVar 5) wNil))) (wCons (wC (.int 1)) wNil))) (wCons (wFn (fun ds Q => ds.length = 2 ∧ fs_law_step ds Q) (wCons (wBin dIx (wVar 0) (wC (.int 2))) (wCons (wBin dSub (wBin dPlus (wVar 5) (wC (.int 1))) (wVar 1)) wNil))) wNil))))
 (wSet 4 (wFn (fun ds Q => ds.length = 2 ∧ fs_law_plus ds Q) (wCons (wVar 4) (wCons (wFn (fun ds Q => ds.length = 2 ∧ fs_law_by ds Q) (wCons (wVar 7) (wCons (wVar 8) wNil))) wNil)))))))))
 (wRet (wVar 4))))
def N_fund : List Str := ["policy", "found", "grown", "time", "dying", "here"]
def w_fund : WS :=
 (wSeq (wDrop (wFn (fun ds Q => ds.length = 1 ∧ fs_need_policy ds Q) (wCons (wVar 0) wNil)))
 (wSeq (wPar [1, 2] (wmOwn (wLst (wCons (wTup (wCons (wC (.int 0)) (wCons (wC (.int 1)) wNil))) wNil)) (wmVal (wFn (fun ds Q => ds.length = 1 ∧ fs_growth ds Q) (wCons (wBin dIx (wVar 0) (wC (.int 2))) wNil)) wmNil)))
 (wSeq (wFor (wFnL fRng1 (wCons (wBin dSub (wFn (fun ds Q => ds.length = 1 ∧ fs_span_of ds Q) (wCons (wVar 0) wNil)) (wC (.int 1))) wNil)) (wgN 3) (wSeq (wSet 4 (wFn (fun ds Q => ds.length = 2 ∧ fs_part_dying ds Q) (wCons (wVar 0) (wCons (wVar 3) wNil))))
 (wSeq (wSet 5 (wFn (fun ds Q => ds.length = 2 ∧ fs_by ds Q) (wCons (wFn (fun ds Q => ds.length = 2 ∧ fs_minus ds Q) (wCons (wBin dIx (wVar 1) (wUn dNeg (wC (.int 1)))) (wCons (wFn (fun ds Q => ds.length = 2 ∧ fs_net_alive ds Q) (wCons (wVar 0) (wCons (wVar 3) wNil))) wNil))) (wCons (wVar 2) wNil))))
 (wApp 1 (wFn (fun ds Q => ds.length = 2 ∧ fs_over ds Q) (wCons (wFn (fun ds Q => ds.length = 2 ∧ fs_minus ds Q) (wCons (wVar 5) (wCons (wFn (fun ds Q => ds.length = 2 ∧ fs_by ds Q) (wCons (wVar 4) (wCons (wFn (fun ds Q => ds.length = 2 ∧ fs_entry ds Q) (wCons (wBin dIx (wVar 0) (wC (.int 4))) (wCons (wVar 3) wNil))) wNil))) wNil))) (wCons (wFn (fun ds Q => ds.length = 2 ∧ fs_minus ds Q) (wCons (wTup (wCons (wC (.int 1)) (wCons (wC (.int 1)) wNil))) (wCons (wVar 4) wNil))) wNil)))))))
 (wRet (wFn fTuple (wCons (wVar 1) wNil))))))
def N_split_premiums : List Str := ["policy", "some", "step", "found", "time", "saved", "risk"]
def w_split_premiums : WS :=
 (wSeq (wDrop (wFn (fun ds Q => ds.length = 1 ∧ fs_need_policy ds Q) (wCons (wVar 0) wNil)))
 (wSeq (wPar [1, 2, 3] (wmOwn (wFnN 1 fs_reserves_of (wCons (wVar 0) wNil)) (wmVal (wFn (fun ds Q => ds.length = 2 ∧ fs_power ds Q) (wCons (wFn (fun ds Q => ds.length = 1 ∧ fs_growth ds Q) (wCons (wBin dIx (wVar 0) (wC (.int 2))) wNil)) (wCons (wUn dNeg (wC (.int 1))) wNil))) (wmOwn (wLst wNil) wmNil))))
 (wSeq (wFor (wFnL fRng1 (wCons (wFn (fun ds Q => ds.length = 1 ∧ fs_span_of ds Q) (wCons (wVar 0) wNil)) wNil)) (wgN 4) (wSeq (wSet 5 (wFn (fun ds Q => ds.length = 2 ∧ fs_minus ds Q) (wCons (wFn (fun ds Q => ds.length = 2 ∧ fs_by ds Q) (wCons (wVar 2) (wCons (wBin dIx (wVar 1) (wBin dPlus (wVar 4) (wC (.int 1)))) wNil))) (wCons (wBin dIx (wVar 1) (wVar 4)) wNil))))
 (wSeq (wSet 6 (wFn (fun ds Q => ds.length = 2 ∧ fs_by ds Q) (wCons (wFn (fun ds Q => ds.length = 2 ∧ fs_by ds Q) (wCons (wVar 2) (wCons (wFn (fun ds Q => ds.length = 2 ∧ fs_part_dying ds Q) (wCons (wVar 0) (wCons (wVar 4) wNil))) wNil))) (wCons (wFn (fun ds Q => ds.length = 2 ∧ fs_minus ds Q) (wCons (wFn (fun ds Q => ds.length = 2 ∧ fs_entry ds Q) (wCons (wBin dIx (wVar 0) (wC (.int 4))) (wCons (wVar 4) wNil))) (wCons (wBin dIx (wVar 1) (wBin dPlus (wVar 4) (wC (.int 1)))) wNil))) wNil))))
 (wApp 3 (wTup (wCons (wVar 5) (wCons (wVar 6) wNil)))))))
 (wRet (wFn fTuple (wCons (wVar 3) wNil))))))
theorem isT_1 {i} : isT "int" (.int i) = some true := by show kitB "int" "int" = _; decide +kernel
theorem isT_2 {i} : isT "bool" (.int i) = some false := by show kitB "int" "bool" = _; decide +kernel
theorem isT_3 {i} : isT "str" (.int i) = some false := by show kitB "int" "str" = _; decide +kernel
theorem isT_4 {i} : isT "tuple" (.int i) = some false := by show kitB "int" "tuple" = _; decide +kernel
theorem isT_5 {i} : isT "list" (.int i) = some false := by show kitB "int" "list" = _; decide +kernel
theorem isT_6 {i} : isT "int" (.bool i) = some true := by show kitB "bool" "int" = _; decide +kernel
theorem isT_7 {i} : isT "bool" (.bool i) = some true := by show kitB "bool" "bool" = _; decide +kernel
theorem isT_8 {i} : isT "str" (.bool i) = some false := by show kitB "bool" "str" = _; decide +kernel
theorem isT_9 {i} : isT "tuple" (.bool i) = some false := by show kitB "bool" "tuple" = _; decide +kernel
theorem isT_10 {i} : isT "list" (.bool i) = some false := by show kitB "bool" "list" = _; decide +kernel
theorem isT_11 {i} : isT "int" (.str i) = some false := by show kitB "str" "int" = _; decide +kernel
theorem isT_12 {i} : isT "bool" (.str i) = some false := by show kitB "str" "bool" = _; decide +kernel
theorem isT_13 {i} : isT "str" (.str i) = some true := by show kitB "str" "str" = _; decide +kernel
theorem isT_14 {i} : isT "tuple" (.str i) = some false := by show kitB "str" "tuple" = _; decide +kernel
theorem isT_15 {i} : isT "list" (.str i) = some false := by show kitB "str" "list" = _; decide +kernel
theorem isT_16 {i} : isT "int" (.tuple i) = some false := by show kitB "tuple" "int" = _; decide +kernel
theorem isT_17 {i} : isT "bool" (.tuple i) = some false := by show kitB "tuple" "bool" = _; decide +kernel
theorem isT_18 {i} : isT "str" (.tuple i) = some false := by show kitB "tuple" "str" = _; decide +kernel
theorem isT_19 {i} : isT "tuple" (.tuple i) = some true := by show kitB "tuple" "tuple" = _; decide +kernel
theorem isT_20 {i} : isT "list" (.tuple i) = some false := by show kitB "tuple" "list" = _; decide +kernel
theorem isT_21 {i} : isT "int" (.list i) = some false := by show kitB "list" "int" = _; decide +kernel
theorem isT_22 {i} : isT "bool" (.list i) = some false := by show kitB "list" "bool" = _; decide +kernel
theorem isT_23 {i} : isT "str" (.list i) = some false := by show kitB "list" "str" = _; decide +kernel
theorem isT_24 {i} : isT "tuple" (.list i) = some false := by show kitB "list" "tuple" = _; decide +kernel
theorem isT_25 {i} : isT "list" (.list i) = some true := by show kitB "list" "list" = _; decide +kernel
theorem isT_26 : isT "int" .none = some false := by decide +kernel
theorem isT_27 : isT "bool" .none = some false := by decide +kernel
theorem isT_28 : isT "str" .none = some false := by decide +kernel
theorem isT_29 : isT "tuple" .none = some false := by decide +kernel
theorem isT_30 : isT "list" .none = some false := by decide +kernel
theorem dEq_int {i j : Int} {Q : D → Prop} : dEq (.int i) (.int j) Q = Q (.bool (decide (i = j))) := rfl
theorem dNe_int {i j : Int} {Q : D → Prop} : dNe (.int i) (.int j) Q = Q (.bool (!decide (i = j))) := rfl
/-- an index in its range -/
theorem atI_nn {α : Type} {xs : List α} {i : Nat} (h : i < xs.length) : atI xs (i : Int) = some xs[i] := atI_nat (by simp [h])
theorem onSome_eq {α : Type} {d : α} {Q : α → Prop} : onSome (some d) Q = Q d := rfl
theorem atI_ints {L : List Int} {i : Int} (h0 : 0 ≤ i) (h : i < L.length) : atI (L.map PyData.int) i = some (.int (L[i.toNat]'(by omega))) := by
  obtain ⟨n, rfl⟩ : ∃ n : Nat, i = n := ⟨i.toNat, by omega⟩
  exact atI_nat (by rw [List.getElem?_map, List.getElem?_eq_getElem (by omega)]; rfl)
theorem flats_ints (L : List Int) : flats (L.map PyData.int) = true := by
  induction L with
  | nil => rfl
  | cons x L ih => simp [flats, flat, ih]
theorem flat_tI (L : List Int) : flat (tI L) = true := by unfold tI flat; exact flats_ints L
theorem q_neg {i : Int} {Q : D → Prop} : dNeg (.int i) Q = Q (.int (-i)) := rfl
theorem q_add {i j : Int} {Q : D → Prop} : dAdd (.int i) (.int j) Q = Q (.int (i + j)) := rfl
theorem q_sub {i j : Int} {Q : D → Prop} : dSub (.int i) (.int j) Q = Q (.int (i - j)) := rfl
theorem q_mul {i j : Int} {Q : D → Prop} : dMul (.int i) (.int j) Q = (MulFits i j ∧ Q (.int (i * j))) := rfl
theorem q_mod {i j : Int} {Q : D → Prop} : dMod (.int i) (.int j) Q = (j ≠ 0 ∧ Q (.int (i.fmod j))) := rfl
theorem q_fdiv {i j : Int} {Q : D → Prop} : dFdiv (.int i) (.int j) Q = (j ≠ 0 ∧ Q (.int (i.fdiv j))) := rfl
theorem q_pow {i j : Int} {Q : D → Prop} : dPow (.int i) (.int j) Q = ((0 ≤ j ∧ j ≤ 1000000 ∧ i.natAbs < 2 ^ 64) ∧ Q (.int (i ^ j.toNat))) := rfl
theorem q_plus {i j : Int} {Q : D → Prop} : dPlus (.int i) (.int j) Q = Q (.int (i + j)) := rfl
theorem q_cat {a b : List D} {Q : D → Prop} : dPlus (.tuple a) (.tuple b) Q = (a.length + b.length ≤ 16777216 ∧ Q (.tuple (a ++ b))) := rfl
theorem q_cmp {p : Int → Int → Bool} {i j : Int} {Q : D → Prop} : dCmp p (.int i) (.int j) Q = Q (.bool (p i j)) := rfl
theorem q_isN1 {Q : D → Prop} : dIsN .none .none Q = Q (.bool true) := rfl
theorem q_isN2 {i : Int} {Q : D → Prop} : dIsN (.int i) .none Q = Q (.bool false) := rfl
theorem q_isN3 {i : List D} {Q : D → Prop} : dIsN (.tuple i) .none Q = Q (.bool false) := rfl
theorem q_isN4 {i : List D} {Q : D → Prop} : dIsN (.list i) .none Q = Q (.bool false) := rfl
theorem q_isN5 {i : Bool} {Q : D → Prop} : dIsN (.bool i) .none Q = Q (.bool false) := rfl
theorem q_isN6 {i : Str} {Q : D → Prop} : dIsN (.str i) .none Q = Q (.bool false) := rfl
theorem q_notN1 {Q : D → Prop} : dNotN .none .none Q = Q (.bool false) := rfl
theorem q_notN2 {i : Int} {Q : D → Prop} : dNotN (.int i) .none Q = Q (.bool true) := rfl
theorem q_notN3 {i : List D} {Q : D → Prop} : dNotN (.tuple i) .none Q = Q (.bool true) := rfl
theorem q_notN4 {i : List D} {Q : D → Prop} : dNotN (.list i) .none Q = Q (.bool true) := rfl
theorem q_ixT {ds : List D} {i : Int} {Q : D → Prop} : dIx (.tuple ds) (.int i) Q = onSome (atI ds i) Q := rfl
theorem q_ixL {ds : List D} {i : Int} {Q : D → Prop} : dIx (.list ds) (.int i) Q = onSome (atI ds i) Q := rfl
theorem q_ixI {L : List Int} {i : Int} {Q : D → Prop} : dIx (tI L) (.int i) Q = onSome (atI (L.map PyData.int) i) Q := rfl
theorem q_ixR0 {q : Rat} {Q : D → Prop} : dIx (rt q) (.int 0) Q = Q (.int q.num) := rfl
theorem q_ixR1 {q : Rat} {Q : D → Prop} : dIx (rt q) (.int 1) Q = Q (.int q.den) := rfl
theorem q_lenT {ds : List D} {Q : D → Prop} : fLen [.tuple ds] Q = Q (.int ds.length) := rfl
theorem q_lenL {ds : List D} {Q : D → Prop} : fLen [.list ds] Q = Q (.int ds.length) := rfl
theorem q_lenI {L : List Int} {Q : D → Prop} : fLen [tI L] Q = Q (.int L.length) := by show Q (.int (L.map PyData.int).length) = _; rw [List.length_map]
theorem q_abs {i : Int} {Q : D → Prop} : fAbs [.int i] Q = Q (.int (i.natAbs : Nat)) := rfl
theorem q_max {i j : Int} {Q : D → Prop} : fMax [.int i, .int j] Q = Q (.int (max i j)) := rfl
theorem q_min {i j : Int} {Q : D → Prop} : fMin [.int i, .int j] Q = Q (.int (min i j)) := rfl
theorem q_int {i : Int} {Q : D → Prop} : fInt [.int i] Q = Q (.int i) := rfl
theorem q_gcd {i j : Int} {Q : D → Prop} : fGcd [.int i, .int j] Q = Q (.int (Int.gcd i j : Nat)) := rfl
theorem q_tupL {ds : List D} {Q : D → Prop} : fTuple [.list ds] Q = Q (.tuple ds) := rfl
theorem q_tupT {ds : List D} {Q : D → Prop} : fTuple [.tuple ds] Q = Q (.tuple ds) := rfl
theorem q_lstL {ds : List D} {Q : List D → Prop} : fList [.list ds] Q = (flats ds = true ∧ Q ds) := rfl
theorem q_lstT {ds : List D} {Q : List D → Prop} : fList [.tuple ds] Q = (flats ds = true ∧ Q ds) := rfl
theorem q_slT {ds : List D} {lo hi : Option Int} {Q : D → Prop} : dSl (.tuple ds) lo hi Q = Q (.tuple (cutD ds lo hi)) := rfl
theorem q_slL {ds : List D} {lo hi : Option Int} {Q : D → Prop} : dSl (.list ds) lo hi Q = Q (.list (cutD ds lo hi)) := rfl
theorem q_slI {L : List Int} {lo hi : Option Int} {Q : D → Prop} : dSl (tI L) lo hi Q = Q (.tuple (cutD (L.map PyData.int) lo hi)) := rfl
theorem q_seqT {ds : List D} {Q : List D → Prop} : dSeq (.tuple ds) Q = Q ds := rfl
theorem q_seqL {ds : List D} {Q : List D → Prop} : dSeq (.list ds) Q = Q ds := rfl
theorem q_seqI {L : List Int} {Q : List D → Prop} : dSeq (tI L) Q = Q (L.map PyData.int) := rfl
theorem q_rng1 {j : Int} {Q : List D → Prop} : fRng1 [.int j] Q = (IntOk j ∧ Q (rngD 0 1 j.toNat)) := rfl
theorem q_rng2 {i j : Int} {Q : List D → Prop} : fRng2 [.int i, .int j] Q = ((IntOk i ∧ IntOk j) ∧ Q (rngD i 1 (j - i).toNat)) := rfl
theorem q_rng3 {i j c : Int} {Q : List D → Prop} : fRng3 [.int i, .int j, .int c] Q = ((c = -1 ∧ IntOk i ∧ IntOk j) ∧ Q (rngD i (-1) (i - j).toNat)) := rfl
theorem q_rep {a : List D} {k : Int} {Q : D → Prop} : dRep (.tuple a) (.int k) Q = ((a ≠ [] ∧ -1000 ≤ k ∧ k ≤ 1000 ∧ a.length ≤ 1000) ∧ Q (.tuple (List.replicate k.toNat a).flatten)) := rfl
theorem q_catI {L M : List Int} {Q : D → Prop} : dPlus (tI L) (tI M) Q = (L.length + M.length ≤ 16777216 ∧ Q (tI (L ++ M))) := by show ((L.map PyData.int).length + (M.map PyData.int).length ≤ 16777216 ∧ Q (.tuple (L.map PyData.int ++ M.map PyData.int))) = _; rw [List.length_map, List.length_map, ← List.map_append]; rfl
theorem isT_R1 {q : Rat} : isT "int" (rt q) = some false := isT_16
theorem isT_R2 {q : Rat} : isT "bool" (rt q) = some false := isT_17
theorem isT_R3 {q : Rat} : isT "str" (rt q) = some false := isT_18
theorem isT_R4 {q : Rat} : isT "tuple" (rt q) = some true := isT_19
theorem isT_R5 {q : Rat} : isT "list" (rt q) = some false := isT_20
theorem q_lenR {q : Rat} {Q : D → Prop} : fLen [rt q] Q = Q (.int 2) := rfl
theorem isT_I1 {L : List Int} : isT "int" (tI L) = some false := isT_16
theorem isT_I2 {L : List Int} : isT "bool" (tI L) = some false := isT_17
theorem isT_I3 {L : List Int} : isT "str" (tI L) = some false := isT_18
theorem isT_I4 {L : List Int} : isT "tuple" (tI L) = some true := isT_19
theorem isT_I5 {L : List Int} : isT "list" (tI L) = some false := isT_20
theorem isT2_1 {i} : isT2 "tuple" "list" (.int i) = some false := by unfold isT2; rw [isT_4, isT_5]; rfl
theorem isT2_2 {i} : isT2 "tuple" "list" (.bool i) = some false := by unfold isT2; rw [isT_9, isT_10]; rfl
theorem isT2_3 {i} : isT2 "tuple" "list" (.str i) = some false := by unfold isT2; rw [isT_14, isT_15]; rfl
theorem isT2_4 {i} : isT2 "tuple" "list" (.tuple i) = some true := by unfold isT2; rw [isT_19, isT_20]; rfl
theorem isT2_5 {i} : isT2 "tuple" "list" (.list i) = some true := by unfold isT2; rw [isT_24, isT_25]; rfl
theorem isT2_6 : isT2 "tuple" "list" .none = some false := by unfold isT2; rw [isT_29, isT_30]; rfl
theorem isT2_7 {L : List Int} : isT2 "tuple" "list" (tI L) = some true := isT2_4
theorem isT2_8 {q : Rat} : isT2 "tuple" "list" (rt q) = some true := isT2_4
theorem at_0 {a0 : D} {ds : List D} : atI (a0 :: ds) 0 = some a0 := atI_nat (j := 0) rfl
theorem at_1 {a0 a1 : D} {ds : List D} : atI (a0 :: a1 :: ds) 1 = some a1 := atI_nat (j := 1) rfl
theorem at_2 {a0 a1 a2 : D} {ds : List D} : atI (a0 :: a1 :: a2 :: ds) 2 = some a2 := atI_nat (j := 2) rfl
theorem at_3 {a0 a1 a2 a3 : D} {ds : List D} : atI (a0 :: a1 :: a2 :: a3 :: ds) 3 = some a3 := atI_nat (j := 3) rfl
theorem at_4 {a0 a1 a2 a3 a4 : D} {ds : List D} : atI (a0 :: a1 :: a2 :: a3 :: a4 :: ds) 4 = some a4 := atI_nat (j := 4) rfl
theorem at_5 {a0 a1 a2 a3 a4 a5 : D} {ds : List D} : atI (a0 :: a1 :: a2 :: a3 :: a4 :: a5 :: ds) 5 = some a5 := atI_nat (j := 5) rfl
theorem at_6 {a0 a1 a2 a3 a4 a5 a6 : D} {ds : List D} : atI (a0 :: a1 :: a2 :: a3 :: a4 :: a5 :: a6 :: ds) 6 = some a6 := atI_nat (j := 6) rfl
theorem at_7 {a0 a1 a2 a3 a4 a5 a6 a7 : D} {ds : List D} : atI (a0 :: a1 :: a2 :: a3 :: a4 :: a5 :: a6 :: a7 :: ds) 7 = some a7 := atI_nat (j := 7) rfl
theorem at_8 {a0 a1 a2 a3 a4 a5 a6 a7 a8 : D} {ds : List D} : atI (a0 :: a1 :: a2 :: a3 :: a4 :: a5 :: a6 :: a7 :: a8 :: ds) 8 = some a8 := atI_nat (j := 8) rfl
theorem at_9 {a0 a1 a2 a3 a4 a5 a6 a7 a8 a9 : D} {ds : List D} : atI (a0 :: a1 :: a2 :: a3 :: a4 :: a5 :: a6 :: a7 :: a8 :: a9 :: ds) 9 = some a9 := atI_nat (j := 9) rfl
theorem at_10 {a0 a1 a2 a3 a4 a5 a6 a7 a8 a9 a10 : D} {ds : List D} : atI (a0 :: a1 :: a2 :: a3 :: a4 :: a5 :: a6 :: a7 :: a8 :: a9 :: a10 :: ds) 10 = some a10 := atI_nat (j := 10) rfl
theorem at_11 {a0 a1 a2 a3 a4 a5 a6 a7 a8 a9 a10 a11 : D} {ds : List D} : atI (a0 :: a1 :: a2 :: a3 :: a4 :: a5 :: a6 :: a7 :: a8 :: a9 :: a10 :: a11 :: ds) 11 = some a11 := atI_nat (j := 11) rfl
theorem q_seqR {q : Rat} {Q : List D → Prop} : dSeq (rt q) Q = Q [.int q.num, .int q.den] := rfl
theorem ixP0 {P : Pol} {Q : D → Prop} : dIx P.d (.int 0) Q = Q (tI P.L) := by
  show onSome (atI [tI P.L, .int P.a, rt P.r, tI P.A, tI P.B, rt P.p, .int P.y] 0) Q = _
  rw [at_0, onSome_eq]
theorem ixP1 {P : Pol} {Q : D → Prop} : dIx P.d (.int 1) Q = Q (.int P.a) := by
  show onSome (atI [tI P.L, .int P.a, rt P.r, tI P.A, tI P.B, rt P.p, .int P.y] 1) Q = _
  rw [at_1, onSome_eq]
theorem ixP2 {P : Pol} {Q : D → Prop} : dIx P.d (.int 2) Q = Q (rt P.r) := by
  show onSome (atI [tI P.L, .int P.a, rt P.r, tI P.A, tI P.B, rt P.p, .int P.y] 2) Q = _
  rw [at_2, onSome_eq]
theorem ixP3 {P : Pol} {Q : D → Prop} : dIx P.d (.int 3) Q = Q (tI P.A) := by
  show onSome (atI [tI P.L, .int P.a, rt P.r, tI P.A, tI P.B, rt P.p, .int P.y] 3) Q = _
  rw [at_3, onSome_eq]
theorem ixP4 {P : Pol} {Q : D → Prop} : dIx P.d (.int 4) Q = Q (tI P.B) := by
  show onSome (atI [tI P.L, .int P.a, rt P.r, tI P.A, tI P.B, rt P.p, .int P.y] 4) Q = _
  rw [at_4, onSome_eq]
theorem ixP5 {P : Pol} {Q : D → Prop} : dIx P.d (.int 5) Q = Q (rt P.p) := by
  show onSome (atI [tI P.L, .int P.a, rt P.r, tI P.A, tI P.B, rt P.p, .int P.y] 5) Q = _
  rw [at_5, onSome_eq]
theorem ixP6 {P : Pol} {Q : D → Prop} : dIx P.d (.int 6) Q = Q (.int P.y) := by
  show onSome (atI [tI P.L, .int P.a, rt P.r, tI P.A, tI P.B, rt P.p, .int P.y] 6) Q = _
  rw [at_6, onSome_eq]
theorem flat_P {P : Pol} : flat P.d = true := by
  show flats [tI P.L, .int P.a, rt P.r, tI P.A, tI P.B, rt P.p, .int P.y] = true
  simp only [flats, flat_tI, flat_rt, flat, Bool.and_true]
/-- unfold readings -/
local macro_rules | `(tactic| walk_at "wgo") => `(tactic| try simp only [startL, List.map_cons, List.map_nil, List.length_cons, List.length_nil, List.replicate, List.cons_append, List.nil_append, Nat.reduceAdd, Nat.reduceSub, Nat.zero_add, List.append_nil,
  wSeq, wNext, wNever, wIfS, wRet, wRetN, wRetO, wDrop, wSet, wSetN, wVar, wC, wBin, wFn, wFnN, wFnL, wCons, wNil, wTup, wLst, wIf, wTst, wTru, wNot, wAnd, wOr, wAndV, wOrV, wNotV, wChain, wUn, wDe, wBinL, wYes, wgN, wPar, wmVal, wmOwn, wmNil, setsE, wSto, wIns, wApp, wAppN, onOwn, wSl, wPart, wNoP, wVarS, wSeq1, wSeqT, wGen, wLc, wLcN, wFor, wDis, wipeE, wUnp, wgTup, wgCons, wgNil,
  q_neg, q_add, q_sub, q_mul, q_mod, q_fdiv, q_pow, q_plus, q_cat, q_cmp, q_isN1, q_isN2, q_isN3, q_isN4, q_isN5, q_isN6, q_notN1, q_notN2, q_notN3, q_notN4, q_ixT, q_ixL, q_ixI, q_ixR0, q_ixR1, q_lenT, q_lenL, q_lenI, q_abs, q_max, q_min, q_int, q_gcd, q_tupL, q_tupT, q_lstL, q_lstT, q_slT, q_slL, q_slI, q_seqT, q_seqL, q_seqI, q_rng1, q_rng2, q_rng3, q_rep, q_catI, isT_R1, isT_R2, isT_R3, isT_R4, isT_R5, q_lenR, wEnum, wZip, wAft, wStar, q_seqR, ixP0, ixP1, ixP2, ixP3, ixP4, ixP5, ixP6, flat_P, at_0, at_1, at_2, at_3, at_4, at_5, at_6, at_7, at_8, at_9, at_10, at_11, isT_I1, isT_I2, isT_I3, isT_I4, isT_I5, dEq_int, dNe_int, wIsi, wIsi2, isT2_1, isT2_2, isT2_3, isT2_4, isT2_5, isT2_6, isT2_7, isT2_8,
  isT_1, isT_2, isT_3, isT_4, isT_5, isT_6, isT_7, isT_8, isT_9, isT_10, isT_11, isT_12, isT_13, isT_14, isT_15, isT_16, isT_17, isT_18, isT_19, isT_20, isT_21, isT_22, isT_23, isT_24, isT_25, isT_26, isT_27, isT_28, isT_29, isT_30,
  onSome_eq, kdEnd,  List.getElem?_cons_zero, List.getElem?_cons_succ, List.getElem?_nil, List.set_cons_zero, List.set_cons_succ, Bool.or_true, Bool.true_or, Bool.or_false, Bool.false_or, Bool.not_true, Bool.not_false, if_true, if_false, ite_true, ite_false, Bool.false_eq_true, reduceIte, true_and, and_true, flat, flats, Bool.and_true, flat_rt, flat_tI, List.length_map, Nat.reduceLT, Nat.reduceLeDiff, List.length_set, decide_true, decide_false])
theorem pure_ratio : ∀ ds Q0, fs_ratio ds Q0 → w_ratio (kdEnd Q0) (startL 3 ds) := by
  rintro ds Q ⟨t, b, rfl, hb, q⟩
  unfold w_ratio
  walk_at "wgo"
  have h0 : ((Int.gcd t b : Nat) : Int) ≠ 0 := fun z => by have := Int.gcd_eq_zero_iff.mp (by omega : Int.gcd t b = 0); omega
  by_cases h : 0 < b
  · simp only [h]
    walk_at "wgo"
    rw [← rt_pos h]
    exact ⟨h0, h0, q⟩
  · simp only [h]
    walk_at "wgo"
    rw [← rt_neg (by omega)]
    exact ⟨by omega, by omega, q⟩
theorem pure_is_in : ∀ ds Q0, fs_is_in ds Q0 → w_is_in (kdEnd Q0) (startL 3 ds) := by
  rintro ds Q ⟨v, l, m, rfl, q⟩
  unfold w_is_in
  walk_at "wgo"
  by_cases h1 : l ≤ v
  · by_cases h2 : v ≤ m
    · simp only [h1, h2] at q ⊢; walk_at "wgo"; simpa using q
    · simp only [h1, h2] at q ⊢; walk_at "wgo"; simpa using q
  · simp only [h1] at q ⊢; walk_at "wgo"; simpa using q
theorem pure_need_time : ∀ ds Q0, fs_need_time ds Q0 → w_need_time (kdEnd Q0) (startL 3 ds) := by
  rintro ds Q ⟨v, l, m, rfl, h, q⟩
  unfold w_need_time
  walk_at "wgo"
  refine ⟨v, l, m, rfl, ?_⟩
  simp only [h]
  walk_at "wgo"
  simpa using q
theorem pure_need_lives : ∀ ds Q0, fs_need_lives ds Q0 → w_need_lives (kdEnd Q0) (startL 1 ds) := by
  rintro ds Q ⟨L, rfl, h, q⟩
  unfold w_need_lives
  walk_at "wgo"
  exact ⟨L, rfl, h, by walk_at "wgo"; exact q⟩
theorem pure_need_age : ∀ ds Q0, fs_need_age ds Q0 → w_need_age (kdEnd Q0) (startL 2 ds) := by
  rintro ds Q ⟨L, a, rfl, h0, h1, q⟩
  unfold w_need_age
  walk_at "wgo"
  walk_at "wgo"
  refine ⟨a, 0, _, rfl, ?_⟩
  rw [decide_eq_true ⟨h0, h1⟩]
  walk_at "wgo"
  exact q
theorem pure_living : ∀ ds Q0, fs_living ds Q0 → w_living (kdEnd Q0) (startL 2 ds) := by
  rintro ds Q ⟨L, a, rfl, q⟩
  unfold w_living
  walk_at "wgo"
  by_cases h : a < L.length
  · rw [decide_eq_true (by omega : (a : Int) < L.length)]
    walk_at "wgo"
    rw [atI_ints (by omega) (by omega)]
    walk_at "wgo"
    unfold lv at q
    rw [List.getElem?_eq_getElem h] at q
    exact q
  · rw [decide_eq_false (by omega : ¬ (a : Int) < L.length)]
    walk_at "wgo"
    unfold lv at q
    rw [List.getElem?_eq_none (by omega)] at q
    exact q
theorem lv_pos {L : List Int} (h : LivesOk L) {a : Nat} (ha : a + 2 ≤ L.length) : 0 < lv L a := by
  unfold lv
  rw [List.getElem?_eq_getElem (by omega)]
  exact h.pos a _ (by omega) (List.getElem?_eq_getElem (by omega))
theorem atI_lv {L : List Int} {a : Nat} (h : a < L.length) : atI (L.map PyData.int) (a : Int) = some (.int (lv L a)) := by
  rw [atI_ints (by omega) (by omega)]
  unfold lv
  rw [List.getElem?_eq_getElem h]
  rfl
theorem pure_lives_on : ∀ ds Q0, fs_lives_on ds Q0 → w_lives_on (kdEnd Q0) (startL 3 ds) := by
  rintro ds Q ⟨L, a, y, rfl, hL, ha, hy, q⟩
  unfold w_lives_on
  walk_at "wgo"
  refine ⟨L, rfl, hL, L, a, rfl, by omega, by omega, y, 0, 60, rfl, by omega, ?_⟩
  refine ⟨L, a + y, by simp [tI], ?_⟩
  rw [atI_lv (by omega)]
  walk_at "wgo"
  have := lv_pos hL ha
  exact ⟨_, _, rfl, by omega, by walk_at "wgo"; exact q⟩
theorem pure_dies_in : ∀ ds Q0, fs_dies_in ds Q0 → w_dies_in (kdEnd Q0) (startL 3 ds) := by
  rintro ds Q ⟨L, a, y, rfl, hL, ha, hy, q⟩
  unfold w_dies_in
  walk_at "wgo"
  refine ⟨L, rfl, hL, L, a, rfl, by omega, by omega, y, 0, 60, rfl, by omega, ?_⟩
  refine ⟨L, a + y, by simp [tI], ?_⟩
  refine ⟨L, a + y + 1, by simp [tI], ?_⟩
  rw [atI_lv (by omega)]
  walk_at "wgo"
  have := lv_pos hL ha
  exact ⟨_, _, rfl, by omega, by walk_at "wgo"; exact q⟩
theorem pure_ages_left : ∀ ds Q0, fs_ages_left ds Q0 → w_ages_left (kdEnd Q0) (startL 2 ds) := by
  rintro ds Q ⟨L, a, rfl, hL, ha, q⟩
  unfold w_ages_left
  walk_at "wgo"
  refine ⟨L, rfl, hL, L, a, rfl, by omega, by omega, ?_⟩
  rw [atI_lv (by omega)]
  walk_at "wgo"
  have := lv_pos hL ha
  have e : cutD (L.map PyData.int) (some ((a : Int) + 1)) none = (L.drop (a + 1)).map PyData.int := by
    unfold cutD
    rw [show ((a : Int) + 1) = ((a + 1 : Nat) : Int) by omega, HT.sIx_nat, HT.sIx_none, List.length_map, Nat.min_eq_left (by omega), ← List.map_drop, List.take_of_length_le (by simp)]
  refine ⟨L.drop (a + 1), e, _, _, rfl, by omega, by walk_at "wgo"; exact q⟩
theorem ints_get {L : List Int} {i : Nat} {d : D} (h : (L.map PyData.int)[i]? = some d) : ∃ x, L[i]? = some x ∧ d = .int x := by
  rw [List.getElem?_map] at h
  cases q : L[i]? with
  | none => rw [q] at h; cases h
  | some x => rw [q] at h; exact ⟨x, rfl, (Option.some.inj h).symm⟩
theorem intOk_small {i : Int} (h1 : -1000000000 ≤ i) (h2 : i ≤ 1000000000) : IntOk i := ⟨by omega, by omega⟩
theorem pure_are_lives : ∀ ds Q0, fs_are_lives ds Q0 → w_are_lives (kdEnd Q0) (startL 3 ds) := by
  rintro ds Q ⟨L, rfl, h, q⟩
  have l2 := h.l2
  have l40 := h.l40
  unfold w_are_lives
  walk_at "wgo"
  rw [decide_eq_true (by omega : (2 : Int) ≤ L.length)]
  walk_at "wgo"
  rw [decide_eq_true (by omega : (L.length : Int) ≤ 40)]
  walk_at "wgo"
  refine gen_all (fun _ => true) (fun i d hd => ?_) ?_
  · obtain ⟨x, hx, rfl⟩ := ints_get hd
    walk_at "wgo"
    refine ⟨x, 0, 1000000, rfl, ?_⟩
    have := h.in_ x (List.mem_of_getElem? hx)
    rw [decide_eq_true (by omega)]
  · have e : (List.range (L.map PyData.int).length).all (fun _ => true) = true := by simp
    rw [e]
    walk_at "wgo"
    refine ⟨intOk_small (by omega) (by omega), gen_any (fun _ => false) (fun i d hd => ?_) ?_⟩
    · obtain ⟨hi, rfl⟩ := rngD_get hd
      walk_at "wgo"
      rw [show (0 : Int) + i * 1 = (i : Int) by omega, atI_lv (by omega)]
      walk_at "wgo"
      rw [show (i : Int) + 1 = ((i + 1 : Nat) : Int) by omega, atI_lv (by omega)]
      walk_at "wgo"
      have := h.fall i (lv L i) (lv L (i + 1)) (by unfold lv; rw [List.getElem?_eq_getElem (by omega)]; rfl) (by unfold lv; rw [List.getElem?_eq_getElem (by omega)]; rfl)
      rw [decide_eq_false (by omega)]
    · have e : (List.range (rngD 0 1 ((L.length : Int) - 1).toNat).length).any (fun _ => false) = false := by simp
      rw [e]
      walk_at "wgo"
      have e1 : atI (L.map PyData.int) (-1) = some (.int 0) := by
        have e := h.last (lv L (L.length - 1)) (by unfold lv; rw [List.getElem?_eq_getElem (by omega)]; rfl)
        unfold atI ixN
        rw [List.length_map, if_neg (by omega), if_pos (by omega), show ((-1 : Int) + L.length).toNat = L.length - 1 by omega]
        show (L.map PyData.int)[L.length - 1]? = _
        rw [List.getElem?_map, List.getElem?_eq_getElem (by omega)]
        unfold lv at e
        rw [List.getElem?_eq_getElem (by omega)] at e
        exact congrArg (fun x => some (PyData.int x)) e
      rw [e1]
      walk_at "wgo"
      have hp := h.pos (L.length - 2) (lv L (L.length - 2)) (by omega) (by unfold lv; rw [List.getElem?_eq_getElem (by omega)]; rfl)
      have e2 : atI (L.map PyData.int) (-2) = some (.int (lv L (L.length - 2))) := by
        unfold atI ixN
        rw [List.length_map, if_neg (by omega), if_pos (by omega), show ((-2 : Int) + L.length).toNat = L.length - 2 by omega]
        show (L.map PyData.int)[L.length - 2]? = _
        rw [List.getElem?_map, List.getElem?_eq_getElem (by omega)]
        unfold lv
        rw [List.getElem?_eq_getElem (by omega)]; rfl
      rw [e2]
      walk_at "wgo"
      rw [decide_eq_true hp]
      exact q
theorem gcd_step (a b : Int) : Int.gcd b (a.fmod b) = Int.gcd a b := by
  rw [Int.fmod_def, Int.gcd_comm a b]
  have : a - b * a.fdiv b = a + b * (-(a.fdiv b)) := by grind
  rw [this, Int.gcd_add_mul_left_right]
theorem pure_law_ratio : ∀ ds Q0, fs_law_ratio ds Q0 → w_law_ratio (kdEnd Q0) (startL 4 ds) := by
  rintro ds Q ⟨t, b, rfl, hb, q⟩
  unfold w_law_ratio
  walk_at "wgo"
  refine ⟨by simp, fun n env => ∃ x y : Int, env = [.val (.int t), .val (.int b), .val (.int x), .val (.int y)] ∧ n = y.natAbs ∧ 0 ≤ x ∧ 0 ≤ y ∧ Int.gcd x y = Int.gcd t b, ⟨b.natAbs, t.natAbs, b.natAbs, rfl, by omega, by omega, by omega, rfl⟩, ?_⟩
  rintro n env ⟨x, y, rfl, rfl, hx, hy, hg⟩
  walk_at "wgo"
  by_cases h : y = 0
  · subst h
    rw [decide_eq_true rfl]
    walk_at "wgo"
    rw [Int.gcd_zero_right] at hg
    have hx2 : x = (Int.gcd t b : Nat) := by omega
    have h0 : x ≠ 0 := fun z => by
      have : Int.gcd t b = 0 := by omega
      have := Int.gcd_eq_zero_iff.mp this
      omega
    have hg2 : (0 : Int) < (Int.gcd t b : Nat) := by omega
    subst hx2
    by_cases h : 0 < b
    · rw [decide_eq_true h]
      walk_at "wgo"
      rw [← rt_pos h]
      exact ⟨h0, h0, q⟩
    · rw [decide_eq_false h]
      walk_at "wgo"
      refine ⟨h0, h0, ?_⟩
      have e := rt_neg (t := t) (b := b) (by omega)
      have key : ∀ z : Int, (Int.gcd t b : Int) ∣ z → z.fdiv (0 - (Int.gcd t b : Nat)) = 0 - z.fdiv (Int.gcd t b : Nat) := fun z ⟨k, hk⟩ => by
        generalize (Int.gcd t b : Int) = g at *
        subst hk
        rw [Int.mul_fdiv_cancel_left _ h0, show g * k = (0 - g) * (-k) by grind, Int.mul_fdiv_cancel_left _ (by omega)]
        omega
      rw [key t (Int.gcd_dvd_left _ _), key b (Int.gcd_dvd_right _ _)] at e
      rw [← e]
      exact q
  · rw [decide_eq_false h]
    walk_at "wgo"
    refine ⟨h, by simp, _, ?_, y, x.fmod y, rfl, rfl, hy, (mod_ok (by omega)).1, by rw [gcd_step, hg]⟩
    have := mod_ok (i := x) (m := y) (by omega)
    omega
theorem pure_law_plus : ∀ ds Q0, fs_law_plus ds Q0 → w_law_plus (kdEnd Q0) (startL 2 ds) := by
  rintro ds Q ⟨a, b, n, m, rfl, ha, hb, hs, q⟩
  unfold w_law_plus
  walk_at "wgo"
  have da := den_pos a
  have db := den_pos b
  refine ⟨mulFits_of ha.1 (m := m) (by simpa using hb.2) (by omega), mulFits_of hb.1 (m := n) (by simpa using ha.2) (by omega), mulFits_of (n := n) (m := m) (by simpa using ha.2) (by simpa using hb.2) (by omega), _, _, rfl, Int.ne_of_gt (Int.mul_pos da db), ?_⟩
  rw [← add_eq_div]
  walk_at "wgo"
  exact q
theorem pure_law_by : ∀ ds Q0, fs_law_by ds Q0 → w_law_by (kdEnd Q0) (startL 2 ds) := by
  rintro ds Q ⟨a, b, n, m, rfl, ha, hb, hs, q⟩
  unfold w_law_by
  walk_at "wgo"
  have da := den_pos a
  have db := den_pos b
  refine ⟨mulFits_of ha.1 hb.1 (by omega), mulFits_of (n := n) (m := m) (by simpa using ha.2) (by simpa using hb.2) (by omega), _, _, rfl, Int.ne_of_gt (Int.mul_pos da db), ?_⟩
  rw [← mul_eq_div]
  walk_at "wgo"
  exact q
theorem rt_zero : rt 0 = .tuple [.int 0, .int 1] := rfl
theorem szLe_sum : ∀ (qs : List Rat), szLe (szSum qs + 1) qs.sum
  | [] => ⟨by decide, by decide⟩
  | q :: qs => by
    have h := (szLe_sz q).add (szLe_sum qs)
    rw [List.sum_cons]
    exact h.mono (by unfold szSum; simp; omega)
theorem rats_get {qs : List Rat} {i : Nat} {d : D} (h : (qs.map rt)[i]? = some d) : ∃ x, qs[i]? = some x ∧ d = rt x := by
  rw [List.getElem?_map] at h
  cases q : qs[i]? with
  | none => rw [q] at h; cases h
  | some x => rw [q] at h; exact ⟨x, rfl, (Option.some.inj h).symm⟩
theorem sum_take_succ {qs : List Rat} {i : Nat} {x : Rat} (h : qs[i]? = some x) : (qs.take (i + 1)).sum = (qs.take i).sum + x := by
  rw [List.take_add_one, h, List.sum_append]
  show _ + (x + 0) = _
  grind
theorem szSum_take {qs : List Rat} {i : Nat} : szSum (qs.take i) ≤ szSum qs := by
  unfold szSum
  conv => rhs; rw [← List.take_append_drop i qs]
  rw [List.map_append, List.sum_append]
  omega
theorem szSum_get {qs : List Rat} {i : Nat} {x : Rat} (h : qs[i]? = some x) : sz x + 1 ≤ szSum qs := by
  unfold szSum
  have : x ∈ qs := List.mem_of_getElem? h
  clear h
  induction qs with
  | nil => cases this
  | cons y qs ih =>
    rw [List.map_cons, List.sum_cons]
    rcases List.mem_cons.mp this with z | z
    · subst z; omega
    · have := ih z; omega
theorem pure_law_sum : ∀ ds Q0, fs_law_sum ds Q0 → w_law_sum (kdEnd Q0) (startL 3 ds) := by
  rintro ds Q ⟨qs, hds, hs, q⟩
  rcases hds with rfl | rfl
  all_goals
    unfold w_law_sum
    walk_at "wgo"
    refine forW_idx (fun i env => ∃ z d, env = [SD.val d, SD.val (rt (qs.take i).sum), z]) ⟨_, _, by rw [List.take_zero]; rfl⟩ (fun i x env P hx ⟨z, d, e⟩ hP => ?_) fun env ⟨z, d, e⟩ => ?_
    · obtain ⟨y, hy, rfl⟩ := rats_get hx
      subst e
      walk_at "wgo"
      refine ⟨_, y, szSum qs + 1, sz y, rfl, (szLe_sum _).mono (by have := szSum_take (qs := qs) (i := i); omega), szLe_sz y, by have := szSum_get hy; omega, ?_⟩
      walk_at "wgo"
      exact hP _ ⟨_, _, by rw [sum_take_succ hy]⟩
    · subst e
      walk_at "wgo"
      rw [List.take_length]
      exact q
theorem pure_law_pick : ∀ ds Q0, fs_law_pick ds Q0 → w_law_pick (kdEnd Q0) (startL 2 ds) := by
  rintro ds Q ⟨xs, hds, hne, hf, hq⟩
  have hl : 0 < xs.length := List.length_pos_iff.mpr hne
  have fl : ∀ d ∈ xs, flat d = true := by
    clear hds hne hq hl
    induction xs with
    | nil => intro d h; cases h
    | cons x xs ih =>
      simp only [flats, Bool.and_eq_true] at hf
      intro d h
      rcases List.mem_cons.mp h with z | z
      · rw [z]; exact hf.1
      · exact ih hf.2 d z
  rcases hds with rfl | rfl
  all_goals
    unfold w_law_pick
    walk_at "wgo"
    refine ⟨_, rfl, by omega, fun v h0 h1 => ?_⟩
    walk_at "wgo"
    obtain ⟨n, rfl⟩ : ∃ n : Nat, v = n := ⟨v.toNat, by omega⟩
    rw [atI_nn (by omega)]
    walk_at "wgo"
    exact ⟨fl _ (List.getElem_mem _), hq _ (List.getElem_mem _)⟩
theorem eqv_bool {a b : Bool} : PyData.eqv (.bool a) (.bool b) = (a == b) := by cases a <;> cases b <;> rfl
theorem q_neB {a b : Bool} {Q : D → Prop} : dNe (.bool a) (.bool b) Q = Q (.bool (!(a == b))) := by
  rw [← eqv_bool]
  exact propext ⟨fun h => h.2.2, fun h => ⟨rfl, rfl, h⟩⟩
theorem q_eqB {a b : Bool} {Q : D → Prop} : dEq (.bool a) (.bool b) Q = Q (.bool (a == b)) := by
  rw [← eqv_bool]
  exact propext ⟨fun h => h.2.2, fun h => ⟨rfl, rfl, h⟩⟩
theorem q_eqN {Q : D → Prop} : dEq .none .none Q = Q (.bool true) := propext ⟨fun h => h.2.2, fun h => ⟨rfl, rfl, h⟩⟩
theorem eqv_str {x y : Str} : PyData.eqv (.str x) (.str y) = (x == y) := by simp [PyData.eqv]
theorem q_eqS {x : Str} {Q : D → Prop} (hx : PyData.strOk x = true) : dEq (.str x) (.str x) Q = Q (.bool true) := propext ⟨fun h => by have := h.2.2; rwa [eqv_str, beq_self_eq_true] at this, fun h => ⟨by simp [SeqAt.shaped, PyData.canLay0, PyData.depth, hx], by simp [SeqAt.shaped, PyData.canLay0, PyData.depth, hx], by rwa [eqv_str, beq_self_eq_true]⟩⟩
theorem q_eqL0 {Q : D → Prop} : dEq (.list []) (.list []) Q = Q (.bool true) := propext ⟨fun h => h.2.2, fun h => ⟨rfl, rfl, h⟩⟩
theorem q_isL {xs : List D} : isT2 "tuple" "list" (.list xs) = some true := by unfold isT2; rw [isT_24, isT_25]; rfl
theorem plain_get {n : Nat} {xs : List D} (h : (xs.all (plainD n) && decide (xs.length < 16777216)) = true) {i : Nat} {d : D} (hd : xs[i]? = some d) : plainD n d = true := by
  simp only [Bool.and_eq_true, List.all_eq_true, decide_eq_true_eq] at h
  exact h.1 d (List.mem_of_getElem? hd)
theorem pure_law_alike (n : Nat) : ∀ ds Q0, fs_alike (n + 1) ds Q0 → w_law_alike (fs_alike n) (kdEnd Q0) (startL 3 ds) := by
  rintro ds Q ⟨d, rfl, hd, q⟩
  have seq : ∀ (mk : List D → D) (b : Bool) (xs : List D), (∀ zs Q, fLen [mk zs] Q = Q (.int zs.length)) → (∀ zs i Q, dIx (mk zs) (.int i) Q = onSome (atI zs i) Q) → isT "tuple" (mk xs) = some (!b) → isT "list" (mk xs) = some b → (xs.all (plainD n) && decide (xs.length < 16777216)) = true → Q (.bool true) →
      w_law_alike (fs_alike n) (kdEnd Q) (startL 3 [mk xs, mk xs]) := by
    intro mk b xs hlen hix h1 h2 hp q
    have hlt : xs.length < 16777216 := by
      simp only [Bool.and_eq_true, decide_eq_true_eq] at hp
      exact hp.2
    have e2 : isT2 "tuple" "list" (mk xs) = some true := by unfold isT2; rw [h1, h2]; cases b <;> rfl
    unfold w_law_alike
    walk_at "wgo"
    simp only [e2, h2, onSome_eq]
    walk_at "wgo"
    rw [q_neB]
    simp only [beq_self_eq_true]
    walk_at "wgo"
    rw [hlen]
    walk_at "wgo"
    rw [hlen]
    walk_at "wgo"
    rw [hlen]
    walk_at "wgo"
    refine ⟨⟨by omega, by omega⟩, ?_⟩
    refine lcW_idx (fun _ acc => acc = []) rfl (fun i x acc P hx ha hP => ?_) fun acc ha => ?_
    · obtain ⟨hi, rfl⟩ := rngD_get hx
      have hi : i < xs.length := by simpa using hi
      walk_at "wgo"
      rw [show (0 : Int) + i * 1 = (i : Int) by omega, hix, atI_nn hi]
      walk_at "wgo"
      rw [hix, atI_nn hi]
      walk_at "wgo"
      refine ⟨xs[i], rfl, plain_get hp (List.getElem?_eq_getElem hi), ?_⟩
      walk_at "wgo"
      exact hP _ ha
    · subst ha
      rw [q_eqL0]
      walk_at "wgo"
      exact q
  cases d with
  | none =>
    unfold w_law_alike
    walk_at "wgo"
    simp only [Bool.or_self, q_eqN, q_eqB]
    walk_at "wgo"
    simp only [beq_self_eq_true]
    simpa using q
  | bool b =>
    unfold w_law_alike
    walk_at "wgo"
    simp only [Bool.or_self, q_eqN, q_eqB]
    walk_at "wgo"
    simp only [beq_self_eq_true, q_eqB]
    walk_at "wgo"
    simpa using q
  | int i =>
    unfold w_law_alike
    walk_at "wgo"
    simp only [Bool.or_self, q_eqN, q_eqB]
    walk_at "wgo"
    simp only [beq_self_eq_true, q_eqB]
    walk_at "wgo"
    simpa using q
  | str x =>
    have hx : PyData.strOk x = true := by simpa [plainD] using hd
    unfold w_law_alike
    walk_at "wgo"
    simp only [Bool.or_self, q_eqN, q_eqB]
    walk_at "wgo"
    simp only [q_eqS hx]
    walk_at "wgo"
    simp only [q_eqB, beq_self_eq_true]
    walk_at "wgo"
    simpa using q
  | tuple xs => exact seq .tuple false xs (fun _ _ => rfl) (fun _ _ _ => rfl) isT_19 isT_20 (by simpa [plainD] using hd) q
  | list xs => exact seq .list true xs (fun _ _ => rfl) (fun _ _ _ => rfl) isT_24 isT_25 (by simpa [plainD] using hd) q
  | dict xs => simp [plainD] at hd
theorem pure_law_alike0 : ∀ ds Q0, fs_alike 0 ds Q0 → w_law_alike fsNo (kdEnd Q0) (startL 3 ds) := by
  rintro ds Q ⟨d, rfl, hd, q⟩
  cases d with
  | none =>
    unfold w_law_alike
    walk_at "wgo"
    simp only [Bool.or_self, q_eqN, q_eqB]
    walk_at "wgo"
    simp only [beq_self_eq_true]
    simpa using q
  | bool b =>
    unfold w_law_alike
    walk_at "wgo"
    simp only [Bool.or_self, q_eqN, q_eqB]
    walk_at "wgo"
    simp only [beq_self_eq_true, q_eqB]
    walk_at "wgo"
    simpa using q
  | int i =>
    unfold w_law_alike
    walk_at "wgo"
    simp only [Bool.or_self, q_eqN, q_eqB]
    walk_at "wgo"
    simp only [beq_self_eq_true, q_eqB]
    walk_at "wgo"
    simpa using q
  | str x =>
    have hx : PyData.strOk x = true := by simpa [plainD] using hd
    unfold w_law_alike
    walk_at "wgo"
    simp only [Bool.or_self, q_eqN, q_eqB]
    walk_at "wgo"
    simp only [q_eqS hx]
    walk_at "wgo"
    simp only [q_eqB, beq_self_eq_true]
    walk_at "wgo"
    simpa using q
  | tuple xs => simp [plainD] at hd
  | list xs => simp [plainD] at hd
  | dict xs => simp [plainD] at hd
theorem eqv_rt {p q : Rat} : PyData.eqv (rt p) (rt q) = decide (p = q) := by
  have e : PyData.eqv (rt p) (rt q) = ((p.num == q.num) && (((p.den : Int) == (q.den : Int)) && true)) := rfl
  rw [e]
  by_cases h : p = q
  · subst h; simp
  · rw [decide_eq_false h]
    by_cases h1 : p.num = q.num
    · by_cases h2 : (p.den : Int) = q.den
      · exact absurd (Rat.ext h1 (by omega)) h
      · simp [h1]; omega
    · simp [h1]
theorem shaped_rt (p : Rat) : SeqAt.shaped (rt p) = true := rfl
theorem q_neR {p q : Rat} {Q : D → Prop} : dNe (rt p) (rt q) Q = Q (.bool (!decide (p = q))) := by
  rw [← eqv_rt]
  exact propext ⟨fun h => h.2.2, fun h => ⟨rfl, rfl, h⟩⟩
theorem q_eqR {p q : Rat} {Q : D → Prop} : dEq (rt p) (rt q) Q = Q (.bool (decide (p = q))) := by
  rw [← eqv_rt]
  exact propext ⟨fun h => h.2.2, fun h => ⟨rfl, rfl, h⟩⟩
theorem rt_one : rt 1 = .tuple [.int 1, .int 1] := rfl
theorem plain_rt {n : Nat} (q : Rat) : plainD (n + 1) (rt q) = true := by cases n <;> rfl
theorem pure_law_lives : ∀ ds Q0, fs_law_lives ds Q0 → w_law_lives (kdEnd Q0) (startL 5 ds) := by
  rintro ds Q ⟨m, rfl, hm1, hm2, q⟩
  unfold w_law_lives
  walk_at "wgo"
  refine ⟨_, .inl rfl, by simp, rfl, ?_⟩
  have hpick : ∀ d ∈ [PyData.int 1, .int 2, .int 5, .int 10, .int 100, .int 1000000], ∃ h : Int, d = .int h ∧ 1 ≤ h ∧ h ≤ 1000000 := by
    intro d hd
    simp only [List.mem_cons, List.not_mem_nil, or_false] at hd
    rcases hd with rfl | rfl | rfl | rfl | rfl | rfl <;> exact ⟨_, rfl, by decide, by decide⟩
  intro d hd
  obtain ⟨h, rfl, h1, h2⟩ := hpick d hd
  clear hd hpick
  walk_at "wgo"
  refine ⟨by simp, m, rfl, by omega, fun v hv0 hv1 => ?_⟩
  walk_at "wgo"
  refine ⟨intOk_small (by omega) (by omega), ?_⟩
  refine forW_rng (fun i env => ∃ (xs : List Int) (h : Int) (z : SD), env = [.val rowD, .val (.int m), .own (xs.map PyData.int), .val (.int h), z] ∧ xs.length = i ∧ (∀ x ∈ xs, h ≤ x ∧ x ≤ 1000000) ∧ 1 ≤ h ∧ h ≤ 1000000 ∧ ∀ (j : Nat) (x y : Int), xs[j]? = some x → xs[j + 1]? = some y → y ≤ x)
    ⟨[], h, _, rfl, rfl, by simp, h1, h2, by simp⟩ (fun i env P hi ⟨xs, h, z, e, hl, hx, h1, h2, hf⟩ hP => ?_) fun env ⟨xs, h, z, e, hl, hx, h1, h2, hf⟩ => ?_
  · subst e
    walk_at "wgo"
    have hlen : xs.length < 16777216 := by omega
    refine ⟨hlen, 4, rfl, by decide, fun u hu0 hu1 => ?_⟩
    have next : ∀ h' : Int, 1 ≤ h' → h' ≤ h → P [.val rowD, .val (.int m), .own (xs.map PyData.int ++ [.int h]), .val (.int h'), .val (.int (0 + i * 1))] := fun h' a b => by
      refine hP _ ⟨xs ++ [h], h', _, by rw [List.map_append]; rfl, by simp [hl], fun x hx' => ?_, a, by omega, fun j x y hx1 hy1 => ?_⟩
      · rcases List.mem_append.mp hx' with z | z
        · have := hx x z; omega
        · rw [List.mem_singleton.mp z]; omega
      · by_cases hj : j + 1 < xs.length
        · rw [List.getElem?_append_left (by omega)] at hx1
          rw [List.getElem?_append_left hj] at hy1
          exact hf j x y hx1 hy1
        · have hj2 : j + 1 = xs.length := by
            have := (List.getElem?_eq_some_iff.mp hy1).1
            simp at this
            omega
          rw [List.getElem?_append_left (by omega)] at hx1
          rw [hj2, List.getElem?_append_right (Nat.le_refl _)] at hy1
          simp at hy1
          subst hy1
          exact (hx x (List.mem_of_getElem? hx1)).1
    walk_at "wgo"
    by_cases hu : 0 < u
    · rw [decide_eq_true hu]
      walk_at "wgo"
      refine ⟨h + 1, rfl, by omega, fun t ht0 ht1 => ?_⟩
      walk_at "wgo"
      exact next _ (by omega) (by omega)
    · rw [decide_eq_false hu]
      walk_at "wgo"
      exact next _ h1 (by omega)
  · subst e
    walk_at "wgo"
    have hxl : xs.length = (1 + v).toNat := hl
    refine ⟨by omega, ?_, ?_⟩
    · show flats _ = true
      rw [show [PyData.int 0] = [(0 : Int)].map PyData.int from rfl, ← List.map_append]
      exact flats_ints _
    · rw [show [PyData.int 0] = [(0 : Int)].map PyData.int from rfl, ← List.map_append]
      refine q (xs ++ [0]) ⟨by simp; omega, by simp; omega, fun x hx' => ?_, fun j x y hx1 hy1 => ?_, fun x hx1 => ?_, fun j x hj hx1 => ?_⟩ (by simp; omega)
      · rcases List.mem_append.mp hx' with z | z
        · have := hx x z; omega
        · rw [List.mem_singleton.mp z]; omega
      · by_cases hj : j + 1 < xs.length
        · rw [List.getElem?_append_left (by omega)] at hx1
          rw [List.getElem?_append_left hj] at hy1
          exact hf j x y hx1 hy1
        · have hj2 : j + 1 = xs.length := by
            have := (List.getElem?_eq_some_iff.mp hy1).1
            simp at this
            omega
          rw [List.getElem?_append_left (by omega)] at hx1
          rw [hj2, List.getElem?_append_right (Nat.le_refl _)] at hy1
          simp at hy1
          have := hx x (List.mem_of_getElem? hx1)
          omega
      · simp at hx1
        exact hx1.symm
      · simp at hj
        rw [List.getElem?_append_left (by omega)] at hx1
        have := hx x (List.mem_of_getElem? hx1)
        omega
theorem pure_plus : ∀ ds Q0, fs_plus ds Q0 → w_plus (kdEnd Q0) (startL 2 ds) := by
  rintro ds Q ⟨a, b, n, m, rfl, ha, hb, hs, q⟩
  unfold w_plus
  walk_at "wgo"
  have da := den_pos a
  have db := den_pos b
  refine ⟨mulFits_of ha.1 (m := m) (by simpa using hb.2) (by omega), mulFits_of hb.1 (m := n) (by simpa using ha.2) (by omega), mulFits_of (n := n) (m := m) (by simpa using ha.2) (by simpa using hb.2) (by omega), _, _, rfl, Int.ne_of_gt (Int.mul_pos da db), ?_⟩
  rw [← add_eq_div]
  walk_at "wgo"
  exact q
theorem pure_by : ∀ ds Q0, fs_by ds Q0 → w_by (kdEnd Q0) (startL 2 ds) := by
  rintro ds Q ⟨a, b, n, m, rfl, ha, hb, hs, q⟩
  unfold w_by
  walk_at "wgo"
  have da := den_pos a
  have db := den_pos b
  refine ⟨mulFits_of ha.1 hb.1 (by omega), mulFits_of (n := n) (m := m) (by simpa using ha.2) (by simpa using hb.2) (by omega), _, _, rfl, Int.ne_of_gt (Int.mul_pos da db), ?_⟩
  rw [← mul_eq_div]
  walk_at "wgo"
  exact q
theorem sub_eq_div (a b : Rat) : a - b = ((a.num * b.den - b.num * a.den : Int) : Rat) / ((a.den * b.den : Int) : Rat) := by
  have ha : ((a.den : Int) : Rat) ≠ 0 := by have := den_pos a; simp; omega
  have hb : ((b.den : Int) : Rat) ≠ 0 := by have := den_pos b; simp; omega
  have e1 := rt_num a
  have e2 := rt_num b
  rw [Rat.intCast_sub, Rat.intCast_mul, Rat.intCast_mul, Rat.intCast_mul]
  generalize ((a.den : Int) : Rat) = x at *
  generalize ((b.den : Int) : Rat) = y at *
  generalize (a.num : Rat) = u at *
  generalize (b.num : Rat) = v at *
  subst e1 e2
  grind
theorem num_ne {b : Rat} (hb : b ≠ 0) : b.num ≠ 0 := fun z => hb (by rw [rt_num b, z]; simp [Rat.div_def])
theorem div_eq_div (a b : Rat) (hb : b ≠ 0) : a / b = ((a.num * b.den : Int) : Rat) / ((a.den * b.num : Int) : Rat) := by
  have ha : ((a.den : Int) : Rat) ≠ 0 := by have := den_pos a; simp; omega
  have hb' : ((b.den : Int) : Rat) ≠ 0 := by have := den_pos b; simp; omega
  have hn : (b.num : Rat) ≠ 0 := by have := num_ne hb; simpa using this
  have e1 := rt_num a
  have e2 := rt_num b
  rw [Rat.intCast_mul, Rat.intCast_mul]
  generalize ((a.den : Int) : Rat) = x at *
  generalize ((b.den : Int) : Rat) = y at *
  generalize (a.num : Rat) = u at *
  generalize (b.num : Rat) = v at *
  subst e1 e2
  grind
theorem szLe.neg {n : Nat} {a : Rat} (h : szLe n a) : szLe n (-a) := ⟨by rw [show (-a).num = -a.num from rfl, Int.natAbs_neg]; exact h.1, h.2⟩
theorem szLe.sub {n m : Nat} {a b : Rat} (ha : szLe n a) (hb : szLe m b) : szLe (n + m + 1) (a - b) := by
  rw [Rat.sub_eq_add_neg]; exact ha.add hb.neg
theorem szLe.inv {n : Nat} {a : Rat} (h : szLe n a) (h0 : a ≠ 0) : szLe n a⁻¹ := by
  have e : a⁻¹ = ((a.den : Int) : Rat) / (a.num : Int) := by
    rw [← Rat.divInt_eq_div, ← Rat.inv_def]
  rw [e]
  exact szLe_div (num_ne h0) (by simpa using h.2) h.1
theorem szLe.div {n m : Nat} {a b : Rat} (ha : szLe n a) (hb : szLe m b) (h0 : b ≠ 0) : szLe (n + m) (a / b) := by
  rw [Rat.div_def]; exact ha.mul (hb.inv h0)
theorem szLe_one : szLe 1 (1 : Rat) := ⟨by decide, by decide⟩
theorem szLe.pow {k : Nat} {q : Rat} (h : szLe k q) (hk : 1 ≤ k) : ∀ n : Nat, szLe (k * n + 1) (q ^ n)
  | 0 => by rw [Rat.pow_zero]; exact szLe_one.mono (by omega)
  | n + 1 => by
    rw [Rat.pow_succ]
    exact ((szLe.pow h hk n).mul h).mono (by rw [Nat.mul_succ]; omega)
theorem pure_minus : ∀ ds Q0, fs_minus ds Q0 → w_minus (kdEnd Q0) (startL 2 ds) := by
  rintro ds Q ⟨a, b, n, m, rfl, ha, hb, hs, q⟩
  unfold w_minus
  walk_at "wgo"
  have da := den_pos a
  have db := den_pos b
  refine ⟨mulFits_of ha.1 (m := m) (by simpa using hb.2) (by omega), mulFits_of hb.1 (m := n) (by simpa using ha.2) (by omega), mulFits_of (n := n) (m := m) (by simpa using ha.2) (by simpa using hb.2) (by omega), _, _, rfl, Int.ne_of_gt (Int.mul_pos da db), ?_⟩
  rw [← sub_eq_div]
  walk_at "wgo"
  exact q
theorem pure_over : ∀ ds Q0, fs_over ds Q0 → w_over (kdEnd Q0) (startL 2 ds) := by
  rintro ds Q ⟨a, b, n, m, rfl, ha, hb, hs, h0, q⟩
  unfold w_over
  walk_at "wgo"
  have da := den_pos a
  have db := num_ne h0
  refine ⟨mulFits_of ha.1 (m := m) (by simpa using hb.2) (by omega), mulFits_of (n := n) (m := m) (by simpa using ha.2) hb.1 (by omega), _, _, rfl, Int.mul_ne_zero (by omega) db, ?_⟩
  rw [← div_eq_div _ _ h0]
  walk_at "wgo"
  exact q
theorem rpw_nonneg {q : Rat} {n : Int} (h : 0 ≤ n) : q ^ n.natAbs = rpw q n := by
  unfold rpw; rw [if_pos h]; congr 1; omega
theorem rpw_neg {q : Rat} {n : Int} (h : ¬ 0 ≤ n) : q⁻¹ ^ n.natAbs = rpw q n := by
  unfold rpw; rw [if_neg h]; congr 1; omega
theorem pure_power : ∀ ds Q0, fs_power ds Q0 → w_power (kdEnd Q0) (startL 5 ds) := by
  rintro ds Q ⟨q, n, k, rfl, hk, hs, h0, hb, hn, hq⟩
  have loop : ∀ b : Rat, szLe k b → b ^ n.natAbs = rpw q n → forW (wgN 4) (wSet 2 (wFn (fun ds Q => ds.length = 2 ∧ fs_by ds Q) (wCons (wVar 2) (wCons (wVar 3) wNil)))) { nx := wRet (wVar 2) { nx := fun x => Q .none, rt := Q }, rt := Q } (rngD 0 1 n.natAbs) [.val (rt q), .val (.int n), .val (rt 1), .val (rt b), .no] := by
    intro b hb2 he
    refine forW_rng (fun i env => ∃ z, env = [.val (rt q), .val (.int n), .val (rt (b ^ i)), .val (rt b), z]) ⟨_, by rw [Rat.pow_zero]⟩ (fun i env P hi ⟨z, e⟩ hP => ?_) fun env ⟨z, e⟩ => ?_
    · subst e
      walk_at "wgo"
      refine ⟨_, _, k * i + 1, k, rfl, hb2.pow hk i, hb2, ?_, ?_⟩
      · have : k * i ≤ k * n.natAbs := Nat.mul_le_mul_left _ (by omega)
        have : k * 1 ≤ k * n.natAbs := Nat.mul_le_mul_left _ (by omega)
        omega
      · walk_at "wgo"
        exact hP _ ⟨_, by rw [Rat.pow_succ]⟩
    · subst e
      walk_at "wgo"
      rw [he]; exact hq
  unfold w_power
  have hI : IntOk ((n.natAbs : Nat) : Int) := by unfold IntOk; omega
  by_cases h : 0 ≤ n
  · walk_at "wgo"
    rw [if_pos (by simpa using h)]
    exact ⟨by simp, hI, by simpa only [rt_one, Int.toNat_natCast] using loop q hs (rpw_nonneg h)⟩
  · walk_at "wgo"
    rw [if_neg (by simpa using h)]
    have hq0 := h0 (by omega)
    refine ⟨_, _, rfl, num_ne hq0, ?_⟩
    have e : ((q.den : Int) : Rat) / (q.num : Int) = q⁻¹ := by rw [← Rat.divInt_eq_div, ← Rat.inv_def]
    rw [e]
    exact ⟨rfl, by simp, hI, by simpa only [rt_one, Int.toNat_natCast] using loop q⁻¹ (hs.inv hq0) (rpw_neg h)⟩
theorem pure_is_ratio : ∀ ds Q0, fs_is_ratio ds Q0 → w_is_ratio (kdEnd Q0) (startL 2 ds) := by
  rintro ds Q ⟨q, rfl, hq⟩
  unfold w_is_ratio
  have g : Int.gcd q.num (q.den : Int) = 1 := q.reduced
  have hd := den_pos q
  walk_at "wgo"
  refine gen_all (fun _ => true) (fun i d hd => ?_) ?_
  · match i, d, hd with
    | 0, _, rfl => walk_at "wgo"
    | 1, _, rfl => walk_at "wgo"
  · walk_at "wgo"
    rw [show ((List.range 2).all fun _ => true) = true from rfl]
    walk_at "wgo"
    rw [if_pos (by simpa using hd), g]
    simpa using hq
theorem pure_need_rate : ∀ ds Q0, fs_need_rate ds Q0 → w_need_rate (kdEnd Q0) (startL 1 ds) := by
  rintro ds Q ⟨q, rfl, ⟨h1, h2, h3⟩, hq⟩
  unfold w_need_rate
  walk_at "wgo"
  refine ⟨_, rfl, ?_⟩
  have e1 : ¬ (1000 < (q.num.natAbs : Int)) := by omega
  have e2 : ¬ (1000 < (q.den : Int)) := by omega
  have e3 : ¬ (q.num ≤ 0 - (q.den : Int)) := by omega
  rw [decide_eq_false e1, decide_eq_false e2, decide_eq_false e3]
  walk_at "wgo"
  exact hq
theorem one_add_eq (q : Rat) : 1 + q = ((q.num + q.den : Int) : Rat) / ((q.den : Int) : Rat) := by
  have ha : ((q.den : Int) : Rat) ≠ 0 := by have := den_pos q; simp; omega
  have e1 := rt_num q
  rw [Rat.intCast_add]
  generalize ((q.den : Int) : Rat) = x at *
  generalize (q.num : Rat) = u at *
  subst e1
  grind
theorem pure_growth : ∀ ds Q0, fs_growth ds Q0 → w_growth (kdEnd Q0) (startL 1 ds) := by
  rintro ds Q ⟨q, rfl, hq⟩
  unfold w_growth
  walk_at "wgo"
  have da := den_pos q
  refine ⟨_, _, rfl, by omega, ?_⟩
  rw [← one_add_eq]
  walk_at "wgo"
  exact hq
theorem rt_int (x : Int) : PyData.tuple [.int x, .int 1] = rt (x : Rat) := rfl
theorem szLe_int {x : Int} {n : Nat} (h : x.natAbs < 2 ^ n) (hn : 1 ≤ n) : szLe n (x : Rat) := ⟨h, show 1 < 2 ^ n from Nat.lt_of_lt_of_le (by decide : 1 < 2 ^ 1) (Nat.pow_le_pow_right (by decide) hn)⟩
theorem szLe_zero : szLe 1 0 := ⟨by decide, by decide⟩
theorem rate_pos {r : Rat} (h : RateOk r) : 0 < 1 + r := by
  have hd := den_pos r
  have ha : 0 < ((r.den : Int) : Rat) := by have := den_pos r; exact Rat.intCast_pos.mpr this
  rw [one_add_eq, Rat.div_def]
  exact Rat.mul_pos (Rat.intCast_pos.mpr (by have := h.2.2; omega)) (Rat.inv_pos.mpr ha)
theorem szLe_1r {r : Rat} (h : RateOk r) : szLe 11 (1 + r) := by
  rw [one_add_eq]
  obtain ⟨h1, h2, h3⟩ := h
  have := den_pos r
  exact szLe_div (by omega) (by omega) (by omega)
theorem rate_ne {r : Rat} (h : RateOk r) : 1 + r ≠ 0 := fun z => by have := rate_pos h; rw [z] at this; exact absurd this (by decide)
theorem szLe_vv {r : Rat} (h : RateOk r) : szLe 11 (vv r) := (szLe_1r h).inv (rate_ne h)
theorem vv_ne {r : Rat} (h : RateOk r) : vv r ≠ 0 := fun z => rate_ne h (by unfold vv at z; rw [← Rat.inv_inv (1 + r), z]; exact Rat.inv_zero)
theorem ints_getD {L : List Int} {i : Nat} {d : D} (h : (L.map PyData.int)[i]? = some d) : i < L.length ∧ d = .int (L.getD i 0) := by
  obtain ⟨x, hx, rfl⟩ := ints_get h
  obtain ⟨hi, e⟩ := List.getElem?_eq_some_iff.mp hx
  exact ⟨hi, by rw [List.getD_eq_getElem?_getD, hx]; rfl⟩
theorem getD_in {P : Int → Prop} {L : List Int} (h : ∀ x ∈ L, P x) (h0 : P 0) (i : Nat) : P (L.getD i 0) := by
  rw [List.getD_eq_getElem?_getD]
  cases e : L[i]? with
  | none => exact h0
  | some x => exact h x (List.mem_of_getElem? e)
theorem pay_eq (x : Int) (v : Rat) : ((x * v.num : Int) : Rat) / ((v.den : Int) : Rat) = (x : Rat) * v := by
  have ha : ((v.den : Int) : Rat) ≠ 0 := by have := den_pos v; simp; omega
  have e1 := rt_num v
  rw [Rat.intCast_mul]
  generalize ((v.den : Int) : Rat) = w at *
  generalize (v.num : Rat) = u at *
  subst e1
  grind
theorem vstep_eq (v r : Rat) (h : RateOk r) : ((v.num * r.den : Int) : Rat) / ((v.den * (r.num + r.den) : Int) : Rat) = v * vv r := by
  have hd := den_pos r
  have hv := den_pos v
  have ha : ((v.den : Int) : Rat) ≠ 0 := by simp; omega
  have hb : ((r.den : Int) : Rat) ≠ 0 := by simp; omega
  have hc : ((r.num + r.den : Int) : Rat) ≠ 0 := by
    intro z; have := h.2.2
    have := Rat.intCast_eq_zero_iff.mp z; omega
  have e1 := rt_num v
  unfold vv
  rw [one_add_eq, Rat.intCast_mul, Rat.intCast_mul]
  generalize ((v.den : Int) : Rat) = w at *
  generalize (v.num : Rat) = u at *
  generalize ((r.num + r.den : Int) : Rat) = s at *
  generalize ((r.den : Int) : Rat) = t at *
  subst e1
  grind
theorem pure_law_values : ∀ ds Q0, fs_law_values ds Q0 → w_law_values (kdEnd Q0) (startL 5 ds) := by
  rintro ds Q ⟨L, r, rfl, hr, hl, hb, hq⟩
  unfold w_law_values
  walk_at "wgo"
  refine ⟨by simp, forW_idx (fun i env => ∃ z, env = [.val (tI L), .val (rt r), .own ((List.range i).map fun k => rt ((L.getD k 0 : Int) * vv r ^ k)), .val (rt (vv r ^ i)), z]) ⟨_, by rw [Rat.pow_zero]; rfl⟩ (fun i d env P hd ⟨z, e⟩ hP => ?_) fun env ⟨z, e⟩ => ?_⟩
  · subst e
    obtain ⟨hi, rfl⟩ := ints_getD hd
    have sv := (szLe_vv hr).pow (by decide) i
    have hx := getD_in (P := fun x => x.natAbs < 2 ^ 40) hb (by decide) i
    have dv := den_pos (vv r ^ i)
    have dr := den_pos r
    have h3 := hr.2.2
    walk_at "wgo"
    refine ⟨mulFits_of hx sv.1 (by omega), _, _, rfl, by omega, ?_⟩
    rw [pay_eq]
    walk_at "wgo"
    have hrd : ((r.den : Int)).natAbs < 2 ^ 11 := by have := hr.2.1; simp; omega
    have hrs : (r.num + (r.den : Int)).natAbs < 2 ^ 11 := by have := hr.1; have := hr.2.1; omega
    refine ⟨by simp; omega, mulFits_of sv.1 hrd (by omega), mulFits_of (n := 11 * i + 1) (by simpa using sv.2) hrs (by omega), _, _, rfl, Int.mul_ne_zero (by omega) (by omega), ?_⟩
    rw [vstep_eq _ _ hr]
    walk_at "wgo"
    exact hP _ ⟨_, by rw [Rat.pow_succ, List.range_succ, List.map_append]; rfl⟩
  · subst e
    walk_at "wgo"
    exact hq
theorem pure_values_of : ∀ ds Q0, fs_values_of ds Q0 → w_values_of (kdEnd Q0) (startL 6 ds) := by
  rintro ds Q ⟨L, r, rfl, hr, hl, hb, hq⟩
  unfold w_values_of
  walk_at "wgo"
  have s1 := szLe_1r hr
  refine ⟨r, rfl, 1 + r, -1, 11, rfl, by decide, s1, fun _ => rate_ne hr, by decide, by decide, ?_⟩
  rw [show rpw (1 + r) (-1) = vv r by unfold rpw vv; rw [if_neg (by decide)]; exact Rat.pow_one _]
  refine ⟨rfl, by simp, forW_idx (fun i env => ∃ z, env = [.val (tI L), .val (rt r), .own ((List.range i).map fun k => rt ((L.getD k 0 : Int) * vv r ^ k)), .val (rt (vv r ^ i)), .val (rt (vv r)), z]) ⟨_, by rw [Rat.pow_zero]; rfl⟩ (fun i d env P hd ⟨z, e⟩ hP => ?_) fun env ⟨z, e⟩ => ?_⟩
  · subst e
    obtain ⟨hi, rfl⟩ := ints_getD hd
    have sv := (szLe_vv hr).pow (by decide) i
    have hx := getD_in (P := fun x => x.natAbs < 2 ^ 40) hb (by decide) i
    walk_at "wgo"
    rw [rt_int]
    refine ⟨_, _, 40, 11 * i + 1, rfl, szLe_int hx (by decide), sv, by omega, ?_⟩
    walk_at "wgo"
    refine ⟨by simp; omega, _, _, 11 * i + 1, 11, rfl, sv, szLe_vv hr, by omega, ?_⟩
    walk_at "wgo"
    exact hP _ ⟨_, by rw [Rat.pow_succ, List.range_succ, List.map_append]; rfl⟩
  · subst e
    walk_at "wgo"
    exact hq
theorem pure_need_payments : ∀ ds Q0, fs_need_payments ds Q0 → w_need_payments (kdEnd Q0) (startL 2 ds) := by
  rintro ds Q ⟨L, rfl, ⟨h1, h2⟩, hq⟩
  unfold w_need_payments
  walk_at "wgo"
  rw [decide_eq_false (by omega : ¬ (40 : Int) < L.length)]
  walk_at "wgo"
  refine gen_all (fun _ => true) (fun i d hd => ?_) ?_
  · obtain ⟨hi, rfl⟩ := ints_getD hd
    have hx := getD_in (P := fun x => -1000000 ≤ x ∧ x ≤ 1000000) h2 (by decide) i
    walk_at "wgo"
    refine ⟨_, _, _, rfl, ?_⟩
    rw [decide_eq_true (by omega)]
  · have e : (List.range (L.map PyData.int).length).all (fun _ => true) = true := by simp
    rw [e]
    walk_at "wgo"
    exact hq
theorem sumR_succ (f : Nat → Rat) (n : Nat) : sumR f (n + 1) = sumR f n + f n := rfl
theorem need_time_in {v l m : Int} {Q : D → Prop} (h : l ≤ v) (h2 : v ≤ m) (q : Q .none) : fs_need_time [.int v, .int l, .int m] Q := ⟨v, l, m, rfl, ⟨h, h2⟩, q⟩
theorem szLe_sumR {f : Nat → Rat} {c k : Nat} (h : ∀ i, szLe (c * i + k) (f i)) : ∀ n, szLe (n * (c * n + k + 1) + 1) (sumR f n)
  | 0 => szLe_zero.mono (by omega)
  | n + 1 => by
    rw [sumR_succ]
    refine ((szLe_sumR h n).add (h n)).mono ?_
    have e0 : c * n ≤ c * (n + 1) := Nat.mul_le_mul_left _ (by omega)
    generalize c * (n + 1) = w at *
    have e1 : (n + 1) * (w + k + 1) = n * (w + k + 1) + (w + k + 1) := Nat.succ_mul _ _
    have e2 : n * (c * n + k + 1) ≤ n * (w + k + 1) := Nat.mul_le_mul_left _ (by omega)
    omega
theorem pure_value_at : ∀ ds Q0, fs_value_at ds Q0 → w_value_at (kdEnd Q0) (startL 5 ds) := by
  rintro ds Q ⟨L, r, t, rfl, hL, hr, ht, hq⟩
  unfold w_value_at
  walk_at "wgo"
  refine ⟨L, rfl, hL, r, rfl, hr, need_time_in (by omega) (by omega) ⟨L, r, rfl, hr, by have := hL.1; omega, fun x hx => by have := hL.2 x hx; omega, ?_⟩⟩
  walk_at "wgo"
  have hf : ∀ i, szLe (11 * i + 41) ((L.getD i 0 : Int) * vv r ^ i) := fun i =>
    (szLe.mul (szLe_int (n := 40) (getD_in (P := fun x => x.natAbs < 2 ^ 40) (fun x hx => by have := hL.2 x hx; omega) (by decide) i) (by decide)) ((szLe_vv hr).pow (by decide) i)).mono (by omega)
  have big : ∀ i, i ≤ 40 → i * (11 * i + 41 + 1) + 1 ≤ 20000 := fun i hi => by
    have : i * (11 * i + 41 + 1) ≤ 40 * 482 := Nat.mul_le_mul hi (by omega)
    omega
  have h40 := hL.1
  refine forW_idx (fun i env => ∃ z, env = [.val (tI L), .val (rt r), .val (.int t), .val (rt (sumR (fun k => (L.getD k 0 : Int) * vv r ^ k) i)), z]) ⟨_, rfl⟩ (fun i d env P hd ⟨z, e⟩ hP => ?_) fun env ⟨z, e⟩ => ?_
  · subst e
    rw [List.getElem?_map] at hd
    obtain ⟨j, hj, rfl⟩ := Option.map_eq_some_iff.mp hd
    obtain ⟨hi, e⟩ := List.getElem?_eq_some_iff.mp hj
    rw [List.getElem_range] at e
    subst e
    rw [List.length_range] at hi
    walk_at "wgo"
    refine ⟨_, _, _, _, rfl, szLe_sumR hf i, hf i, by have := big i (by omega); omega, ?_⟩
    walk_at "wgo"
    exact hP _ ⟨_, by rw [sumR_succ]⟩
  · subst e
    walk_at "wgo"
    rw [List.length_range]
    refine ⟨r, rfl, 1 + r, t, 11, rfl, by decide, szLe_1r hr, fun _ => rate_ne hr, by omega, by omega, ?_⟩
    rw [show rpw (1 + r) (t : Int) = (1 + r) ^ t by unfold rpw; rw [if_pos (by omega)]; rfl]
    walk_at "wgo"
    refine ⟨_, _, _, _, rfl, szLe_sumR hf _, (szLe_1r hr).pow (by decide) t, by have := big L.length (by omega); omega, ?_⟩
    walk_at "wgo"
    exact hq
theorem rep_flat {c : Int} {n : Nat} : (List.replicate n [PyData.int c]).flatten = (List.replicate n c).map PyData.int := by
  induction n with
  | zero => rfl
  | succ n ih => simp only [List.replicate_succ, List.flatten_cons, ih]; rfl
theorem pure_shifted : ∀ ds Q0, fs_shifted ds Q0 → w_shifted (kdEnd Q0) (startL 2 ds) := by
  rintro ds Q ⟨L, y, rfl, hL, ht, hq⟩
  unfold w_shifted
  walk_at "wgo"
  refine ⟨L, rfl, hL, need_time_in (by omega) (by omega) ?_⟩
  rw [decide_eq_false (by omega : ¬ (40 : Int) < L.length + y)]
  walk_at "wgo"
  refine ⟨⟨by simp, by omega, by omega⟩, ?_⟩
  rw [Int.toNat_natCast, rep_flat]
  unfold tI
  rw [q_cat, ← List.map_append]
  exact ⟨by simp; omega, flat_tI _, hq⟩
theorem pure_level : ∀ ds Q0, fs_level ds Q0 → w_level (kdEnd Q0) (startL 1 ds) := by
  rintro ds Q ⟨y, rfl, ht, hq⟩
  unfold w_level
  walk_at "wgo"
  refine need_time_in (by omega) (by omega) ⟨⟨by simp, by omega, by omega⟩, ?_⟩
  rw [Int.toNat_natCast, rep_flat]
  exact ⟨flats_ints _, hq⟩
theorem mr1 : rt (mkRat (-1) 2) = .tuple [.int (-1), .int 2] := by
  have : mkRat (-1) 2 = ⟨-1, 2, by decide, by decide⟩ := by decide
  rw [this]; rfl
theorem mr2 : rt (mkRat (-1) 10) = .tuple [.int (-1), .int 10] := by
  have : mkRat (-1) 10 = ⟨-1, 10, by decide, by decide⟩ := by decide
  rw [this]; rfl
theorem q_pr1 {a b : Int} {r : WL} {env : SDs} {Q : List D → Prop} : wCons (wTup (wCons (wC (.int a)) (wCons (wC (.int b)) wNil))) r env Q = r env fun ds => Q (.tuple [.int a, .int b] :: ds) := by
  unfold wCons; walk_at "wgo"
theorem q_pr2 {a b : Int} {r : WL} {env : SDs} {Q : List D → Prop} : wCons (wTup (wCons (wUn dNeg (wC (.int a))) (wCons (wC (.int b)) wNil))) r env Q = r env fun ds => Q (.tuple [.int (-a), .int b] :: ds) := by
  unfold wCons; walk_at "wgo"
theorem pure_law_rate : ∀ ds Q0, fs_law_rate ds Q0 → w_law_rate (kdEnd Q0) (startL 1 ds) := by
  rintro ds Q ⟨rfl, hq⟩
  unfold w_law_rate
  simp only [wRet, wFn, wCons, wDe, wLst, q_pr1, q_pr2, wNil]
  walk_at "wgo"
  refine ⟨_, Or.inl rfl, by simp, rfl, fun d hd => ?_⟩
  have h := fun (p : Int × Nat) (hp : p ∈ ratesL) => hq (mkRat p.1 p.2) ⟨p, hp, rfl⟩
  simp only [List.mem_cons, List.not_mem_nil, or_false] at hd
  rcases hd with rfl | rfl | rfl | rfl | rfl | rfl | rfl | rfl | rfl | rfl
  · exact ⟨rfl, h (0, 1) (by decide)⟩
  · exact ⟨rfl, h (1, 10) (by decide)⟩
  · exact ⟨rfl, h (1, 20) (by decide)⟩
  · exact ⟨rfl, h (1, 2) (by decide)⟩
  · exact ⟨rfl, h (1, 1) (by decide)⟩
  · exact ⟨rfl, mr1 ▸ h (-1, 2) (by decide)⟩
  · exact ⟨rfl, mr2 ▸ h (-1, 10) (by decide)⟩
  · exact ⟨rfl, h (3, 1) (by decide)⟩
  · exact ⟨rfl, h (1, 3) (by decide)⟩
  · exact ⟨rfl, h (7, 100) (by decide)⟩
theorem pure_need_loan : ∀ ds Q0, fs_need_loan ds Q0 → w_need_loan (kdEnd Q0) (startL 3 ds) := by
  rintro ds Q ⟨a, r, y, rfl, ⟨⟨h1, h2⟩, hr, h3, h4⟩, hq⟩
  unfold w_need_loan
  walk_at "wgo"
  refine ⟨_, _, _, rfl, ?_⟩
  rw [decide_eq_true ⟨h1, h2⟩]
  walk_at "wgo"
  exact ⟨r, rfl, hr, need_time_in (by omega) (by omega) hq⟩
theorem szLe_worth {r : Rat} (hr : RateOk r) (y : Nat) : szLe (y * (11 * y + 13) + 1) (worthR r y) :=
  szLe_sumR (c := 11) (k := 12) (fun i => ((szLe_vv hr).pow (by decide) (i + 1)).mono (by omega)) y
theorem pure_worth_of : ∀ ds Q0, fs_worth_of ds Q0 → w_worth_of (kdEnd Q0) (startL 6 ds) := by
  rintro ds Q ⟨r, y, rfl, hr, hy, hq⟩
  unfold w_worth_of
  walk_at "wgo"
  refine ⟨r, rfl, 1 + r, -1, 11, rfl, by decide, szLe_1r hr, fun _ => rate_ne hr, by decide, by decide, ?_⟩
  rw [show rpw (1 + r) (-1) = vv r by unfold rpw vv; rw [if_neg (by decide)]; exact Rat.pow_one _]
  refine ⟨rfl, by simp, intOk_small (by omega) (by omega), ?_⟩
  rw [Int.toNat_natCast]
  refine forW_rng (fun i env => ∃ z, env = [.val (rt r), .val (.int y), .val (rt (worthR r i)), .val (rt (vv r ^ i)), .val (rt (vv r)), z]) ⟨_, by rw [Rat.pow_zero]; rfl⟩ (fun i env P hi ⟨z, e⟩ hP => ?_) fun env ⟨z, e⟩ => ?_
  · subst e
    walk_at "wgo"
    refine ⟨_, _, _, _, rfl, (szLe_vv hr).pow (by decide) i, szLe_vv hr, by omega, ?_⟩
    walk_at "wgo"
    rw [← Rat.pow_succ]
    have b : i * (11 * i + 13) ≤ 1000 * 11013 := Nat.mul_le_mul (by omega) (by omega)
    refine ⟨_, _, _, _, rfl, szLe_worth hr i, (szLe_vv hr).pow (by decide) (i + 1), by omega, ?_⟩
    walk_at "wgo"
    exact hP _ ⟨_, rfl⟩
  · subst e
    walk_at "wgo"
    exact hq
theorem worth_pos {r : Rat} (hr : RateOk r) : ∀ y, 0 < worthR r (y + 1) := by
  have hv : 0 < vv r := Rat.inv_pos.mpr (rate_pos hr)
  have hp : ∀ n : Nat, 0 < vv r ^ n := fun n => Rat.pow_pos hv
  intro y
  induction y with
  | zero => show 0 < 0 + vv r ^ 1; rw [Rat.zero_add]; exact hp 1
  | succ y ih => show 0 < worthR r (y + 1) + vv r ^ (y + 2); have := hp (y + 2); grind
theorem worth_ne {r : Rat} (hr : RateOk r) {y : Nat} (hy : 1 ≤ y) : worthR r y ≠ 0 := by
  obtain ⟨n, rfl⟩ : ∃ n, y = n + 1 := ⟨y - 1, by omega⟩
  intro z
  have := worth_pos hr n
  rw [z] at this
  exact absurd this (by decide)
/-- all that 1 a year grows to -/
def geo (g : Rat) : Nat → Rat
  | 0 => 0
  | n + 1 => geo g n * g + 1
theorem left_eq (r p a : Rat) : ∀ k, leftR r p a k = a * (1 + r) ^ k - p * geo (1 + r) k
  | 0 => by show a = a * (1 + r) ^ 0 - p * 0; rw [Rat.pow_zero]; grind
  | k + 1 => by
    show leftR r p a k - (p - r * leftR r p a k) = a * (1 + r) ^ (k + 1) - p * (geo (1 + r) k * (1 + r) + 1)
    rw [left_eq r p a k, Rat.pow_succ]
    generalize (1 + r) ^ k = u
    generalize geo (1 + r) k = v
    grind
theorem szLe_geo {g : Rat} {n : Nat} (h : szLe n g) : ∀ k, szLe (k * (n + 2) + 1) (geo g k)
  | 0 => szLe_zero.mono (by omega)
  | k + 1 => (((szLe_geo h k).mul h).add szLe_one).mono (by rw [Nat.succ_mul]; omega)
theorem szLe_left {r p a : Rat} (hr : RateOk r) {n m : Nat} (ha : szLe n a) (hp : szLe m p) (k : Nat) : szLe (n + m + 24 * k + 3) (leftR r p a k) := by
  rw [left_eq]
  exact ((ha.mul ((szLe_1r hr).pow (by decide) k)).sub (hp.mul (szLe_geo (szLe_1r hr) k))).mono (by omega)
theorem szLe_rate {r : Rat} (h : RateOk r) : szLe 10 r := ⟨by have := h.1; omega, by have := h.2.1; omega⟩
theorem szLe_paid {a : Int} {r : Rat} {y : Nat} (h : LoanOk a r y) : szLe 18200 ((a : Rat) / worthR r y) := by
  obtain ⟨⟨h1, h2⟩, hr, h3, h4⟩ := h
  have b : y * (11 * y + 13) ≤ 40 * 453 := Nat.mul_le_mul (by omega) (by omega)
  exact ((szLe_int (n := 20) (by omega) (by decide)).div (szLe_worth hr y) (worth_ne hr h3)).mono (by omega)
theorem flats_mapR {α : Type} {f : α → D} (h : ∀ i, flat (f i) = true) (l : List α) : flats (l.map f) = true := flats_iff.mpr fun d hd => by obtain ⟨i, _, rfl⟩ := List.mem_map.mp hd; exact h i
theorem pure_loan_rows : ∀ ds Q0, fs_loan_rows ds Q0 → w_loan_rows (kdEnd Q0) (startL 9 ds) := by
  rintro ds Q ⟨a, r, y, rfl, h, hq⟩
  have h' := h
  obtain ⟨⟨h1, h2⟩, hr, h3, h4⟩ := h'
  have b : y * (11 * y + 13) ≤ 40 * 453 := Nat.mul_le_mul (by omega) (by omega)
  have sa : szLe 20 (a : Rat) := szLe_int (by omega) (by decide)
  have sp := szLe_paid h
  unfold w_loan_rows
  walk_at "wgo"
  rw [rt_int]
  refine ⟨a, r, y, rfl, h, r, y, rfl, hr, by omega, a, _, _, _, rfl, sa, szLe_worth hr y, by omega, worth_ne hr h3, rfl, by simp, intOk_small (by omega) (by omega), ?_⟩
  rw [Int.toNat_natCast]
  generalize (a : Rat) / worthR r y = p at *
  refine forW_rng (fun i env => ∃ z1 z2 z3, env = [.val (.int a), .val (rt r), .val (.int y), .val (rt p), .val (rt (leftR r p a i)), .own ((List.range i).map (loanRow r p a)), z1, z2, z3]) ⟨_, _, _, rfl⟩ (fun i env P hi ⟨z1, z2, z3, e⟩ hP => ?_) fun env ⟨z1, z2, z3, e⟩ => ?_
  · subst e
    have sl := szLe_left hr sa sp i
    walk_at "wgo"
    refine ⟨_, _, _, _, rfl, szLe_rate hr, sl, by omega, ?_⟩
    walk_at "wgo"
    refine ⟨_, _, _, _, rfl, sp, (szLe_rate hr).mul sl, by omega, ?_⟩
    walk_at "wgo"
    refine ⟨_, _, _, _, rfl, sl, sp.sub ((szLe_rate hr).mul sl), by omega, ?_⟩
    walk_at "wgo"
    refine ⟨by simp; omega, hP _ ⟨_, _, _, by rw [List.range_succ, List.map_append]; rfl⟩⟩
  · subst e
    walk_at "wgo"
    exact ⟨flats_mapR (fun _ => rfl) _, hq⟩
theorem pure_left_of_loan : ∀ ds Q0, fs_left_of_loan ds Q0 → w_left_of_loan (kdEnd Q0) (startL 4 ds) := by
  rintro ds Q ⟨a, r, y, t, rfl, h, ht, hq⟩
  have h' := h
  obtain ⟨⟨h1, h2⟩, hr, h3, h4⟩ := h'
  have b : y * (11 * y + 13) ≤ 40 * 453 := Nat.mul_le_mul (by omega) (by omega)
  have b2 : (y - t) * (11 * (y - t) + 13) ≤ 40 * 453 := Nat.mul_le_mul (by omega) (by omega)
  have sa : szLe 20 (a : Rat) := szLe_int (by omega) (by decide)
  have sp := szLe_paid h
  unfold w_left_of_loan
  walk_at "wgo"
  rw [rt_int]
  refine ⟨a, r, y, rfl, h, need_time_in (by omega) (by omega) ⟨r, y, rfl, hr, by omega, a, _, _, _, rfl, sa, szLe_worth hr y, by omega, worth_ne hr h3, ?_⟩⟩
  refine ⟨r, y - t, by rw [show ((y : Int) - t) = ((y - t : Nat) : Int) by omega], hr, by omega, _, _, _, _, rfl, sp, szLe_worth hr _, by omega, ?_⟩
  walk_at "wgo"
  exact hq
/-- a list of drawn things -/
theorem lcW_any {α : Type} (f : α → D) (p : α → Prop) {wg : WG} {wt : WT} {we : WE} {env : SDs} {Q : List D → Prop} {ds : List D}
    (hstep : ∀ i d acc (P : List D → Prop), ds[i]? = some d → acc.length = i → (∀ x, p x → P (acc ++ [f x])) → wg d env fun env' => wt env' fun c => if c = true then we env' fun y => (acc.length < 16777216 ∧ flat y = true) ∧ P (acc ++ [y]) else P acc)
    (hend : ∀ L : List α, L.length = ds.length → (∀ x ∈ L, p x) → Q (L.map f)) : lcW wg wt we env Q ds [] := by
  refine lcW_idx (fun i acc => ∃ L : List α, acc = L.map f ∧ L.length = i ∧ ∀ x ∈ L, p x) ⟨[], rfl, rfl, by simp⟩ (fun i d acc P hd ⟨L, e, hl, hp⟩ hP => ?_) fun acc ⟨L, e, hl, hp⟩ => ?_
  · subst e
    refine hstep i d _ P hd (by simp [hl]) fun x hx => hP _ ⟨L ++ [x], by simp, by simp [hl], fun y hy => ?_⟩
    rcases List.mem_append.mp hy with h | h
    · exact hp y h
    · rw [List.mem_singleton.mp h]; exact hx
  · subst e
    exact hend L hl hp
theorem plain_tI {n : Nat} {L : List Int} (h : L.length < 16777216) : plainD (n + 1) (tI L) = true := by
  show ((L.map PyData.int).all (plainD n) && decide ((L.map PyData.int).length < 16777216)) = true
  rw [List.all_map, List.length_map, decide_eq_true h, Bool.and_true, List.all_eq_true]
  intro x _
  cases n <;> rfl
theorem rt_copr {t b : Int} (hb : 0 < b) (h : Int.gcd t b = 1) : rt ((t : Rat) / b) = .tuple [.int t, .int b] := by
  rw [rt_pos hb, h]; simp
theorem rt_1r {r : Rat} : PyData.tuple [.int (r.num + r.den), .int r.den] = rt (1 + r) := by
  rw [one_add_eq, rt_copr (den_pos r)]
  have : Int.gcd r.num (r.den : Int) = 1 := r.reduced
  rw [Int.gcd_add_self_left]; exact this
theorem rt_vv {r : Rat} (h : RateOk r) : PyData.tuple [.int r.den, .int (r.num + r.den)] = rt (vv r) := by
  have e : vv r = ((r.den : Int) : Rat) / ((r.num + r.den : Int) : Rat) := by
    unfold vv; rw [one_add_eq, Rat.div_def, Rat.inv_mul_rev, Rat.inv_inv, Rat.div_def]
  have : Int.gcd r.num (r.den : Int) = 1 := r.reduced
  rw [e, rt_copr (by have := h.2.2; omega)]
  rw [Int.gcd_comm, Int.gcd_add_self_left]; exact this
theorem rpow_add (q : Rat) (m : Nat) : ∀ n, q ^ (m + n) = q ^ m * q ^ n
  | 0 => by rw [Nat.add_zero, Rat.pow_zero, Rat.mul_one]
  | n + 1 => by rw [← Nat.add_assoc, Rat.pow_succ, Rat.pow_succ, rpow_add q m n, Rat.mul_assoc]
theorem vv_mul {r : Rat} (h : RateOk r) : vv r * (1 + r) = 1 := Rat.inv_mul_cancel _ (rate_ne h)
theorem vv_pow {r : Rat} (h : RateOk r) : ∀ n : Nat, vv r ^ n * (1 + r) ^ n = 1
  | 0 => by rw [Rat.pow_zero, Rat.pow_zero, Rat.mul_one]
  | n + 1 => by
    have e := vv_pow h n
    have e2 := vv_mul h
    rw [Rat.pow_succ, Rat.pow_succ]
    generalize vv r ^ n = a at *
    generalize (1 + r) ^ n = b at *
    generalize vv r = c at *
    generalize (1 + r) = d at *
    calc a * c * (b * d) = (a * b) * (c * d) := by grind
      _ = 1 := by rw [e, e2, Rat.mul_one]
theorem vv_fwd {r : Rat} (h : RateOk r) {k t : Nat} (hk : k ≤ t) : vv r ^ k * (1 + r) ^ t = (1 + r) ^ (t - k) := by
  obtain ⟨d, rfl⟩ : ∃ d, t = k + d := ⟨t - k, by omega⟩
  rw [rpow_add, ← Rat.mul_assoc, vv_pow h, Rat.one_mul]
  congr 1; omega
theorem vv_bwd {r : Rat} (h : RateOk r) {k t : Nat} (hk : t ≤ k) : vv r ^ k * (1 + r) ^ t = vv r ^ (k - t) := by
  obtain ⟨d, rfl⟩ : ∃ d, k = t + d := ⟨k - t, by omega⟩
  have := vv_pow h t
  rw [rpow_add]
  calc vv r ^ t * vv r ^ d * (1 + r) ^ t = (vv r ^ t * (1 + r) ^ t) * vv r ^ d := by grind
    _ = _ := by rw [this, Rat.one_mul]; congr 1; omega
theorem sumR_mul (f : Nat → Rat) (c : Rat) : ∀ n, sumR f n * c = sumR (fun k => f k * c) n
  | 0 => by show (0 : Rat) * c = 0; rw [Rat.zero_mul]
  | n + 1 => by rw [sumR_succ, sumR_succ, Rat.add_mul, sumR_mul f c n]
theorem sumR_congr {f g : Nat → Rat} : ∀ n, (∀ k, k < n → f k = g k) → sumR f n = sumR g n
  | 0, _ => rfl
  | n + 1, h => by rw [sumR_succ, sumR_succ, sumR_congr n (fun k hk => h k (by omega)), h n (by omega)]
theorem sumR_zero {f : Nat → Rat} : ∀ n, (∀ k, k < n → f k = 0) → sumR f n = 0
  | 0, _ => rfl
  | n + 1, h => by rw [sumR_succ, sumR_zero n (fun k hk => h k (by omega)), h n (by omega), Rat.add_zero]
theorem sumR_add (f : Nat → Rat) (y : Nat) : ∀ n, sumR f (y + n) = sumR f y + sumR (fun k => f (y + k)) n
  | 0 => by show sumR f y = sumR f y + 0; rw [Rat.add_zero]
  | n + 1 => by rw [← Nat.add_assoc, sumR_succ, sumR_succ, sumR_add f y n, Rat.add_assoc]
theorem rngD_len {lo c : Int} {n : Nat} : (rngD lo c n).length = n := by unfold rngD; simp
theorem atI_getD {L : List Int} {k : Nat} (h : k < L.length) : atI (L.map PyData.int) (k : Int) = some (.int (L.getD k 0)) := atI_lv h
theorem range_const (n : Nat) (c : Int) : ((List.range n).map fun _ => PyData.int c) = (List.replicate n c).map PyData.int := by
  rw [List.map_replicate]
  exact List.eq_replicate_iff.mpr ⟨by simp, by simp⟩
theorem rates_ok {q : Rat} (h : RateIn q) : RateOk q := by
  obtain ⟨p, hp, rfl⟩ := h
  have : ∀ p ∈ ratesL, RateOk (mkRat p.1 p.2) := by unfold RateOk; decide
  exact this p hp
theorem lv_in {L : List Int} (h : LivesOk L) (a : Nat) : 0 ≤ lv L a ∧ lv L a ≤ 1000000 := by
  unfold lv
  by_cases ha : a < L.length
  · rw [List.getElem?_eq_getElem ha]
    exact h.in_ _ (List.getElem_mem _)
  · rw [List.getElem?_eq_none (by omega)]
    decide
theorem lv_end {L : List Int} {a : Nat} (h : L.length ≤ a) : lv L a = 0 := by
  unfold lv
  rw [List.getElem?_eq_none h]; rfl
/-- the first n of f, added -/
def sumTo (f : Nat → Int) : Nat → Int
  | 0 => 0
  | n + 1 => sumTo f n + f n
theorem sumTo_bound {f : Nat → Int} {c : Nat} (hf : ∀ i, 0 ≤ f i ∧ f i ≤ c) (n : Nat) : 0 ≤ sumTo f n ∧ sumTo f n ≤ n * c := by
  induction n with
  | zero => simp [sumTo]
  | succ n ih =>
    have := hf n
    unfold sumTo
    have : (n : Int) * c + c = ((n + 1 : Nat) : Int) * c := by grind
    omega
theorem div_add_div (x y b : Int) : ((x : Rat) / b) + (y : Rat) / b = ((x + y : Int) : Rat) / b := by
  rw [Rat.intCast_add]; grind
theorem sum_lv {L : List Int} (a : Nat) : ∀ n, sumTo (fun i => lv L (a + i)) n = ((L.drop a).take n).sum
  | 0 => by simp [sumTo]
  | n + 1 => by
    unfold sumTo
    rw [sum_lv a n, List.take_add_one, List.sum_append]
    congr 1
    rw [List.getElem?_drop]
    unfold lv
    cases L[a + n]? <;> simp
theorem tele {L : List Int} (a : Nat) : ∀ n, sumTo (fun i => lv L (a + i) - lv L (a + i + 1)) n = lv L a - lv L (a + n)
  | 0 => by simp [sumTo]
  | n + 1 => by
    unfold sumTo
    rw [tele a n, show a + (n + 1) = a + n + 1 from rfl]
    omega
theorem rat_sumTo (f : Nat → Int) (b : Int) (n : Nat) : ((List.range n).map fun i => (f i : Rat) / b).sum = (sumTo f n : Rat) / b := by
  induction n with
  | zero => simp [sumTo, Rat.div_def]
  | succ n ih =>
    rw [List.range_succ, List.map_append, List.sum_append, ih]
    show _ = ((sumTo f n + f n : Int) : Rat) / b
    rw [← div_add_div]
    simp only [List.map_cons, List.map_nil, List.sum_cons, List.sum_nil]
    grind
theorem sz_le {n : Nat} {q : Rat} (h : szLe n q) (hn : 1 ≤ n) : sz q ≤ n := by
  have l : ∀ x : Nat, x < 2 ^ n → x.log2 < n := fun x hx => by
    by_cases hz : x = 0
    · rw [hz]; simp; omega
    · exact (Nat.log2_lt hz).mpr hx
  have h1 := l _ h.1
  have h2 := l _ h.2
  unfold sz
  omega
theorem pure_need_premium : ∀ ds Q0, fs_need_premium ds Q0 → w_need_premium (kdEnd Q0) (startL 1 ds) := by
  rintro ds Q ⟨p, rfl, ⟨h1, h2⟩, hq⟩
  unfold w_need_premium
  walk_at "wgo"
  refine ⟨p, rfl, ?_⟩
  walk_at "wgo"
  have e1 : ¬ (1000000 < (p.den : Int)) := by omega
  have e2 : ¬ (1000000 * (p.den : Int) < (p.num.natAbs : Int)) := by omega
  rw [decide_eq_false e1, decide_eq_false e2]
  walk_at "wgo"
  have sp : szLe 50 p := ⟨by omega, by omega⟩
  exact ⟨mulFits_of (n := 20) (m := 50) (by decide) (by simpa using sp.2) (by omega), hq⟩
theorem pure_need_policy : ∀ ds Q0, fs_need_policy ds Q0 → w_need_policy (kdEnd Q0) (startL 1 ds) := by
  rintro ds Q ⟨P, rfl, h, hq⟩
  unfold w_need_policy Pol.d
  walk_at "wgo"
  refine ⟨P.L, rfl, h.lives, P.L, P.a, rfl, by have := h.age; omega, by have := h.age; omega, P.r, rfl, h.rate, P.A, rfl, h.alive, P.B, rfl, h.dead, P.p, rfl, h.prem, need_time_in (by omega) (by have := h.years; omega) hq⟩
theorem entry_eq {A : List Int} {t : Nat} (h : ¬ t < A.length) : A.getD t 0 = 0 := by
  rw [List.getD_eq_getElem?_getD, List.getElem?_eq_none (by omega)]; rfl
theorem pure_entry : ∀ ds Q0, fs_entry ds Q0 → w_entry (kdEnd Q0) (startL 2 ds) := by
  rintro ds Q ⟨A, t, rfl, hq⟩
  unfold w_entry
  walk_at "wgo"
  by_cases h : t < A.length
  · rw [decide_eq_true (by omega : (t : Int) < A.length), if_pos rfl, atI_getD h]
    exact ⟨rfl, hq⟩
  · rw [decide_eq_false (by omega : ¬ (t : Int) < A.length), if_neg (by decide)]
    rw [entry_eq h] at hq
    exact hq
theorem pure_law_entry : ∀ ds Q0, fs_law_entry ds Q0 → w_law_entry (kdEnd Q0) (startL 2 ds) := by
  rintro ds Q ⟨A, t, rfl, hq⟩
  unfold w_law_entry
  walk_at "wgo"
  by_cases h : t < A.length
  · rw [decide_eq_true (by omega : (t : Int) < A.length), if_pos rfl, atI_getD h]
    exact ⟨rfl, hq⟩
  · rw [decide_eq_false (by omega : ¬ (t : Int) < A.length), if_neg (by decide)]
    rw [entry_eq h] at hq
    exact hq
theorem pure_span_of : ∀ ds Q0, fs_span_of ds Q0 → w_span_of (kdEnd Q0) (startL 1 ds) := by
  rintro ds Q ⟨P, rfl, h, hq⟩
  unfold w_span_of Pol.d
  walk_at "wgo"
  have := h.age
  rw [show (P.L.length : Int) - 1 - P.a = (P.n : Int) by unfold Pol.n; omega]
  exact hq
theorem pure_law_span : ∀ ds Q0, fs_law_span ds Q0 → w_law_span (kdEnd Q0) (startL 1 ds) := by
  rintro ds Q ⟨P, rfl, h, hq⟩
  unfold w_law_span Pol.d
  walk_at "wgo"
  have := h.age
  rw [show (P.L.length : Int) - 1 - P.a = (P.n : Int) by unfold Pol.n; omega]
  exact hq
theorem Pol.Ok.szp {P : Pol} (h : P.Ok) : szLe 40 P.p := ⟨by have := h.prem; omega, by have := h.prem; omega⟩
theorem Pol.Ok.toR {P : Pol} (h : P.Ok) : P.OkR := ⟨h.lives, h.age, h.rate, h.alive, h.dead, h.szp.mono (by omega), h.years⟩
theorem Pol.OkR.ok0 {P : Pol} (h : P.OkR) : ({ P with p := 0 } : Pol).Ok := ⟨h.lives, h.age, h.rate, h.alive, h.dead, ⟨by show (0 : Int).natAbs ≤ 1000000 * 1; decide, by show 1 ≤ 1000000; decide⟩, h.years⟩
theorem szLe_netR {P : Pol} (h : P.OkR) (t : Nat) : szLe 60100 (P.net t) := by
  unfold Pol.net
  have sa : szLe 20 ((P.A.getD t 0 : Int) : Rat) := szLe_int (getD_in (P := fun x => x.natAbs < 2 ^ 20) (fun x hx => by have := h.alive.2 x hx; omega) (by decide) t) (by decide)
  have sp : szLe 60000 (if t < P.y then P.p else 0) := by
    split
    · exact h.szp
    · exact szLe_zero.mono (by omega)
  exact (sa.sub sp).mono (by omega)
theorem Pol.Ok.lpos {P : Pol} (h : P.Ok) {t : Nat} (ht : t < P.n) : 0 < P.l t ∧ P.l t ≤ 1000000 := by
  have := h.age
  unfold Pol.n at ht
  exact ⟨lv_pos h.lives (by omega), (lv_in h.lives _).2⟩
theorem pure_part_dying : ∀ ds Q0, fs_part_dying ds Q0 → w_part_dying (kdEnd Q0) (startL 4 ds) := by
  rintro ds Q ⟨P, t, rfl, h, ht, hq⟩
  have hl := (h.lpos ht).1
  have ha := h.age
  unfold w_part_dying Pol.d
  walk_at "wgo"
  unfold Pol.n at ht
  rw [show (P.a : Int) + t = ((P.a + t : Nat) : Int) by omega, show ((P.a + t : Nat) : Int) + 1 = ((P.a + t + 1 : Nat) : Int) by omega]
  rw [atI_lv (by omega), atI_lv (by omega)]
  walk_at "wgo"
  refine ⟨by simp, _, _, rfl, by unfold Pol.l at hl; omega, ?_⟩
  walk_at "wgo"
  exact hq
theorem rt_negq (q : Rat) : PyData.tuple [.int (0 - q.num), .int q.den] = rt (-q) := by
  show _ = PyData.tuple [.int (-q.num), .int q.den]
  rw [Int.zero_sub]
theorem szLe_net {P : Pol} (h : P.Ok) (t : Nat) : szLe 62 (P.net t) := by
  unfold Pol.net
  have sa : szLe 20 ((P.A.getD t 0 : Int) : Rat) := szLe_int (getD_in (P := fun x => x.natAbs < 2 ^ 20) (fun x hx => by have := h.alive.2 x hx; omega) (by decide) t) (by decide)
  have sp : szLe 40 (if t < P.y then P.p else 0) := by
    split
    · exact ⟨by have := h.prem; omega, by have := h.prem; omega⟩
    · exact szLe_zero.mono (by omega)
  exact (sa.sub sp).mono (by omega)
theorem pure_net_alive : ∀ ds Q0, fs_net_alive ds Q0 → w_net_alive (kdEnd Q0) (startL 3 ds) := by
  rintro ds Q ⟨P, t, rfl, h, hq⟩
  have sa : szLe 20 ((P.A.getD t 0 : Int) : Rat) := szLe_int (getD_in (P := fun x => x.natAbs < 2 ^ 20) (fun x hx => by have := h.alive.2 x hx; omega) (by decide) t) (by decide)
  have sp : szLe 40 P.p := ⟨by have := h.prem; omega, by have := h.prem; omega⟩
  unfold Pol.net at hq
  unfold w_net_alive Pol.d
  by_cases hy : t < P.y
  · rw [if_pos hy] at hq
    walk_at "wgo"
    rw [decide_eq_true (by omega : (t : Int) < P.y)]
    walk_at "wgo"
    refine ⟨P.A, t, rfl, _, _, _, _, rfl, sa, sp, by omega, ?_⟩
    walk_at "wgo"
    exact hq
  · rw [if_neg hy] at hq
    walk_at "wgo"
    rw [decide_eq_false (by omega : ¬ (t : Int) < P.y)]
    walk_at "wgo"
    rw [← rt_zero]
    refine ⟨P.A, t, rfl, _, _, _, _, rfl, sa, szLe_zero, by omega, ?_⟩
    walk_at "wgo"
    exact hq
theorem pure_changed : ∀ ds Q0, fs_changed ds Q0 → w_changed (kdEnd Q0) (startL 4 ds) := by
  rintro ds Q ⟨P, A, B, p, rfl, hq⟩
  unfold w_changed Pol.d
  walk_at "wgo"
  rw [show cutD [tI P.L, PyData.int P.a, rt P.r, tI P.A, tI P.B, rt P.p, PyData.int P.y] none (some 3) = [tI P.L, PyData.int P.a, rt P.r] from rfl]
  exact ⟨by simp, by walk_at "wgo", hq⟩
theorem pure_law_net : ∀ ds Q0, fs_law_net ds Q0 → w_law_net (kdEnd Q0) (startL 3 ds) := by
  rintro ds Q ⟨P, t, rfl, h, hq⟩
  have sa : szLe 20 ((P.A.getD t 0 : Int) : Rat) := szLe_int (getD_in (P := fun x => x.natAbs < 2 ^ 20) (fun x hx => by have := h.alive.2 x hx; omega) (by decide) t) (by decide)
  have sp : szLe 60000 P.p := h.szp
  unfold Pol.net at hq
  unfold w_law_net Pol.d
  by_cases hy : t < P.y
  · rw [if_pos hy] at hq
    walk_at "wgo"
    rw [decide_eq_true (by omega : (t : Int) < P.y)]
    walk_at "wgo"
    rw [rt_negq]
    refine ⟨P.A, t, rfl, ?_⟩
    walk_at "wgo"
    rw [rt_int]
    refine ⟨_, _, _, _, rfl, sa, sp.neg, by omega, ?_⟩
    rw [← Rat.sub_eq_add_neg]
    walk_at "wgo"
    exact hq
  · rw [if_neg hy] at hq
    walk_at "wgo"
    rw [decide_eq_false (by omega : ¬ (t : Int) < P.y)]
    walk_at "wgo"
    refine ⟨P.A, t, rfl, ?_⟩
    walk_at "wgo"
    rw [rt_int, show PyData.tuple [.int (0 - 0), .int 1] = rt (-0) from rfl]
    refine ⟨_, _, _, _, rfl, sa, szLe_zero.neg, by omega, ?_⟩
    rw [← Rat.sub_eq_add_neg]
    walk_at "wgo"
    exact hq
theorem pure_law_step : ∀ ds Q0, fs_law_step ds Q0 → w_law_step (kdEnd Q0) (startL 4 ds) := by
  rintro ds Q ⟨r, y, rfl, hr, hy, hq⟩
  unfold w_law_step
  walk_at "wgo"
  refine ⟨intOk_small (by omega) (by omega), forW_rng (fun i env => ∃ z, env = [.val (rt r), .val (.int y), .val (rt (vv r ^ i)), z]) ⟨_, by rw [Rat.pow_zero]; rfl⟩ (fun i env P hi ⟨z, e⟩ hP => ?_) fun env ⟨z, e⟩ => ?_⟩
  · subst e
    walk_at "wgo"
    rw [rt_vv hr]
    refine ⟨_, _, _, _, rfl, (szLe_vv hr).pow (by decide) i, szLe_vv hr, by omega, ?_⟩
    walk_at "wgo"
    exact hP _ ⟨_, by rw [Rat.pow_succ]⟩
  · subst e
    walk_at "wgo"
    exact hq
theorem sumR_first (f : Nat → Rat) (m : Nat) : sumR f (m + 1) = f 0 + sumR (fun k => f (k + 1)) m := by
  rw [Nat.add_comm m 1, sumR_add]
  show (0 + f 0) + _ = _
  rw [Rat.zero_add]
  congr 1
  exact sumR_congr _ fun k _ => by rw [Nat.add_comm]
theorem sumR_lmul (f : Nat → Rat) (c : Rat) (n : Nat) : c * sumR f n = sumR (fun k => c * f k) n := by
  rw [Rat.mul_comm, sumR_mul]; exact sumR_congr _ fun k _ => Rat.mul_comm _ _
/-- the reserves' upper part -/
def Pol.S (P : Pol) (t : Nat) : Rat := sumR (fun j => vv P.r ^ j * P.flow (t + j)) (P.n - t)
theorem S_step (P : Pol) {t : Nat} (h : t < P.n) : P.S t = P.flow t + vv P.r * P.S (t + 1) := by
  unfold Pol.S
  rw [show P.n - t = (P.n - (t + 1)) + 1 by omega, sumR_first, sumR_lmul, Rat.pow_zero, Rat.one_mul, Nat.add_zero]
  congr 1
  refine sumR_congr _ fun k _ => ?_
  rw [Rat.pow_succ, Rat.mul_comm (vv P.r ^ k), Rat.mul_assoc, show t + (k + 1) = t + 1 + k by omega]
theorem S_end (P : Pol) {t : Nat} (h : P.n ≤ t) : P.S t = 0 := by
  unfold Pol.S; rw [show P.n - t = 0 by omega]; rfl
theorem l_end {P : Pol} (h : P.Ok) : P.l P.n = 0 := by
  have h1 := h.age
  unfold Pol.l Pol.n
  rw [show P.a + (P.L.length - 1 - P.a) = P.L.length - 1 by omega]
  exact h.lives.last _ (by unfold lv; rw [List.getElem?_eq_getElem (by have := h.lives.l2; omega)]; rfl)
theorem q_eq {P : Pol} (h : P.Ok) {t : Nat} (ht : t < P.n) : 1 - P.q t = (P.l (t + 1) : Rat) / (P.l t : Int) := by
  have hl := (h.lpos ht).1
  have hn : ((P.l t : Int) : Rat) ≠ 0 := fun z => by have := Rat.intCast_eq_zero_iff.mp z; omega
  unfold Pol.q
  rw [Rat.intCast_sub]
  generalize ((P.l t : Int) : Rat) = x at *
  generalize ((P.l (t + 1) : Int) : Rat) = y at *
  grind
theorem qV {P : Pol} (h : P.Ok) {t : Nat} (ht : t < P.n) : (1 - P.q t) * P.V (t + 1) = P.S (t + 1) / (P.l t : Int) := by
  rw [q_eq h ht]
  have hl := (h.lpos ht).1
  show _ * (P.S (t + 1) / (P.l (t + 1) : Int)) = _
  by_cases he : t + 1 < P.n
  · have hl2 := (h.lpos he).1
    have hn : ((P.l (t + 1) : Int) : Rat) ≠ 0 := fun z => by have := Rat.intCast_eq_zero_iff.mp z; omega
    have hn2 : ((P.l t : Int) : Rat) ≠ 0 := fun z => by have := Rat.intCast_eq_zero_iff.mp z; omega
    generalize ((P.l t : Int) : Rat) = x at *
    generalize ((P.l (t + 1) : Int) : Rat) = y at *
    generalize P.S (t + 1) = z at *
    grind
  · rw [S_end P (by omega)]
    simp [Rat.div_def]
theorem V_step {P : Pol} (h : P.Ok) {t : Nat} (ht : t < P.n) : P.V t = P.net t + vv P.r * (P.q t * P.dead' t + (1 - P.q t) * P.V (t + 1)) := by
  rw [qV h ht]
  have hl := (h.lpos ht).1
  have hn : ((P.l t : Int) : Rat) ≠ 0 := fun z => by have := Rat.intCast_eq_zero_iff.mp z; omega
  show P.S t / (P.l t : Int) = _
  rw [S_step P ht]
  unfold Pol.flow Pol.q
  generalize ((P.l t - P.l (t + 1) : Int) : Rat) = w at *
  generalize ((P.l t : Int) : Rat) = x at *
  generalize P.S (t + 1) = z at *
  generalize P.dead' t = u
  generalize P.net t = m
  generalize vv P.r = v
  grind
theorem szLe_dead {P : Pol} (h : P.Ok) (t : Nat) : szLe 20 (P.dead' t) :=
  szLe_int (getD_in (P := fun x => x.natAbs < 2 ^ 20) (fun x hx => by have := h.dead.2 x hx; omega) (by decide) t) (by decide)
theorem l_in {P : Pol} (h : P.Ok) (t : Nat) : 0 ≤ P.l t ∧ P.l t ≤ 1000000 := lv_in h.lives _
theorem szLe_flow {P : Pol} (h : P.Ok) (t : Nat) : szLe 150 (P.flow t) := by
  have h1 := l_in h t
  have h2 := l_in h (t + 1)
  have a1 : szLe 20 ((P.l t : Int) : Rat) := szLe_int (by omega) (by decide)
  have a2 : szLe 20 ((P.l t - P.l (t + 1) : Int) : Rat) := szLe_int (by omega) (by decide)
  exact ((a1.mul (szLe_net h t)).add ((szLe_vv h.rate).mul (a2.mul (szLe_dead h t)))).mono (by omega)
theorem n_le {P : Pol} (h : P.Ok) : P.n ≤ 40 := by have := h.lives.l40; unfold Pol.n; omega
theorem szLe_S {P : Pol} (h : P.Ok) (t : Nat) : szLe 24000 (P.S t) := by
  have hn := n_le h
  refine (szLe_sumR (c := 11) (k := 151) (fun i => (((szLe_vv h.rate).pow (by decide) i).mul (szLe_flow h (t + i))).mono (by omega)) _).mono ?_
  have : (P.n - t) * (11 * (P.n - t) + 151 + 1) ≤ 40 * 592 := Nat.mul_le_mul (by omega) (by omega)
  omega
theorem szLe_q {P : Pol} (h : P.Ok) {t : Nat} (ht : t < P.n) : szLe 20 (P.q t) := by
  have h1 := h.lpos ht
  have h2 := l_in h (t + 1)
  exact szLe_div (by omega) (by omega) (by omega)
theorem szLe_V {P : Pol} (h : P.Ok) {t : Nat} (ht : t ≤ P.n) : szLe 24020 (P.V t) := by
  by_cases he : t < P.n
  · have h1 := h.lpos he
    have a1 : szLe 20 ((P.l t : Int) : Rat) := szLe_int (by omega) (by decide)
    exact (szLe_S h t).div a1 (fun z => by have := Rat.intCast_eq_zero_iff.mp z; omega)
  · show szLe _ (P.S t / _)
    rw [S_end P (by omega), Rat.div_def, Rat.zero_mul]
    exact szLe_zero.mono (by omega)
theorem V_end {P : Pol} : P.V P.n = 0 := by
  show P.S P.n / _ = 0
  rw [S_end P (by omega), Rat.div_def, Rat.zero_mul]
theorem pow_m1 (q : Rat) : rpw q (-1) = q⁻¹ := by unfold rpw; rw [if_neg (by decide)]; exact Rat.pow_one _
theorem pure_reserves_of : ∀ ds Q0, fs_reserves_of ds Q0 → w_reserves_of (kdEnd Q0) (startL 6 ds) := by
  rintro ds Q ⟨P, rfl, h, hq⟩
  have hn := n_le h
  have hr := h.rate
  unfold w_reserves_of
  walk_at "wgo"
  refine ⟨P.r, rfl, 1 + P.r, -1, 11, rfl, by decide, szLe_1r hr, fun _ => rate_ne hr, by decide, by decide, ?_⟩
  rw [pow_m1]
  refine ⟨rfl, by simp, P, rfl, h, ?_⟩
  walk_at "wgo"
  have hn1 : 1 ≤ P.n := by have := h.age; unfold Pol.n; omega
  refine ⟨⟨intOk_small (by omega) (by omega), intOk_small (by omega) (by omega)⟩, ?_⟩
  rw [show ((P.n : Int) - 1 - -1).toNat = P.n by omega]
  refine forW_rng (fun i env => i ≤ P.n ∧ ∃ z3 z4 z5, env = [.val P.d, .own ((List.range (i + 1)).map fun k => rt (P.V (P.n - i + k))), .val (rt (vv P.r)), z3, z4, z5]) ⟨by omega, _, _, _, by
    show _ = [_, SD.own [rt (P.V (P.n - 0 + 0))], _, _, _, _]
    rw [show P.n - 0 + 0 = P.n by omega, V_end]; rfl⟩ (fun i env P2 hi ⟨_, z3, z4, z5, e⟩ hP => ?_) fun env ⟨_, z3, z4, z5, e⟩ => ?_
  · subst e
    have ht : P.n - 1 - i < P.n := by omega
    rw [show (P.n : Int) - 1 + i * -1 = ((P.n - 1 - i : Nat) : Int) by omega]
    generalize htt : P.n - 1 - i = t at *
    walk_at "wgo"
    refine ⟨P, t, rfl, h, ht, ?_⟩
    walk_at "wgo"
    refine ⟨P.B, t, rfl, _, _, _, _, rfl, szLe_q h ht, szLe_dead h t, by omega, ?_⟩
    walk_at "wgo"
    have sd : szLe 20 (P.B.getD t 0 : Int) := szLe_dead h t
    have sq := szLe_q h ht
    have sv := szLe_V h (t := t + 1) (by omega)
    have s1 := szLe_one.sub sq
    rw [← rt_one, show atI ((List.range (i + 1)).map fun k => rt (P.V (P.n - i + k))) 0 = some (rt (P.V (t + 1))) from atI_nat (j := 0) (by rw [List.getElem?_map, List.getElem?_range (by omega), show P.n - i = t + 1 by omega]; rfl)]
    refine ⟨_, _, _, _, rfl, szLe_one, sq, by omega, ?_⟩
    walk_at "wgo"
    refine ⟨_, _, _, _, rfl, s1, sv, by omega, ?_⟩
    walk_at "wgo"
    refine ⟨_, _, _, _, rfl, sq.mul sd, s1.mul sv, by omega, ?_⟩
    walk_at "wgo"
    refine ⟨P, t, rfl, h, ?_⟩
    walk_at "wgo"
    refine ⟨_, _, _, _, rfl, szLe_vv hr, (sq.mul sd).add (s1.mul sv), by omega, ?_⟩
    walk_at "wgo"
    refine ⟨_, _, _, _, rfl, szLe_net h t, (szLe_vv hr).mul ((sq.mul sd).add (s1.mul sv)), by omega, ?_⟩
    walk_at "wgo"
    have hV : P.net t + vv P.r * (P.q t * (P.B.getD t 0 : Int) + (1 - P.q t) * P.V (t + 1)) = P.V t := (V_step h ht).symm
    rw [hV]
    have hl : rt (P.V t) :: (List.range (i + 1)).map (fun k => rt (P.V (P.n - i + k))) = (List.range (i + 1 + 1)).map fun k => rt (P.V (P.n - (i + 1) + k)) := by
      rw [show P.n - (i + 1) = t by omega, show P.n - i = t + 1 by omega, List.range_succ_eq_map (n := i + 1), List.map_cons, List.map_map, Nat.add_zero]
      congr 1
      refine List.map_congr_left fun k _ => ?_
      show rt (P.V (t + 1 + k)) = rt (P.V (t + (k + 1)))
      rw [show t + (k + 1) = t + 1 + k by omega]
    exact ⟨⟨by simp; omega, by decide, by decide⟩, hP _ ⟨by omega, _, _, _, by rw [← hl]; rfl⟩⟩
  · subst e
    walk_at "wgo"
    rw [Nat.sub_self]
    simpa using hq
theorem pure_worth : ∀ ds Q0, fs_worth ds Q0 → w_worth (kdEnd Q0) (startL 1 ds) := by
  rintro ds Q ⟨P, rfl, h, hq⟩
  unfold w_worth
  walk_at "wgo"
  refine ⟨P, rfl, h, P, rfl, h, ?_⟩
  walk_at "wgo"
  rw [show atI ((List.range (P.n + 1)).map fun t => rt (P.V t)) 0 = some (rt (P.V 0)) from atI_nat (j := 0) (by rw [List.getElem?_map, List.getElem?_range (by omega)]; rfl)]
  exact ⟨rfl, hq⟩
theorem cut_init {α : Type} (xs : List α) (h : xs ≠ []) : cutD xs none (some (-1)) = xs.take (xs.length - 1) := by
  unfold cutD
  have hl : 1 ≤ xs.length := by cases xs with
    | nil => exact absurd rfl h
    | cons a l => simp
  have e0 : HT.sIx xs.length 0 none = 0 := rfl
  have e1 : HT.sIx xs.length xs.length (some (-1)) = xs.length - 1 := by
    unfold HT.sIx
    simp
    omega
  rw [e0, e1]
  simp
theorem pure_reserves : ∀ ds Q0, fs_reserves ds Q0 → w_reserves (kdEnd Q0) (startL 1 ds) := by
  rintro ds Q ⟨P, rfl, h, hq⟩
  unfold w_reserves
  walk_at "wgo"
  refine ⟨P, rfl, h, P, rfl, h, ?_⟩
  walk_at "wgo"
  have e : cutD ((List.range (P.n + 1)).map fun t => rt (P.V t)) none (some (-1)) = (List.range P.n).map fun t => rt (P.V t) := by
    rw [cut_init _ (by simp), List.length_map, List.length_range, ← List.map_take, Nat.add_sub_cancel, List.range_succ, List.take_left' (by simp)]
  rw [e]
  exact ⟨flats_mapR (fun _ => rfl) _, hq⟩
theorem szLe_flowR {P : Pol} (h : P.OkR) (t : Nat) : szLe 60250 (P.flow t) := by
  have h1 : 0 ≤ P.l t ∧ P.l t ≤ 1000000 := l_in (P := { P with p := 0 }) h.ok0 t
  have h2 : 0 ≤ P.l (t + 1) ∧ P.l (t + 1) ≤ 1000000 := l_in (P := { P with p := 0 }) h.ok0 (t + 1)
  have a1 : szLe 20 ((P.l t : Int) : Rat) := szLe_int (by omega) (by decide)
  have a2 : szLe 20 ((P.l t - P.l (t + 1) : Int) : Rat) := szLe_int (by omega) (by decide)
  have a3 : szLe 20 (P.dead' t) := szLe_dead (P := { P with p := 0 }) h.ok0 t
  have a4 := szLe_netR h t
  have a5 : szLe 11 (vv P.r) := szLe_vv h.rate
  unfold Pol.flow
  have a6 := (a1.mul a4).add (a5.mul (a2.mul a3))
  exact a6.mono (by omega)
theorem pure_law_from : ∀ ds Q0, fs_law_from ds Q0 → w_law_from (kdEnd Q0) (startL 9 ds) := by
  rintro ds Q ⟨P, t, rfl, h, ht, hq⟩
  have h0 := h.ok0
  have hn : P.n ≤ 40 := n_le (P := { P with p := 0 }) h0
  have hr := h.rate
  have ha := h.age
  have lp : ∀ {t}, t < P.n → 0 < P.l t ∧ P.l t ≤ 1000000 := fun {t} ht => Pol.Ok.lpos (P := { P with p := 0 }) h0 (t := t) ht
  have hl0 := lp ht
  have li : ∀ t, 0 ≤ P.l t ∧ P.l t ≤ 1000000 := fun t => l_in (P := { P with p := 0 }) h0 t
  have hlne : ((P.l t : Int) : Rat) ≠ 0 := fun z => by have := Rat.intCast_eq_zero_iff.mp z; omega
  have sl : szLe 20 ((P.l t : Int) : Rat) := szLe_int (by omega) (by decide)
  unfold w_law_from
  walk_at "wgo"
  refine ⟨by simp, P, rfl, h, ?_⟩
  walk_at "wgo"
  refine ⟨⟨intOk_small (by omega) (by omega), intOk_small (by omega) (by omega)⟩, ?_⟩
  rw [show ((P.n : Int) - t).toNat = P.n - t by omega]
  have hs : ∀ i, i ≤ 40 → szLe 2700000 (sumR (fun j => vv P.r ^ j * P.flow (t + j)) i / (P.l t : Int)) := fun i hi => by
    have h1 : 11 * i + 60251 + 1 ≤ 60692 := by omega
    refine ((szLe_sumR (c := 11) (k := 60251) (fun i => (((szLe_vv h.rate).pow (by decide) i).mul (szLe_flowR h (t + i))).mono (by omega)) i).div sl hlne).mono ?_
    have h2 : i * (11 * i + 60251 + 1) ≤ i * 60692 := Nat.mul_le_mul_left i h1
    exact Nat.le_trans (Nat.add_le_add_right (Nat.add_le_add_right (Nat.le_trans h2 (Nat.mul_le_mul_right 60692 hi)) 1) 20) (by decide)
  refine forW_rng (fun i env => ∃ z5 z6 z7 z8, env = [.val P.d, .val (.int t), .val (tI P.L), .val (.int P.a), .val (rt (sumR (fun j => vv P.r ^ j * P.flow (t + j)) i / (P.l t : Int))), z5, z6, z7, z8]) ⟨_, _, _, _, by rw [show sumR _ 0 = 0 from rfl, Rat.div_def, Rat.zero_mul]; rfl⟩ (fun i env P2 hi ⟨z5, z6, z7, z8, e⟩ hP => ?_) fun env ⟨z5, z6, z7, z8, e⟩ => ?_
  · subst e
    have hk : t + i < P.n := by omega
    have hkl : P.a + (t + i) + 1 < P.L.length := by unfold Pol.n at hk; omega
    rw [show (t : Int) + i * 1 = ((t + i : Nat) : Int) by omega]
    walk_at "wgo"
    rw [show (P.a : Int) + ((t + i : Nat) : Int) = ((P.a + (t + i) : Nat) : Int) by omega, show ((P.a + (t + i) : Nat) : Int) + 1 = ((P.a + (t + i) + 1 : Nat) : Int) by omega, show (P.a : Int) + (t : Int) = ((P.a + t : Nat) : Int) by omega]
    rw [atI_lv (by omega), atI_lv (by omega), atI_lv (by omega)]
    walk_at "wgo"
    change fs_law_ratio [.int (P.l (t + i)), .int (P.l t)] fun d => flat d = true ∧ fs_law_ratio [.int (P.l (t + i) - P.l (t + i + 1)), .int (P.l t)] _
    have hk1 := lp hk
    have hk2 := li (t + i + 1)
    have s1 : szLe 20 ((P.l (t + i) : Rat) / (P.l t : Int)) := szLe_div (by omega) (by omega) (by omega)
    have s2 : szLe 20 (((P.l (t + i) - P.l (t + i + 1) : Int) : Rat) / (P.l t : Int)) := szLe_div (by omega) (by omega) (by omega)
    have sv := (szLe_vv hr).pow (by decide) i
    have sv1 := (szLe_vv hr).pow (by decide) (i + 1)
    have sn := szLe_netR h (t + i)
    have sd : szLe 20 (P.B.getD (t + i) 0 : Int) := szLe_dead (P := { P with p := 0 }) h0 (t + i)
    have ss := hs i (by omega)
    refine ⟨_, _, rfl, by omega, rfl, _, _, rfl, by omega, rfl, ?_⟩
    rw [show ((t + i : Nat) : Int) - t = (i : Int) by omega, show ((t + i : Nat) : Int) + 1 - t = ((i + 1 : Nat) : Int) by omega]
    refine ⟨P.r, i, rfl, hr, by omega, _, _, _, _, rfl, s1, sv, by omega, ?_⟩
    refine ⟨P, t + i, rfl, h, _, _, _, _, rfl, s1.mul sv, sn, by omega, ?_⟩
    refine ⟨_, _, _, _, rfl, ss, (s1.mul sv).mul sn, by omega, rfl, ?_⟩
    refine ⟨P.B, t + i, rfl, P.r, i + 1, rfl, hr, by omega, ?_⟩
    rw [rt_int]
    refine ⟨_, _, _, _, rfl, sd, sv1, by omega, rfl, ?_⟩
    refine ⟨_, _, _, _, rfl, s2, sd.mul sv1, by omega, ?_⟩
    refine ⟨_, _, _, _, rfl, ss.add ((s1.mul sv).mul sn), s2.mul (sd.mul sv1), by omega, rfl, ?_⟩
    have e : sumR (fun j => vv P.r ^ j * P.flow (t + j)) i / (P.l t : Int) + (P.l (t + i) : Rat) / (P.l t : Int) * vv P.r ^ i * P.net (t + i) + ((P.l (t + i) - P.l (t + i + 1) : Int) : Rat) / (P.l t : Int) * ((P.B.getD (t + i) 0 : Int) * vv P.r ^ (i + 1)) = sumR (fun j => vv P.r ^ j * P.flow (t + j)) (i + 1) / (P.l t : Int) := by
      rw [sumR_succ, Rat.pow_succ]
      unfold Pol.flow Pol.dead'
      generalize ((P.l (t + i) - P.l (t + i + 1) : Int) : Rat) = w
      generalize sumR _ i = x
      generalize vv P.r ^ i = u
      generalize ((P.l t : Int) : Rat) = y at *
      grind
    exact hP _ ⟨_, _, _, _, by rw [e]⟩
  · subst e
    walk_at "wgo"
    exact hq
theorem atI_m1 {α : Type} {xs : List α} {v : α} {n : Nat} (hl : xs.length = n + 1) (h : xs[n]? = some v) : atI xs (-1) = some v := by
  unfold atI ixN
  rw [hl, if_neg (by omega), if_pos (by omega), show ((-1 : Int) + ((n + 1 : Nat) : Int)).toNat = n by omega]
  exact h
theorem szLe_money {P : Pol} (h : P.Ok) : ∀ t, szLe (150 * t + 1) (P.money t)
  | 0 => szLe_zero
  | t + 1 => by
    have h1 := l_in h t
    have h2 := l_in h (t + 1)
    have a1 : szLe 20 ((P.l t : Int) : Rat) := szLe_int (by omega) (by decide)
    have a2 : szLe 20 ((P.l t - P.l (t + 1) : Int) : Rat) := szLe_int (by omega) (by decide)
    exact ((((szLe_money h t).sub (a1.mul (szLe_net h t))).mul (szLe_1r h.rate)).sub (a2.mul (szLe_dead h t))).mono (by omega)
theorem pure_fund : ∀ ds Q0, fs_fund ds Q0 → w_fund (kdEnd Q0) (startL 6 ds) := by
  rintro ds Q ⟨P, rfl, h, hq⟩
  have hn := n_le h
  have hr := h.rate
  have hn1 : 1 ≤ P.n := by have := h.age; unfold Pol.n; omega
  unfold w_fund
  walk_at "wgo"
  refine ⟨P, rfl, h, P.r, rfl, rfl, by simp, P, rfl, h, ?_⟩
  walk_at "wgo"
  refine ⟨intOk_small (by omega) (by omega), ?_⟩
  rw [show ((P.n : Int) - 1).toNat = P.n - 1 by omega]
  refine forW_rng (fun i env => ∃ z3 z4 z5, env = [.val P.d, .own ((List.range (i + 1)).map fun t => rt (P.money t / (P.l t : Int))), .val (rt (1 + P.r)), z3, z4, z5]) ⟨_, _, _, by
    show _ = [_, SD.own [rt (0 / _)], _, _, _, _]
    rw [Rat.div_def, Rat.zero_mul]; rfl⟩ (fun i env P2 hi ⟨z3, z4, z5, e⟩ hP => ?_) fun env ⟨z3, z4, z5, e⟩ => ?_
  · subst e
    rw [show (0 : Int) + i * 1 = (i : Int) by omega]
    walk_at "wgo"
    refine ⟨P, i, rfl, h, by omega, ?_⟩
    walk_at "wgo"
    have hi1 : i < P.n := by omega
    have hl := h.lpos hi1
    have hl2 := h.lpos (show i + 1 < P.n by omega)
    have sl : szLe 20 ((P.l i : Int) : Rat) := szLe_int (by omega) (by decide)
    have hne : ((P.l i : Int) : Rat) ≠ 0 := fun z => by have := Rat.intCast_eq_zero_iff.mp z; omega
    have hne2 : ((P.l (i + 1) : Int) : Rat) ≠ 0 := fun z => by have := Rat.intCast_eq_zero_iff.mp z; omega
    rw [atI_m1 (n := i) (by simp) (by rw [List.getElem?_map, List.getElem?_range (by omega)]; rfl)]
    have sm := (szLe_money h i).div sl hne
    have sn := szLe_net h i
    have s1 := szLe_1r hr
    have sq := szLe_q h hi1
    have sd : szLe 20 (P.B.getD i 0 : Int) := szLe_dead h i
    have hq1 : 1 - P.q i ≠ 0 := by
      rw [q_eq h hi1, Rat.div_def]
      intro z
      rcases Rat.mul_eq_zero.mp z with z | z
      · exact hne2 z
      · exact hne (by rw [← Rat.inv_inv ((P.l i : Int) : Rat), z]; exact Rat.inv_zero)
    refine ⟨P, i, rfl, h, _, _, _, _, rfl, sm, sn, by omega, ?_⟩
    refine ⟨_, _, _, _, rfl, sm.sub sn, s1, by omega, rfl, ?_⟩
    refine ⟨P.B, i, rfl, _, _, _, _, rfl, sq, sd, by omega, ?_⟩
    refine ⟨_, _, _, _, rfl, (sm.sub sn).mul s1, sq.mul sd, by omega, ?_⟩
    rw [← rt_one]
    refine ⟨_, _, _, _, rfl, szLe_one, sq, by omega, ?_⟩
    refine ⟨_, _, _, _, rfl, ((sm.sub sn).mul s1).sub (sq.mul sd), szLe_one.sub sq, by omega, hq1, ⟨by simp; omega, rfl⟩, ?_⟩
    have e : ((P.money i / (P.l i : Int) - P.net i) * (1 + P.r) - P.q i * (P.B.getD i 0 : Int)) / (1 - P.q i) = P.money (i + 1) / (P.l (i + 1) : Int) := by
      rw [q_eq h hi1]
      show _ = ((P.money i - P.l i * P.net i) * (1 + P.r) - ((P.l i - P.l (i + 1) : Int) : Rat) * P.dead' i) / (P.l (i + 1) : Int)
      unfold Pol.q Pol.dead'
      generalize ((P.l i - P.l (i + 1) : Int) : Rat) = w
      generalize ((P.l (i + 1) : Int) : Rat) = y at *
      generalize ((P.l i : Int) : Rat) = x at *
      generalize P.money i = m
      generalize P.net i = k
      generalize 1 + P.r = g
      generalize ((P.B.getD i 0 : Int) : Rat) = b
      grind
    rw [e]
    exact hP _ ⟨_, _, _, by rw [List.range_succ (n := i + 1), List.map_append]; rfl⟩
  · subst e
    walk_at "wgo"
    rw [show P.n - 1 + 1 = P.n by omega]
    exact ⟨flats_mapR (fun _ => rfl) _, hq⟩
theorem pure_split_premiums : ∀ ds Q0, fs_split_premiums ds Q0 → w_split_premiums (kdEnd Q0) (startL 7 ds) := by
  rintro ds Q ⟨P, rfl, h, hq⟩
  have hn := n_le h
  have hr := h.rate
  unfold w_split_premiums
  walk_at "wgo"
  refine ⟨P, rfl, h, P, rfl, h, P.r, rfl, 1 + P.r, -1, 11, rfl, by decide, szLe_1r hr, fun _ => rate_ne hr, by decide, by decide, ?_⟩
  rw [pow_m1]
  refine ⟨rfl, flats_mapR (fun _ => rfl) _, by simp, P, rfl, h, ?_⟩
  walk_at "wgo"
  refine ⟨intOk_small (by omega) (by omega), ?_⟩
  rw [Int.toNat_natCast]
  refine forW_rng (fun i env => ∃ z4 z5 z6, env = [.val P.d, .own ((List.range (P.n + 1)).map fun t => rt (P.V t)), .val (rt (vv P.r)), .own ((List.range i).map fun t => .tuple [rt (vv P.r * P.V (t + 1) - P.V t), rt (vv P.r * P.q t * (P.dead' t - P.V (t + 1)))]), z4, z5, z6]) ⟨_, _, _, rfl⟩ (fun i env P2 hi ⟨z4, z5, z6, e⟩ hP => ?_) fun env ⟨z4, z5, z6, e⟩ => ?_
  · subst e
    have at_ : ∀ k, k ≤ P.n → atI ((List.range (P.n + 1)).map fun t => rt (P.V t)) (k : Int) = some (rt (P.V k)) := fun k hk => atI_nat (by rw [List.getElem?_map, List.getElem?_range (by omega)]; rfl)
    have s1 := szLe_V h (t := i + 1) (by omega)
    have s0 := szLe_V h (t := i) (by omega)
    have sv := szLe_vv hr
    have sq := szLe_q h hi
    have sd := szLe_dead h i
    rw [show (0 : Int) + i * 1 = (i : Int) by omega]
    walk_at "wgo"
    rw [show (i : Int) + 1 = ((i + 1 : Nat) : Int) by omega, at_ _ (by omega), at_ _ (by omega)]
    walk_at "wgo"
    refine ⟨_, _, _, _, rfl, sv, s1, by omega, ?_⟩
    walk_at "wgo"
    refine ⟨_, _, _, _, rfl, sv.mul s1, s0, by omega, ?_⟩
    walk_at "wgo"
    refine ⟨P, i, rfl, h, hi, _, _, _, _, rfl, sv, sq, by omega, ?_⟩
    refine ⟨P.B, i, rfl, _, _, _, _, rfl, sd, s1, by omega, ?_⟩
    refine ⟨_, _, _, _, rfl, sv.mul sq, sd.sub s1, by omega, rfl, ⟨by simp; omega, rfl⟩, ?_⟩
    exact hP _ ⟨_, _, _, by rw [List.range_succ (n := i), List.map_append]; rfl⟩
  · subst e
    walk_at "wgo"
    exact ⟨flats_mapR (fun _ => rfl) _, hq⟩
def pol1 : WS :=
 (wSet 1 (wFn (fun ds Q => ds.length = 2 ∧ fs_law_lives ds Q) (wCons (wVar 0) (wCons (wC (.int 6)) wNil))))
def pol2 : WS :=
 (wSet 2 (wFn (fun ds Q => ds.length = 2 ∧ fs_law_taken ds Q) (wCons (wVar 0) (wCons (wBin dSub (wFn fLen (wCons (wVar 1) wNil)) (wC (.int 1))) wNil))))
def pol3 : WS :=
 (wPar [3, 4] (wmVal (wBin dSub (wBin dSub (wFn fLen (wCons (wVar 1) wNil)) (wC (.int 1))) (wVar 2)) (wmVal (wFn (fun ds Q => ds.length = 1 ∧ fs_law_rate ds Q) (wCons (wVar 0) wNil)) wmNil)))
def pol4 : WS :=
 (wPar [5, 6] (wmVal (wFn (fun ds Q => ds.length = 2 ∧ fs_law_taken ds Q) (wCons (wVar 0) (wCons (wC (.int 4)) wNil))) (wmVal (wFn (fun ds Q => ds.length = 2 ∧ fs_law_pick ds Q) (wCons (wVar 0) (wCons (wDe (wLst (wCons (wC (.int 0)) (wCons (wC (.int 1)) (wCons (wVar 3) (wCons (wVar 3) (wCons (wFn fMax (wCons (wC (.int 0)) (wCons (wBin dSub (wVar 3) (wC (.int 1))) wNil))) (wCons (wBin dPlus (wC (.int 1)) (wFn (fun ds Q => ds.length = 2 ∧ fs_law_taken ds Q) (wCons (wVar 0) (wCons (wC (.int 8)) wNil)))) wNil)))))))) wNil))) wmNil)))
def pol5 : WS :=
 (wPar [7, 8] (wmVal (wTup wNil) (wmVal (wTup wNil) wmNil)))
def pol6 : WS :=
 (wIfS (wTst (wBin dIn (wVar 5) (wDe (wLst (wCons (wC (.int 0)) (wCons (wC (.int 2)) wNil)))))) (wSet 8 (wFn fTuple (wCons (wDe (wLc (wFnL fRng1 (wCons (wVar 3) wNil)) (wgN 10) wYes (wFn (fun ds Q => ds.length = 2 ∧ fs_law_pick ds Q) (wCons (wVar 0) (wCons (wDe (wLst (wCons (wC (.int 100)) (wCons (wC (.int 100)) (wCons (wC (.int 1000)) (wCons (wC (.int 0)) wNil)))))) wNil))) [10])) wNil))) wNext)
def pol7 : WS :=
 (wIfS (wTst (wBin dIn (wVar 5) (wDe (wLst (wCons (wC (.int 1)) (wCons (wC (.int 2)) wNil)))))) (wSet 7 (wBin dPlus (wBin dRep (wTup (wCons (wC (.int 0)) wNil)) (wFn (fun ds Q => ds.length = 2 ∧ fs_law_taken ds Q) (wCons (wVar 0) (wCons (wBin dPlus (wVar 3) (wC (.int 1))) wNil)))) (wTup (wCons (wFn (fun ds Q => ds.length = 2 ∧ fs_law_pick ds Q) (wCons (wVar 0) (wCons (wDe (wLst (wCons (wC (.int 100)) (wCons (wC (.int 10)) wNil)))) wNil))) wNil)))) wNext)
def pol8 : WS :=
 (wIfS (wTst (wBin dEq (wVar 5) (wC (.int 3)))) (wSeq (wSet 7 (wFn fTuple (wCons (wDe (wLc (wFnL fRng1 (wCons (wFn (fun ds Q => ds.length = 2 ∧ fs_law_taken ds Q) (wCons (wVar 0) (wCons (wC (.int 8)) wNil))) wNil)) (wgN 10) wYes (wFn (fun ds Q => ds.length = 2 ∧ fs_law_pick ds Q) (wCons (wVar 0) (wCons (wDe (wLst (wCons (wC (.int 0)) (wCons (wC (.int 5)) (wCons (wUn dNeg (wC (.int 3))) (wCons (wC (.int 100)) wNil)))))) wNil))) [10])) wNil)))
 (wSet 8 (wFn fTuple (wCons (wDe (wLc (wFnL fRng1 (wCons (wFn (fun ds Q => ds.length = 2 ∧ fs_law_taken ds Q) (wCons (wVar 0) (wCons (wC (.int 8)) wNil))) wNil)) (wgN 10) wYes (wBin dSub (wFn (fun ds Q => ds.length = 2 ∧ fs_law_taken ds Q) (wCons (wVar 0) (wCons (wC (.int 200)) wNil))) (wC (.int 50))) [10])) wNil)))) wNext)
def pol9 : WS :=
 (wSet 9 (wFn (fun ds Q => ds.length = 2 ∧ fs_law_ratio ds Q) (wCons (wFn (fun ds Q => ds.length = 2 ∧ fs_law_pick ds Q) (wCons (wVar 0) (wCons (wDe (wLst (wCons (wC (.int 0)) (wCons (wC (.int 1)) (wCons (wC (.int 10)) (wCons (wC (.int 25)) (wCons (wBin dSub (wFn (fun ds Q => ds.length = 2 ∧ fs_law_taken ds Q) (wCons (wVar 0) (wCons (wC (.int 99)) wNil))) (wC (.int 20))) wNil))))))) wNil))) (wCons (wBin dPlus (wC (.int 1)) (wFn (fun ds Q => ds.length = 2 ∧ fs_law_taken ds Q) (wCons (wVar 0) (wCons (wC (.int 4)) wNil)))) wNil))))
def pol10 : WS :=
 (wRet (wTup (wCons (wVar 1) (wCons (wVar 2) (wCons (wVar 4) (wCons (wVar 7) (wCons (wVar 8) (wCons (wVar 9) (wCons (wVar 6) wNil)))))))))
theorem pol_eq : w_law_policy = (wSeq pol1 (wSeq pol2 (wSeq pol3 (wSeq pol4 (wSeq pol5 (wSeq pol6 (wSeq pol7 (wSeq pol8 (wSeq pol9 pol10))))))))) := rfl

def okA (A : List Int) : Prop := A.length ≤ 10 ∧ ∀ x ∈ A, -100 ≤ x ∧ x ≤ 1000
theorem pick_ints {K : D → Prop} {L : List Int} (hL : L ≠ []) (q : ∀ x ∈ L, K (.int x)) : fs_law_pick [rowD, .list (L.map PyData.int)] K :=
  ⟨_, Or.inl rfl, by simpa using hL, flats_ints _, fun d hd => by obtain ⟨x, hx, rfl⟩ := List.mem_map.mp hd; exact q x hx⟩
theorem tI_map (L : List Int) : PyData.tuple (L.map PyData.int) = tI L := rfl
theorem pol6_ok {K : KD} {z1 z2 z4 z6 z7 z9 z10 : SD} {w : Int} {n : Nat} {B : List Int} (hB : okA B) (hn : n ≤ 8) (q : ∀ B' z10, okA B' → K.nx [.val rowD, z1, z2, .val (.int n), z4, .val (.int w), z6, z7, .val (tI B'), z9, z10]) : pol6 K [.val rowD, z1, z2, .val (.int n), z4, .val (.int w), z6, z7, .val (tI B), z9, z10] := by
  unfold pol6
  walk_at "wgo"
  refine ⟨[0, 2], rfl, ?_⟩
  by_cases hw : w ∈ [0, 2]
  · rw [decide_eq_true hw]
    walk_at "wgo"
    refine ⟨intOk_small (by omega) (by omega), lcW_any PyData.int (fun x => -100 ≤ x ∧ x ≤ 1000) (fun j d acc P hd hl hP => ?_) fun L hlen hp => ?_⟩
    · obtain ⟨hj, rfl⟩ := rngD_get hd
      walk_at "wgo"
      refine pick_ints (L := [100, 100, 1000, 0]) (by simp) fun x hx => ⟨⟨by omega, rfl⟩, hP _ ?_⟩
      simp only [List.mem_cons, List.not_mem_nil, or_false] at hx
      omega
    · rw [rngD_len] at hlen
      rw [tI_map]
      exact ⟨flats_ints _, q _ _ ⟨by omega, hp⟩⟩
  · rw [decide_eq_false hw]
    walk_at "wgo"
    exact q _ _ hB
theorem pol7_ok {K : KD} {z1 z2 z4 z6 z8 z9 z10 : SD} {w : Int} {n : Nat} {A : List Int} (hA : okA A) (hn : n ≤ 8) (q : ∀ A', okA A' → K.nx [.val rowD, z1, z2, .val (.int n), z4, .val (.int w), z6, .val (tI A'), z8, z9, z10]) : pol7 K [.val rowD, z1, z2, .val (.int n), z4, .val (.int w), z6, .val (tI A), z8, z9, z10] := by
  unfold pol7
  walk_at "wgo"
  refine ⟨[1, 2], rfl, ?_⟩
  by_cases hw : w ∈ [1, 2]
  · rw [decide_eq_true hw]
    walk_at "wgo"
    refine ⟨_, rfl, by omega, fun v hv hv2 => ?_⟩
    obtain ⟨m, rfl⟩ : ∃ m : Nat, v = m := ⟨v.toNat, by omega⟩
    refine ⟨⟨by simp, by omega, by simp; omega⟩, ?_⟩
    rw [Int.toNat_natCast, rep_flat]
    refine pick_ints (L := [100, 10]) (by simp) fun x hx => ⟨by simp; omega, ?_⟩
    rw [show ([PyData.int x] : List D) = [x].map PyData.int from rfl, ← List.map_append, tI_map]
    refine ⟨flat_tI _, q _ ⟨by simp; omega, fun y hy => ?_⟩⟩
    simp only [List.mem_cons, List.not_mem_nil, or_false] at hx
    rcases List.mem_append.mp hy with h | h
    · rw [(List.mem_replicate.mp h).2]; omega
    · rw [List.mem_singleton.mp h]; omega
  · rw [decide_eq_false hw]
    walk_at "wgo"
    exact q _ hA
theorem num_le {t b : Int} (hb : 0 < b) : ((t : Rat) / (b : Rat)).num.natAbs ≤ t.natAbs ∧ ((t : Rat) / (b : Rat)).den ≤ b.natAbs := by
  rw [← Rat.divInt_eq_div, Rat.num_divInt, Rat.den_divInt, if_neg (by omega)]
  refine ⟨?_, Nat.div_le_self _ _⟩
  rw [Int.sign_eq_one_of_pos hb, Int.one_mul, Int.natAbs_ediv_of_dvd (Int.gcd_dvd_right b t)]
  exact Nat.div_le_self _ _
theorem pol8_ok {K : KD} {z1 z2 z3 z4 z6 z9 z10 : SD} {w : Int} {A B : List Int} (hA : okA A) (hB : okA B) (q : ∀ A' B' z10, okA A' → okA B' → K.nx [.val rowD, z1, z2, z3, z4, .val (.int w), z6, .val (tI A'), .val (tI B'), z9, z10]) : pol8 K [.val rowD, z1, z2, z3, z4, .val (.int w), z6, .val (tI A), .val (tI B), z9, z10] := by
  unfold pol8
  walk_at "wgo"
  by_cases hw : w = 3
  · rw [decide_eq_true hw]
    walk_at "wgo"
    refine ⟨8, rfl, by omega, fun v hv hv2 => ⟨intOk_small (by omega) (by omega), lcW_any PyData.int (fun x => -100 ≤ x ∧ x ≤ 1000) (fun j d acc P hd hl hP => ?_) fun L hlen hp => ?_⟩⟩
    · obtain ⟨hj, rfl⟩ := rngD_get hd
      walk_at "wgo"
      refine pick_ints (L := [0, 5, -3, 100]) (by simp) fun x hx => ⟨⟨by omega, rfl⟩, hP _ ?_⟩
      simp only [List.mem_cons, List.not_mem_nil, or_false] at hx
      omega
    · rw [rngD_len] at hlen
      refine ⟨flats_ints _, 8, rfl, by omega, fun v2 hv3 hv4 => ⟨intOk_small (by omega) (by omega), lcW_any PyData.int (fun x => -100 ≤ x ∧ x ≤ 1000) (fun j d acc P hd hl hP => ?_) fun L2 hlen2 hp2 => ?_⟩⟩
      · obtain ⟨hj, rfl⟩ := rngD_get hd
        walk_at "wgo"
        exact ⟨200, rfl, by omega, fun x hx hx2 => ⟨⟨by omega, rfl⟩, hP _ (by omega)⟩⟩
      · rw [rngD_len] at hlen2
        rw [tI_map, tI_map]
        exact ⟨flats_ints _, q _ _ _ ⟨by omega, hp⟩ ⟨by omega, hp2⟩⟩
  · rw [decide_eq_false hw]
    walk_at "wgo"
    exact q _ _ _ hA hB
theorem pure_law_policy : ∀ ds Q0, fs_law_policy ds Q0 → w_law_policy (kdEnd Q0) (startL 11 ds) := by
  rintro ds Q ⟨rfl, hq⟩
  rw [pol_eq]
  unfold pol1 pol2 pol3 pol4 pol5
  walk_at "wgo"
  refine ⟨6, rfl, by omega, by omega, fun L hL hlen => ?_⟩
  have l2 := hL.l2
  walk_at "wgo"
  refine ⟨_, rfl, by omega, fun a0 ha ha2 => ?_⟩
  obtain ⟨a, rfl⟩ : ∃ a : Nat, a0 = a := ⟨a0.toNat, by omega⟩
  refine ⟨rfl, rfl, fun r hr => ?_⟩
  have hr := rates_ok hr
  walk_at "wgo"
  refine ⟨by simp, 4, rfl, by omega, fun w hw hw2 => ⟨8, rfl, by omega, fun u hu hu2 => ⟨rfl, ?_⟩⟩⟩
  obtain ⟨n, hn, hn8⟩ : ∃ n : Nat, (L.length : Int) - 1 - a = (n : Int) ∧ n ≤ 8 := ⟨L.length - 1 - a, by omega, by omega⟩
  rw [hn]
  refine ⟨_, Or.inl rfl, by simp, rfl, fun d hd => ?_⟩
  obtain ⟨y, rfl, hy⟩ : ∃ y : Nat, d = .int y ∧ y ≤ 8 := by
    simp only [List.mem_cons, List.not_mem_nil, or_false] at hd
    rcases hd with rfl | rfl | rfl | rfl | rfl | rfl
    · exact ⟨0, rfl, by omega⟩
    · exact ⟨1, rfl, by omega⟩
    · exact ⟨n, rfl, hn8⟩
    · exact ⟨n, rfl, hn8⟩
    · exact ⟨n - 1, by rw [show max 0 ((n : Int) - 1) = ((n - 1 : Nat) : Int) by omega], by omega⟩
    · exact ⟨(1 + u).toNat, by rw [show (((1 + u).toNat : Nat) : Int) = 1 + u by omega], by omega⟩
  refine ⟨rfl, rfl, by simp, by simp, ?_⟩
  have ok0 : okA [] := ⟨by simp, by simp⟩
  rw [show PyData.tuple [] = tI [] from rfl]
  refine pol6_ok ok0 hn8 fun B0 z10 hB0 => ?_
  walk_at "wgo"
  refine pol7_ok ok0 hn8 fun A0 hA0 => ?_
  walk_at "wgo"
  refine pol8_ok hA0 hB0 fun A B z10 hA hB => ?_
  walk_at "wgo"
  unfold pol9
  walk_at "wgo"
  refine ⟨99, rfl, by omega, fun c hc hc2 => ⟨rfl, _, Or.inl rfl, by simp, rfl, fun d hd => ?_⟩⟩
  obtain ⟨t, rfl, ht⟩ : ∃ t : Int, d = .int t ∧ t.natAbs ≤ 100 := by
    simp only [List.mem_cons, List.not_mem_nil, or_false] at hd
    rcases hd with rfl | rfl | rfl | rfl | rfl <;> exact ⟨_, rfl, by omega⟩
  refine ⟨4, rfl, by omega, fun g hg hg2 => ⟨_, _, rfl, by omega, rfl, ?_⟩⟩
  unfold pol10
  walk_at "wgo"
  obtain ⟨p1, p2⟩ := num_le (t := t) (b := 1 + g) (by omega)
  refine hq { L := L, a := a, r := r, A := A, B := B, p := (t : Rat) / ((1 + g : Int) : Rat), y := y } ⟨hL, by show a + 2 ≤ L.length; omega, hr, ⟨by show A.length ≤ 40; have := hA.1; omega, fun x hx => by have := hA.2 x hx; omega⟩, ⟨by show B.length ≤ 40; have := hB.1; omega, fun x hx => by have := hB.2 x hx; omega⟩, ⟨?_, ?_⟩, by show y ≤ 40; omega⟩ (by show L.length ≤ 8; omega) hy (fun x hx => by have := hA.2 x hx; omega) (fun x hx => by have := hB.2 x hx; omega) (by show ((t : Rat) / ((1 + g : Int) : Rat)).num.natAbs ≤ 100; omega) (by show ((t : Rat) / ((1 + g : Int) : Rat)).den ≤ 4; omega)
  · show ((t : Rat) / ((1 + g : Int) : Rat)).num.natAbs ≤ 1000000 * ((t : Rat) / ((1 + g : Int) : Rat)).den
    have := ((t : Rat) / ((1 + g : Int) : Rat)).den_pos
    omega
  · show ((t : Rat) / ((1 + g : Int) : Rat)).den ≤ 1000000
    omega
theorem money_S {P : Pol} (h : P.Ok) : ∀ t, t ≤ P.n → (1 + P.r) ^ t * P.S 0 + P.money t = P.S t
  | 0, _ => by show (1 + P.r) ^ 0 * P.S 0 + 0 = P.S 0; rw [Rat.pow_zero, Rat.one_mul, Rat.add_zero]
  | t + 1, ht => by
    have e := money_S h t (by omega)
    have e2 := S_step P (t := t) (by omega)
    have e3 := vv_mul h.rate
    show _ + ((P.money t - P.l t * P.net t) * (1 + P.r) - ((P.l t - P.l (t + 1) : Int) : Rat) * P.dead' t) = _
    rw [Rat.pow_succ]
    rw [← e] at e2
    unfold Pol.flow at e2
    generalize ((P.l t - P.l (t + 1) : Int) : Rat) * P.dead' t = w at *
    generalize ((P.l t : Int) : Rat) * P.net t = x at *
    generalize P.money t = m at *
    generalize (1 + P.r) ^ t = g at *
    generalize P.S 0 = s at *
    generalize P.S (t + 1) = u at *
    generalize vv P.r = v at *
    generalize 1 + P.r = k at *
    have : k * (g * s + m) = k * (x + v * w + v * u) := by rw [e2]
    have h1 : k * (v * w) = w := by rw [← Rat.mul_assoc, Rat.mul_comm k, e3, Rat.one_mul]
    have h2 : k * (v * u) = u := by rw [← Rat.mul_assoc, Rat.mul_comm k, e3, Rat.one_mul]
    grind
theorem gap_eq {P : Pol} (h : P.Ok) {t : Nat} (ht : t < P.n) : P.money t / (P.l t : Int) + P.V 0 * ((P.l 0 : Rat) / (P.l t : Int)) / vv P.r ^ t = P.V t := by
  have e := money_S h t (by omega)
  have hl := h.lpos ht
  have hl0 := h.lpos (show 0 < P.n by omega)
  have hne : ((P.l t : Int) : Rat) ≠ 0 := fun z => by have := Rat.intCast_eq_zero_iff.mp z; omega
  have hne0 : ((P.l 0 : Int) : Rat) ≠ 0 := fun z => by have := Rat.intCast_eq_zero_iff.mp z; omega
  have ev := vv_pow h.rate t
  show _ + (P.S 0 / (P.l 0 : Int)) * _ / _ = P.S t / (P.l t : Int)
  rw [← e]
  generalize ((P.l t : Int) : Rat) = x at *
  generalize ((P.l 0 : Int) : Rat) = y at *
  generalize (1 + P.r) ^ t = g at *
  generalize P.S 0 = s at *
  generalize P.money t = m at *
  generalize vv P.r ^ t = v at *
  have hv : v ≠ 0 := fun z => by rw [z, Rat.zero_mul] at ev; exact absurd ev (by decide)
  grind
theorem pow_ne {q : Rat} (h : q ≠ 0) : ∀ n : Nat, q ^ n ≠ 0
  | 0 => by rw [Rat.pow_zero]; decide
  | n + 1 => by
    rw [Rat.pow_succ]
    intro z
    rcases Rat.mul_eq_zero.mp z with z | z
    · exact pow_ne h n z
    · exact h z
/-- over range(n) -/
theorem forW_rng0 {wg : WG} {wb : WS} {K : KD} {n : Nat} {env : SDs} (I : Nat → SDs → Prop) (h0 : I 0 env)
    (hstep : ∀ i env (P : SDs → Prop), i < n → I i env → (∀ env', I (i + 1) env' → P env') → wg (.int (i : Nat)) env fun env' => wb { K with nx := P, ct := P, bk := K.nx } env') (hend : ∀ env, I n env → K.nx env) : forW wg wb K (rngD 0 1 n) env :=
  forW_rng I h0 (fun i env P hi h hP => by have := hstep i env P hi h hP; rwa [show (0 : Int) + (i : Nat) * 1 = (i : Int) by omega]) hend
theorem forW_rng1 {wg : WG} {wb : WS} {K : KD} {lo : Int} {n : Nat} {env : SDs} (I : Nat → SDs → Prop) (h0 : I 0 env)
    (hstep : ∀ i env (P : SDs → Prop), i < n → I i env → (∀ env', I (i + 1) env' → P env') → wg (.int (lo + (i : Nat))) env fun env' => wb { K with nx := P, ct := P, bk := K.nx } env') (hend : ∀ env, I n env → K.nx env) : forW wg wb K (rngD lo 1 n) env :=
  forW_rng I h0 (fun i env P hi h hP => by have := hstep i env P hi h hP; rwa [show lo + (i : Nat) * 1 = lo + (i : Int) by omega]) hend
theorem forW_rngd {wg : WG} {wb : WS} {K : KD} {lo : Int} {n : Nat} {env : SDs} (I : Nat → SDs → Prop) (h0 : I 0 env)
    (hstep : ∀ i env (P : SDs → Prop), i < n → I i env → (∀ env', I (i + 1) env' → P env') → wg (.int (lo - (i : Nat))) env fun env' => wb { K with nx := P, ct := P, bk := K.nx } env') (hend : ∀ env, I n env → K.nx env) : forW wg wb K (rngD lo (-1) n) env :=
  forW_rng I h0 (fun i env P hi h hP => by have := hstep i env P hi h hP; rwa [show lo + (i : Nat) * (-1) = lo - (i : Int) by omega]) hend
/-- the size of an int -/
structure iLe (n : Nat) (i : Int) : Prop where
  lt : i.natAbs < 2 ^ n
theorem iLe_num {n : Nat} {q : Rat} (h : szLe n q) : iLe n q.num := ⟨h.1⟩
theorem iLe_den {n : Nat} {q : Rat} (h : szLe n q) : iLe n q.den := ⟨by rw [Int.natAbs_natCast]; exact h.2⟩
theorem iLe.mul {n m : Nat} {a b : Int} (ha : iLe n a) (hb : iLe m b) : iLe (n + m) (a * b) := ⟨by rw [Int.natAbs_mul]; exact pow_mul_lt ha.1 hb.1⟩
theorem iLe.add {n m : Nat} {a b : Int} (ha : iLe n a) (hb : iLe m b) : iLe (n + m + 1) (a + b) := ⟨by
  refine Nat.lt_of_le_of_lt (Int.natAbs_add_le _ _) ?_
  have h1 := Nat.lt_of_lt_of_le ha.1 (Nat.pow_le_pow_right (by omega : 2 > 0) (Nat.le_add_right n m))
  have h2 := Nat.lt_of_lt_of_le hb.1 (Nat.pow_le_pow_right (by omega : 2 > 0) (Nat.le_add_left m n))
  rw [Nat.pow_succ]; omega⟩
theorem iLe.neg {n : Nat} {a : Int} (ha : iLe n a) : iLe n (-a) := ⟨by rw [Int.natAbs_neg]; exact ha.1⟩
theorem iLe.sub {n m : Nat} {a b : Int} (ha : iLe n a) (hb : iLe m b) : iLe (n + m + 1) (a - b) := by rw [Int.sub_eq_add_neg]; exact ha.add hb.neg
theorem iLe.mono {n m : Nat} {a : Int} (ha : iLe n a) (h : n ≤ m) : iLe m a := ⟨Nat.lt_of_lt_of_le ha.1 (Nat.pow_le_pow_right (by omega) h)⟩
theorem iLe_0 : iLe 0 0 := ⟨by decide⟩
theorem iLe_20 {a : Int} (h : -1048576 < a ∧ a < 1048576) : iLe 20 a := ⟨by omega⟩
theorem mulFits_i {i j : Int} {n m : Nat} (hi : iLe n i) (hj : iLe m j) (h : n + m ≤ 90000000) : MulFits i j := mulFits_of hi.1 hj.1 h
theorem szLe_i {n : Nat} {x : Int} (h : iLe n x) : szLe (n + 1) (x : Rat) := szLe_int (n := n + 1) (Nat.lt_of_lt_of_le h.1 (Nat.pow_le_pow_right (by omega) (by omega))) (by omega)
theorem c_pos {p : Prop} [Decidable p] {A B : Prop} (h : p) (q : A) : if p then A else B := by rw [if_pos h]; exact q
theorem c_neg {p : Prop} [Decidable p] {A B : Prop} (h : ¬ p) (q : B) : if p then A else B := by rw [if_neg h]; exact q
theorem szLe_idiv {a b : Int} {n m : Nat} (ha : iLe n a) (hb : iLe m b) (h0 : b ≠ 0) : szLe (n + m) ((a : Rat) / (b : Rat)) :=
  szLe_div h0 (Nat.lt_of_lt_of_le ha.1 (Nat.pow_le_pow_right (by omega) (by omega))) (Nat.lt_of_lt_of_le hb.1 (Nat.pow_le_pow_right (by omega) (by omega)))
local macro_rules | `(tactic| walk_at "nzt") => `(tactic| omega)
local macro_rules | `(tactic| walk_at "nzt") => `(tactic| (apply_assumption -exfalso -symm <;> omega))
local macro_rules | `(tactic| walk_at "nzt") => `(tactic| ((with_reducible refine num_ne ?_) <;> walk_at "nzt"))
local macro_rules | `(tactic| walk_at "nzt") => `(tactic| ((with_reducible refine Int.mul_ne_zero ?_ ?_) <;> walk_at "nzt"))
local macro_rules | `(tactic| walk_at "nzt") => `(tactic| ((with_reducible refine pow_ne ?_ _) <;> walk_at "nzt"))
local macro_rules | `(tactic| walk_at "nzt") => `(tactic| (with_reducible exact vv_ne (by assumption)))
local macro_rules | `(tactic| walk_at "nzt") => `(tactic| (with_reducible exact Int.ne_of_gt (den_pos _)))
local macro_rules | `(tactic| walk_at "nzt") => `(tactic| assumption)
local macro_rules | `(tactic| walk_at "szt") => `(tactic| repeat' (first | assumption | walk_at "szt1" | (apply_assumption -exfalso -symm <;> omega)))
local macro_rules | `(tactic| walk_at "szt1") => `(tactic| with_reducible apply szLe.add)
local macro_rules | `(tactic| walk_at "szt1") => `(tactic| with_reducible apply szLe.mul)
local macro_rules | `(tactic| walk_at "szt1") => `(tactic| with_reducible apply szLe.sub)
local macro_rules | `(tactic| walk_at "szt1") => `(tactic| with_reducible apply szLe.div)
local macro_rules | `(tactic| walk_at "szt1") => `(tactic| ((with_reducible show szLe _ (((_ : Int) : Rat) / ((_ : Int) : Rat))); with_reducible apply szLe_idiv))
local macro_rules | `(tactic| walk_at "szt1") => `(tactic| with_reducible apply szLe_i)
local macro_rules | `(tactic| walk_at "szt1") => `(tactic| with_reducible apply iLe.add)
local macro_rules | `(tactic| walk_at "szt1") => `(tactic| with_reducible apply iLe.mul)
local macro_rules | `(tactic| walk_at "szt1") => `(tactic| with_reducible apply iLe.sub)
local macro_rules | `(tactic| walk_at "szt1") => `(tactic| with_reducible apply iLe.neg)
local macro_rules | `(tactic| walk_at "szt1") => `(tactic| with_reducible exact iLe_0)
local macro_rules | `(tactic| walk_at "szt1") => `(tactic| ((with_reducible apply iLe_20); omega))
local macro_rules | `(tactic| walk_at "szt1") => `(tactic| with_reducible apply iLe_num)
local macro_rules | `(tactic| walk_at "szt1") => `(tactic| with_reducible apply iLe_den)
local macro_rules | `(tactic| walk_at "szt1") => `(tactic| (with_reducible apply szLe.pow))
local macro_rules | `(tactic| walk_at "szt1") => `(tactic| with_reducible apply szLe.neg)
local macro_rules | `(tactic| walk_at "szt1") => `(tactic| ((with_reducible show _ ≠ _); walk_at "nzt"))
local macro_rules | `(tactic| walk_at "szt1") => `(tactic| ((with_reducible show (1 : Nat) ≤ _); omega))
local macro_rules | `(tactic| walk_at "szt1") => `(tactic| with_reducible exact szLe_one)
local macro_rules | `(tactic| walk_at "szt1") => `(tactic| with_reducible exact szLe_zero)
local macro_rules | `(tactic| walk_at "szt1") => `(tactic| with_reducible exact szLe_1r (by assumption))
local macro_rules | `(tactic| walk_at "szt1") => `(tactic| with_reducible exact szLe_vv (by assumption))
local macro_rules | `(tactic| walk_at "szt1") => `(tactic| with_reducible exact szLe_rate (by assumption))
theorem plain_mapT {n k : Nat} {f : Nat → D} (hk : k < 16777216) (h : ∀ i, plainD n (f i) = true) : plainD (n + 1) (.tuple ((List.range k).map f)) = true := by
  unfold plainD
  rw [Bool.and_eq_true, List.all_eq_true]
  refine ⟨fun d hd => ?_, by simpa using hk⟩
  obtain ⟨i, _, rfl⟩ := List.mem_map.mp hd
  exact h i
theorem plain_mapL {n k : Nat} {f : Nat → D} (hk : k < 16777216) (h : ∀ i, plainD n (f i) = true) : plainD (n + 1) (.list ((List.range k).map f)) = true := by
  unfold plainD
  rw [Bool.and_eq_true, List.all_eq_true]
  refine ⟨fun d hd => ?_, by simpa using hk⟩
  obtain ⟨i, _, rfl⟩ := List.mem_map.mp hd
  exact h i
theorem plain_pair {n : Nat} {a b : D} (ha : plainD n a = true) (hb : plainD n b = true) : plainD (n + 1) (.tuple [a, b]) = true := by
  unfold plainD
  simp [ha, hb]
theorem plain_3 {n : Nat} {a b c : D} (ha : plainD n a = true) (hb : plainD n b = true) (hc : plainD n c = true) : plainD (n + 1) (.tuple [a, b, c]) = true := by
  unfold plainD
  simp [ha, hb, hc]
theorem plain_4 {n : Nat} {a b c d : D} (ha : plainD n a = true) (hb : plainD n b = true) (hc : plainD n c = true) (hd : plainD n d = true) : plainD (n + 1) (.tuple [a, b, c, d]) = true := by
  unfold plainD
  simp [ha, hb, hc, hd]
local macro_rules | `(tactic| walk_at "plt") => `(tactic| (with_reducible refine plain_mapT (by omega) (fun _ => ?_)); walk_at "plt")
local macro_rules | `(tactic| walk_at "plt") => `(tactic| (with_reducible refine plain_mapL (by omega) (fun _ => ?_)); walk_at "plt")
local macro_rules | `(tactic| walk_at "plt") => `(tactic| ((with_reducible refine plain_pair ?_ ?_) <;> walk_at "plt"))
local macro_rules | `(tactic| walk_at "plt") => `(tactic| ((with_reducible refine plain_3 ?_ ?_ ?_) <;> walk_at "plt"))
local macro_rules | `(tactic| walk_at "plt") => `(tactic| ((with_reducible refine plain_4 ?_ ?_ ?_ ?_) <;> walk_at "plt"))
local macro_rules | `(tactic| walk_at "plt") => `(tactic| exact plain_rt _)
local macro_rules | `(tactic| walk_at "plt") => `(tactic| exact plain_tI (by omega))
local macro_rules | `(tactic| walk_at "plt") => `(tactic| with_reducible exact rfl)
theorem intOk_of {i : Int} (h : -1000000000 ≤ i ∧ i ≤ 1000000000) : IntOk i := intOk_small h.1 h.2
local macro_rules | `(tactic| walk_at "sdt") => `(tactic| first | assumption | (with_reducible rfl) | omega)
theorem flats_mapN {f : Nat → D} (h : ∀ i, flat (f i) = true) (k : Nat) : flats ((List.range k).map f) = true := flats_mapR h _
local macro_rules | `(tactic| walk_at "flt") => `(tactic| first | assumption | exact flats_ints _ | exact flats_mapN (fun _ => rfl) _ | (simp only [flats, flat, flat_rt, flat_tI, Bool.and_true]; done))
local macro_rules | `(tactic| walk_at "vcg1") => `(tactic| ((with_reducible show MulFits _ _ ∧ _); refine And.intro (mulFits_i (by walk_at "szt") (by walk_at "szt") (by omega)) ?_))
local macro_rules | `(tactic| walk_at "vcg1") => `(tactic| ((with_reducible show IntOk _ ∧ _); refine And.intro (intOk_of (by omega)) ?_))
local macro_rules | `(tactic| walk_at "vcg1") => `(tactic| ((with_reducible show (IntOk _ ∧ IntOk _) ∧ _); refine And.intro (And.intro (intOk_of (by omega)) (intOk_of (by omega))) ?_))
local macro_rules | `(tactic| walk_at "vcg1") => `(tactic| ((with_reducible show flats _ = true ∧ _); refine And.intro (by walk_at "flt") ?_))
local macro_rules | `(tactic| walk_at "vcg1") => `(tactic| ((with_reducible show flat _ = true ∧ _); refine And.intro (by walk_at "flt") ?_))
local macro_rules | `(tactic| walk_at "vcg1") => `(tactic| ((with_reducible show (_ ∧ flat _ = true) ∧ _); refine And.intro (And.intro (by first | omega | (simp; omega)) (by walk_at "flt")) ?_))
local macro_rules | `(tactic| walk_at "vcg1") => `(tactic| ((with_reducible show (_ ∧ flats _ = true) ∧ _); refine And.intro (And.intro (by first | omega | (simp; omega)) (by walk_at "flt")) ?_))
local macro_rules | `(tactic| walk_at "vcg1") => `(tactic| ((with_reducible show (_ : Nat) < _ ∧ _); refine And.intro (by first | omega | (simp; omega)) ?_))
local macro_rules | `(tactic| walk_at "vcg1") => `(tactic| ((with_reducible show (_ : Nat) ≤ _ ∧ _); refine And.intro (by first | omega | (simp; omega)) ?_))
local macro_rules | `(tactic| walk_at "vcg1") => `(tactic| ((with_reducible show (_ : Int) ≠ _ ∧ _); refine And.intro (by walk_at "nzt") ?_))
local macro_rules | `(tactic| walk_at "vcg1") => `(tactic| ((with_reducible show (_ = _ ∧ _) ∧ _); refine And.intro (And.intro (by first | rfl | omega) (by first | decide | omega | (simp; omega))) ?_))
local macro_rules | `(tactic| walk_at "vcg1") => `(tactic| ((with_reducible show (∀ i : Nat, i ∈ _ → i < _) ∧ _); refine And.intro (by decide) ?_))
theorem c_at {f : Nat → D} {n : Nat} {i : Int} {Q : D → Prop} (k : Nat) (e : i = k) (h : k < n) (q : Q (f k)) : onSome (atI ((List.range n).map f) i) Q := by
  subst e
  rw [atI_nat (v := f k) (by rw [List.getElem?_map, List.getElem?_range h]; rfl)]
  exact q
theorem c_atT {f : Nat → D} {n : Nat} {i : Int} {Q : D → Prop} (h0 : 0 ≤ i) (h : i < n) (q : Q (f i.toNat)) : onSome (atI ((List.range n).map f) i) Q := c_at i.toNat (by omega) (by omega) q
theorem c_atI {L : List Int} {i : Int} {Q : D → Prop} (h0 : 0 ≤ i) (h : i < L.length) (q : Q (.int (L.getD i.toNat 0))) : onSome (atI (L.map PyData.int) i) Q := by
  rw [atI_ints h0 h]
  rw [List.getD_eq_getElem?_getD, List.getElem?_eq_getElem (by omega)] at q
  exact q
theorem c_plus {a b : Rat} {n m : Nat} {Q : D → Prop} (ha : szLe n a) (hb : szLe m b) (h : n + m ≤ 80000000) (q : Q (rt (a + b))) : fs_plus [rt a, rt b] Q := ⟨a, b, n, m, rfl, ha, hb, h, q⟩
theorem c_law_plus {a b : Rat} {n m : Nat} {Q : D → Prop} (ha : szLe n a) (hb : szLe m b) (h : n + m ≤ 80000000) (q : Q (rt (a + b))) : fs_law_plus [rt a, rt b] Q := ⟨a, b, n, m, rfl, ha, hb, h, q⟩
theorem c_minus {a b : Rat} {n m : Nat} {Q : D → Prop} (ha : szLe n a) (hb : szLe m b) (h : n + m ≤ 80000000) (q : Q (rt (a - b))) : fs_minus [rt a, rt b] Q := ⟨a, b, n, m, rfl, ha, hb, h, q⟩
theorem c_by {a b : Rat} {n m : Nat} {Q : D → Prop} (ha : szLe n a) (hb : szLe m b) (h : n + m ≤ 80000000) (q : Q (rt (a * b))) : fs_by [rt a, rt b] Q := ⟨a, b, n, m, rfl, ha, hb, h, q⟩
theorem c_law_by {a b : Rat} {n m : Nat} {Q : D → Prop} (ha : szLe n a) (hb : szLe m b) (h : n + m ≤ 80000000) (q : Q (rt (a * b))) : fs_law_by [rt a, rt b] Q := ⟨a, b, n, m, rfl, ha, hb, h, q⟩
theorem c_over {a b : Rat} {n m : Nat} {Q : D → Prop} (ha : szLe n a) (hb : szLe m b) (h : n + m ≤ 80000000) (h0 : b ≠ 0) (q : Q (rt (a / b))) : fs_over [rt a, rt b] Q := ⟨a, b, n, m, rfl, ha, hb, h, h0, q⟩
local macro_rules | `(tactic| walk_at "vcg1") => `(tactic| ((with_reducible show fs_plus [rt _, rt _] _); refine c_plus (by walk_at "szt") (by walk_at "szt") (by omega) ?_))
local macro_rules | `(tactic| walk_at "vcg1") => `(tactic| ((with_reducible show fs_law_plus [rt _, rt _] _); refine c_law_plus (by walk_at "szt") (by walk_at "szt") (by omega) ?_))
local macro_rules | `(tactic| walk_at "vcg1") => `(tactic| ((with_reducible show fs_minus [rt _, rt _] _); refine c_minus (by walk_at "szt") (by walk_at "szt") (by omega) ?_))
local macro_rules | `(tactic| walk_at "vcg1") => `(tactic| ((with_reducible show fs_by [rt _, rt _] _); refine c_by (by walk_at "szt") (by walk_at "szt") (by omega) ?_))
local macro_rules | `(tactic| walk_at "vcg1") => `(tactic| ((with_reducible show fs_law_by [rt _, rt _] _); refine c_law_by (by walk_at "szt") (by walk_at "szt") (by omega) ?_))
local macro_rules | `(tactic| walk_at "vcg1") => `(tactic| ((with_reducible show fs_over [rt _, rt _] _); refine c_over (by walk_at "szt") (by walk_at "szt") (by omega) (by walk_at "nzt") ?_))
theorem c_ratio {t b : Int} {Q : D → Prop} (h : b ≠ 0) (q : Q (rt ((t : Rat) / b))) : fs_ratio [.int t, .int b] Q := ⟨t, b, rfl, h, q⟩
theorem c_law_ratio {t b : Int} {Q : D → Prop} (h : b ≠ 0) (q : Q (rt ((t : Rat) / b))) : fs_law_ratio [.int t, .int b] Q := ⟨t, b, rfl, h, q⟩
local macro_rules | `(tactic| walk_at "vcg1") => `(tactic| ((with_reducible show fs_ratio [.int _, .int _] _); refine c_ratio (by walk_at "nzt") ?_))
local macro_rules | `(tactic| walk_at "vcg1") => `(tactic| ((with_reducible show fs_law_ratio [.int _, .int _] _); refine c_law_ratio (by walk_at "nzt") ?_))
theorem c_law_policy {Q : D → Prop} (q : ∀ P : Pol, P.Ok → P.L.length ≤ 8 → P.y ≤ 8 → (∀ x ∈ P.A, x.natAbs ≤ 1000) → (∀ x ∈ P.B, x.natAbs ≤ 1000) → P.p.num.natAbs ≤ 100 → P.p.den ≤ 4 → Q P.d) : fs_law_policy [rowD] Q := ⟨rfl, q⟩
local macro_rules | `(tactic| walk_at "vcg1") => `(tactic| ((with_reducible show fs_law_policy [rowD] _); refine c_law_policy ?_))
theorem c_span_of {P : Pol} {Q : D → Prop} (h : P.Ok) (q : Q (.int P.n)) : fs_span_of [P.d] Q := ⟨P, rfl, h, q⟩
theorem c_law_span {P : Pol} {Q : D → Prop} (h : P.Ok) (q : Q (.int P.n)) : fs_law_span [P.d] Q := ⟨P, rfl, h.toR, q⟩
theorem c_part_dying {P : Pol} {t : Nat} {Q : D → Prop} (h : P.Ok) (ht : t < P.n) (q : Q (rt (P.q t))) : fs_part_dying [P.d, .int t] Q := ⟨P, t, rfl, h, ht, q⟩
theorem c_net_alive {P : Pol} {t : Nat} {Q : D → Prop} (h : P.Ok) (q : Q (rt (P.net t))) : fs_net_alive [P.d, .int t] Q := ⟨P, t, rfl, h, q⟩
theorem c_law_net {P : Pol} {t : Nat} {Q : D → Prop} (h : P.Ok) (q : Q (rt (P.net t))) : fs_law_net [P.d, .int t] Q := ⟨P, t, rfl, h.toR, q⟩
theorem c_entry {A : List Int} {t : Nat} {Q : D → Prop} (q : Q (rt (A.getD t 0 : Int))) : fs_entry [tI A, .int t] Q := ⟨A, t, rfl, q⟩
theorem c_law_entry {A : List Int} {t : Nat} {Q : D → Prop} (q : Q (.int (A.getD t 0))) : fs_law_entry [tI A, .int t] Q := ⟨A, t, rfl, q⟩
theorem c_reserves_of {P : Pol} {Q : D → Prop} (h : P.Ok) (q : Q (.list ((List.range (P.n + 1)).map fun t => rt (P.V t)))) : fs_reserves_of [P.d] Q := ⟨P, rfl, h, q⟩
theorem c_worth {P : Pol} {Q : D → Prop} (h : P.Ok) (q : Q (rt (P.V 0))) : fs_worth [P.d] Q := ⟨P, rfl, h, q⟩
theorem c_reserves {P : Pol} {Q : D → Prop} (h : P.Ok) (q : Q (.tuple ((List.range P.n).map fun t => rt (P.V t)))) : fs_reserves [P.d] Q := ⟨P, rfl, h, q⟩
theorem c_fund {P : Pol} {Q : D → Prop} (h : P.Ok) (q : Q (.tuple ((List.range P.n).map fun t => rt (P.money t / (P.l t : Int))))) : fs_fund [P.d] Q := ⟨P, rfl, h, q⟩
theorem c_split_premiums {P : Pol} {Q : D → Prop} (h : P.Ok) (q : Q (.tuple ((List.range P.n).map fun t => .tuple [rt (vv P.r * P.V (t + 1) - P.V t), rt (vv P.r * P.q t * (P.dead' t - P.V (t + 1)))]))) : fs_split_premiums [P.d] Q := ⟨P, rfl, h, q⟩
theorem c_law_step {r : Rat} {y : Nat} {Q : D → Prop} (h : RateOk r) (hy : y ≤ 100) (q : Q (rt (vv r ^ y))) : fs_law_step [rt r, .int y] Q := ⟨r, y, rfl, h, hy, q⟩
theorem c_law_from {P : Pol} {t : Nat} {Q : D → Prop} (h : P.Ok) (ht : t < P.n) (q : Q (rt (P.V t))) : fs_law_from [P.d, .int t] Q := ⟨P, t, rfl, h.toR, ht, q⟩
theorem c_need_policy {P : Pol} {Q : D → Prop} (h : P.Ok) (q : Q .none) : fs_need_policy [P.d] Q := ⟨P, rfl, h, q⟩
theorem c_growth {r : Rat} {Q : D → Prop} (q : Q (rt (1 + r))) : fs_growth [rt r] Q := ⟨r, rfl, q⟩
theorem c_need_rate {r : Rat} {Q : D → Prop} (h : RateOk r) (q : Q .none) : fs_need_rate [rt r] Q := ⟨r, rfl, h, q⟩
theorem c_need_lives {L : List Int} {Q : D → Prop} (h : LivesOk L) (q : Q .none) : fs_need_lives [tI L] Q := ⟨L, rfl, h, q⟩
theorem c_need_age {L : List Int} {a : Int} {Q : D → Prop} (h : 0 ≤ a) (h2 : a ≤ (L.length : Int) - 2) (q : Q .none) : fs_need_age [tI L, .int a] Q := ⟨L, a, rfl, h, h2, q⟩
theorem c_need_payments {L : List Int} {Q : D → Prop} (h : PayOk L) (q : Q .none) : fs_need_payments [tI L] Q := ⟨L, rfl, h, q⟩
theorem c_need_time {v l m : Int} {Q : D → Prop} (h : l ≤ v ∧ v ≤ m) (q : Q .none) : fs_need_time [.int v, .int l, .int m] Q := ⟨v, l, m, rfl, h, q⟩
theorem c_is_in {v l m : Int} {Q : D → Prop} (q : Q (.bool (decide (l ≤ v ∧ v ≤ m)))) : fs_is_in [.int v, .int l, .int m] Q := ⟨v, l, m, rfl, q⟩
theorem c_law_alike {d : D} {Q : D → Prop} (h : plainD 4 d = true) (q : Q (.bool true)) : fs_law_alike [d, d] Q := ⟨d, rfl, h, q⟩
theorem c_disc {r : Rat} {Q : D → Prop} (h : RateOk r) (q : Q (rt (vv r))) : fs_power [rt (1 + r), .int (-1)] Q :=
  ⟨1 + r, -1, 11, rfl, by omega, szLe_1r h, fun _ => rate_ne h, by omega, by omega, by rw [pow_m1]; exact q⟩
local macro_rules | `(tactic| walk_at "vcg1") => `(tactic| ((with_reducible show fs_span_of [(Pol.d _)] _); refine c_span_of (by walk_at "sdt") ?_))
local macro_rules | `(tactic| walk_at "vcg1") => `(tactic| ((with_reducible show fs_law_span [(Pol.d _)] _); refine c_law_span (by walk_at "sdt") ?_))
local macro_rules | `(tactic| walk_at "vcg1") => `(tactic| ((with_reducible show fs_part_dying [(Pol.d _), .int _] _); refine c_part_dying (by walk_at "sdt") (by walk_at "sdt") ?_))
local macro_rules | `(tactic| walk_at "vcg1") => `(tactic| ((with_reducible show fs_net_alive [(Pol.d _), .int _] _); refine c_net_alive (by walk_at "sdt") ?_))
local macro_rules | `(tactic| walk_at "vcg1") => `(tactic| ((with_reducible show fs_law_net [(Pol.d _), .int _] _); refine c_law_net (by walk_at "sdt") ?_))
local macro_rules | `(tactic| walk_at "vcg1") => `(tactic| ((with_reducible show fs_entry [tI _, .int _] _); refine c_entry ?_))
local macro_rules | `(tactic| walk_at "vcg1") => `(tactic| ((with_reducible show fs_law_entry [tI _, .int _] _); refine c_law_entry ?_))
local macro_rules | `(tactic| walk_at "vcg1") => `(tactic| ((with_reducible show fs_reserves_of [(Pol.d _)] _); refine c_reserves_of (by walk_at "sdt") ?_))
local macro_rules | `(tactic| walk_at "vcg1") => `(tactic| ((with_reducible show fs_worth [(Pol.d _)] _); refine c_worth (by walk_at "sdt") ?_))
local macro_rules | `(tactic| walk_at "vcg1") => `(tactic| ((with_reducible show fs_reserves [(Pol.d _)] _); refine c_reserves (by walk_at "sdt") ?_))
local macro_rules | `(tactic| walk_at "vcg1") => `(tactic| ((with_reducible show fs_fund [(Pol.d _)] _); refine c_fund (by walk_at "sdt") ?_))
local macro_rules | `(tactic| walk_at "vcg1") => `(tactic| ((with_reducible show fs_split_premiums [(Pol.d _)] _); refine c_split_premiums (by walk_at "sdt") ?_))
local macro_rules | `(tactic| walk_at "vcg1") => `(tactic| ((with_reducible show fs_law_step [rt _, .int _] _); refine c_law_step (by walk_at "sdt") (by walk_at "sdt") ?_))
local macro_rules | `(tactic| walk_at "vcg1") => `(tactic| ((with_reducible show fs_law_from [(Pol.d _), .int _] _); refine c_law_from (by walk_at "sdt") (by walk_at "sdt") ?_))
local macro_rules | `(tactic| walk_at "vcg1") => `(tactic| ((with_reducible show fs_need_policy [(Pol.d _)] _); refine c_need_policy (by walk_at "sdt") ?_))
local macro_rules | `(tactic| walk_at "vcg1") => `(tactic| ((with_reducible show fs_growth [rt _] _); refine c_growth ?_))
local macro_rules | `(tactic| walk_at "vcg1") => `(tactic| ((with_reducible show fs_need_rate [rt _] _); refine c_need_rate (by walk_at "sdt") ?_))
local macro_rules | `(tactic| walk_at "vcg1") => `(tactic| ((with_reducible show fs_need_lives [tI _] _); refine c_need_lives (by walk_at "sdt") ?_))
local macro_rules | `(tactic| walk_at "vcg1") => `(tactic| ((with_reducible show fs_need_age [tI _, .int _] _); refine c_need_age (by walk_at "sdt") (by walk_at "sdt") ?_))
local macro_rules | `(tactic| walk_at "vcg1") => `(tactic| ((with_reducible show fs_need_payments [tI _] _); refine c_need_payments (by walk_at "sdt") ?_))
local macro_rules | `(tactic| walk_at "vcg1") => `(tactic| ((with_reducible show fs_need_time [.int _, .int _, .int _] _); refine c_need_time (by walk_at "sdt") ?_))
local macro_rules | `(tactic| walk_at "vcg1") => `(tactic| ((with_reducible show fs_is_in [.int _, .int _, .int _] _); refine c_is_in ?_))
local macro_rules | `(tactic| walk_at "vcg1") => `(tactic| ((with_reducible show fs_law_alike [_, _] _); refine c_law_alike (by walk_at "plt") ?_))
local macro_rules | `(tactic| walk_at "vcg1") => `(tactic| ((with_reducible show fs_power [rt (1 + _), .int (-1)] _); refine c_disc (by walk_at "sdt") ?_))
local macro_rules | `(tactic| walk_at "vcg1") => `(tactic| ((with_reducible show onSome (atI ((List.range _).map _) _) _); refine c_atT (by walk_at "sdt") (by walk_at "sdt") ?_))
local macro_rules | `(tactic| walk_at "vcg1") => `(tactic| ((with_reducible show onSome (atI (List.map PyData.int _) _) _); refine c_atI (by walk_at "sdt") (by walk_at "sdt") ?_))
/-- the readings, as far as they go by themselves -/
theorem cast_add1 (a : Nat) : (a : Int) + 1 = ((a + 1 : Nat) : Int) := rfl
theorem cast_add (a b : Nat) : (a : Int) + b = ((a + b : Nat) : Int) := rfl
theorem rt_negQ (q : Rat) : PyData.tuple [.int (0 - q.num), .int q.den] = rt (-q) := by
  rw [Int.zero_sub]; rfl
theorem rt_negQ' (q : Rat) : PyData.tuple [.int (-q.num), .int q.den] = rt (-q) := rfl
theorem rt_same (q : Rat) : PyData.tuple [.int q.num, .int q.den] = rt q := rfl
theorem rt_negI (x : Int) : PyData.tuple [.int (0 - x), .int 1] = rt (-(x : Rat)) := by
  rw [Int.zero_sub, rt_int, Rat.intCast_neg]
theorem rt_0 : PyData.tuple [.int 0, .int 1] = rt 0 := rfl
theorem rt_1 : PyData.tuple [.int 1, .int 1] = rt 1 := rfl
theorem rat_num_den (q : Rat) : ((q.num : Int) : Rat) / ((q.den : Int) : Rat) = q := (rt_num q).symm
theorem den_ne (q : Rat) : ((q.den : Int) : Rat) ≠ 0 := by have := den_pos q; simp; omega
theorem rat_over_i (q : Rat) (x : Int) : ((q.num : Int) : Rat) / ((q.den * x : Int) : Rat) = q / (x : Rat) := by
  have h := rt_num q
  conv => rhs; rw [h]
  rw [Rat.intCast_mul]
  by_cases hx : (x : Rat) = 0
  · rw [hx]; simp [Rat.div_def]
  · have := den_ne q
    grind
theorem rat_i_over (q : Rat) (x : Int) : ((q.num * x : Int) : Rat) / ((q.den : Int) : Rat) = q * (x : Rat) := by
  have h := rt_num q
  conv => rhs; rw [h]
  rw [Rat.intCast_mul]
  grind
theorem rat_i_over' (q : Rat) (x : Int) : ((x * q.num : Int) : Rat) / ((q.den : Int) : Rat) = (x : Rat) * q := by rw [Int.mul_comm, rat_i_over, Rat.mul_comm]
theorem rat_q_over (a b : Rat) (h : b ≠ 0) : ((a.num * b.den : Int) : Rat) / ((a.den * b.num : Int) : Rat) = a / b := (div_eq_div a b h).symm
theorem rat_q_mul (a b : Rat) : ((a.num * b.num : Int) : Rat) / ((a.den * b.den : Int) : Rat) = a * b := (mul_eq_div a b).symm
theorem rat_q_add (a b : Rat) : ((a.num * b.den + b.num * a.den : Int) : Rat) / ((a.den * b.den : Int) : Rat) = a + b := (add_eq_div a b).symm
theorem rat_q_sub (a b : Rat) : ((a.num * b.den - b.num * a.den : Int) : Rat) / ((a.den * b.den : Int) : Rat) = a - b := (sub_eq_div a b).symm
theorem rat_q_over' (a b : Rat) : ((a.num * b.den : Int) : Rat) / ((a.den * b.num : Int) : Rat) = a / b := by
  by_cases h : b = 0
  · subst h
    rw [show (0 : Rat).num = 0 from rfl, Int.mul_zero]; simp [Rat.div_def]
  · exact rat_q_over a b h
theorem getD_l {P : Pol} {t : Nat} : P.L.getD (P.a + t) 0 = P.l t := rfl
theorem getD_l1 {P : Pol} {t : Nat} : P.L.getD (P.a + t + 1) 0 = P.l (t + 1) := rfl
theorem getD_l0 {P : Pol} : P.L.getD P.a 0 = P.l 0 := rfl
theorem getD_dead {P : Pol} {t : Nat} : ((P.B.getD t 0 : Int) : Rat) = P.dead' t := rfl
theorem map_range_succ {α : Type} (f : Nat → α) (n : Nat) : (List.range n).map f ++ [f n] = (List.range (n + 1)).map f := by rw [List.range_succ, List.map_append]; rfl
theorem not_dec {p : Prop} [Decidable p] {A B : Prop} (h : p) (q : B) : if (!decide p) = true then A else B := by rw [decide_eq_true h]; exact q
theorem is_dec {p : Prop} [Decidable p] {A B : Prop} (h : p) (q : A) : if (decide p) = true then A else B := by rw [decide_eq_true h]; exact q
theorem isnt_dec {p : Prop} [Decidable p] {A B : Prop} (h : ¬ p) (q : B) : if (decide p) = true then A else B := by rw [decide_eq_false h]; exact q
local macro_rules | `(tactic| walk_at "psh") => `(tactic| simp only [Rat.intCast_sub, Rat.intCast_mul, Rat.intCast_add, Rat.intCast_neg, Rat.intCast_zero, Rat.intCast_one, Rat.intCast_natCast] at *)
local macro_rules | `(tactic| walk_at "wnt") => `(tactic| try simp only [Int.zero_add, Int.mul_one, Int.toNat_natCast, cast_add, cast_add1, Int.reduceToNat, Int.reduceNeg, rt_negQ, rt_negQ', rt_same, rt_negI, rt_0, rt_1, rt_int, rt_1r, rat_num_den, rat_over_i, rat_i_over, rat_i_over', rat_q_mul, rat_q_add, rat_q_sub, rat_q_over', getD_l, getD_l1, getD_l0, q_neR, q_eqR, q_neB, q_eqB, map_range_succ, decide_true, decide_false, Bool.not_true, Bool.not_false, Bool.false_eq_true, if_true, if_false])
local macro_rules | `(tactic| walk_at "vcg") => `(tactic| (walk_at "wgo"; walk_at "wnt"; (repeat (walk_at "vcg1"; walk_at "wgo"; walk_at "wnt")); walk_at "wgo"; walk_at "wnt"; (repeat (walk_at "vcg1"; walk_at "wgo"; walk_at "wnt"))))
theorem q_catL {a b : List D} {Q : List D → Prop} : fCatL (.list a) (.list b) Q = ((a.length + b.length ≤ 16777216 ∧ flats a = true ∧ flats b = true) ∧ Q (a ++ b)) := rfl
theorem q_repL {a : List D} {k : Int} {Q : List D → Prop} : fRepL (.list a) (.int k) Q = ((a.length * k.toNat ≤ 16777216 ∧ -(2 ^ 63) ≤ k ∧ k < 2 ^ 63 ∧ flats a = true) ∧ Q (List.replicate k.toNat a).flatten) := rfl
theorem rep1_map (x : D) (n : Nat) : (List.replicate n [x]).flatten = (List.range n).map fun _ => x := by
  induction n with
  | zero => rfl
  | succ n ih => rw [List.replicate_succ', List.flatten_append, ih, List.range_succ, List.map_append]; rfl
theorem rep1_rt (x : Rat) (n : Nat) : (List.replicate n [rt x]).flatten = (List.range n).map fun _ => rt x := rep1_map _ _
theorem mapN_get {f : Nat → D} {n i : Nat} {d : D} (h : ((List.range n).map f)[i]? = some d) : i < n ∧ d = f i := by
  rw [List.getElem?_map] at h
  by_cases hi : i < n
  · rw [List.getElem?_range hi] at h; exact ⟨hi, (Option.some.inj h).symm⟩
  · rw [List.getElem?_eq_none (by simp; omega)] at h; cases h
/-- over a list told by its places -/
theorem forW_mapN {wg : WG} {wb : WS} {K : KD} {g : Nat → D} {n : Nat} {env : SDs} (I : Nat → SDs → Prop) (h0 : I 0 env)
    (hstep : ∀ i env (P : SDs → Prop), i < n → I i env → (∀ env', I (i + 1) env' → P env') → wg (g i) env fun env' => wb { K with nx := P, ct := P, bk := K.nx } env') (hend : ∀ env, I n env → K.nx env) : forW wg wb K ((List.range n).map g) env :=
  forW_idx I h0 (fun i d env P hd h hP => by obtain ⟨hi, rfl⟩ := mapN_get hd; exact hstep i env P hi h hP) fun env h => hend env (by simpa using h)
theorem forW_ints {wg : WG} {wb : WS} {K : KD} {L : List Int} {env : SDs} (I : Nat → SDs → Prop) (h0 : I 0 env)
    (hstep : ∀ i env (P : SDs → Prop), i < L.length → I i env → (∀ env', I (i + 1) env' → P env') → wg (.int (L.getD i 0)) env fun env' => wb { K with nx := P, ct := P, bk := K.nx } env') (hend : ∀ env, I L.length env → K.nx env) : forW wg wb K (L.map PyData.int) env :=
  forW_idx I h0 (fun i d env P hd h hP => by obtain ⟨hi, rfl⟩ := ints_getD hd; exact hstep i env P hi h hP) fun env h => hend env (by simpa using h)
theorem lcW_core {wg : WG} {wt : WT} {we : WE} {env : SDs} {Q : List D → Prop} {ds : List D} (f : Nat → D)
    (hstep : ∀ i d (P : List D → Prop), ds[i]? = some d → P ((List.range (i + 1)).map f) → wg d env fun env' => wt env' fun c => if c = true then we env' fun y => (((List.range i).map f).length < 16777216 ∧ flat y = true) ∧ P ((List.range i).map f ++ [y]) else P ((List.range i).map f))
    (hend : Q ((List.range ds.length).map f)) : lcW wg wt we env Q ds [] :=
  lcW_idx (fun i acc => acc = (List.range i).map f) rfl (fun i d acc P hd h hP => by subst h; exact hstep i d P hd (hP _ rfl)) fun acc h => by rw [h]; exact hend
theorem lcW_rng0 {wg : WG} {wt : WT} {we : WE} {env : SDs} {Q : List D → Prop} {n : Nat} (f : Nat → D)
    (hstep : ∀ i (P : List D → Prop), i < n → P ((List.range (i + 1)).map f) → wg (.int (i : Nat)) env fun env' => wt env' fun c => if c = true then we env' fun y => (((List.range i).map f).length < 16777216 ∧ flat y = true) ∧ P ((List.range i).map f ++ [y]) else P ((List.range i).map f))
    (hend : Q ((List.range n).map f)) : lcW wg wt we env Q (rngD 0 1 n) [] :=
  lcW_core f (fun i d P hd hP => by obtain ⟨hi, rfl⟩ := rngD_get hd; have := hstep i P hi hP; rwa [show (0 : Int) + (i : Nat) * 1 = (i : Int) by omega]) (by rwa [rngD_len])
theorem lcW_rng1 {wg : WG} {wt : WT} {we : WE} {env : SDs} {Q : List D → Prop} {lo : Int} {n : Nat} (f : Nat → D)
    (hstep : ∀ i (P : List D → Prop), i < n → P ((List.range (i + 1)).map f) → wg (.int (lo + (i : Nat))) env fun env' => wt env' fun c => if c = true then we env' fun y => (((List.range i).map f).length < 16777216 ∧ flat y = true) ∧ P ((List.range i).map f ++ [y]) else P ((List.range i).map f))
    (hend : Q ((List.range n).map f)) : lcW wg wt we env Q (rngD lo 1 n) [] :=
  lcW_core f (fun i d P hd hP => by obtain ⟨hi, rfl⟩ := rngD_get hd; have := hstep i P hi hP; rwa [show lo + (i : Nat) * 1 = lo + (i : Int) by omega]) (by rwa [rngD_len])
theorem lcW_mapN {wg : WG} {wt : WT} {we : WE} {env : SDs} {Q : List D → Prop} {n : Nat} {g : Nat → D} (f : Nat → D)
    (hstep : ∀ i (P : List D → Prop), i < n → P ((List.range (i + 1)).map f) → wg (g i) env fun env' => wt env' fun c => if c = true then we env' fun y => (((List.range i).map f).length < 16777216 ∧ flat y = true) ∧ P ((List.range i).map f ++ [y]) else P ((List.range i).map f))
    (hend : Q ((List.range n).map f)) : lcW wg wt we env Q ((List.range n).map g) [] :=
  lcW_core f (fun i d P hd hP => by obtain ⟨hi, rfl⟩ := mapN_get hd; exact hstep i P hi hP) (by simpa using hend)
theorem lcW_ints {wg : WG} {wt : WT} {we : WE} {env : SDs} {Q : List D → Prop} {L : List Int} (f : Nat → D)
    (hstep : ∀ i (P : List D → Prop), i < L.length → P ((List.range (i + 1)).map f) → wg (.int (L.getD i 0)) env fun env' => wt env' fun c => if c = true then we env' fun y => (((List.range i).map f).length < 16777216 ∧ flat y = true) ∧ P ((List.range i).map f ++ [y]) else P ((List.range i).map f))
    (hend : Q ((List.range L.length).map f)) : lcW wg wt we env Q (L.map PyData.int) [] :=
  lcW_core f (fun i d P hd hP => by obtain ⟨hi, rfl⟩ := ints_getD hd; exact hstep i P hi hP) (by simpa using hend)
/-! generator expressions -/
abbrev Sees (wg : WG) (wt : WT) (we : WE) (env : SDs) (d y : D) : Prop := wg d env fun env' => wt env' fun c => if c = true then we env' fun z => some y = some z else some y = none
theorem all_rng0 {wg : WG} {wt : WT} {we : WE} {env : SDs} {Q : D → Prop} {n : Nat} (b : Nat → Bool) (h : ∀ i, i < n → Sees wg wt we env (.int (i : Nat)) (.bool (b i))) (q : Q (.bool ((List.range n).all b))) :
    genW wg wt we env (fun ys => fBools (fun bs => bs.all id) ys Q) (rngD 0 1 n) [] :=
  gen_all b (fun i d hd => by obtain ⟨hi, rfl⟩ := rngD_get hd; have := h i hi; rwa [show (0 : Int) + (i : Nat) * 1 = (i : Int) by omega]) (by rwa [rngD_len])
theorem any_rng0 {wg : WG} {wt : WT} {we : WE} {env : SDs} {Q : D → Prop} {n : Nat} (b : Nat → Bool) (h : ∀ i, i < n → Sees wg wt we env (.int (i : Nat)) (.bool (b i))) (q : Q (.bool ((List.range n).any b))) :
    genW wg wt we env (fun ys => fBools (fun bs => bs.any id) ys Q) (rngD 0 1 n) [] :=
  gen_any b (fun i d hd => by obtain ⟨hi, rfl⟩ := rngD_get hd; have := h i hi; rwa [show (0 : Int) + (i : Nat) * 1 = (i : Int) by omega]) (by rwa [rngD_len])
theorem all_mapN {wg : WG} {wt : WT} {we : WE} {env : SDs} {Q : D → Prop} {n : Nat} {g : Nat → D} (b : Nat → Bool) (h : ∀ i, i < n → Sees wg wt we env (g i) (.bool (b i))) (q : Q (.bool ((List.range n).all b))) :
    genW wg wt we env (fun ys => fBools (fun bs => bs.all id) ys Q) ((List.range n).map g) [] :=
  gen_all b (fun i d hd => by obtain ⟨hi, rfl⟩ := mapN_get hd; exact h i hi) (by simpa using q)
theorem any_mapN {wg : WG} {wt : WT} {we : WE} {env : SDs} {Q : D → Prop} {n : Nat} {g : Nat → D} (b : Nat → Bool) (h : ∀ i, i < n → Sees wg wt we env (g i) (.bool (b i))) (q : Q (.bool ((List.range n).any b))) :
    genW wg wt we env (fun ys => fBools (fun bs => bs.any id) ys Q) ((List.range n).map g) [] :=
  gen_any b (fun i d hd => by obtain ⟨hi, rfl⟩ := mapN_get hd; exact h i hi) (by simpa using q)
theorem all_ints {wg : WG} {wt : WT} {we : WE} {env : SDs} {Q : D → Prop} {L : List Int} (b : Int → Bool) (h : ∀ x, x ∈ L → Sees wg wt we env (.int x) (.bool (b x))) (q : Q (.bool (L.all b))) :
    genW wg wt we env (fun ys => fBools (fun bs => bs.all id) ys Q) (L.map PyData.int) [] := by
  have e : (List.range (L.map PyData.int).length).all (fun i => b (L.getD i 0)) = L.all b := by
    rw [List.length_map]
    apply Bool.eq_iff_iff.mpr
    rw [List.all_eq_true, List.all_eq_true]
    refine ⟨fun h x hx => ?_, fun h i hi => ?_⟩
    · obtain ⟨i, hi, rfl⟩ := List.getElem_of_mem hx
      have := h i (List.mem_range.mpr hi)
      rwa [List.getD_eq_getElem?_getD, List.getElem?_eq_getElem hi] at this
    · have hi := List.mem_range.mp hi
      rw [List.getD_eq_getElem?_getD, List.getElem?_eq_getElem hi]
      exact h _ (List.getElem_mem hi)
  refine gen_all (fun i => b (L.getD i 0)) (fun i d hd => ?_) (by rwa [e])
  obtain ⟨hi, rfl⟩ := ints_getD hd
  exact h _ (by rw [List.getD_eq_getElem?_getD, List.getElem?_eq_getElem hi]; exact List.getElem_mem hi)
theorem sum_rng0 {wg : WG} {wt : WT} {we : WE} {env : SDs} {Q : D → Prop} {n : Nat} (f : Nat → Int) (h : ∀ i, i < n → Sees wg wt we env (.int (i : Nat)) (.int (f i))) (hs : sumsIn 0 ((List.range n).map f)) (q : Q (.int ((List.range n).map f).sum)) :
    genW wg wt we env (fun ys => fSum ys Q) (rngD 0 1 n) [] :=
  genW_of (fun i => .int (f i)) (fun i d hd => by obtain ⟨hi, rfl⟩ := rngD_get hd; have := h i hi; rwa [show (0 : Int) + (i : Nat) * 1 = (i : Int) by omega]) ⟨(List.range n).map f, by rw [rngD_len, List.map_map]; rfl, hs, q⟩
theorem sum_mapN {wg : WG} {wt : WT} {we : WE} {env : SDs} {Q : D → Prop} {n : Nat} {g : Nat → D} (f : Nat → Int) (h : ∀ i, i < n → Sees wg wt we env (g i) (.int (f i))) (hs : sumsIn 0 ((List.range n).map f)) (q : Q (.int ((List.range n).map f).sum)) :
    genW wg wt we env (fun ys => fSum ys Q) ((List.range n).map g) [] :=
  genW_of (fun i => .int (f i)) (fun i d hd => by obtain ⟨hi, rfl⟩ := mapN_get hd; exact h i hi) ⟨(List.range n).map f, by rw [List.length_map, List.length_range, List.map_map]; rfl, hs, q⟩
theorem isnt_not {p : Prop} [Decidable p] {A B : Prop} (h : ¬ p) (q : A) : if (!decide p) = true then A else B := by rw [decide_eq_false h]; exact q
local macro_rules | `(tactic| walk_at "vcg1") => `(tactic| ((with_reducible show ite (decide _ = true) _ _); first | refine is_dec (by omega) ?_ | refine isnt_dec (by omega) ?_))
local macro_rules | `(tactic| walk_at "vcg1") => `(tactic| ((with_reducible show ite ((!decide _) = true) _ _); first | refine not_dec (by omega) ?_ | refine isnt_not (by omega) ?_))
theorem sees_dec {p : Prop} [Decidable p] (h : p) : some (PyData.bool true) = some (PyData.bool (decide p)) := by rw [decide_eq_true h]
theorem sees_not {p : Prop} [Decidable p] (h : ¬ p) : some (PyData.bool false) = some (PyData.bool (decide p)) := by rw [decide_eq_false h]
local macro_rules | `(tactic| walk_at "vcg1") => `(tactic| ((with_reducible show some (PyData.bool true) = some (PyData.bool (decide _))); exact sees_dec (by omega)))
local macro_rules | `(tactic| walk_at "vcg1") => `(tactic| ((with_reducible show some (PyData.bool false) = some (PyData.bool (decide _))); exact sees_not (by omega)))
theorem c_is_ratio {q : Rat} {Q : D → Prop} (k : Q (.bool true)) : fs_is_ratio [rt q] Q := ⟨q, rfl, k⟩
local macro_rules | `(tactic| walk_at "vcg1") => `(tactic| ((with_reducible show fs_is_ratio [rt _] _); refine c_is_ratio ?_))
theorem allT_mapN {wg : WG} {wt : WT} {we : WE} {env : SDs} {Q : D → Prop} {n : Nat} {g : Nat → D} (h : ∀ i, i < n → Sees wg wt we env (g i) (.bool true)) (q : Q (.bool true)) : genW wg wt we env (fun ys => fBools (fun bs => bs.all id) ys Q) ((List.range n).map g) [] :=
  all_mapN (fun _ => true) h (by rwa [show (List.range n).all (fun _ => true) = true from List.all_eq_true.mpr fun _ _ => rfl])
theorem allT_ints {wg : WG} {wt : WT} {we : WE} {env : SDs} {Q : D → Prop} {L : List Int} (h : ∀ x, x ∈ L → Sees wg wt we env (.int x) (.bool true)) (q : Q (.bool true)) : genW wg wt we env (fun ys => fBools (fun bs => bs.all id) ys Q) (L.map PyData.int) [] :=
  all_ints (fun _ => true) h (by rwa [show L.all (fun _ => true) = true from List.all_eq_true.mpr fun _ _ => rfl])
theorem allT_rng0 {wg : WG} {wt : WT} {we : WE} {env : SDs} {Q : D → Prop} {n : Nat} (h : ∀ i, i < n → Sees wg wt we env (.int (i : Nat)) (.bool true)) (q : Q (.bool true)) : genW wg wt we env (fun ys => fBools (fun bs => bs.all id) ys Q) (rngD 0 1 n) [] :=
  all_rng0 (fun _ => true) h (by rwa [show (List.range n).all (fun _ => true) = true from List.all_eq_true.mpr fun _ _ => rfl])
theorem anyF_rng0 {wg : WG} {wt : WT} {we : WE} {env : SDs} {Q : D → Prop} {n : Nat} (h : ∀ i, i < n → Sees wg wt we env (.int (i : Nat)) (.bool false)) (q : Q (.bool false)) : genW wg wt we env (fun ys => fBools (fun bs => bs.any id) ys Q) (rngD 0 1 n) [] :=
  any_rng0 (fun _ => false) h (by rwa [show (List.range n).any (fun _ => false) = false from by rw [List.any_eq_false]; intro _ _; simp])
theorem down1 (n : Nat) : ((n : Int) - 1 - -1).toNat = n := by omega
theorem forW_down {wg : WG} {wb : WS} {K : KD} {n : Nat} {env : SDs} (I : Nat → SDs → Prop) (h0 : I 0 env)
    (hstep : ∀ i env (P : SDs → Prop), i < n → I i env → (∀ env', I (i + 1) env' → P env') → wg (.int ((n - (i + 1) : Nat) : Int)) env fun env' => wb { K with nx := P, ct := P, bk := K.nx } env') (hend : ∀ env, I n env → K.nx env) : forW wg wb K (rngD ((n : Int) - 1) (-1) n) env :=
  forW_rngd I h0 (fun i env P hi h hP => by have := hstep i env P hi h hP; rwa [show (n : Int) - 1 - (i : Nat) = ((n - (i + 1) : Nat) : Int) by omega]) hend
theorem c_law_taken {m : Int} {Q : D → Prop} (h : 0 < m) (q : ∀ v : Int, 0 ≤ v → v < m → Q (.int v)) : fs_law_taken [rowD, .int m] Q := ⟨m, rfl, h, q⟩
theorem c_pick_rats {xs : List D} {Q : D → Prop} (R : List Rat) (h : xs = R.map rt) (hne : R ≠ []) (q : ∀ q, q ∈ R → Q (rt q)) : fs_law_pick [rowD, .list xs] Q :=
  ⟨xs, .inl rfl, by rw [h]; simpa using hne, by rw [h]; exact flats_iff.mpr fun d hd => by obtain ⟨x, _, rfl⟩ := List.mem_map.mp hd; rfl, fun d hd => by rw [h] at hd; obtain ⟨x, hx, rfl⟩ := List.mem_map.mp hd; exact q x hx⟩
theorem c_pick_ints {xs : List D} {Q : D → Prop} (R : List Int) (h : xs = R.map PyData.int) (hne : R ≠ []) (q : ∀ q, q ∈ R → Q (.int q)) : fs_law_pick [rowD, .list xs] Q :=
  ⟨xs, .inl rfl, by rw [h]; simpa using hne, by rw [h]; exact flats_ints R, fun d hd => by rw [h] at hd; obtain ⟨x, hx, rfl⟩ := List.mem_map.mp hd; exact q x hx⟩
theorem c_law_rate {Q : D → Prop} (q : ∀ r, RateOk r → RateIn r → Q (rt r)) : fs_law_rate [rowD] Q := ⟨rfl, fun r hr => q r (rates_ok hr) hr⟩
local macro_rules | `(tactic| walk_at "vcg1") => `(tactic| ((with_reducible show fs_law_rate [rowD] _); refine c_law_rate ?_))
local macro_rules | `(tactic| walk_at "vcg1") => `(tactic| ((with_reducible show fs_law_taken [rowD, .int _] _); refine c_law_taken (by omega) ?_))
theorem rt_1m (q : Rat) : PyData.tuple [.int (q.den - q.num), .int q.den] = rt (1 - q) := by
  have e : (1 : Rat) - q = ((q.den - q.num : Int) : Rat) / ((q.den : Int) : Rat) := by
    have h := rt_num q
    have h2 := den_ne q
    rw [Rat.intCast_sub]
    conv => lhs; rw [h]
    grind
  have hg : Int.gcd (q.den - q.num) q.den = 1 := by
    have h1 := q.reduced
    rw [Int.gcd_sub_left_left_of_dvd _ (Int.dvd_refl _)] 
    rw [Int.gcd_eq_natAbs_gcd_natAbs, Int.natAbs_natCast]; exact h1
  rw [e, rt_copr (den_pos q) hg]
/-- a tuple of ratios -/
abbrev tR (n : Nat) (f : Nat → Rat) : D := .tuple ((List.range n).map fun i => rt (f i))
def upTo (n : Nat) (f : Nat → Rat) (t : Nat) : Rat := if t < n then f t else 0
theorem c_upTo {n t : Nat} {f : Nat → Rat} {Q : D → Prop} {E : Prop} (hE : Q (rt 0) → E) (q : Q (rt (upTo n f t))) : if decide ((t : Int) < (n : Int)) = true then onSome (atI ((List.range n).map fun i => rt (f i)) (t : Int)) Q else E := by
  unfold upTo at q
  by_cases h : t < n
  · rw [if_pos h] at q
    rw [decide_eq_true (by omega), if_pos rfl]
    exact c_at t rfl h q
  · rw [if_neg h] at q
    rw [decide_eq_false (by omega), if_neg (by decide)]
    exact hE q
local macro_rules | `(tactic| walk_at "vcg1") => `(tactic| ((with_reducible show ite (decide (((_ : Nat) : Int) < ((_ : Nat) : Int)) = true) (onSome (atI (List.map _ (List.range _)) _) _) _); refine c_upTo (by walk_at "wgo"; walk_at "wnt"; exact id) ?_))
theorem match_bl {b : Bool} {A B : Prop} : wChain.match_1 (fun _ => Prop) (PyData.bool b) (fun _ => A) (fun _ => B) (fun _ => False) = if b = true then A else B := by cases b <;> rfl
theorem szLe_upTo {n k : Nat} {f : Nat → Rat} (h : ∀ i, i < n → szLe k (f i)) (hk : 1 ≤ k) (t : Nat) : szLe k (upTo n f t) := by
  unfold upTo
  by_cases ht : t < n
  · rw [if_pos ht]; exact h t ht
  · rw [if_neg ht]; exact szLe_zero.mono hk
local macro_rules | `(tactic| walk_at "szb") => `(tactic| exact szLe.mono (by walk_at "szt") (by omega))
theorem rsub0 (a : Rat) : a - 0 = a := by grind
theorem list_fn {α : Type} (g : α → D) (L : List α) (d : α) : L.map g = (List.range L.length).map fun i => g (L.getD i d) := by
  apply List.ext_getElem
  · simp
  · intro i h1 h2
    simp only [List.getElem_map, List.getElem_range]
    rw [List.getD_eq_getElem?_getD, List.getElem?_eq_getElem (by simpa using h1)]; rfl
/-- a list of ratios, told by its places -/
theorem rats_fn {p : Rat → Prop} (L : List Rat) (h : ∀ q ∈ L, p q) : ∃ f : Nat → Rat, L.map rt = ((List.range L.length).map fun i => rt (f i)) ∧ ∀ i, i < L.length → p (f i) :=
  ⟨fun i => L.getD i 0, list_fn rt L 0, fun i hi => by
    show p (L.getD i 0)
    rw [List.getD_eq_getElem?_getD, List.getElem?_eq_getElem hi]; exact h _ (List.getElem_mem hi)⟩
theorem cut_from {f : Nat → D} {n k : Nat} : cutD ((List.range n).map f) (some ((k : Nat) : Int)) none = (List.range (n - k)).map fun i => f (k + i) := by
  unfold cutD
  rw [HT.sIx_nat, HT.sIx_none, List.length_map, List.length_range]
  apply List.ext_getElem
  · simp; omega
  · intro i h1 h2
    simp only [List.length_map, List.length_range] at h2
    simp only [List.getElem_take, List.getElem_drop, List.getElem_map, List.getElem_range]
    rw [Nat.min_eq_left (by omega)]
theorem cut_from1 {f : Nat → D} {n : Nat} : cutD ((List.range n).map f) (some 1) none = (List.range (n - 1)).map fun i => f (i + 1) := by
  have e : cutD ((List.range n).map f) (some 1) none = (List.range (n - 1)).map fun i => f (1 + i) := cut_from (k := 1)
  rw [e]
  simp only [Nat.add_comm 1]
theorem lcW_rel {α : Type} (f : α → D) (p : Nat → α → Prop) {wg : WG} {wt : WT} {we : WE} {env : SDs} {Q : List D → Prop} {ds : List D}
    (hstep : ∀ i d acc (P : List D → Prop), ds[i]? = some d → acc.length = i → (∀ x, p i x → P (acc ++ [f x])) → wg d env fun env' => wt env' fun c => if c = true then we env' fun y => (acc.length < 16777216 ∧ flat y = true) ∧ P (acc ++ [y]) else P acc)
    (hend : ∀ L : List α, L.length = ds.length → (∀ i x, L[i]? = some x → p i x) → Q (L.map f)) : lcW wg wt we env Q ds [] := by
  refine lcW_idx (fun i acc => ∃ L : List α, acc = L.map f ∧ L.length = i ∧ ∀ j x, L[j]? = some x → p j x) ⟨[], rfl, rfl, by simp⟩ (fun i d acc P hd ⟨L, e, hl, hp⟩ hP => ?_) fun acc ⟨L, e, hl, hp⟩ => ?_
  · subst e
    refine hstep i d _ P hd (by simp [hl]) fun x hx => hP _ ⟨L ++ [x], by simp, by simp [hl], fun j y hy => ?_⟩
    by_cases hj : j < L.length
    · rw [List.getElem?_append_left hj] at hy; exact hp j y hy
    · rw [List.getElem?_append_right (by omega)] at hy
      by_cases hj2 : j - L.length = 0
      · rw [hj2] at hy; simp at hy; subst hy; rw [show j = i by omega]; exact hx
      · rw [List.getElem?_eq_none (by simp; omega)] at hy; cases hy
  · subst e
    exact hend L hl hp
theorem cut_drop {L : List Int} {k : Nat} : cutD (L.map PyData.int) (some (k : Int)) none = (L.drop k).map PyData.int := by
  unfold cutD
  rw [HT.sIx_nat, HT.sIx_none, List.length_map, ← List.map_drop, ← List.map_take]
  congr 1
  by_cases h : k ≤ L.length
  · rw [Nat.min_eq_left h, List.take_of_length_le (by simp)]
  · rw [Nat.min_eq_right (by omega), List.drop_length, List.drop_eq_nil_of_le (by omega), List.take_nil]
theorem c_maxA {ns : List Int} {Q : D → Prop} (h : 0 < ns.length) (q : ∀ m, m ∈ ns → (∀ y, y ∈ ns → y ≤ m) → Q (.int m)) : fMaxA [.tuple (ns.map PyData.int)] Q := ⟨ns, .inr rfl, h, q⟩
theorem c_maxL {ns : List Int} {Q : D → Prop} (h : 0 < ns.length) (q : ∀ m, m ∈ ns → (∀ y, y ∈ ns → y ≤ m) → Q (.int m)) : fMaxA [.list (ns.map PyData.int)] Q := ⟨ns, .inl rfl, h, q⟩
theorem or_if {p q : Prop} [Decidable p] [Decidable q] {X Y : Prop} (hX : X) (hY : ¬ p → ¬ q → Y) : if decide p = true then X else if decide q = true then X else Y := by
  by_cases hp : p
  · rw [decide_eq_true hp]; exact hX
  · rw [decide_eq_false hp, if_neg (by decide)]
    by_cases hq : q
    · rw [decide_eq_true hq]; exact hX
    · rw [decide_eq_false hq]; exact hY hp hq
theorem plain_lay : ∀ (n : Nat) (d : D), plainD n d = true → d.canLay0 = true ∧ d.depth ≤ n ∧ PyData.eqv d d = true
  | n, .none, _ => ⟨by simp [PyData.canLay0], by simp [PyData.depth], rfl⟩
  | n, .bool b, _ => ⟨by simp [PyData.canLay0], by simp [PyData.depth], by rw [eqv_bool]; simp⟩
  | n, .int i, _ => ⟨by simp [PyData.canLay0], by simp [PyData.depth], by simp [PyData.eqv]⟩
  | n, .str x, h => ⟨by simpa [PyData.canLay0, plainD] using h, by simp [PyData.depth], by simp [PyData.eqv]⟩
  | n, .dict kv, h => by simp [plainD] at h
  | 0, .tuple xs, h => by simp [plainD] at h
  | 0, .list xs, h => by simp [plainD] at h
  | n + 1, .tuple xs, h => by
    have go : ∀ ys : List D, ys.all (plainD n) = true → PyData.canLayAll0 ys = true ∧ PyData.depthAll ys ≤ n ∧ PyData.eqvAll ys ys = true := by
      intro ys
      induction ys with
      | nil => intro _; exact ⟨by simp [PyData.canLayAll0], by simp [PyData.depthAll], by simp [PyData.eqvAll]⟩
      | cons y ys ih =>
        intro h
        rw [List.all_cons, Bool.and_eq_true] at h
        obtain ⟨a1, a2, a3⟩ := plain_lay n y h.1
        obtain ⟨b1, b2, b3⟩ := ih h.2
        exact ⟨by simp [PyData.canLayAll0, a1, b1], by simp only [PyData.depthAll]; omega, by simp [PyData.eqvAll, a3, b3]⟩
    unfold plainD at h
    rw [Bool.and_eq_true] at h
    obtain ⟨a, b, c⟩ := go xs h.1
    exact ⟨by simp [PyData.canLay0, a], by simp only [PyData.depth]; omega, by simp [PyData.eqv, c]⟩
  | n + 1, .list xs, h => by
    have go : ∀ ys : List D, ys.all (plainD n) = true → PyData.canLayAll0 ys = true ∧ PyData.depthAll ys ≤ n ∧ PyData.eqvAll ys ys = true := by
      intro ys
      induction ys with
      | nil => intro _; exact ⟨by simp [PyData.canLayAll0], by simp [PyData.depthAll], by simp [PyData.eqvAll]⟩
      | cons y ys ih =>
        intro h
        rw [List.all_cons, Bool.and_eq_true] at h
        obtain ⟨a1, a2, a3⟩ := plain_lay n y h.1
        obtain ⟨b1, b2, b3⟩ := ih h.2
        exact ⟨by simp [PyData.canLayAll0, a1, b1], by simp only [PyData.depthAll]; omega, by simp [PyData.eqvAll, a3, b3]⟩
    unfold plainD at h
    rw [Bool.and_eq_true] at h
    obtain ⟨a, b, c⟩ := go xs h.1
    exact ⟨by simp [PyData.canLay0, a], by simp only [PyData.depth]; omega, by simp [PyData.eqv, c]⟩
theorem shaped_plain {d : D} (h : plainD 10 d = true) : SeqAt.shaped d = true := by
  obtain ⟨a, b, _⟩ := plain_lay 10 d h
  unfold SeqAt.shaped
  rw [a, Bool.true_and]
  exact decide_eq_true (by omega)
theorem c_eqSame {d : D} {Q : D → Prop} (h : plainD 10 d = true) (q : Q (.bool true)) : dEq d d Q := by
  obtain ⟨a, b, c⟩ := plain_lay 10 d h
  have s := shaped_plain h
  cases d <;> first | (simp only [dEq, decide_true]; exact q) | exact ⟨s, s, by rw [c]; exact q⟩
theorem c_neSame {d : D} {Q : D → Prop} (h : plainD 10 d = true) (q : Q (.bool false)) : dNe d d Q := by
  obtain ⟨a, b, c⟩ := plain_lay 10 d h
  have s := shaped_plain h
  cases d <;> first | (simp only [dNe, decide_true, Bool.not_true]; exact q) | exact ⟨s, s, by rw [c]; exact q⟩
local macro_rules | `(tactic| walk_at "vcg1") => `(tactic| ((with_reducible show dEq _ _ _); with_reducible refine c_eqSame (by walk_at "plt") ?_))
local macro_rules | `(tactic| walk_at "vcg1") => `(tactic| ((with_reducible show dNe _ _ _); with_reducible refine c_neSame (by walk_at "plt") ?_))
local macro_rules | `(tactic| walk_at "vcg1") => `(tactic| ((with_reducible show ((_ : List D) ≠ [] ∧ _) ∧ _); refine And.intro (by refine ⟨by simp, ?_⟩; (try simp only [List.length_cons, List.length_nil]); omega) ?_))
theorem range_congr {α : Type} {f g : Nat → α} {n : Nat} (h : ∀ i, i < n → f i = g i) : (List.range n).map f = (List.range n).map g := List.map_congr_left fun i hi => h i (List.mem_range.mp hi)
theorem rdiv_self {a : Rat} (h : a ≠ 0) : a / a = 1 := by grind
theorem zip_range {f g : Nat → D} {n : Nat} : zipD ((List.range n).map f) ((List.range n).map g) = (List.range n).map fun i => .tuple [f i, g i] := by
  unfold zipD
  rw [List.zip_map', List.map_map]; rfl
theorem sum_range {f : Nat → Rat} : ∀ n, ((List.range n).map f).sum = sumR f n
  | 0 => rfl
  | n + 1 => by
    rw [List.range_succ, List.map_append, List.sum_append, sum_range n]
    show _ + (f n + 0) = _
    rw [Rat.add_zero]; rfl
theorem szSum_range {f : Nat → Rat} {k : Nat} : ∀ n, (∀ i, i < n → szLe k (f i)) → 1 ≤ k → szSum ((List.range n).map f) ≤ n * (k + 1)
  | 0, _, _ => by simp [szSum]
  | n + 1, h, hk => by
    have ih := szSum_range n (fun i hi => h i (by omega)) hk
    have h1 := sz_le (h n (by omega)) hk
    have e : szSum ((List.range (n + 1)).map f) = szSum ((List.range n).map f) + (sz (f n) + 1) := by
      unfold szSum
      rw [List.range_succ, List.map_append, List.map_append, List.sum_append]; rfl
    rw [e, Nat.succ_mul]
    omega
theorem c_law_sum {f : Nat → Rat} {n k : Nat} {Q : D → Prop} (h : ∀ i, i < n → szLe k (f i)) (hk : 1 ≤ k) (hn : n * (k + 1) ≤ 30000000) (q : Q (rt (sumR f n))) : fs_law_sum [.list ((List.range n).map fun i => rt (f i))] Q :=
  ⟨(List.range n).map f, .inl (by rw [List.map_map]; rfl), Nat.le_trans (szSum_range n h hk) hn, by rw [sum_range]; exact q⟩
theorem c_law_sumT {f : Nat → Rat} {n k : Nat} {Q : D → Prop} (h : ∀ i, i < n → szLe k (f i)) (hk : 1 ≤ k) (hn : n * (k + 1) ≤ 30000000) (q : Q (rt (sumR f n))) : fs_law_sum [.tuple ((List.range n).map fun i => rt (f i))] Q :=
  ⟨(List.range n).map f, .inr (by rw [List.map_map]; rfl), Nat.le_trans (szSum_range n h hk) hn, by rw [sum_range]; exact q⟩
theorem c_powN {q : Rat} {n k : Nat} {Q : D → Prop} (h : szLe k q) (hk : 1 ≤ k) (hn : k * n ≤ 10000000) (hn2 : n ≤ 1000000) (z : Q (rt (q ^ n))) : fs_power [rt q, .int (n : Int)] Q :=
  ⟨q, n, k, rfl, hk, h, fun x => by omega, by simpa using hn, by simpa using hn2, by
    have e : rpw q (n : Int) = q ^ n := by unfold rpw; rw [if_pos (by omega), Int.toNat_natCast]
    rw [e]; exact z⟩
local macro_rules | `(tactic| walk_at "vcg1") => `(tactic| ((with_reducible show fs_power [rt _, .int ((_ : Nat) : Int)] _); refine c_powN (by walk_at "szt") (by omega) (by omega) (by omega) ?_))
theorem cast_1add (n : Nat) : (1 : Int) + (n : Int) = ((n + 1 : Nat) : Int) := by omega
theorem cast_two (n : Nat) : (2 : Int) * (n : Int) = ((2 * n : Nat) : Int) := by omega
theorem c_lastI {L : List Int} {Q : D → Prop} (h : 1 ≤ L.length) (q : Q (.int (L.getD (L.length - 1) 0))) : onSome (atI (L.map PyData.int) (-1)) Q := by
  rw [atI_m1 (n := L.length - 1) (v := .int (L.getD (L.length - 1) 0)) (by simp; omega) (by
    rw [List.getElem?_map, List.getElem?_eq_getElem (by omega), List.getD_eq_getElem?_getD, List.getElem?_eq_getElem (by omega)]; rfl)]
  exact q
theorem c_lastN {f : Nat → D} {n : Nat} {Q : D → Prop} (h : 1 ≤ n) (q : Q (f (n - 1))) : onSome (atI ((List.range n).map f) (-1)) Q := by
  rw [atI_m1 (n := n - 1) (v := f (n - 1)) (by simp; omega) (by rw [List.getElem?_map, List.getElem?_range (by omega)]; rfl)]
  exact q
local macro_rules | `(tactic| walk_at "vcg1") => `(tactic| ((with_reducible show onSome (atI (List.map PyData.int _) (-1)) _); refine c_lastI (by omega) ?_))
local macro_rules | `(tactic| walk_at "vcg1") => `(tactic| ((with_reducible show onSome (atI (List.map _ (List.range _)) (-1)) _); refine c_lastN (by omega) ?_))
theorem enum_ints {L : List Int} : enumD (L.map PyData.int) = (List.range L.length).map fun (i : Nat) => PyData.tuple [.int (i : Int), .int (L.getD i 0)] := by
  unfold enumD
  apply List.ext_getElem
  · simp
  · intro i h1 h2
    simp only [List.getElem_mapIdx, List.getElem_map, List.getElem_range]
    rw [List.getD_eq_getElem?_getD, List.getElem?_eq_getElem (by simpa using h1)]; rfl
theorem enum_range {f : Nat → D} {n : Nat} : enumD ((List.range n).map f) = (List.range n).map fun (i : Nat) => PyData.tuple [.int (i : Int), f i] := by
  unfold enumD
  apply List.ext_getElem
  · simp
  · intro i h1 h2
    simp only [List.getElem_mapIdx, List.getElem_map, List.getElem_range]
theorem c_ixN {N j : Nat} {Q : Nat → Prop} (h : j < N) (q : Q j) : onSome (ixN N (j : Int)) Q := by
  have e : ixN N (j : Int) = some j := by
    unfold ixN
    rw [if_pos (by omega), if_pos (by omega), Int.toNat_natCast]
  rw [e]; exact q
theorem c_ixNi {N : Nat} {i : Int} {Q : Nat → Prop} (h0 : 0 ≤ i) (h : i < N) (q : Q i.toNat) : onSome (ixN N i) Q := by
  obtain ⟨j, rfl⟩ : ∃ j : Nat, i = j := ⟨i.toNat, by omega⟩
  exact c_ixN (by omega) (by simpa using q)
local macro_rules | `(tactic| walk_at "vcg1") => `(tactic| ((with_reducible show onSome (ixN _ _) _); refine c_ixNi (by omega) (by omega) ?_))
local macro_rules | `(tactic| walk_at "vcg1") => `(tactic| ((with_reducible show onSome (ixN _ ((_ : Nat) : Int)) _); refine c_ixN (by omega) ?_))
theorem set_range {f : Nat → D} {n i : Nat} {x : D} : ((List.range n).map f).set i x = (List.range n).map fun k => if k = i then x else f k := by
  apply List.ext_getElem
  · simp
  · intro k h1 h2
    simp only [List.getElem_set, List.getElem_map, List.getElem_range]
    by_cases e : i = k
    · rw [if_pos e, if_pos e.symm]
    · rw [if_neg e, if_neg (fun z => e z.symm)]
theorem set_rt {f : Nat → Rat} {n i : Nat} {x : Rat} : ((List.range n).map fun k => rt (f k)).set i (rt x) = (List.range n).map fun k => rt (if k = i then x else f k) := by
  rw [set_range]
  exact List.map_congr_left fun k _ => by split <;> rfl
local macro_rules | `(tactic| walk_at "vcg1") => `(tactic| ((with_reducible show MulFits _ _); exact mulFits_i (by walk_at "szt") (by walk_at "szt") (by omega)))
local macro_rules | `(tactic| walk_at "vcg1") => `(tactic| ((with_reducible show ((_ : Nat) ≤ _ ∧ _) ∧ _); refine And.intro (by omega) ?_))
theorem szLe_sumN {f : Nat → Rat} {k m : Nat} (h : ∀ i, i < m → szLe k (f i)) : ∀ n, n ≤ m → szLe (n * (k + 1) + 1) (sumR f n)
  | 0, _ => szLe_zero.mono (by omega)
  | n + 1, hn => by
    have ih := szLe_sumN h n (by omega)
    show szLe _ (sumR f n + f n)
    exact (ih.add (h n (by omega))).mono (by rw [Nat.succ_mul]; omega)
local macro_rules | `(tactic| walk_at "sdt") => `(tactic| (intro hh; exact absurd hh Bool.false_ne_true))
local macro_rules | `(tactic| walk_at "sdt") => `(tactic| first | assumption | (with_reducible rfl) | omega)
theorem cut_take {α : Type} {xs : List α} {k : Nat} : cutD xs none (some (k : Int)) = xs.take k := by
  unfold cutD
  rw [HT.sIx_none, HT.sIx_nat, List.drop_zero, Nat.sub_zero]
  by_cases h : k ≤ xs.length
  · rw [Nat.min_eq_left h]
  · rw [Nat.min_eq_right (by omega), List.take_length, List.take_of_length_le (by omega)]
local macro_rules | `(tactic| walk_at "flt") => `(tactic| ((refine flats_append ?_ ?_) <;> walk_at "flt"))
local macro_rules | `(tactic| walk_at "flt") => `(tactic| first | assumption | exact flats_ints _ | exact flats_mapN (fun _ => rfl) _ | (simp only [flats, flat, flat_rt, flat_tI, Bool.and_true]; done))
local macro_rules | `(tactic| walk_at "cjt") => `(tactic| first | omega | decide | walk_at "flt" | (simp only [List.length_cons, List.length_nil]; omega))
local macro_rules | `(tactic| walk_at "cjt") => `(tactic| ((with_reducible refine And.intro ?_ ?_) <;> walk_at "cjt"))
local macro_rules | `(tactic| walk_at "vcg1") => `(tactic| ((with_reducible show ((_ : Nat) ≤ _ ∧ _) ∧ _); refine And.intro (by walk_at "cjt") ?_))
theorem ite_join {p : Prop} [Decidable p] {A B C : Prop} (ha : p → C → A) (hb : ¬ p → C → B) (h : C) : if decide p = true then A else B := by
  by_cases hp : p
  · rw [decide_eq_true hp]; exact ha hp h
  · rw [decide_eq_false hp]; exact hb hp h
/-- a statement by what it leaves -/
theorem piece_cut {a : WS} {K : KD} {env : SDs} (I : SDs → Prop) (h1 : ∀ P : SDs → Prop, (∀ env', I env' → P env') → a { K with nx := P } env) (h2 : ∀ env', I env' → K.nx env') : a K env := h1 K.nx h2
theorem c_law_step1 {r : Rat} {Q : D → Prop} (h : RateOk r) (q : Q (rt (vv r))) : fs_law_step [rt r, .int 1] Q := ⟨r, 1, rfl, h, by omega, by rw [Rat.pow_one]; exact q⟩
local macro_rules | `(tactic| walk_at "vcg1") => `(tactic| ((with_reducible show fs_law_step [rt _, .int 1] _); refine c_law_step1 (by walk_at "sdt") ?_))
theorem pol_q {P : Pol} {t : Nat} : ((P.l t - P.l (t + 1) : Int) : Rat) / (P.l t : Int) = P.q t := rfl
theorem q_lone {P : Pol} {t : Nat} : ((P.l t : Int) : Rat) = (P.l t : Rat) := rfl
local macro_rules | `(tactic| walk_at "vcg1") => `(tactic| ((with_reducible show (_ ∧ flats _ = true ∧ flats _ = true) ∧ _); refine And.intro (And.intro (by first | omega | (simp; omega)) (And.intro (by walk_at "flt") (by walk_at "flt"))) ?_))
/-! the laws' own sums and products of pairs that are not in lowest terms -/
def fs_law_byR : FS := fun ds Q => ∃ (t1 b1 t2 b2 : Int) (n1 m1 n2 m2 : Nat), ds = [.tuple [.int t1, .int b1], .tuple [.int t2, .int b2]] ∧ (iLe n1 t1 ∧ iLe m1 b1 ∧ iLe n2 t2 ∧ iLe m2 b2) ∧ (n1 + n2 ≤ 80000000 ∧ m1 + m2 ≤ 80000000) ∧ (b1 ≠ 0 ∧ b2 ≠ 0) ∧ Q (rt ((t1 : Rat) / b1 * ((t2 : Rat) / b2)))
def fs_law_plusR : FS := fun ds Q => ∃ (t1 b1 t2 b2 : Int) (n1 m1 n2 m2 : Nat), ds = [.tuple [.int t1, .int b1], .tuple [.int t2, .int b2]] ∧ (iLe n1 t1 ∧ iLe m1 b1 ∧ iLe n2 t2 ∧ iLe m2 b2) ∧ (n1 + m2 ≤ 80000000 ∧ n2 + m1 ≤ 80000000 ∧ m1 + m2 ≤ 80000000) ∧ (b1 ≠ 0 ∧ b2 ≠ 0) ∧ Q (rt ((t1 : Rat) / b1 + (t2 : Rat) / b2))
theorem ii_ne {b : Int} (h : b ≠ 0) : (b : Rat) ≠ 0 := fun z => h (Rat.intCast_eq_zero_iff.mp z)
theorem pure_law_byR : ∀ ds Q0, fs_law_byR ds Q0 → w_law_by (kdEnd Q0) (startL 2 ds) := by
  rintro ds Q ⟨t1, b1, t2, b2, n1, m1, n2, m2, rfl, ⟨h1, h2, h3, h4⟩, ⟨s1, s2⟩, ⟨z1, z2⟩, q⟩
  unfold w_law_by
  walk_at "wgo"
  refine ⟨mulFits_i h1 h3 (by omega), mulFits_i h2 h4 (by omega), _, _, rfl, Int.mul_ne_zero z1 z2, ?_⟩
  rw [show ((t1 * t2 : Int) : Rat) / ((b1 * b2 : Int) : Rat) = (t1 : Rat) / b1 * ((t2 : Rat) / b2) by
    rw [Rat.intCast_mul, Rat.intCast_mul]; have := ii_ne z1; have := ii_ne z2; grind]
  walk_at "wgo"
  exact q
theorem pure_law_plusR : ∀ ds Q0, fs_law_plusR ds Q0 → w_law_plus (kdEnd Q0) (startL 2 ds) := by
  rintro ds Q ⟨t1, b1, t2, b2, n1, m1, n2, m2, rfl, ⟨h1, h2, h3, h4⟩, ⟨s1, s2, s3⟩, ⟨z1, z2⟩, q⟩
  unfold w_law_plus
  walk_at "wgo"
  refine ⟨mulFits_i h1 h4 (by omega), mulFits_i h3 h2 (by omega), mulFits_i h2 h4 (by omega), _, _, rfl, Int.mul_ne_zero z1 z2, ?_⟩
  rw [show ((t1 * b2 + t2 * b1 : Int) : Rat) / ((b1 * b2 : Int) : Rat) = (t1 : Rat) / b1 + (t2 : Rat) / b2 by
    rw [Rat.intCast_add, Rat.intCast_mul, Rat.intCast_mul, Rat.intCast_mul]; have := ii_ne z1; have := ii_ne z2; grind]
  walk_at "wgo"
  exact q
theorem c_law_byR_rr {Q : D → Prop} {a : Rat} {n1 : Nat} {b : Rat} {n2 : Nat} (h1 : szLe n1 a) (h2 : szLe n2 b) (s0 : n1 + n2 ≤ 80000000) (s1 : n1 + n2 ≤ 80000000) (q : Q (rt (a * b))) : fs_law_byR [rt a, rt b] Q :=
  ⟨a.num, a.den, b.num, b.den, n1, n1, n2, n2, rfl, ⟨iLe_num h1, iLe_den h1, iLe_num h2, iLe_den h2⟩, ⟨s0, s1⟩, ⟨(Int.ne_of_gt (den_pos a)), (Int.ne_of_gt (den_pos b))⟩, by first | exact q | (simp only [rat_num_den]; exact q)⟩
local macro_rules | `(tactic| walk_at "vcg1") => `(tactic| ((with_reducible show fs_law_byR [rt _, rt _] _); refine c_law_byR_rr (by walk_at "szt") (by walk_at "szt") (by omega) (by omega) ?_))
theorem c_law_byR_rp {Q : D → Prop} {a : Rat} {n1 : Nat} {t2 b2 : Int} {n2 m2 : Nat} (h1 : szLe n1 a) (h2 : iLe n2 t2) (g2 : iLe m2 b2) (z2 : b2 ≠ 0) (s0 : n1 + n2 ≤ 80000000) (s1 : n1 + m2 ≤ 80000000) (q : Q (rt (a * ((t2 : Rat) / (b2 : Rat))))) : fs_law_byR [rt a, .tuple [.int t2, .int b2]] Q :=
  ⟨a.num, a.den, t2, b2, n1, n1, n2, m2, rfl, ⟨iLe_num h1, iLe_den h1, h2, g2⟩, ⟨s0, s1⟩, ⟨(Int.ne_of_gt (den_pos a)), z2⟩, by first | exact q | (simp only [rat_num_den]; exact q)⟩
local macro_rules | `(tactic| walk_at "vcg1") => `(tactic| ((with_reducible show fs_law_byR [rt _, .tuple [.int _, .int _]] _); refine c_law_byR_rp (by walk_at "szt") (by walk_at "szt") (by walk_at "szt") (by walk_at "nzt") (by omega) (by omega) ?_))
theorem c_law_byR_pr {Q : D → Prop} {t1 b1 : Int} {n1 m1 : Nat} {b : Rat} {n2 : Nat} (h1 : iLe n1 t1) (g1 : iLe m1 b1) (z1 : b1 ≠ 0) (h2 : szLe n2 b) (s0 : n1 + n2 ≤ 80000000) (s1 : m1 + n2 ≤ 80000000) (q : Q (rt (((t1 : Rat) / (b1 : Rat)) * b))) : fs_law_byR [.tuple [.int t1, .int b1], rt b] Q :=
  ⟨t1, b1, b.num, b.den, n1, m1, n2, n2, rfl, ⟨h1, g1, iLe_num h2, iLe_den h2⟩, ⟨s0, s1⟩, ⟨z1, (Int.ne_of_gt (den_pos b))⟩, by first | exact q | (simp only [rat_num_den]; exact q)⟩
local macro_rules | `(tactic| walk_at "vcg1") => `(tactic| ((with_reducible show fs_law_byR [.tuple [.int _, .int _], rt _] _); refine c_law_byR_pr (by walk_at "szt") (by walk_at "szt") (by walk_at "nzt") (by walk_at "szt") (by omega) (by omega) ?_))
theorem c_law_byR_pp {Q : D → Prop} {t1 b1 : Int} {n1 m1 : Nat} {t2 b2 : Int} {n2 m2 : Nat} (h1 : iLe n1 t1) (g1 : iLe m1 b1) (z1 : b1 ≠ 0) (h2 : iLe n2 t2) (g2 : iLe m2 b2) (z2 : b2 ≠ 0) (s0 : n1 + n2 ≤ 80000000) (s1 : m1 + m2 ≤ 80000000) (q : Q (rt (((t1 : Rat) / (b1 : Rat)) * ((t2 : Rat) / (b2 : Rat))))) : fs_law_byR [.tuple [.int t1, .int b1], .tuple [.int t2, .int b2]] Q :=
  ⟨t1, b1, t2, b2, n1, m1, n2, m2, rfl, ⟨h1, g1, h2, g2⟩, ⟨s0, s1⟩, ⟨z1, z2⟩, by first | exact q | (simp only [rat_num_den]; exact q)⟩
local macro_rules | `(tactic| walk_at "vcg1") => `(tactic| ((with_reducible show fs_law_byR [.tuple [.int _, .int _], .tuple [.int _, .int _]] _); refine c_law_byR_pp (by walk_at "szt") (by walk_at "szt") (by walk_at "nzt") (by walk_at "szt") (by walk_at "szt") (by walk_at "nzt") (by omega) (by omega) ?_))
theorem c_law_plusR_rr {Q : D → Prop} {a : Rat} {n1 : Nat} {b : Rat} {n2 : Nat} (h1 : szLe n1 a) (h2 : szLe n2 b) (s0 : n1 + n2 ≤ 80000000) (s1 : n2 + n1 ≤ 80000000) (s2 : n1 + n2 ≤ 80000000) (q : Q (rt (a + b))) : fs_law_plusR [rt a, rt b] Q :=
  ⟨a.num, a.den, b.num, b.den, n1, n1, n2, n2, rfl, ⟨iLe_num h1, iLe_den h1, iLe_num h2, iLe_den h2⟩, ⟨s0, s1, s2⟩, ⟨(Int.ne_of_gt (den_pos a)), (Int.ne_of_gt (den_pos b))⟩, by first | exact q | (simp only [rat_num_den]; exact q)⟩
local macro_rules | `(tactic| walk_at "vcg1") => `(tactic| ((with_reducible show fs_law_plusR [rt _, rt _] _); refine c_law_plusR_rr (by walk_at "szt") (by walk_at "szt") (by omega) (by omega) (by omega) ?_))
theorem c_law_plusR_rp {Q : D → Prop} {a : Rat} {n1 : Nat} {t2 b2 : Int} {n2 m2 : Nat} (h1 : szLe n1 a) (h2 : iLe n2 t2) (g2 : iLe m2 b2) (z2 : b2 ≠ 0) (s0 : n1 + m2 ≤ 80000000) (s1 : n2 + n1 ≤ 80000000) (s2 : n1 + m2 ≤ 80000000) (q : Q (rt (a + ((t2 : Rat) / (b2 : Rat))))) : fs_law_plusR [rt a, .tuple [.int t2, .int b2]] Q :=
  ⟨a.num, a.den, t2, b2, n1, n1, n2, m2, rfl, ⟨iLe_num h1, iLe_den h1, h2, g2⟩, ⟨s0, s1, s2⟩, ⟨(Int.ne_of_gt (den_pos a)), z2⟩, by first | exact q | (simp only [rat_num_den]; exact q)⟩
local macro_rules | `(tactic| walk_at "vcg1") => `(tactic| ((with_reducible show fs_law_plusR [rt _, .tuple [.int _, .int _]] _); refine c_law_plusR_rp (by walk_at "szt") (by walk_at "szt") (by walk_at "szt") (by walk_at "nzt") (by omega) (by omega) (by omega) ?_))
theorem c_law_plusR_pr {Q : D → Prop} {t1 b1 : Int} {n1 m1 : Nat} {b : Rat} {n2 : Nat} (h1 : iLe n1 t1) (g1 : iLe m1 b1) (z1 : b1 ≠ 0) (h2 : szLe n2 b) (s0 : n1 + n2 ≤ 80000000) (s1 : n2 + m1 ≤ 80000000) (s2 : m1 + n2 ≤ 80000000) (q : Q (rt (((t1 : Rat) / (b1 : Rat)) + b))) : fs_law_plusR [.tuple [.int t1, .int b1], rt b] Q :=
  ⟨t1, b1, b.num, b.den, n1, m1, n2, n2, rfl, ⟨h1, g1, iLe_num h2, iLe_den h2⟩, ⟨s0, s1, s2⟩, ⟨z1, (Int.ne_of_gt (den_pos b))⟩, by first | exact q | (simp only [rat_num_den]; exact q)⟩
local macro_rules | `(tactic| walk_at "vcg1") => `(tactic| ((with_reducible show fs_law_plusR [.tuple [.int _, .int _], rt _] _); refine c_law_plusR_pr (by walk_at "szt") (by walk_at "szt") (by walk_at "nzt") (by walk_at "szt") (by omega) (by omega) (by omega) ?_))
theorem c_law_plusR_pp {Q : D → Prop} {t1 b1 : Int} {n1 m1 : Nat} {t2 b2 : Int} {n2 m2 : Nat} (h1 : iLe n1 t1) (g1 : iLe m1 b1) (z1 : b1 ≠ 0) (h2 : iLe n2 t2) (g2 : iLe m2 b2) (z2 : b2 ≠ 0) (s0 : n1 + m2 ≤ 80000000) (s1 : n2 + m1 ≤ 80000000) (s2 : m1 + m2 ≤ 80000000) (q : Q (rt (((t1 : Rat) / (b1 : Rat)) + ((t2 : Rat) / (b2 : Rat))))) : fs_law_plusR [.tuple [.int t1, .int b1], .tuple [.int t2, .int b2]] Q :=
  ⟨t1, b1, t2, b2, n1, m1, n2, m2, rfl, ⟨h1, g1, h2, g2⟩, ⟨s0, s1, s2⟩, ⟨z1, z2⟩, by first | exact q | (simp only [rat_num_den]; exact q)⟩
local macro_rules | `(tactic| walk_at "vcg1") => `(tactic| ((with_reducible show fs_law_plusR [.tuple [.int _, .int _], .tuple [.int _, .int _]] _); refine c_law_plusR_pp (by walk_at "szt") (by walk_at "szt") (by walk_at "nzt") (by walk_at "szt") (by walk_at "szt") (by walk_at "nzt") (by omega) (by omega) (by omega) ?_))
local macro_rules | `(tactic| walk_at "wnt1") => `(tactic| skip)
local macro_rules | `(tactic| walk_at "wnt") => `(tactic| ((try simp only [Int.zero_add, Int.mul_one, Int.toNat_natCast, cast_add, cast_add1, Int.reduceToNat, Int.reduceNeg, rt_negQ, rt_negQ', rt_same, rt_negI, rt_1m, rt_0, rt_1, rt_int, Rat.intCast_zero, Rat.intCast_one, rt_1r, rat_num_den, rat_over_i, rat_i_over, rat_i_over', rat_q_mul, rat_q_add, rat_q_sub, rat_q_over', ← Rat.sub_eq_add_neg, q_neR, q_eqR, q_neB, q_eqB, map_range_succ, cut_from1, cut_drop, match_bl, rsub0, Rat.add_zero, Rat.zero_add, Rat.mul_one, Rat.one_mul, Rat.mul_zero, Rat.zero_mul, Int.sub_zero, Int.add_zero, Int.one_mul, Int.mul_zero, Int.zero_mul, down1, decide_true, decide_false, Bool.not_true, Bool.not_false, Bool.false_eq_true, if_true, if_false, Bool.true_and, Int.toNat_sub, q_catL, q_repL, cut_take, wSlN, enum_ints, enum_range, set_rt, rep1_rt, rep_flat, zip_range, cast_two, cast_1add, List.length_range, List.length_map]); walk_at "wnt1"))
theorem slP3 {P : Pol} {Q : D → Prop} : dSl P.d (some 3) none Q = Q (.tuple [tI P.A, tI P.B, rt P.p, .int P.y]) := rfl
theorem slP_3 {P : Pol} {Q : D → Prop} : dSl P.d none (some 3) Q = Q (.tuple [tI P.L, .int P.a, rt P.r]) := rfl
theorem slP_5 {P : Pol} {Q : D → Prop} : dSl P.d none (some 5) Q = Q (.tuple [tI P.L, .int P.a, rt P.r, tI P.A, tI P.B]) := rfl
theorem slP35 {P : Pol} {Q : D → Prop} : dSl P.d (some 3) (some 5) Q = Q (.tuple [tI P.A, tI P.B]) := rfl
theorem V_list {P : Pol} : (List.range P.n).map (fun t => rt (P.V t)) ++ [rt 0] = (List.range (P.n + 1)).map fun t => rt (P.V t) := by rw [← map_range_succ, V_end]
theorem c_law_from0 {P : Pol} {Q : D → Prop} (h : P.Ok) (q : Q (rt (P.V 0))) : fs_law_from [P.d, .int 0] Q := ⟨P, 0, rfl, h.toR, by have := h.age; unfold Pol.n; omega, q⟩
local macro_rules | `(tactic| walk_at "vcg1") => `(tactic| ((with_reducible show fs_law_from [Pol.d _, .int 0] _); refine c_law_from0 (by walk_at "sdt") ?_))
theorem c_living {L : List Int} {a : Nat} {Q : D → Prop} (q : Q (.int (lv L a))) : fs_living [tI L, .int (a : Int)] Q := ⟨L, a, rfl, q⟩
local macro_rules | `(tactic| walk_at "vcg1") => `(tactic| ((with_reducible show fs_living [tI _, .int ((_ : Nat) : Int)] _); refine c_living ?_))
theorem lv_l {P : Pol} {t : Nat} : lv P.L (P.a + t) = P.l t := rfl
theorem lv_l1 {P : Pol} {t : Nat} : lv P.L (P.a + t + 1) = P.l (t + 1) := rfl
theorem c_ages_left {L : List Int} {a : Nat} {Q : D → Prop} (h : LivesOk L) (ha : a + 2 ≤ L.length) (q : Q (rt (((L.drop (a + 1)).sum : Int) / (lv L a : Int)))) : fs_ages_left [tI L, .int (a : Int)] Q := ⟨L, a, rfl, h, ha, q⟩
local macro_rules | `(tactic| walk_at "vcg1") => `(tactic| ((with_reducible show fs_ages_left [tI _, .int ((_ : Nat) : Int)] _); refine c_ages_left (by walk_at "sdt") (by omega) ?_))
theorem c_value_at {L : List Int} {r : Rat} {t : Nat} {Q : D → Prop} (h : PayOk L) (hr : RateOk r) (ht : t ≤ 60) (q : Q (rt (sumR (fun k => (L.getD k 0 : Int) * vv r ^ k) L.length * (1 + r) ^ t))) : fs_value_at [tI L, rt r, .int (t : Int)] Q := ⟨L, r, t, rfl, h, hr, ht, q⟩
local macro_rules | `(tactic| walk_at "vcg1") => `(tactic| ((with_reducible show fs_value_at [tI _, rt _, .int ((_ : Nat) : Int)] _); refine c_value_at (by walk_at "sdt") (by walk_at "sdt") (by omega) ?_))
theorem c_value_at0 {L : List Int} {r : Rat} {Q : D → Prop} (h : PayOk L) (hr : RateOk r) (q : Q (rt (sumR (fun k => (L.getD k 0 : Int) * vv r ^ k) L.length))) : fs_value_at [tI L, rt r, .int 0] Q := ⟨L, r, 0, rfl, h, hr, by omega, by rw [Rat.pow_zero, Rat.mul_one]; exact q⟩
local macro_rules | `(tactic| walk_at "vcg1") => `(tactic| ((with_reducible show fs_value_at [tI _, rt _, .int 0] _); refine c_value_at0 (by walk_at "sdt") (by walk_at "sdt") ?_))
theorem slP5_ {P : Pol} {Q : D → Prop} : dSl P.d (some 5) none Q = Q (.tuple [rt P.p, .int P.y]) := rfl
local macro_rules | `(tactic| walk_at "wnt1") => `(tactic| try simp only [getD_l, getD_l1, getD_l0, pol_q, getD_dead, slP3, slP_3, slP_5, slP35, slP5_, lv_l, lv_l1])
/-! finite sums, sums of totals -/
theorem sumR_sum (f g : Nat → Rat) : ∀ n, sumR (fun i => f i + g i) n = sumR f n + sumR g n
  | 0 => by show (0 : Rat) = 0 + 0; grind
  | n + 1 => by rw [sumR_succ, sumR_succ, sumR_succ, sumR_sum f g n]; grind
theorem sumR_z : ∀ n, sumR (fun _ => (0 : Rat)) n = 0
  | 0 => rfl
  | n + 1 => by rw [sumR_succ, sumR_z n]; grind
theorem sumR_swap (f : Nat → Nat → Rat) (m : Nat) : ∀ n, sumR (fun i => sumR (fun j => f i j) m) n = sumR (fun j => sumR (fun i => f i j) n) m
  | 0 => (sumR_z m).symm
  | n + 1 => by
    rw [sumR_succ, sumR_swap f m n, ← sumR_sum]
    exact sumR_congr m fun k _ => rfl
theorem sumR_delta (f : Nat → Rat) (a : Nat) : ∀ n, sumR (fun i => if i = a then f i else 0) n = if a < n then f a else 0
  | 0 => by rw [if_neg (by omega)]; rfl
  | n + 1 => by
    rw [sumR_succ, sumR_delta f a n]
    by_cases h : n = a
    · subst h; rw [if_pos rfl, if_neg (by omega), if_pos (by omega)]; grind
    · rw [if_neg h]
      by_cases h2 : a < n
      · rw [if_pos h2, if_pos (by omega)]; grind
      · rw [if_neg h2, if_neg (by omega)]; grind
theorem sumR_ext {f : Nat → Rat} {n m : Nat} (h : n ≤ m) (hz : ∀ i, n ≤ i → f i = 0) : sumR f m = sumR f n := by
  obtain ⟨k, rfl⟩ : ∃ k, m = n + k := ⟨m - n, by omega⟩
  rw [sumR_add]
  rw [sumR_zero k fun i _ => hz _ (by omega)]
  grind
theorem sumR_mulL (f : Nat → Rat) (c : Rat) (n : Nat) : c * sumR f n = sumR (fun k => c * f k) n := sumR_lmul f c n
/-- what stands over a place -/
def gz (g : Nat → Rat) (i j : Nat) : Rat := if j ≤ i then g (i - j) else 0
/-- the totals of two -/
def cvn (n : Nat) (f g : Nat → Rat) (i : Nat) : Rat := sumR (fun j => f j * gz g i j) n
/-- the double sum -/
def dbl (n m : Nat) (f g : Nat → Rat) (φ : Nat → Nat → Rat) : Rat := sumR (fun j => sumR (fun k => φ j k * (f j * g k)) m) n
theorem gz_sum {g : Nat → Rat} {m : Nat} (hg : ∀ i, m ≤ i → g i = 0) (i j : Nat) : gz g i j = sumR (fun k => if k + j = i then g k else 0) m := by
  unfold gz
  by_cases h : j ≤ i
  · rw [if_pos h]
    rw [sumR_congr m (g := fun k => if k = i - j then g k else 0) (fun k _ => by
      by_cases e : k + j = i
      · rw [if_pos e, if_pos (by omega)]
      · rw [if_neg e, if_neg (by omega)])]
    rw [sumR_delta]
    by_cases h2 : i - j < m
    · rw [if_pos h2]
    · rw [if_neg h2, hg _ (by omega)]
  · rw [if_neg h, sumR_zero m fun k _ => by rw [if_neg (by omega)]]
theorem cvn_dbl {n m : Nat} {f g : Nat → Rat} (hg : ∀ i, m ≤ i → g i = 0) (i : Nat) : cvn n f g i = dbl n m f g fun j k => if k + j = i then 1 else 0 := by
  unfold cvn dbl
  refine sumR_congr n fun j _ => ?_
  rw [gz_sum hg, sumR_mulL]
  refine sumR_congr m fun k _ => ?_
  dsimp only
  by_cases e : k + j = i
  · rw [if_pos e, if_pos e]; grind
  · rw [if_neg e, if_neg e]; grind
theorem dbl_swap {n m : Nat} {f g : Nat → Rat} {φ : Nat → Nat → Rat} : dbl n m f g φ = dbl m n g f fun j k => φ k j := by
  unfold dbl
  rw [sumR_swap]
  refine sumR_congr m fun k _ => sumR_congr n fun j _ => by grind
theorem cvn_comm {n m : Nat} {f g : Nat → Rat} (hf : ∀ i, n ≤ i → f i = 0) (hg : ∀ i, m ≤ i → g i = 0) (i : Nat) : cvn n f g i = cvn m g f i := by
  rw [cvn_dbl hg, cvn_dbl hf, dbl_swap]
  unfold dbl
  refine sumR_congr m fun j _ => sumR_congr n fun k _ => by dsimp only; rw [Nat.add_comm]
theorem cvn_zero {n m : Nat} {f g : Nat → Rat} (hg : ∀ i, m ≤ i → g i = 0) {i : Nat} (hi : n + m ≤ i + 1) (h1 : 1 ≤ n ∨ True) : cvn n f g i = 0 := by
  unfold cvn
  refine sumR_zero n fun j hj => ?_
  unfold gz
  rw [if_pos (by omega), hg _ (by omega)]
  grind
/-- a weighted sum of totals -/
theorem cvn_sum {n m N : Nat} {f g : Nat → Rat} (hg : ∀ i, m ≤ i → g i = 0) (hN : n + m ≤ N + 1) (φ : Nat → Rat) : sumR (fun i => φ i * cvn n f g i) N = dbl n m f g fun j k => φ (j + k) := by
  rw [sumR_congr N (g := fun i => sumR (fun j => sumR (fun k => φ i * ((if k + j = i then 1 else 0) * (f j * g k))) m) n) (fun i _ => by
    rw [cvn_dbl hg]
    unfold dbl
    rw [sumR_mulL]
    refine sumR_congr n fun j _ => ?_
    rw [sumR_mulL])]
  rw [sumR_swap]
  unfold dbl
  refine sumR_congr n fun j hj => ?_
  rw [sumR_swap]
  refine sumR_congr m fun k hk => ?_
  rw [sumR_congr N (g := fun i => if i = k + j then φ i * (f j * g k) else 0) (fun i _ => by
    by_cases e : k + j = i
    · rw [if_pos e, if_pos e.symm]; grind
    · rw [if_neg e, if_neg (fun z => e z.symm)]; grind)]
  rw [sumR_delta (fun i => φ i * (f j * g k)), if_pos (by omega), Nat.add_comm k j]
theorem dbl_one {n m : Nat} {f g : Nat → Rat} : dbl n m f g (fun _ _ => 1) = sumR f n * sumR g m := by
  unfold dbl
  rw [sumR_mul]
  refine sumR_congr n fun j _ => ?_
  rw [sumR_mulL]
  exact sumR_congr m fun k _ => by grind
theorem dbl_add {n m : Nat} {f g : Nat → Rat} {φ ψ : Nat → Nat → Rat} : dbl n m f g (fun j k => φ j k + ψ j k) = dbl n m f g φ + dbl n m f g ψ := by
  unfold dbl
  rw [← sumR_sum]
  refine sumR_congr n fun j _ => ?_
  rw [← sumR_sum]
  exact sumR_congr m fun k _ => by grind
theorem dbl_left {n m : Nat} {f g : Nat → Rat} {φ : Nat → Rat} : dbl n m f g (fun j _ => φ j) = sumR (fun j => φ j * f j) n * sumR g m := by
  unfold dbl
  rw [sumR_mul]
  refine sumR_congr n fun j _ => ?_
  rw [sumR_mulL]
  exact sumR_congr m fun k _ => by grind
theorem dbl_right {n m : Nat} {f g : Nat → Rat} {φ : Nat → Rat} : dbl n m f g (fun _ k => φ k) = sumR f n * sumR (fun k => φ k * g k) m := by
  rw [dbl_swap, dbl_left, Rat.mul_comm]
/-- the whole, and the mean, of totals -/
theorem cvn_total {n m N : Nat} {f g : Nat → Rat} (hg : ∀ i, m ≤ i → g i = 0) (hN : n + m ≤ N + 1) : sumR (cvn n f g) N = sumR f n * sumR g m := by
  have e := cvn_sum (f := f) hg hN (fun _ => 1)
  rw [← dbl_one, ← e]
  exact sumR_congr N fun i _ => by grind
theorem cvn_mean {n m N : Nat} {f g : Nat → Rat} (hg : ∀ i, m ≤ i → g i = 0) (hN : n + m ≤ N + 1) : sumR (fun i => (i : Rat) * cvn n f g i) N = sumR (fun j => (j : Rat) * f j) n * sumR g m + sumR f n * sumR (fun k => (k : Rat) * g k) m := by
  rw [cvn_sum hg hN (fun i => (i : Rat)), ← dbl_left, ← dbl_right, ← dbl_add]
  unfold dbl
  refine sumR_congr n fun j _ => sumR_congr m fun k _ => ?_
  dsimp only
  rw [show ((j + k : Nat) : Rat) = (j : Rat) + (k : Rat) from Rat.natCast_add j k]
theorem cvn_assoc {n m k : Nat} {f g h : Nat → Rat} (hg : ∀ i, m ≤ i → g i = 0) (hh : ∀ i, k ≤ i → h i = 0) (hm : 1 ≤ m) (i : Nat) : cvn (n + m - 1) (cvn n f g) h i = cvn n f (cvn m g h) i := by
  by_cases hn : n = 0
  · subst hn
    have e1 : ∀ i, cvn 0 f g i = 0 := fun i => rfl
    show sumR _ _ = 0
    exact sumR_zero _ fun j _ => by rw [e1]; grind
  have e1 : cvn (n + m - 1) (cvn n f g) h i = sumR (fun t => (gz h i t) * cvn n f g t) (n + m - 1) := sumR_congr _ fun j _ => by grind
  rw [e1, cvn_sum hg (by omega) (fun t => gz h i t)]
  unfold dbl cvn
  refine sumR_congr n fun j _ => ?_
  unfold gz
  by_cases hj : j ≤ i
  · rw [if_pos hj, sumR_mulL]
    refine sumR_congr m fun k2 _ => ?_
    dsimp only
    by_cases h2 : k2 ≤ i - j
    · rw [if_pos h2, if_pos (by omega), show i - (j + k2) = i - j - k2 by omega]; grind
    · rw [if_neg h2, if_neg (by omega)]; grind
  · rw [if_neg hj]
    rw [sumR_zero m fun k2 _ => by dsimp only; rw [if_neg (by omega)]; grind]
    grind
/-- claims -/
structure ClOk (m : Int) (L : List Int) : Prop where
  l1 : 1 ≤ L.length
  lm : L.length ≤ m
  in_ : ∀ x ∈ L, 0 ≤ x ∧ x ≤ 1000
  last : L.getD (L.length - 1) 0 ≠ 0
def ws (L : List Int) : Int := L.sum
def pr (L : List Int) (i : Nat) : Rat := (L.getD i 0 : Int) / (ws L : Int)
def mean (L : List Int) : Rat := sumR (fun k => (k : Rat) * pr L k) L.length
/-- how many totals -/
def tn (L : List Int) (t : Nat) : Nat := t * (L.length - 1) + 1
/-- the chances of totals -/
def pw (L : List Int) : Nat → Nat → Rat
  | 0 => fun i => if i = 0 then 1 else 0
  | t + 1 => cvn (tn L t) (pw L t) (pr L)
def rs (C L : List Int) (i : Nat) : Rat := sumR (fun t => pr C t * pw L t i) C.length
/-- a part of D, of some size -/
def Dn (D M : Nat) (x : Rat) : Prop := ∃ z : Int, x = (z : Rat) / ((D : Int) : Rat) ∧ z.natAbs ≤ M * D
/-- the sums on the way -/
def FoldOk (n m : Nat) (f g : Nat → Rat) : Prop := 1 ≤ n ∧ 1 ≤ m ∧ n + m ≤ 1000 ∧ (∀ i, i < n → szLe 10000000 (f i)) ∧ (∀ i, i < m → szLe 10000000 (g i)) ∧ (∀ i j, j ≤ n → szLe 10000000 (cvn j f g i)) ∧ ∀ i, m ≤ i → g i = 0
def fs_need_claims : FS := fun ds Q => ∃ (L : List Int) (m : Int), ds = [tI L, .int m] ∧ (ClOk m L) ∧ Q (.none)
theorem c_need_claims {L : List Int} {m : Int} {Q : D → Prop} (h0 : ClOk m L) (qq_ : Q (.none)) : fs_need_claims [tI L, .int m] Q := ⟨L, m, rfl, h0, qq_⟩
local macro_rules | `(tactic| walk_at "vcg1") => `(tactic| with_reducible refine c_need_claims (by walk_at "sdt") ?_)
def fs_chances_of : FS := fun ds Q => ∃ (L : List Int), ds = [tI L] ∧ (ClOk 13 L) ∧ Q (.list ((List.range L.length).map fun i => rt (pr L i)))
theorem c_chances_of {L : List Int} {Q : D → Prop} (h0 : ClOk 13 L) (qq_ : Q (.list ((List.range L.length).map fun i => rt (pr L i)))) : fs_chances_of [tI L] Q := ⟨L, rfl, h0, qq_⟩
local macro_rules | `(tactic| walk_at "vcg1") => `(tactic| with_reducible refine c_chances_of (by walk_at "sdt") ?_)
def fs_mean_of : FS := fun ds Q => ∃ (L : List Int), ds = [tI L] ∧ (ClOk 13 L) ∧ Q (rt (mean L))
theorem c_mean_of {L : List Int} {Q : D → Prop} (h0 : ClOk 13 L) (qq_ : Q (rt (mean L))) : fs_mean_of [tI L] Q := ⟨L, rfl, h0, qq_⟩
local macro_rules | `(tactic| walk_at "vcg1") => `(tactic| with_reducible refine c_mean_of (by walk_at "sdt") ?_)
def fs_mean_claim : FS := fun ds Q => ∃ (L : List Int), ds = [tI L] ∧ (ClOk 13 L) ∧ Q (rt (mean L))
theorem c_mean_claim {L : List Int} {Q : D → Prop} (h0 : ClOk 13 L) (qq_ : Q (rt (mean L))) : fs_mean_claim [tI L] Q := ⟨L, rfl, h0, qq_⟩
local macro_rules | `(tactic| walk_at "vcg1") => `(tactic| with_reducible refine c_mean_claim (by walk_at "sdt") ?_)
def fs_folded : FS := fun ds Q => ∃ (n m : Nat) (f g : Nat → Rat), ds = [.list ((List.range n).map fun i => rt (f i)), .list ((List.range m).map fun i => rt (g i))] ∧ (FoldOk n m f g) ∧ Q (.list ((List.range (n + m - 1)).map fun i => rt (cvn n f g i)))
theorem c_folded {n m : Nat} {f g : Nat → Rat} {Q : D → Prop} (h0 : FoldOk n m f g) (qq_ : Q (.list ((List.range (n + m - 1)).map fun i => rt (cvn n f g i)))) : fs_folded [.list ((List.range n).map fun i => rt (f i)), .list ((List.range m).map fun i => rt (g i))] Q := ⟨n, m, f, g, rfl, h0, qq_⟩
local macro_rules | `(tactic| walk_at "vcg1") => `(tactic| with_reducible refine c_folded (by walk_at "sdt") ?_)
def fs_sums_of : FS := fun ds Q => ∃ (L : List Int) (t : Nat), ds = [tI L, .int t] ∧ (ClOk 13 L) ∧ (t ≤ 8) ∧ Q (.list ((List.range (tn L t)).map fun i => rt (pw L t i)))
theorem c_sums_of {L : List Int} {t : Nat} {Q : D → Prop} (h0 : ClOk 13 L) (h1 : t ≤ 8) (qq_ : Q (.list ((List.range (tn L t)).map fun i => rt (pw L t i)))) : fs_sums_of [tI L, .int t] Q := ⟨L, t, rfl, h0, h1, qq_⟩
local macro_rules | `(tactic| walk_at "vcg1") => `(tactic| with_reducible refine c_sums_of (by walk_at "sdt") (by walk_at "sdt") ?_)
def fs_summed : FS := fun ds Q => ∃ (L : List Int) (t : Nat), ds = [tI L, .int t] ∧ (ClOk 13 L) ∧ (t ≤ 8) ∧ Q (tR (tn L t) (pw L t))
theorem c_summed {L : List Int} {t : Nat} {Q : D → Prop} (h0 : ClOk 13 L) (h1 : t ≤ 8) (qq_ : Q (tR (tn L t) (pw L t))) : fs_summed [tI L, .int t] Q := ⟨L, t, rfl, h0, h1, qq_⟩
local macro_rules | `(tactic| walk_at "vcg1") => `(tactic| with_reducible refine c_summed (by walk_at "sdt") (by walk_at "sdt") ?_)
def fs_random_sum : FS := fun ds Q => ∃ (C L : List Int), ds = [tI C, tI L] ∧ (ClOk 9 C) ∧ (ClOk 13 L) ∧ Q (tR ((C.length - 1) * (L.length - 1) + 1) (rs C L))
theorem c_random_sum {C L : List Int} {Q : D → Prop} (h0 : ClOk 9 C) (h1 : ClOk 13 L) (qq_ : Q (tR ((C.length - 1) * (L.length - 1) + 1) (rs C L))) : fs_random_sum [tI C, tI L] Q := ⟨C, L, rfl, h0, h1, qq_⟩
local macro_rules | `(tactic| walk_at "vcg1") => `(tactic| with_reducible refine c_random_sum (by walk_at "sdt") (by walk_at "sdt") ?_)
def fs_law_chances : FS := fs_chances_of
def fs_law_fold : FS := fs_folded
def fs_law_claims : FS := fun ds Q => ∃ m : Nat, ds = [rowD, .int m] ∧ 1 ≤ m ∧ m ≤ 13 ∧ ∀ L, ClOk m L → (∀ x ∈ L, x ≤ 30) → Q (tI L)
theorem c_law_chances {L : List Int} {Q : D → Prop} (h : ClOk 13 L) (q : Q (.list ((List.range L.length).map fun i => rt (pr L i)))) : fs_law_chances [tI L] Q := c_chances_of h q
local macro_rules | `(tactic| walk_at "vcg1") => `(tactic| ((with_reducible show fs_law_chances [tI _] _); refine c_law_chances (by walk_at "sdt") ?_))
theorem c_law_fold {n m : Nat} {f g : Nat → Rat} {Q : D → Prop} (h : FoldOk n m f g) (q : Q (.list ((List.range (n + m - 1)).map fun i => rt (cvn n f g i)))) : fs_law_fold [.list ((List.range n).map fun i => rt (f i)), .list ((List.range m).map fun i => rt (g i))] Q := c_folded h q
local macro_rules | `(tactic| walk_at "vcg1") => `(tactic| ((with_reducible show fs_law_fold [.list (List.map _ (List.range _)), .list (List.map _ (List.range _))] _); refine c_law_fold (by walk_at "sdt") ?_))
def N_need_claims : List Str := ["claims", "most", "one"]
def w_need_claims : WS :=
 (wSeq (wIfS (wOr (wNot (wTru (wIsi "tuple" (wVar 0)))) (wNot (wTst (wChain (dCmp fun i j => decide (i ≤ j)) (dCmp fun i j => decide (i ≤ j)) (wC (.int 1)) (wFn fLen (wCons (wVar 0) wNil)) (wVar 1))))) wNever wNext)
 (wIfS (wOr (wNot (wTru (wGen (fBools fun bs => bs.all id) (wSeq1 (wVar 0)) (wgN 2) wYes (wFn (fun ds Q => ds.length = 3 ∧ fs_is_in ds Q) (wCons (wVar 2) (wCons (wC (.int 0)) (wCons (wC (.int 1000)) wNil)))) [2]))) (wTst (wBin dEq (wBin dIx (wVar 0) (wUn dNeg (wC (.int 1)))) (wC (.int 0))))) wNever wNext))
def N_chances_of : List Str := ["claims", "one"]
def w_chances_of : WS :=
 (wRetN (wLc (wSeq1 (wVar 0)) (wgN 1) wYes (wFn (fun ds Q => ds.length = 2 ∧ fs_ratio ds Q) (wCons (wVar 1) (wCons (wFn fSumA (wCons (wVar 0) wNil)) wNil))) [1]))
def N_mean_of : List Str := ["claims", "k", "one"]
def w_mean_of : WS :=
 (wRet (wFn (fun ds Q => ds.length = 2 ∧ fs_ratio ds Q) (wCons (wGen fSum (wEnum (wSeq1 (wVar 0))) (wgTup 2 (wgCons (wgN 1) (wgCons (wgN 2) wgNil))) wYes (wBin dMul (wVar 1) (wVar 2)) [1, 2]) (wCons (wFn fSumA (wCons (wVar 0) wNil)) wNil))))
def N_mean_claim : List Str := ["claims"]
def w_mean_claim : WS :=
 (wSeq (wDrop (wFn (fun ds Q => ds.length = 2 ∧ fs_need_claims ds Q) (wCons (wVar 0) (wCons (wC (.int 13)) wNil))))
 (wRet (wFn (fun ds Q => ds.length = 1 ∧ fs_mean_of ds Q) (wCons (wVar 0) wNil))))
def N_folded : List Str := ["one", "other", "found", "j", "a", "k", "b"]
def w_folded : WS :=
 (wSeq (wSetN 2 (wLc (wFnL fRng1 (wCons (wBin dSub (wBin dPlus (wFn fLen (wCons (wVar 0) wNil)) (wFn fLen (wCons (wVar 1) wNil))) (wC (.int 1))) wNil)) (wgN 5) wYes (wTup (wCons (wC (.int 0)) (wCons (wC (.int 1)) wNil))) [5]))
 (wSeq (wFor (wEnum (wVarS 0)) (wgTup 2 (wgCons (wgN 3) (wgCons (wgN 4) wgNil))) (wFor (wEnum (wVarS 1)) (wgTup 2 (wgCons (wgN 5) (wgCons (wgN 6) wgNil))) (wSto 2 (wBin dPlus (wVar 3) (wVar 5)) (wFn (fun ds Q => ds.length = 2 ∧ fs_plus ds Q) (wCons (wBin dIx (wVar 2) (wBin dPlus (wVar 3) (wVar 5))) (wCons (wFn (fun ds Q => ds.length = 2 ∧ fs_by ds Q) (wCons (wVar 4) (wCons (wVar 6) wNil))) wNil))))))
 (wRetO 2)))
def N_sums_of : List Str := ["claims", "times", "found", "turn"]
def w_sums_of : WS :=
 (wSeq (wSetN 2 (wLst (wCons (wTup (wCons (wC (.int 1)) (wCons (wC (.int 1)) wNil))) wNil)))
 (wSeq (wFor (wFnL fRng1 (wCons (wVar 1) wNil)) (wgN 3) (wSetN 2 (wFnN 2 fs_folded (wCons (wVar 2) (wCons (wDe (wFnN 1 fs_chances_of (wCons (wVar 0) wNil))) wNil)))))
 (wRetO 2)))
def N_summed : List Str := ["claims", "times"]
def w_summed : WS :=
 (wSeq (wDrop (wFn (fun ds Q => ds.length = 2 ∧ fs_need_claims ds Q) (wCons (wVar 0) (wCons (wC (.int 13)) wNil))))
 (wSeq (wDrop (wFn (fun ds Q => ds.length = 3 ∧ fs_need_time ds Q) (wCons (wVar 1) (wCons (wC (.int 0)) (wCons (wC (.int 8)) wNil)))))
 (wRet (wFn fTuple (wCons (wDe (wFnN 2 fs_sums_of (wCons (wVar 0) (wCons (wVar 1) wNil)))) wNil)))))
def N_random_sum : List Str := ["counts", "claims", "found", "times", "chance", "k", "one"]
def w_random_sum : WS :=
 (wSeq (wDrop (wFn (fun ds Q => ds.length = 2 ∧ fs_need_claims ds Q) (wCons (wVar 0) (wCons (wC (.int 9)) wNil))))
 (wSeq (wDrop (wFn (fun ds Q => ds.length = 2 ∧ fs_need_claims ds Q) (wCons (wVar 1) (wCons (wC (.int 13)) wNil))))
 (wSeq (wSetN 2 (wLc (wFnL fRng1 (wCons (wBin dPlus (wBin dMul (wBin dSub (wFn fLen (wCons (wVar 0) wNil)) (wC (.int 1))) (wBin dSub (wFn fLen (wCons (wVar 1) wNil)) (wC (.int 1)))) (wC (.int 1))) wNil)) (wgN 5) wYes (wTup (wCons (wC (.int 0)) (wCons (wC (.int 1)) wNil))) [5]))
 (wSeq (wFor (wEnum (wFnN 1 fs_chances_of (wCons (wVar 0) wNil))) (wgTup 2 (wgCons (wgN 3) (wgCons (wgN 4) wgNil))) (wFor (wEnum (wFnN 2 fs_sums_of (wCons (wVar 1) (wCons (wVar 3) wNil)))) (wgTup 2 (wgCons (wgN 5) (wgCons (wgN 6) wgNil))) (wSto 2 (wVar 5) (wFn (fun ds Q => ds.length = 2 ∧ fs_plus ds Q) (wCons (wBin dIx (wVar 2) (wVar 5)) (wCons (wFn (fun ds Q => ds.length = 2 ∧ fs_by ds Q) (wCons (wVar 4) (wCons (wVar 6) wNil))) wNil))))))
 (wRet (wFn fTuple (wCons (wVar 2) wNil)))))))
def N_law_chances : List Str := ["_law_claims_here", "_law_one"]
def w_law_chances : WS :=
 (wRetN (wLc (wSeq1 (wVar 0)) (wgN 1) wYes (wFn (fun ds Q => ds.length = 2 ∧ fs_law_ratio ds Q) (wCons (wVar 1) (wCons (wFn fSumA (wCons (wVar 0) wNil)) wNil))) [1]))
def N_law_fold : List Str := ["_law_one", "_law_other", "_law_found", "_law_j", "_law_k"]
def w_law_fold : WS :=
 (wSeq (wSetN 2 (wBinL fRepL (wDe (wLst (wCons (wTup (wCons (wC (.int 0)) (wCons (wC (.int 1)) wNil))) wNil))) (wBin dSub (wBin dPlus (wFn fLen (wCons (wVar 0) wNil)) (wFn fLen (wCons (wVar 1) wNil))) (wC (.int 1)))))
 (wSeq (wFor (wFnL fRng1 (wCons (wFn fLen (wCons (wVar 0) wNil)) wNil)) (wgN 3) (wFor (wFnL fRng1 (wCons (wFn fLen (wCons (wVar 1) wNil)) wNil)) (wgN 4) (wSto 2 (wBin dPlus (wVar 3) (wVar 4)) (wFn (fun ds Q => ds.length = 2 ∧ fs_law_plus ds Q) (wCons (wBin dIx (wVar 2) (wBin dPlus (wVar 3) (wVar 4))) (wCons (wFn (fun ds Q => ds.length = 2 ∧ fs_law_by ds Q) (wCons (wBin dIx (wVar 0) (wVar 3)) (wCons (wBin dIx (wVar 1) (wVar 4)) wNil))) wNil))))))
 (wRetO 2)))
def N_law_claims : List Str := ["_law_row", "_law_most", "_law_found", "_law_k"]
def w_law_claims : WS :=
 (wSeq (wSetN 2 (wLc (wFnL fRng1 (wCons (wFn (fun ds Q => ds.length = 2 ∧ fs_law_taken ds Q) (wCons (wVar 0) (wCons (wVar 1) wNil))) wNil)) (wgN 3) wYes (wFn (fun ds Q => ds.length = 2 ∧ fs_law_pick ds Q) (wCons (wVar 0) (wCons (wDe (wLst (wCons (wC (.int 0)) (wCons (wC (.int 1)) (wCons (wC (.int 1)) (wCons (wC (.int 3)) (wCons (wC (.int 10)) (wCons (wFn (fun ds Q => ds.length = 2 ∧ fs_law_taken ds Q) (wCons (wVar 0) (wCons (wC (.int 30)) wNil))) wNil)))))))) wNil))) [3]))
 (wRet (wBin dPlus (wFn fTuple (wCons (wVar 2) wNil)) (wTup (wCons (wFn (fun ds Q => ds.length = 2 ∧ fs_law_pick ds Q) (wCons (wVar 0) (wCons (wDe (wLst (wCons (wC (.int 1)) (wCons (wC (.int 2)) (wCons (wC (.int 5)) wNil))))) wNil))) wNil)))))
theorem ClOk.pos {m : Int} {L : List Int} (h : ClOk m L) : 0 < ws L := by
  have key : ∀ (M : List Int), (∀ x ∈ M, 0 ≤ x) → 0 ≤ M.sum := by
    intro M
    induction M with
    | nil => intro _; decide
    | cons x M ih =>
      intro hM
      have := hM x (by simp)
      have := ih fun y hy => hM y (by simp [hy])
      rw [List.sum_cons]; omega
  have key2 : ∀ (M : List Int) (i : Nat), (∀ x ∈ M, 0 ≤ x) → M.getD i 0 ≤ M.sum := by
    intro M
    induction M with
    | nil => intro i _; simp
    | cons x M ih =>
      intro i hM
      have h1 := hM x (by simp)
      have h2 := key M fun y hy => hM y (by simp [hy])
      rw [List.sum_cons]
      cases i with
      | zero => rw [List.getD_cons_zero]; omega
      | succ i =>
        have := ih i fun y hy => hM y (by simp [hy])
        rw [List.getD_cons_succ]; omega
  have h1 := key2 L (L.length - 1) fun x hx => (h.in_ x hx).1
  have h2 := h.last
  have h3 := getD_in (P := fun x => 0 ≤ x) (fun x hx => (h.in_ x hx).1) (by decide) (L.length - 1)
  unfold ws
  omega
theorem getD_le_sum : ∀ (M : List Int) (i : Nat), (∀ x ∈ M, 0 ≤ x) → M.getD i 0 ≤ M.sum
  | [], i, _ => by simp
  | x :: M, i, hM => by
    have h1 := hM x (by simp)
    have h3 : ∀ y ∈ M, 0 ≤ y := fun y hy => hM y (by simp [hy])
    have h2 := getD_le_sum M (M.length) h3
    rw [List.getD_eq_getElem?_getD, List.getElem?_eq_none (by omega)] at h2
    rw [List.sum_cons]
    cases i with
    | zero => rw [List.getD_cons_zero]; simp at h2; omega
    | succ i =>
      have := getD_le_sum M i h3
      rw [List.getD_cons_succ]; omega
theorem sum_le_len : ∀ (M : List Int) (c : Int), (∀ x ∈ M, x ≤ c) → M.sum ≤ M.length * c
  | [], c, _ => by simp
  | x :: M, c, hM => by
    have h1 := hM x (by simp)
    have := sum_le_len M c fun y hy => hM y (by simp [hy])
    rw [List.sum_cons, List.length_cons, Int.natCast_add, Int.add_mul]
    omega
theorem ClOk.ws_le {m : Int} {L : List Int} (h : ClOk m L) (hm : m ≤ 13) : ws L ≤ 13000 := by
  have := sum_le_len L 1000 fun x hx => (h.in_ x hx).2
  have := h.lm
  unfold ws
  omega
theorem ClOk.c_in {m : Int} {L : List Int} (h : ClOk m L) (i : Nat) : 0 ≤ L.getD i 0 ∧ L.getD i 0 ≤ ws L ∧ L.getD i 0 ≤ 1000 :=
  ⟨getD_in (P := fun x => 0 ≤ x) (fun x hx => (h.in_ x hx).1) (by decide) i, getD_le_sum L i fun x hx => (h.in_ x hx).1, getD_in (P := fun x => x ≤ 1000) (fun x hx => (h.in_ x hx).2) (by decide) i⟩
theorem ClOk.to {m k : Int} {L : List Int} (h : ClOk m L) (hk : m ≤ k) : ClOk k L := ⟨h.l1, by have := h.lm; omega, h.in_, h.last⟩
theorem pr_end {L : List Int} (i : Nat) (h : L.length ≤ i) : pr L i = 0 := by
  unfold pr
  rw [List.getD_eq_getElem?_getD, List.getElem?_eq_none h]
  simp [Rat.div_def]
/-! parts of D -/
theorem Dn.szLe {D M n : Nat} {x : Rat} (h : Dn D M x) (h0 : 0 < D) (hn : D < 2 ^ n) (hm : M * D < 2 ^ n) : szLe n x := by
  obtain ⟨z, rfl, hz⟩ := h
  exact szLe_div (by omega) (by omega) (by omega)
theorem Dn.zero {D : Nat} : Dn D 0 0 := ⟨0, by simp [Rat.div_def], by simp⟩
theorem Dn.add {D M N : Nat} {x y : Rat} (h : Dn D M x) (k : Dn D N y) : Dn D (M + N) (x + y) := by
  obtain ⟨z, rfl, hz⟩ := h
  obtain ⟨w, rfl, hw⟩ := k
  refine ⟨z + w, div_add_div _ _ _, ?_⟩
  rw [Nat.add_mul]
  omega
theorem Dn.mul {D E M N : Nat} {x y : Rat} (h : Dn D M x) (k : Dn E N y) : Dn (D * E) (M * N) (x * y) := by
  obtain ⟨z, rfl, hz⟩ := h
  obtain ⟨w, rfl, hw⟩ := k
  refine ⟨z * w, ?_, ?_⟩
  · rw [Rat.intCast_mul, show (((D * E : Nat) : Int) : Rat) = ((D : Int) : Rat) * ((E : Int) : Rat) by rw [Int.natCast_mul, Rat.intCast_mul], Rat.div_def, Rat.div_def, Rat.div_def, Rat.inv_mul_rev]
    grind
  · rw [Int.natAbs_mul]
    calc z.natAbs * w.natAbs ≤ (M * D) * (N * E) := Nat.mul_le_mul hz hw
      _ = M * N * (D * E) := by rw [Nat.mul_assoc, Nat.mul_assoc, Nat.mul_left_comm D N E]
theorem Dn.mono {D M N : Nat} {x : Rat} (h : Dn D M x) (k : M ≤ N) : Dn D N x := by
  obtain ⟨z, e, hz⟩ := h
  exact ⟨z, e, Nat.le_trans hz (Nat.mul_le_mul_right _ k)⟩
theorem Dn.sum {D M : Nat} {f : Nat → Rat} : ∀ n, (∀ i, i < n → Dn D M (f i)) → Dn D (n * M) (sumR f n)
  | 0, _ => by rw [Nat.zero_mul]; exact Dn.zero
  | n + 1, h => by
    rw [Nat.succ_mul]
    exact (Dn.sum n fun i hi => h i (by omega)).add (h n (by omega))
theorem Dn.cvn {D E M N n : Nat} {f g : Nat → Rat} (hf : ∀ i, Dn D M (f i)) (hg : ∀ i, Dn E N (g i)) (i : Nat) : Dn (D * E) (n * (M * N)) (DL.cvn n f g i) :=
  Dn.sum n fun j _ => (hf j).mul (by unfold gz; split; exact hg _; exact Dn.zero.mono (Nat.zero_le _))
theorem Dn.pr {m : Int} {L : List Int} (h : ClOk m L) (i : Nat) : Dn (ws L).toNat 1 (DL.pr L i) := by
  have := h.c_in i
  have := h.pos
  refine ⟨L.getD i 0, ?_, by omega⟩
  unfold DL.pr
  rw [show (((ws L).toNat : Nat) : Int) = ws L by omega]
theorem Dn.pw {m : Int} {L : List Int} (h : ClOk m L) (hm : m ≤ 13) : ∀ t i, t ≤ 8 → Dn ((ws L).toNat ^ t) (100 ^ t) (DL.pw L t i)
  | 0, i, _ => by
    show Dn 1 1 (if i = 0 then 1 else 0)
    split
    · exact ⟨1, by show (1 : Rat) = 1 / 1; grind, by decide⟩
    · exact ⟨0, by show (0 : Rat) = 0 / 1; grind, by decide⟩
  | t + 1, i, ht => by
    have e := Dn.cvn (n := tn L t) (fun i => Dn.pw h hm t i (by omega)) (Dn.pr h) i
    rw [Nat.pow_succ, Nat.pow_succ]
    refine e.mono ?_
    rw [Nat.mul_one, Nat.mul_comm]
    refine Nat.mul_le_mul_left _ ?_
    have h1 := h.lm
    have : t * (L.length - 1) ≤ 8 * 12 := Nat.mul_le_mul (by omega) (by omega)
    unfold tn
    omega
theorem pow_14 {w : Int} (h : w ≤ 13000) : ∀ t, w.toNat ^ t ≤ 2 ^ (14 * t)
  | 0 => by simp
  | t + 1 => by
    have ih := pow_14 h t
    rw [Nat.pow_succ, show 14 * (t + 1) = 14 * t + 14 by omega, Nat.pow_add]
    exact Nat.mul_le_mul ih (by omega)
theorem pow_7 : ∀ t, 100 ^ t ≤ 2 ^ (7 * t)
  | 0 => by simp
  | t + 1 => by
    rw [Nat.pow_succ, show 7 * (t + 1) = 7 * t + 7 by omega, Nat.pow_add]
    exact Nat.mul_le_mul (pow_7 t) (by omega)
theorem Dn.sz2 {w : Int} {t a : Nat} {x : Rat} (hw : w ≤ 13000) (hw0 : 0 < w) (h : Dn (w.toNat ^ t) (a * 100 ^ t) x) (ha : a ≤ 2 ^ 20) : DL.szLe (21 * t + 21) x := by
  have h1 := pow_14 hw t
  have h2 := pow_7 t
  have e1 : 2 ^ (21 * t + 20) = 2 ^ 20 * 2 ^ (7 * t) * 2 ^ (14 * t) := by rw [← Nat.pow_add, ← Nat.pow_add]; congr 1; omega
  have e2 : 2 ^ (21 * t + 21) = 2 ^ (21 * t + 20) * 2 := Nat.pow_succ ..
  have h3 : a * 100 ^ t * w.toNat ^ t ≤ 2 ^ 20 * 2 ^ (7 * t) * 2 ^ (14 * t) := Nat.mul_le_mul (Nat.mul_le_mul ha h2) h1
  have p1 : 0 < 2 ^ (21 * t + 20) := Nat.pow_pos (by omega)
  have h4 : w.toNat ^ t ≤ 2 ^ (21 * t + 20) := Nat.le_trans h1 (Nat.pow_le_pow_right (by omega) (by omega))
  exact h.szLe (Nat.pow_pos (by omega)) (by omega) (by omega)
theorem szLe_pw {m : Int} {L : List Int} (h : ClOk m L) (hm : m ≤ 13) {t : Nat} (ht : t ≤ 8) (i : Nat) : szLe 200 (pw L t i) :=
  (Dn.sz2 (a := 1) (h.ws_le hm) h.pos (by rw [Nat.one_mul]; exact Dn.pw h hm t i ht) (by decide)).mono (by omega)
theorem szLe_pr {m : Int} {L : List Int} (h : ClOk m L) (hm : m ≤ 13) (i : Nat) : szLe 50 (pr L i) :=
  (Dn.sz2 (t := 1) (a := 1) (h.ws_le hm) h.pos (by rw [Nat.one_mul, Nat.pow_one, Nat.pow_one]; exact (Dn.pr h i).mono (by omega)) (by decide)).mono (by omega)
theorem fold_pw {m : Int} {L : List Int} (h : ClOk m L) (hm : m ≤ 13) {t : Nat} (ht : t < 8) : FoldOk (tn L t) L.length (pw L t) (pr L) := by
  have h1 := h.l1
  have h2 := h.lm
  have h3 : t * (L.length - 1) ≤ 8 * 12 := Nat.mul_le_mul (by omega) (by omega)
  refine ⟨by unfold tn; omega, h1, by unfold tn; omega, fun i _ => (szLe_pw h hm (by omega) i).mono (by omega), fun i _ => (szLe_pr h hm i).mono (by omega), fun i j hj => ?_, fun i hi => pr_end i hi⟩
  have e := Dn.cvn (n := j) (fun i => Dn.pw h hm t i (by omega)) (Dn.pr h) i
  refine (Dn.sz2 (t := t + 1) (a := 100) (h.ws_le hm) h.pos (by rw [Nat.pow_succ]; refine e.mono ?_; rw [Nat.mul_one, Nat.pow_succ]; refine Nat.mul_le_mul (by unfold tn at hj; omega) (by omega)) (by decide)).mono (by omega)
theorem foldOk_swap {n m : Nat} {f g : Nat → Rat} (h1 : 1 ≤ n) (h2 : 1 ≤ m) (h3 : n + m ≤ 1000) {a b : Nat} (ha : ∀ i, i < n → szLe a (f i)) (hb : ∀ i, szLe b (g i)) (hb1 : 1 ≤ b) (hn : n * (a + b + 1) + 1 ≤ 10000000) (hab : a + b ≤ 10000000) (h0 : ∀ i, m ≤ i → g i = 0) : FoldOk n m f g :=
  ⟨h1, h2, h3, fun i hi => (ha i hi).mono (by omega), fun i hi => (hb i).mono (by omega), fun i j hj => by
    have key : ∀ j, j ≤ n → szLe (j * (a + b + 1) + 1) (cvn j f g i) := by
      intro j
      induction j with
      | zero => intro _; exact szLe_zero.mono (by omega)
      | succ j ih =>
        intro hj
        have := ih (by omega)
        have hg : szLe b (gz g i j) := by unfold gz; split; exact hb _; exact szLe_zero.mono hb1
        show szLe _ (cvn j f g i + f j * gz g i j)
        exact (this.add ((ha j (by omega)).mul hg)).mono (by rw [Nat.succ_mul]; omega)
    have h4 : j * (a + b + 1) ≤ n * (a + b + 1) := Nat.mul_le_mul_right _ hj
    exact (key j hj).mono (by omega), h0⟩
theorem pure_need_claims : ∀ ds Q0, fs_need_claims ds Q0 → w_need_claims (kdEnd Q0) (startL 3 ds) := by
  rintro ds Q ⟨L, m, rfl, h, hq⟩
  unfold w_need_claims
  walk_at "wgo"
  have h1 := h.l1
  have h2 := h.lm
  have h3 := h.last
  walk_at "vcg"
  refine allT_ints (fun x hx => ?_) ?_
  · have := h.in_ x hx
    unfold Sees
    walk_at "vcg"
  · walk_at "vcg"
    exact hq
theorem pure_chances_of : ∀ ds Q0, fs_chances_of ds Q0 → w_chances_of (kdEnd Q0) (startL 2 ds) := by
  rintro ds Q ⟨L, rfl, h, hq⟩
  unfold w_chances_of
  walk_at "wgo"
  have h1 := h.lm
  have hp := h.pos
  walk_at "vcg"
  refine lcW_ints (fun i => rt (pr L i)) (fun i P_i h_i n_i => ?_) ?_
  · walk_at "vcg"
    refine ⟨L, rfl, L.getD i 0, L.sum, rfl, Int.ne_of_gt hp, ?_⟩
    walk_at "vcg"
    first | exact n_i | (simp only [List.range_succ, List.map_append, List.map_cons, List.map_nil] at n_i; exact n_i)
  exact hq
theorem sum_ints (f : Nat → Int) (n : Nat) : ((((List.range n).map f).sum : Int) : Rat) = sumR (fun i => (f i : Rat)) n := by
  induction n with
  | zero => rfl
  | succ n ih =>
    rw [List.range_succ, List.map_append, List.sum_append, Rat.intCast_add, ih]
    show _ + ((f n + 0 : Int) : Rat) = _
    rw [Int.add_zero]; rfl
theorem inLong_of {x : Int} (h : -1000000000000 ≤ x ∧ x ≤ 1000000000000) : InLong x := by
  unfold InLong
  omega
theorem sumsIn_small {c : Int} : ∀ (ns : List Int) (a : Int), (∀ x ∈ ns, 0 ≤ x ∧ x ≤ c) → 0 ≤ c ∧ c ≤ 1000000 → 0 ≤ a ∧ a + ns.length * 1000000 ≤ 1000000000 → sumsIn a ns
  | [], _, _, _, _ => trivial
  | x :: ns, a, h, hc, ha => by
    have hx := h x (by simp)
    rw [List.length_cons, Int.natCast_add, Int.add_mul] at ha
    exact ⟨inLong_of (by omega), inLong_of (by omega), sumsIn_small ns (a + x) (fun y hy => h y (by simp [hy])) hc (by omega)⟩
theorem mean_eq (L : List Int) (hp : 0 < ws L) : ((((List.range L.length).map fun i : Nat => (i : Int) * L.getD i 0).sum : Int) : Rat) / ((L.sum : Int) : Rat) = mean L := by
  rw [sum_ints]
  unfold mean
  rw [Rat.div_def, sumR_mul]
  refine sumR_congr _ fun k _ => ?_
  unfold pr ws
  rw [Rat.intCast_mul, Rat.div_def, Rat.mul_assoc]; rfl
theorem pure_mean_of : ∀ ds Q0, fs_mean_of ds Q0 → w_mean_of (kdEnd Q0) (startL 3 ds) := by
  rintro ds Q ⟨L, rfl, h, hq⟩
  unfold w_mean_of
  walk_at "wgo"
  have h1 := h.lm
  have hp := h.pos
  walk_at "vcg"
  refine sum_mapN (fun i => (i : Int) * L.getD i 0) (fun i hi => ?_) (sumsIn_small (c := 14000) _ 0 ?_ (by decide) (by simp; omega)) ?_
  · have := h.c_in i
    have hi2 : iLe 20 (i : Int) := iLe_20 (by omega)
    have hi3 : iLe 20 (L.getD i 0) := iLe_20 (by omega)
    unfold Sees
    walk_at "vcg"
  · intro x hx
    obtain ⟨i, hi, rfl⟩ := List.mem_map.mp hx
    have hi := List.mem_range.mp hi
    have h2 := h.c_in i
    have : (i : Int) * L.getD i 0 ≤ 13 * 1000 := Int.mul_le_mul (by omega) (by omega) (by omega) (by omega)
    have : 0 ≤ (i : Int) * L.getD i 0 := Int.mul_nonneg (by omega) (by omega)
    omega
  refine ⟨L, rfl, _, L.sum, rfl, Int.ne_of_gt hp, ?_⟩
  rw [mean_eq L hp]
  walk_at "vcg"
  exact hq
theorem pure_mean_claim : ∀ ds Q0, fs_mean_claim ds Q0 → w_mean_claim (kdEnd Q0) (startL 1 ds) := by
  rintro ds Q ⟨L, rfl, h, hq⟩
  unfold w_mean_claim
  walk_at "wgo"
  walk_at "vcg"
  exact hq
/-- in the middle of a row -/
def cvr (f g : Nat → Rat) (j k i : Nat) : Rat := cvn j f g i + (if j ≤ i ∧ i < j + k then f j * g (i - j) else 0)
theorem cvr_sz {n m : Nat} {f g : Nat → Rat} (h : FoldOk n m f g) {j k i : Nat} (hj : j < n) : szLe 10000000 (cvr f g j k i) := by
  obtain ⟨_, _, _, _, _, h, _⟩ := h
  unfold cvr
  by_cases hi : j ≤ i ∧ i < j + k
  · rw [if_pos hi]
    have e := h i (j + 1) (by omega)
    have e2 : cvn (j + 1) f g i = cvn j f g i + f j * g (i - j) := by
      show cvn j f g i + f j * gz g i j = _
      unfold gz
      rw [if_pos hi.1]
    rw [← e2]; exact e
  · rw [if_neg hi, Rat.add_zero]; exact h i j (by omega)
theorem cvr_0 {f g : Nat → Rat} {j i : Nat} : cvr f g j 0 i = cvn j f g i := by
  unfold cvr
  rw [if_neg (by omega), Rat.add_zero]
theorem cvr_end {f g : Nat → Rat} {m j i : Nat} (hi : i < j + m ∨ ∀ k, m ≤ k → g k = 0) : cvr f g j m i = cvn (j + 1) f g i := by
  unfold cvr
  show _ = cvn j f g i + f j * gz g i j
  congr 1
  unfold gz
  by_cases h : j ≤ i
  · rw [if_pos h]
    by_cases h2 : i < j + m
    · rw [if_pos ⟨h, h2⟩]
    · rw [if_neg (by omega)]
      rcases hi with hi | hi
      · exact absurd hi h2
      · rw [hi _ (by omega)]; grind
  · rw [if_neg (by omega), if_neg h]; grind
theorem cvr_next {f g : Nat → Rat} {j k i : Nat} : (if i = j + k then cvr f g j k (j + k) + f j * g k else cvr f g j k i) = cvr f g j (k + 1) i := by
  by_cases h : i = j + k
  · subst h
    rw [if_pos rfl]
    unfold cvr
    rw [if_neg (by omega), if_pos (by omega), show j + k - j = k by omega, Rat.add_zero]
  · rw [if_neg h]
    unfold cvr
    congr 1
    by_cases h2 : j ≤ i ∧ i < j + k
    · rw [if_pos h2, if_pos (by omega)]
    · rw [if_neg h2, if_neg (by omega)]
theorem pure_folded : ∀ ds Q0, fs_folded ds Q0 → w_folded (kdEnd Q0) (startL 7 ds) := by
  rintro ds Q ⟨n, m, f, g, rfl, h, hq⟩
  unfold w_folded
  walk_at "wgo"
  obtain ⟨h1, h2, h3, hf, hg, hc, h0⟩ := h
  have hh : FoldOk n m f g := ⟨h1, h2, h3, hf, hg, hc, h0⟩
  walk_at "vcg"
  rw [show ((n + m : Nat) : Int) - 1 = ((n + m - 1 : Nat) : Int) by omega]
  walk_at "vcg"
  refine lcW_rng0 (fun i => rt 0) (fun i P_i h_i n_i => ?_) ?_
  · walk_at "vcg"
    first | exact n_i | (simp only [List.range_succ, List.map_append, List.map_cons, List.map_nil] at n_i; exact n_i)
  refine forW_mapN (fun j env => ∃ z3 z4 z5 z6 : SD, env = [SD.val (.list ((List.range n).map fun i => rt (f i))), SD.val (.list ((List.range m).map fun i => rt (g i))), SD.own ((List.range (n + m - 1)).map fun i => rt (cvn j f g i)), z3, z4, z5, z6]) ?_ (fun j env P_j h_j e0 n_j => ?_) (fun env e0 => ?_)
  · exact ⟨_, _, _, _, (rfl)⟩
  · obtain ⟨z3, z4, z5, z6, rfl⟩ := e0
    walk_at "vcg"
    refine forW_mapN (fun k env => ∃ z5 z6 : SD, env = [SD.val (.list ((List.range n).map fun i => rt (f i))), SD.val (.list ((List.range m).map fun i => rt (g i))), SD.own ((List.range (n + m - 1)).map fun i => rt (cvr f g j k i)), SD.val (.int j), SD.val (rt (f j)), z5, z6]) ?_ (fun k env P_k h_k e0 n_k => ?_) (fun env e0 => ?_)
    · rw [show (fun i => rt (cvn j f g i)) = fun i => rt (cvr f g j 0 i) from funext fun i => by rw [cvr_0]]
      exact ⟨_, _, (rfl)⟩
    · obtain ⟨z5, z6, rfl⟩ := e0
      have s1 : ∀ i, szLe 10000000 (cvr f g j k i) := fun i => cvr_sz hh h_j
      walk_at "vcg"
      rw [show (fun i => rt (if i = j + k then cvr f g j k (j + k) + f j * g k else cvr f g j k i)) = fun i => rt (cvr f g j (k + 1) i) from funext fun i => by rw [cvr_next]]
      exact n_k _ ⟨_, _, (rfl)⟩
    · obtain ⟨z5, z6, rfl⟩ := e0
      rw [range_congr (f := fun i => rt (cvr f g j m i)) (g := fun i => rt (cvn (j + 1) f g i)) fun i hi => by rw [cvr_end (.inr h0)]]
      exact n_j _ ⟨_, _, _, _, (rfl)⟩
  · obtain ⟨z3, z4, z5, z6, rfl⟩ := e0
    walk_at "vcg"
    exact hq
theorem pw_0 (L : List Int) : pw L 0 0 = 1 := rfl
theorem tn_succ {L : List Int} (h : 1 ≤ L.length) (t : Nat) : tn L t + L.length - 1 = tn L (t + 1) := by
  unfold tn
  rw [Nat.succ_mul]; omega
theorem pw_end {L : List Int} (h : 1 ≤ L.length) : ∀ t i, tn L t ≤ i → pw L t i = 0
  | 0, i, hi => by
    show (if i = 0 then (1 : Rat) else 0) = 0
    rw [if_neg (by unfold tn at hi; omega)]
  | t + 1, i, hi => by
    show cvn (tn L t) (pw L t) (pr L) i = 0
    have := tn_succ h t
    exact cvn_zero (m := L.length) (fun i hi => pr_end i hi) (by omega) (.inr trivial)
theorem pure_sums_of : ∀ ds Q0, fs_sums_of ds Q0 → w_sums_of (kdEnd Q0) (startL 4 ds) := by
  rintro ds Q ⟨L, t, rfl, h, ht, hq⟩
  unfold w_sums_of
  walk_at "wgo"
  have h1 := h.l1
  walk_at "vcg"
  refine forW_rng0 (fun k env => ∃ z3 : SD, env = [SD.val (tI L), SD.val (.int t), SD.own ((List.range (tn L k)).map fun i => rt (pw L k i)), z3]) ?_ (fun k env P_k h_k e0 n_k => ?_) (fun env e0 => ?_)
  · rw [show [rt 1] = (List.range (tn L 0)).map fun i => rt (pw L 0 i) by rw [show tn L 0 = 1 by unfold tn; omega]; rfl]
    exact ⟨_, (rfl)⟩
  · obtain ⟨z3, rfl⟩ := e0
    have hf := fold_pw h (by omega) (show k < 8 by omega)
    walk_at "vcg"
    rw [tn_succ h1]
    exact n_k _ ⟨_, (rfl)⟩
  · obtain ⟨z3, rfl⟩ := e0
    walk_at "vcg"
    exact hq
theorem pure_summed : ∀ ds Q0, fs_summed ds Q0 → w_summed (kdEnd Q0) (startL 2 ds) := by
  rintro ds Q ⟨L, t, rfl, h, ht, hq⟩
  unfold w_summed
  walk_at "wgo"
  walk_at "vcg"
  exact hq
theorem pure_law_chances : ∀ ds Q0, fs_law_chances ds Q0 → w_law_chances (kdEnd Q0) (startL 2 ds) := by
  rintro ds Q ⟨L, rfl, h, hq⟩
  unfold w_law_chances
  walk_at "wgo"
  have h1 := h.lm
  have hp := h.pos
  walk_at "vcg"
  refine lcW_ints (fun i => rt (pr L i)) (fun i P_i h_i n_i => ?_) ?_
  · walk_at "vcg"
    refine ⟨L, rfl, L.getD i 0, L.sum, rfl, Int.ne_of_gt hp, ?_⟩
    walk_at "vcg"
    first | exact n_i | (simp only [List.range_succ, List.map_append, List.map_cons, List.map_nil] at n_i; exact n_i)
  exact hq
theorem pure_law_fold : ∀ ds Q0, fs_law_fold ds Q0 → w_law_fold (kdEnd Q0) (startL 5 ds) := by
  rintro ds Q ⟨n, m, f, g, rfl, h, hq⟩
  unfold w_law_fold
  walk_at "wgo"
  obtain ⟨h1, h2, h3, hf, hg, hc, h0⟩ := h
  have hh : FoldOk n m f g := ⟨h1, h2, h3, hf, hg, hc, h0⟩
  walk_at "vcg"
  rw [show ((n + m : Nat) : Int) - 1 = ((n + m - 1 : Nat) : Int) by omega]
  walk_at "vcg"
  refine forW_rng0 (fun j env => ∃ z3 z4 : SD, env = [SD.val (.list ((List.range n).map fun i => rt (f i))), SD.val (.list ((List.range m).map fun i => rt (g i))), SD.own ((List.range (n + m - 1)).map fun i => rt (cvn j f g i)), z3, z4]) ?_ (fun j env P_j h_j e0 n_j => ?_) (fun env e0 => ?_)
  · exact ⟨_, _, (rfl)⟩
  · obtain ⟨z3, z4, rfl⟩ := e0
    walk_at "vcg"
    refine forW_rng0 (fun k env => ∃ z4 : SD, env = [SD.val (.list ((List.range n).map fun i => rt (f i))), SD.val (.list ((List.range m).map fun i => rt (g i))), SD.own ((List.range (n + m - 1)).map fun i => rt (cvr f g j k i)), SD.val (.int j), z4]) ?_ (fun k env P_k h_k e0 n_k => ?_) (fun env e0 => ?_)
    · rw [show (fun i => rt (cvn j f g i)) = fun i => rt (cvr f g j 0 i) from funext fun i => by rw [cvr_0]]
      exact ⟨_, (rfl)⟩
    · obtain ⟨z4, rfl⟩ := e0
      have s1 : ∀ i, szLe 10000000 (cvr f g j k i) := fun i => cvr_sz hh h_j
      walk_at "vcg"
      rw [show (fun i => rt (if i = j + k then cvr f g j k (j + k) + f j * g k else cvr f g j k i)) = fun i => rt (cvr f g j (k + 1) i) from funext fun i => by rw [cvr_next]]
      exact n_k _ ⟨_, (rfl)⟩
    · obtain ⟨z4, rfl⟩ := e0
      rw [range_congr (f := fun i => rt (cvr f g j m i)) (g := fun i => rt (cvn (j + 1) f g i)) fun i hi => by rw [cvr_end (.inr h0)]]
      exact n_j _ ⟨_, _, (rfl)⟩
  · obtain ⟨z3, z4, rfl⟩ := e0
    walk_at "vcg"
    exact hq
theorem pure_law_claims : ∀ ds Q0, fs_law_claims ds Q0 → w_law_claims (kdEnd Q0) (startL 4 ds) := by
  rintro ds Q ⟨m, rfl, h1, h13, hq⟩
  unfold w_law_claims
  walk_at "wgo"
  walk_at "vcg"
  intro v hv hv2
  walk_at "vcg"
  refine lcW_any PyData.int (fun x => 0 ≤ x ∧ x ≤ 30) (fun j d acc P hd hl hP => ?_) fun M hlen hp => ?_
  · obtain ⟨hj, rfl⟩ := rngD_get hd
    walk_at "vcg"
    intro u hu hu2
    walk_at "vcg"
    refine c_pick_ints [0, 1, 1, 3, 10, u] rfl (by simp) fun x hx => ?_
    walk_at "vcg"
    refine hP _ ?_
    simp only [List.mem_cons, List.not_mem_nil, or_false] at hx
    omega
  rw [rngD_len] at hlen
  refine c_pick_ints [1, 2, 5] rfl (by simp) fun x hx => ?_
  have hx2 : 1 ≤ x ∧ x ≤ 5 := by
    simp only [List.mem_cons, List.not_mem_nil, or_false] at hx
    omega
  rw [show M.map PyData.int ++ [PyData.int x] = (M ++ [x]).map PyData.int by rw [List.map_append]; rfl]
  walk_at "vcg"
  have hM : ∀ y ∈ M ++ [x], 0 ≤ y ∧ y ≤ 30 := fun y hy => by
    rcases List.mem_append.mp hy with h | h
    · exact hp y h
    · rw [List.mem_singleton.mp h]; omega
  refine hq (M ++ [x]) ⟨by simp, by simp; omega, fun y hy => by have := hM y hy; omega, ?_⟩ fun y hy => (hM y hy).2
  rw [List.length_append, List.length_singleton, Nat.add_sub_cancel, List.getD_eq_getElem?_getD, List.getElem?_append_right (Nat.le_refl _), Nat.sub_self]
  show x ≠ 0
  omega
/-- the totals of fewer claims -/
def rsT (C L : List Int) (t i : Nat) : Rat := sumR (fun t => pr C t * pw L t i) t
def rsM (C L : List Int) (t k i : Nat) : Rat := if i < k then rsT C L (t + 1) i else rsT C L t i
theorem szLe_rsT {C L : List Int} (hC : ClOk 13 C) (hL : ClOk 13 L) (i : Nat) : ∀ t, t ≤ 9 → szLe (300 * t + 1) (rsT C L t i)
  | 0, _ => szLe_zero
  | t + 1, ht => by
    have ih := szLe_rsT hC hL i t (by omega)
    have a := szLe_pr hC (by omega) t
    have b := szLe_pw hL (by omega) (show t ≤ 8 by omega) i
    show szLe _ (rsT C L t i + pr C t * pw L t i)
    walk_at "szb"
theorem rsM_next {C L : List Int} {t k : Nat} : (fun i => rt (if i = k then rsM C L t k k + pr C t * pw L t k else rsM C L t k i)) = fun i => rt (rsM C L t (k + 1) i) := funext fun i => by
  by_cases h : i = k
  · subst h
    rw [if_pos rfl]
    unfold rsM
    rw [if_neg (by omega), if_pos (by omega)]; rfl
  · rw [if_neg h]
    unfold rsM
    by_cases h2 : i < k
    · rw [if_pos h2, if_pos (by omega)]
    · rw [if_neg h2, if_neg (by omega)]
theorem rsM_end {C L : List Int} {t : Nat} (h : 1 ≤ L.length) : (fun i => rt (rsM C L t (tn L t) i)) = fun i => rt (rsT C L (t + 1) i) := funext fun i => by
  unfold rsM
  by_cases h2 : i < tn L t
  · rw [if_pos h2]
  · rw [if_neg h2]
    show _ = rt (rsT C L t i + pr C t * pw L t i)
    rw [pw_end h t i (by omega)]
    congr 1
    grind
theorem pure_random_sum : ∀ ds Q0, fs_random_sum ds Q0 → w_random_sum (kdEnd Q0) (startL 7 ds) := by
  rintro ds Q ⟨C, L, rfl, hC, hL, hq⟩
  unfold w_random_sum
  walk_at "wgo"
  have h1 := hC.l1
  have h2 := hC.lm
  have h3 := hL.l1
  have h4 := hL.lm
  have hC13 := hC.to (show 9 ≤ 13 by omega)
  walk_at "vcg"
  obtain ⟨N, hN, hN2⟩ : ∃ N : Nat, ((C.length : Int) - 1) * (L.length - 1) + 1 = (N : Int) ∧ N = (C.length - 1) * (L.length - 1) + 1 := ⟨(C.length - 1) * (L.length - 1) + 1, by rw [Int.natCast_add, Int.natCast_mul, Int.natCast_sub h1, Int.natCast_sub h3]; rfl, rfl⟩
  have hN3 : N ≤ 97 := by
    have : (C.length - 1) * (L.length - 1) ≤ 8 * 12 := Nat.mul_le_mul (by omega) (by omega)
    omega
  rw [hN]
  walk_at "vcg"
  refine lcW_rng0 (fun i => rt 0) (fun i P_i h_i n_i => ?_) ?_
  · walk_at "vcg"
    first | exact n_i | (simp only [List.range_succ, List.map_append, List.map_cons, List.map_nil] at n_i; exact n_i)
  walk_at "vcg"
  refine forW_mapN (fun t env => ∃ z3 z4 z5 z6 : SD, env = [SD.val (tI C), SD.val (tI L), SD.own ((List.range N).map fun i => rt (rsT C L t i)), z3, z4, z5, z6]) ?_ (fun t env P_t h_t e0 n_t => ?_) (fun env e0 => ?_)
  · exact ⟨_, _, _, _, (rfl)⟩
  · obtain ⟨z3, z4, z5, z6, rfl⟩ := e0
    have ht9 : t ≤ 8 := by omega
    have hts : tn L t ≤ N := by
      have : t * (L.length - 1) ≤ (C.length - 1) * (L.length - 1) := Nat.mul_le_mul_right _ (by omega)
      unfold tn
      omega
    walk_at "vcg"
    refine forW_mapN (fun k env => ∃ z5 z6 : SD, env = [SD.val (tI C), SD.val (tI L), SD.own ((List.range N).map fun i => rt (rsM C L t k i)), SD.val (.int t), SD.val (rt (pr C t)), z5, z6]) ?_ (fun k env P_k h_k e0 n_k => ?_) (fun env e0 => ?_)
    · rw [show (fun i => rt (rsT C L t i)) = fun i => rt (rsM C L t 0 i) from funext fun i => by unfold rsM; rw [if_neg (by omega)]]
      exact ⟨_, _, (rfl)⟩
    · obtain ⟨z5, z6, rfl⟩ := e0
      have a := szLe_pr hC13 (by omega) t
      have b := szLe_pw hL (by omega) ht9 k
      have e : rsM C L t k k = rsT C L t k := by unfold rsM; rw [if_neg (by omega)]
      have c := szLe_rsT hC13 hL k t (by omega)
      rw [← e] at c
      walk_at "vcg"
      rw [show (fun i => rt (if i = k then rsM C L t k k + pr C t * pw L t k else rsM C L t k i)) = fun i => rt (rsM C L t (k + 1) i) from funext fun i => by
        by_cases h : i = k
        · subst h
          rw [if_pos rfl, e]
          unfold rsM
          rw [if_pos (by omega)]; rfl
        · rw [if_neg h]
          unfold rsM
          by_cases h2 : i < k
          · rw [if_pos h2, if_pos (by omega)]
          · rw [if_neg h2, if_neg (by omega)]]
      exact n_k _ ⟨_, _, (rfl)⟩
    · obtain ⟨z5, z6, rfl⟩ := e0
      rw [show (fun i => rt (rsM C L t (tn L t) i)) = fun i => rt (rsT C L (t + 1) i) from funext fun i => by
        unfold rsM
        by_cases h2 : i < tn L t
        · rw [if_pos h2]
        · rw [if_neg h2]
          show _ = rt (rsT C L t i + pr C t * pw L t i)
          rw [pw_end h3 t i (by omega)]
          congr 1
          grind]
      exact n_t _ ⟨_, _, _, _, (rfl)⟩
  · obtain ⟨z3, z4, z5, z6, rfl⟩ := e0
    walk_at "vcg"
    subst hN2
    exact hq
/-! comprehensions that keep the first ones; rows of ints -/
theorem lcW_pre {wg : WG} {wt : WT} {we : WE} {env : SDs} {Q : List D → Prop} {n m : Nat} {g : Nat → D} (f : Nat → D) (hm : m ≤ n)
    (h1 : ∀ i (P : List D → Prop), i < m → P ((List.range (i + 1)).map f) → wg (g i) env fun env' => wt env' fun c => if c = true then we env' fun y => (((List.range i).map f).length < 16777216 ∧ flat y = true) ∧ P ((List.range i).map f ++ [y]) else P ((List.range i).map f))
    (h2 : ∀ i (P : List D → Prop), m ≤ i → i < n → P ((List.range m).map f) → wg (g i) env fun env' => wt env' fun c => if c = true then we env' fun y => (((List.range m).map f).length < 16777216 ∧ flat y = true) ∧ P ((List.range m).map f ++ [y]) else P ((List.range m).map f))
    (hend : Q ((List.range m).map f)) : lcW wg wt we env Q ((List.range n).map g) [] :=
  lcW_idx (fun i acc => acc = (List.range (min i m)).map f) (by rw [Nat.zero_min]; rfl) (fun i d acc P hd h hP => by
    obtain ⟨hi, rfl⟩ := mapN_get hd
    subst h
    by_cases hm : i < m
    · rw [Nat.min_eq_left (by omega)]
      exact h1 i P hm (hP _ (by rw [Nat.min_eq_left (by omega)]))
    · rw [Nat.min_eq_right (by omega)]
      exact h2 i P (by omega) hi (hP _ (by rw [Nat.min_eq_right (by omega)]))) fun acc h => by
    rw [h, List.length_map, List.length_range, Nat.min_eq_right hm]; exact hend
theorem genW_pre {wg : WG} {wt : WT} {we : WE} {env : SDs} {Q : List D → Prop} {n m : Nat} {g : Nat → D} (f : Nat → D) (hm : m ≤ n)
    (h1 : ∀ i, i < m → Sees wg wt we env (g i) (f i))
    (h2 : ∀ i, m ≤ i → i < n → wg (g i) env fun env' => wt env' fun c => if c = true then we env' fun z => (none : Option D) = some z else (none : Option D) = none)
    (q : Q ((List.range m).map f)) : genW wg wt we env Q ((List.range n).map g) [] := by
  have go : ∀ (rest acc : List D) (i : Nat), rest = ((List.range n).map g).drop i → i ≤ n → acc = (List.range (min i m)).map f → genW wg wt we env Q rest acc := by
    intro rest
    induction rest with
    | nil =>
      intro acc i e hi ha
      have : i = n := by
        have := congrArg List.length e
        simp at this
        omega
      subst this ha
      rw [Nat.min_eq_right hm]
      exact q
    | cons d rest ih =>
      intro acc i e hi ha
      have hlt : i < n := by
        have := congrArg List.length e
        simp at this
        omega
      rw [List.drop_eq_getElem_cons (by simpa using hlt)] at e
      injection e with e1 e2
      have e1 : d = g i := by rw [e1]; simp
      subst e1
      by_cases h : i < m
      · refine ⟨some (f i), h1 i h, ih _ (i + 1) e2 hlt ?_⟩
        rw [ha, Nat.min_eq_left (by omega), Nat.min_eq_left (by omega), List.range_succ, List.map_append]; rfl
      · refine ⟨none, h2 i (by omega) hlt, ih _ (i + 1) e2 hlt ?_⟩
        rw [ha, Nat.min_eq_right (by omega), Nat.min_eq_right (by omega)]; simp
  exact go _ [] 0 (by simp) (Nat.zero_le _) (by rw [Nat.zero_min]; rfl)
theorem sum_pre {wg : WG} {wt : WT} {we : WE} {env : SDs} {Q : D → Prop} {n m : Nat} {g : Nat → D} (f : Nat → Int) (hm : m ≤ n)
    (h1 : ∀ i, i < m → Sees wg wt we env (g i) (.int (f i)))
    (h2 : ∀ i, m ≤ i → i < n → wg (g i) env fun env' => wt env' fun c => if c = true then we env' fun z => (none : Option D) = some z else (none : Option D) = none)
    (hs : sumsIn 0 ((List.range m).map f)) (q : Q (.int (sumTo f m))) : genW wg wt we env (fun ys => fSum ys Q) ((List.range n).map g) [] :=
  genW_pre (fun i => .int (f i)) hm h1 h2 ⟨(List.range m).map f, by rw [List.map_map]; rfl, hs, by rwa [sum_range_int]⟩
where
  sum_range_int {f : Nat → Int} {m : Nat} : ((List.range m).map f).sum = sumTo f m := by
    induction m with
    | zero => rfl
    | succ m ih => rw [List.range_succ, List.map_append, List.sum_append, ih]; show _ + (f m + 0) = _; rw [Int.add_zero]; rfl
theorem sum_rangeI {f : Nat → Int} {m : Nat} : ((List.range m).map f).sum = sumTo f m := by
  induction m with
  | zero => rfl
  | succ m ih => rw [List.range_succ, List.map_append, List.sum_append, ih]; show _ + (f m + 0) = _; rw [Int.add_zero]; rfl
theorem sum_allI {wg : WG} {wt : WT} {we : WE} {env : SDs} {Q : D → Prop} {n : Nat} {g : Nat → D} (f : Nat → Int) (h : ∀ i, i < n → Sees wg wt we env (g i) (.int (f i))) (hs : sumsIn 0 ((List.range n).map f)) (q : Q (.int (sumTo f n))) : genW wg wt we env (fun ys => fSum ys Q) ((List.range n).map g) [] :=
  sum_mapN f h hs (by rwa [sum_rangeI])
theorem flat_row {f : Nat → Int} {m : Nat} : flat (.tuple ((List.range m).map fun j => .int (f j))) = true := flats_mapN (fun _ => rfl) _
local macro_rules | `(tactic| walk_at "flt") => `(tactic| exact flats_mapN (fun _ => flat_row) _)
/-- sum of a row -/
theorem c_sumT {f : Nat → Int} {m : Nat} {Q : D → Prop} (q : Q (.int (sumTo f m))) : fSumA [.tuple ((List.range m).map fun j => .int (f j))] Q := ⟨(List.range m).map f, by rw [List.map_map]; rfl, by rwa [sum_rangeI]⟩
theorem c_sumL {f : Nat → Int} {m : Nat} {Q : D → Prop} (q : Q (.int (sumTo f m))) : fSumA [.list ((List.range m).map fun j => .int (f j))] Q := ⟨(List.range m).map f, by rw [List.map_map]; rfl, by rwa [sum_rangeI]⟩
local macro_rules | `(tactic| walk_at "vcg1") => `(tactic| ((with_reducible show fSumA [.tuple (List.map (fun j => PyData.int _) (List.range _))] _); refine c_sumT ?_))
local macro_rules | `(tactic| walk_at "vcg1") => `(tactic| ((with_reducible show fSumA [.list (List.map (fun j => PyData.int _) (List.range _))] _); refine c_sumL ?_))
theorem take_range {α : Type} {f : Nat → α} {k n : Nat} : ((List.range n).map f).take k = (List.range (min k n)).map f := by
  rw [← List.map_take, List.take_range]
/-- a slice of a row -/
theorem cut_range {f : Nat → D} {k n : Nat} : cutD ((List.range n).map f) none (some (k : Int)) = (List.range (min k n)).map f := by rw [cut_take, take_range]
theorem inLong_of' {x : Int} (h : -1000000000000 ≤ x ∧ x ≤ 1000000000000) : InLong x := by
  unfold InLong
  omega
theorem sumsIn_ok {c : Int} : ∀ (ns : List Int) (a : Int), (∀ x ∈ ns, 0 ≤ x ∧ x ≤ c) → 0 ≤ c ∧ c ≤ 1000000000 → 0 ≤ a ∧ a + ns.length * 1000000000 ≤ 100000000000 → sumsIn a ns
  | [], _, _, _, _ => trivial
  | x :: ns, a, h, hc, ha => by
    have hx := h x (by simp)
    rw [List.length_cons, Int.natCast_add, Int.add_mul] at ha
    exact ⟨inLong_of' (by omega), inLong_of' (by omega), sumsIn_ok ns (a + x) (fun y hy => h y (by simp [hy])) hc (by omega)⟩
theorem sumsIn_range {f : Nat → Int} {m : Nat} (h : ∀ i, i < m → 0 ≤ f i ∧ f i ≤ 1000000000) (hm : m ≤ 100) : sumsIn 0 ((List.range m).map f) :=
  sumsIn_ok (c := 1000000000) _ 0 (fun x hx => by obtain ⟨i, hi, rfl⟩ := List.mem_map.mp hx; exact h i (List.mem_range.mp hi)) (by decide) (by simp; omega)
theorem sumTo_mono {f : Nat → Int} {c : Int} (h : ∀ i, 0 ≤ f i ∧ f i ≤ c) (n : Nat) : 0 ≤ sumTo f n ∧ sumTo f n ≤ n * c := by
  induction n with
  | zero => simp [sumTo]
  | succ n ih =>
    have := h n
    show 0 ≤ sumTo f n + f n ∧ sumTo f n + f n ≤ _
    rw [Int.natCast_add, Int.add_mul]
    omega
theorem iLe_40 {a : Int} (h : -1099511627776 < a ∧ a < 1099511627776) : iLe 40 a := ⟨by omega⟩
/-! defs that may raise, told, strings -/
local macro_rules | `(tactic| walk_at "vcg1") => `(tactic| simp only [wTold, wCallX, wRetX, wExprX, wSetX, wRaise, wAlt, wDr, kdX])
local macro_rules | `(tactic| walk_at "vcg1") => `(tactic| with_reducible refine q_ct1 ?_)
local macro_rules | `(tactic| walk_at "vcg1") => `(tactic| with_reducible refine q_ct0 ?_)
local macro_rules | `(tactic| walk_at "plt") => `(tactic| decide +kernel)
theorem ne_eqTS {ds : List D} {x : Str} : PyData.eqv (.tuple ds) (.str x) = false := by simp [PyData.eqv]
theorem k_eqRS {p : Rat} {x : Str} {Q : D → Prop} (h : PyData.strOk x = true) (q : Q (.bool false)) : dEq (rt p) (.str x) Q := ⟨shaped_plain (plain_rt p), shaped_plain (d := .str x) (by simpa [plainD] using h), by rw [show PyData.eqv (rt p) (.str x) = false from ne_eqTS]; exact q⟩
theorem k_neRS {p : Rat} {x : Str} {Q : D → Prop} (h : PyData.strOk x = true) (q : Q (.bool true)) : dNe (rt p) (.str x) Q := ⟨shaped_plain (plain_rt p), shaped_plain (d := .str x) (by simpa [plainD] using h), by rw [show PyData.eqv (rt p) (.str x) = false from ne_eqTS]; exact q⟩
local macro_rules | `(tactic| walk_at "vcg1") => `(tactic| with_reducible refine k_eqRS (by decide +kernel) ?_)
local macro_rules | `(tactic| walk_at "vcg1") => `(tactic| with_reducible refine k_neRS (by decide +kernel) ?_)
theorem k_in {ds : List D} {d : D} {Q : D → Prop} (h1 : SeqAt.shaped d = true) (h2 : SeqAt.shaped (.list ds) = true) (hd : ∀ i, d ≠ .int i) (q : Q (.bool (ds.any fun z => PyData.eqv z d))) : dIn d (.list ds) Q := by
  cases d <;> first | exact ⟨h1, h2, q⟩ | exact absurd rfl (hd _)
theorem num_z {q : Rat} : (q.num = 0) = (q = 0) := propext ⟨fun h => Rat.num_eq_zero.mp h, fun h => by rw [h]; rfl⟩
theorem sumR_nn0 {f : Nat → Rat} : ∀ {n : Nat}, (∀ i, i < n → 0 ≤ f i) → 0 ≤ sumR f n
  | 0, _ => Rat.le_refl
  | n + 1, h => Rat.add_nonneg (sumR_nn0 fun i hi => h i (by omega)) (h n (by omega))
theorem ri_nn0 {x : Int} (h : 0 ≤ x) : (0 : Rat) ≤ (x : Rat) := Rat.intCast_nonneg.mpr h
/-- the chance to exceed an amount -/
def tl (L : List Int) (y : Nat) : Rat := sumR (fun i => pr L (y + 1 + i)) (L.length - (y + 1))
/-- the chances to be never ruined, as they are found -/
def sF (L : List Int) : Nat → Nat → Rat
  | 0 => fun _ => (1 - mean L) / pr L 0
  | n + 1 => fun i => if i ≤ n then sF L n i else (sF L n n - sumR (fun j => pr L (j + 1) * sF L n (n - j)) (n + 1)) / pr L 0
def sv (L : List Int) (n : Nat) : Rat := sF L n n
/-- ruin, ever -/
def rv (L : List Int) (s : Nat) : Rat := if mean L < 1 then 1 - sv L s else if L.length = 2 ∧ L.getD 0 0 = 0 then 0 else 1
def fs_less : FS := fun ds Q => ∃ (a b : Rat) (n m : Nat), ds = [rt a, rt b] ∧ (szLe n a) ∧ (szLe m b) ∧ (n + m ≤ 80000000) ∧ Q (.bool (decide (a < b)))
theorem c_less {a b : Rat} {n m : Nat} {Q : D → Prop} (h0 : szLe n a) (h1 : szLe m b) (h2 : n + m ≤ 80000000) (qq_ : Q (.bool (decide (a < b)))) : fs_less [rt a, rt b] Q := ⟨a, b, n, m, rfl, h0, h1, h2, qq_⟩
local macro_rules | `(tactic| walk_at "vcg1") => `(tactic| with_reducible refine c_less (by walk_at "sdt") (by walk_at "sdt") (by walk_at "sdt") ?_)
def fs_total : FS := fs_law_sum
def fs_ruin_ever : FS := fun ds Q => ∃ (L : List Int) (s : Nat), ds = [tI L, .int s] ∧ (ClOk 13 L) ∧ (s ≤ 20) ∧ Q (rt (rv L s))
theorem c_ruin_ever {L : List Int} {s : Nat} {Q : D → Prop} (h0 : ClOk 13 L) (h1 : s ≤ 20) (qq_ : Q (rt (rv L s))) : fs_ruin_ever [tI L, .int s] Q := ⟨L, s, rfl, h0, h1, qq_⟩
local macro_rules | `(tactic| walk_at "vcg1") => `(tactic| with_reducible refine c_ruin_ever (by walk_at "sdt") (by walk_at "sdt") ?_)
def fsx_deficits : FX := fun ds Q R => ∃ L : List Int, ds = [tI L] ∧ ClOk 13 L ∧ (¬ mean L < 1 → R "NoGain" none) ∧ (mean L < 1 → Q (tR (L.length - 1) (fun i => tl L (i + 1) / pr L 0)))
def fs_law_below : FS := fs_less
theorem c_law_below {a b : Rat} {n m : Nat} {Q : D → Prop} (h1 : szLe n a) (h2 : szLe m b) (h3 : n + m ≤ 80000000) (q : Q (.bool (decide (a < b)))) : fs_law_below [rt a, rt b] Q := c_less h1 h2 h3 q
local macro_rules | `(tactic| walk_at "vcg1") => `(tactic| ((with_reducible show fs_law_below [rt _, rt _] _); refine c_law_below (by walk_at "szt") (by walk_at "szt") (by omega) ?_))
local macro_rules | `(tactic| walk_at "vcg1") => `(tactic| ((with_reducible show fs_less [rt _, rt _] _); refine c_less (by walk_at "szt") (by walk_at "szt") (by omega) ?_))
def N_less : List Str := ["one", "other"]
def w_less : WS :=
 (wRet (wBin (dCmp fun i j => decide (i < j)) (wBin dMul (wBin dIx (wVar 0) (wC (.int 0))) (wBin dIx (wVar 1) (wC (.int 1)))) (wBin dMul (wBin dIx (wVar 1) (wC (.int 0))) (wBin dIx (wVar 0) (wC (.int 1))))))
def N_total : List Str := ["some", "found", "one"]
def w_total : WS :=
 (wSeq (wSet 1 (wTup (wCons (wC (.int 0)) (wCons (wC (.int 1)) wNil))))
 (wSeq (wFor (wVarS 0) (wgN 2) (wSet 1 (wFn (fun ds Q => ds.length = 2 ∧ fs_plus ds Q) (wCons (wVar 1) (wCons (wVar 2) wNil)))))
 (wRet (wVar 1))))
def N_ruin_ever : List Str := ["claims", "start", "chances", "mean", "safe", "surplus", "here", "k"]
def w_ruin_ever : WS :=
 (wSeq (wDrop (wFn (fun ds Q => ds.length = 2 ∧ fs_need_claims ds Q) (wCons (wVar 0) (wCons (wC (.int 13)) wNil))))
 (wSeq (wDrop (wFn (fun ds Q => ds.length = 3 ∧ fs_need_time ds Q) (wCons (wVar 1) (wCons (wC (.int 0)) (wCons (wC (.int 20)) wNil)))))
 (wSeq (wPar [2, 3] (wmOwn (wFnN 1 fs_chances_of (wCons (wVar 0) wNil)) (wmVal (wFn (fun ds Q => ds.length = 1 ∧ fs_mean_of ds Q) (wCons (wVar 0) wNil)) wmNil)))
 (wSeq (wIfS (wNot (wTru (wFn (fun ds Q => ds.length = 2 ∧ fs_less ds Q) (wCons (wVar 3) (wCons (wTup (wCons (wC (.int 1)) (wCons (wC (.int 1)) wNil))) wNil))))) (wRet (wIf (wAnd (wTst (wBin dEq (wFn fLen (wCons (wVar 0) wNil)) (wC (.int 2)))) (wTst (wBin dEq (wBin dIx (wVar 0) (wC (.int 0))) (wC (.int 0))))) (wTup (wCons (wC (.int 0)) (wCons (wC (.int 1)) wNil))) (wTup (wCons (wC (.int 1)) (wCons (wC (.int 1)) wNil))))) wNext)
 (wSeq (wSetN 4 (wLst (wCons (wFn (fun ds Q => ds.length = 2 ∧ fs_over ds Q) (wCons (wFn (fun ds Q => ds.length = 2 ∧ fs_minus ds Q) (wCons (wTup (wCons (wC (.int 1)) (wCons (wC (.int 1)) wNil))) (wCons (wVar 3) wNil))) (wCons (wBin dIx (wVar 2) (wC (.int 0))) wNil))) wNil)))
 (wSeq (wFor (wFnL fRng1 (wCons (wVar 1) wNil)) (wgN 5) (wSeq (wSet 6 (wBin dIx (wVar 4) (wUn dNeg (wC (.int 1)))))
 (wSeq (wFor (wFnL fRng2 (wCons (wC (.int 1)) (wCons (wBin dPlus (wFn fMin (wCons (wBin dPlus (wVar 5) (wC (.int 1))) (wCons (wBin dSub (wFn fLen (wCons (wVar 2) wNil)) (wC (.int 1))) wNil))) (wC (.int 1))) wNil))) (wgN 7) (wSet 6 (wFn (fun ds Q => ds.length = 2 ∧ fs_minus ds Q) (wCons (wVar 6) (wCons (wFn (fun ds Q => ds.length = 2 ∧ fs_by ds Q) (wCons (wBin dIx (wVar 2) (wVar 7)) (wCons (wBin dIx (wVar 4) (wBin dSub (wBin dPlus (wVar 5) (wC (.int 1))) (wVar 7))) wNil))) wNil)))))
 (wApp 4 (wFn (fun ds Q => ds.length = 2 ∧ fs_over ds Q) (wCons (wVar 6) (wCons (wBin dIx (wVar 2) (wC (.int 0))) wNil)))))))
 (wRet (wFn (fun ds Q => ds.length = 2 ∧ fs_minus ds Q) (wCons (wTup (wCons (wC (.int 1)) (wCons (wC (.int 1)) wNil))) (wCons (wBin dIx (wVar 4) (wUn dNeg (wC (.int 1)))) wNil))))))))))
def N_law_below : List Str := ["_law_one", "_law_other"]
def w_law_below : WS :=
 (wRet (wBin (dCmp fun i j => decide (i < j)) (wBin dMul (wBin dIx (wVar 0) (wC (.int 0))) (wBin dIx (wVar 1) (wC (.int 1)))) (wBin dMul (wBin dIx (wVar 1) (wC (.int 0))) (wBin dIx (wVar 0) (wC (.int 1))))))
def N_deficits_x : List Str := ["claims", "chances", "y"]
def w_deficits_x : WS :=
 (wSeq (wDrop (wFn (fun ds Q => ds.length = 2 ∧ fs_need_claims ds Q) (wCons (wVar 0) (wCons (wC (.int 13)) wNil))))
 (wSeq (wSetN 1 (wFnN 1 fs_chances_of (wCons (wVar 0) wNil)))
 (wSeq (wIfS (wNot (wTru (wFn (fun ds Q => ds.length = 2 ∧ fs_less ds Q) (wCons (wFn (fun ds Q => ds.length = 1 ∧ fs_mean_of ds Q) (wCons (wVar 0) wNil)) (wCons (wTup (wCons (wC (.int 1)) (wCons (wC (.int 1)) wNil))) wNil))))) (wRaise "NoGain") wNext)
 (wRet (wFn fTuple (wCons (wDe (wLc (wFnL fRng2 (wCons (wC (.int 1)) (wCons (wFn fLen (wCons (wVar 0) wNil)) wNil))) (wgN 2) wYes (wFn (fun ds Q => ds.length = 2 ∧ fs_over ds Q) (wCons (wFn (fun ds Q => ds.length = 1 ∧ fs_total ds Q) (wCons (wDe (wSlN (wVar 1) (wPart (wBin dPlus (wVar 2) (wC (.int 1)))) wNoP)) wNil)) (wCons (wBin dIx (wVar 1) (wC (.int 0))) wNil))) [2])) wNil))))))
theorem pure_total : ∀ ds Q0, fs_total ds Q0 → w_total (kdEnd Q0) (startL 3 ds) := by
  rintro ds Q ⟨qs, hds, hs, q⟩
  rcases hds with rfl | rfl
  all_goals
    unfold w_total
    walk_at "wgo"
    refine forW_idx (fun i env => ∃ z d, env = [SD.val d, SD.val (rt (qs.take i).sum), z]) ⟨_, _, by rw [List.take_zero]; rfl⟩ (fun i x env P hx ⟨z, d, e⟩ hP => ?_) fun env ⟨z, d, e⟩ => ?_
    · obtain ⟨y, hy, rfl⟩ := rats_get hx
      subst e
      walk_at "wgo"
      refine ⟨_, y, szSum qs + 1, sz y, rfl, (szLe_sum _).mono (by have := szSum_take (qs := qs) (i := i); omega), szLe_sz y, by have := szSum_get hy; omega, ?_⟩
      walk_at "wgo"
      exact hP _ ⟨_, _, by rw [sum_take_succ hy]⟩
    · subst e
      walk_at "wgo"
      rw [List.take_of_length_le (by simp)]
      exact q
theorem pure_less : ∀ ds Q0, fs_less ds Q0 → w_less (kdEnd Q0) (startL 2 ds) := by
  rintro ds Q ⟨a, b, n, m, rfl, ha, hb, hnm, hq⟩
  unfold w_less
  walk_at "wgo"
  walk_at "vcg"
  rw [show decide (a.num * (b.den : Int) < b.num * (a.den : Int)) = decide (a < b) from by rw [decide_eq_decide]; exact (Rat.lt_iff a b).symm]
  exact hq
theorem pure_law_below : ∀ ds Q0, fs_law_below ds Q0 → w_law_below (kdEnd Q0) (startL 2 ds) := pure_less
/-! chances -/
theorem one_pr {m : Int} {L : List Int} (h : ClOk m L) : sumR (pr L) L.length = 1 := by
  have hp := h.pos
  have e : sumR (pr L) L.length = sumR (fun i => (L.getD i 0 : Int) * (((ws L : Int) : Rat))⁻¹) L.length := sumR_congr _ fun k _ => by unfold pr; rw [Rat.div_def]
  rw [e, ← sumR_mul]
  have e2 : sumR (fun i => ((L.getD i 0 : Int) : Rat)) L.length = ((ws L : Int) : Rat) := by
    rw [← sum_ints (fun i => L.getD i 0)]
    unfold ws
    congr 2
    apply List.ext_getElem
    · simp
    · intro i h1 h2
      simp only [List.getElem_map, List.getElem_range]
      rw [List.getD_eq_getElem?_getD, List.getElem?_eq_getElem h2]; rfl
  rw [e2]
  exact Rat.mul_inv_cancel _ (ii_ne (Int.ne_of_gt hp))
theorem pr_ge {m : Int} {L : List Int} (h : ClOk m L) (i : Nat) : 0 ≤ pr L i := by
  have a := h.c_in i
  have b := h.pos
  unfold pr
  rw [Rat.div_def]
  exact Rat.mul_nonneg (Rat.intCast_nonneg.mpr a.1) (Rat.le_of_lt (Rat.inv_pos.mpr (Rat.intCast_pos.mpr b)))
theorem sumR_le {f g : Nat → Rat} : ∀ n, (∀ i, i < n → f i ≤ g i) → sumR f n ≤ sumR g n
  | 0, _ => Rat.le_refl
  | n + 1, h => by
    have := sumR_le n fun i hi => h i (by omega)
    have := h n (by omega)
    rw [sumR_succ, sumR_succ]
    grind
theorem tl_end {L : List Int} {y : Nat} (h : L.length ≤ y + 1) : tl L y = 0 := by
  unfold tl
  rw [show L.length - (y + 1) = 0 by omega]; rfl
theorem tl_step (L : List Int) (y : Nat) : tl L y = pr L (y + 1) + tl L (y + 1) := by
  by_cases hy : y + 1 < L.length
  · unfold tl
    rw [show L.length - (y + 1) = (L.length - (y + 1 + 1)) + 1 by omega, sumR_first, Nat.add_zero]
    congr 1
    exact sumR_congr _ fun i _ => by rw [show y + 1 + (i + 1) = y + 1 + 1 + i by omega]
  · rw [tl_end (by omega), tl_end (by omega), pr_end _ (by omega), Rat.add_zero]
theorem tl_0 {m : Int} {L : List Int} (h : ClOk m L) : pr L 0 + tl L 0 = 1 := by
  have e := one_pr h
  have l1 := h.l1
  rw [show L.length = (L.length - 1) + 1 by omega, sumR_first] at e
  rw [← e]
  unfold tl
  rw [show L.length - (0 + 1) = L.length - 1 by omega]
  congr 1
  exact sumR_congr _ fun i _ => by rw [show 0 + 1 + i = i + 1 by omega]
theorem tl_nn {m : Int} {L : List Int} (h : ClOk m L) (y : Nat) : 0 ≤ tl L y := sumR_nn0 fun i _ => pr_ge h _
theorem parts (L : List Int) : ∀ n, sumR (fun k => (k : Rat) * pr L k) (n + 1) = sumR (tl L) n - (n : Rat) * tl L n
  | 0 => by show 0 + (0 : Rat) * pr L 0 = 0 - (0 : Rat) * tl L 0; grind
  | n + 1 => by
    rw [sumR_succ, parts L n, sumR_succ, tl_step L n]
    have : (((n + 1 : Nat) : Rat)) = (n : Rat) + 1 := by rw [Rat.natCast_add]; rfl
    rw [this]
    grind
theorem mean_tl {m : Int} {L : List Int} (h : ClOk m L) : mean L = sumR (tl L) (L.length - 1) := by
  have l1 := h.l1
  unfold mean
  conv => lhs; rw [show L.length = (L.length - 1) + 1 by omega]
  rw [parts, tl_end (by omega)]
  grind
/-- the sums of the deficits -/
theorem sum_tl {m : Int} {L : List Int} (h : ClOk m L) : sumR (fun y => tl L (y + 1)) (L.length - 1) = mean L - 1 + pr L 0 := by
  have e := sumR_first (tl L) (L.length - 1)
  rw [sumR_succ, ← mean_tl h, tl_end (y := L.length - 1) (by omega)] at e
  have := tl_0 h
  grind
theorem p0_pos {m : Int} {L : List Int} (h : ClOk m L) (hm : mean L < 1) : 0 < pr L 0 := by
  have a := sumR_nn0 (f := fun y => tl L (y + 1)) (n := L.length - 1) fun i _ => tl_nn h _
  rw [sum_tl h] at a
  grind
theorem sum_tl_le {m : Int} {L : List Int} (h : ClOk m L) (n : Nat) : sumR (fun y => tl L (y + 1)) n ≤ mean L - 1 + pr L 0 := by
  rw [← sum_tl h]
  by_cases hn : n ≤ L.length - 1
  · have e := sumR_add (fun y => tl L (y + 1)) n (L.length - 1 - n)
    rw [show n + (L.length - 1 - n) = L.length - 1 by omega] at e
    have := sumR_nn0 (f := fun k => tl L (n + k + 1)) (n := L.length - 1 - n) fun i _ => tl_nn h _
    rw [e]
    grind
  · rw [sumR_ext (n := L.length - 1) (m := n) (by omega) fun i hi => tl_end (by omega)]
    exact Rat.le_refl
/-! the chance to be never ruined -/
theorem sF_eq (L : List Int) : ∀ n i, i ≤ n → sF L n i = sv L i
  | 0, i, h => by rw [show i = 0 by omega]; rfl
  | n + 1, i, h => by
    by_cases e : i ≤ n
    · show (if i ≤ n then sF L n i else _) = _
      rw [if_pos e, sF_eq L n i e]
    · rw [show i = n + 1 by omega]; rfl
theorem sv_step (L : List Int) (n : Nat) : sv L (n + 1) = (sv L n - sumR (fun j => pr L (j + 1) * sv L (n - j)) (n + 1)) / pr L 0 := by
  show (if n + 1 ≤ n then _ else (sF L n n - sumR (fun j => pr L (j + 1) * sF L n (n - j)) (n + 1)) / pr L 0) = _
  rw [if_neg (by omega), sF_eq L n n (Nat.le_refl _), sumR_congr (n + 1) (g := fun j => pr L (j + 1) * sv L (n - j)) fun j _ => by rw [sF_eq L n (n - j) (by omega)]]
theorem renew {m : Int} {L : List Int} (h : ClOk m L) (hm : mean L < 1) : ∀ s, pr L 0 * sv L s = pr L 0 * sv L 0 + sumR (fun y => tl L (y + 1) * sv L (s - 1 - y)) s
  | 0 => by show _ = _ + (0 : Rat); rw [Rat.add_zero]
  | s + 1 => by
    have ih := renew h hm s
    have p0 := Rat.ne_of_gt (p0_pos h hm)
    have t0 := tl_0 h
    have t1 := tl_step L 0
    have e1 : pr L 0 * sv L (s + 1) = sv L s - (pr L 1 * sv L s + sumR (fun y => pr L (y + 2) * sv L (s - 1 - y)) s) := by
      rw [sv_step, sumR_first, Nat.sub_zero]
      rw [sumR_congr s (g := fun y => pr L (y + 2) * sv L (s - 1 - y)) fun y _ => by rw [show s - (y + 1) = s - 1 - y by omega]]
      generalize sumR (fun y => pr L (y + 2) * sv L (s - 1 - y)) s = x
      grind
    have e2 : sumR (fun y => tl L (y + 1) * sv L (s + 1 - 1 - y)) (s + 1) = tl L 1 * sv L s + (sumR (fun y => tl L (y + 1) * sv L (s - 1 - y)) s - sumR (fun y => pr L (y + 2) * sv L (s - 1 - y)) s) := by
      rw [sumR_first]
      congr 1
      have key : ∀ n, sumR (fun k => tl L (k + 1 + 1) * sv L (s + 1 - 1 - (k + 1))) n = sumR (fun y => tl L (y + 1) * sv L (s - 1 - y)) n - sumR (fun y => pr L (y + 2) * sv L (s - 1 - y)) n := by
        intro n
        induction n with
        | zero => show (0 : Rat) = 0 - 0; grind
        | succ n ih =>
          rw [sumR_succ, sumR_succ, sumR_succ, ih, tl_step L (n + 1), show s + 1 - 1 - (n + 1) = s - 1 - n by omega]
          grind
      exact key s
    rw [e1, e2]
    generalize sumR (fun y => pr L (y + 2) * sv L (s - 1 - y)) s = x at *
    generalize sumR (fun y => tl L (y + 1) * sv L (s - 1 - y)) s = z at *
    grind
theorem sv_in {m : Int} {L : List Int} (h : ClOk m L) (hm : mean L < 1) (s : Nat) : 0 ≤ sv L s ∧ sv L s ≤ 1 := by
  have p0 := p0_pos h hm
  have i0 := Rat.inv_pos.mpr p0
  have z0 : pr L 0 * sv L 0 = 1 - mean L := by
    show pr L 0 * ((1 - mean L) / pr L 0) = _
    have := Rat.ne_of_gt p0
    grind
  induction s using Nat.strongRecOn with
  | _ s ih =>
    have e := renew h hm s
    have nn : 0 ≤ sumR (fun y => tl L (y + 1) * sv L (s - 1 - y)) s := sumR_nn0 fun y hy => Rat.mul_nonneg (tl_nn h _) (ih _ (by omega)).1
    have le : sumR (fun y => tl L (y + 1) * sv L (s - 1 - y)) s ≤ sumR (fun y => tl L (y + 1)) s := sumR_le s fun y hy => by
      have a := tl_nn h (y + 1)
      have b := (ih (s - 1 - y) (by omega)).2
      have := Rat.mul_le_mul_of_nonneg_left b a
      rwa [Rat.mul_one] at this
    have le2 := sum_tl_le h s
    have c1 : 0 ≤ pr L 0 * sv L s := by grind
    have c2 : pr L 0 * sv L s ≤ pr L 0 * 1 := by grind
    exact ⟨Rat.le_of_mul_le_mul_left (by rwa [Rat.mul_zero]) p0, Rat.le_of_mul_le_mul_left c2 p0⟩
theorem rp_add (q : Rat) (a : Nat) : ∀ b : Nat, q ^ (a + b) = q ^ a * q ^ b
  | 0 => by rw [Nat.add_zero, Rat.pow_zero, Rat.mul_one]
  | b + 1 => by rw [← Nat.add_assoc, Rat.pow_succ, Rat.pow_succ, rp_add q a b, Rat.mul_assoc]
/-! sizes: an integer over a power of the first weight -/
def IsI (x : Rat) : Prop := ∃ z : Int, x = (z : Rat)
theorem IsI.add {x y : Rat} (a : IsI x) (b : IsI y) : IsI (x + y) := by
  obtain ⟨z, rfl⟩ := a; obtain ⟨w, rfl⟩ := b; exact ⟨z + w, (Rat.intCast_add _ _).symm⟩
theorem IsI.mul {x y : Rat} (a : IsI x) (b : IsI y) : IsI (x * y) := by
  obtain ⟨z, rfl⟩ := a; obtain ⟨w, rfl⟩ := b; exact ⟨z * w, (Rat.intCast_mul _ _).symm⟩
theorem IsI.sub {x y : Rat} (a : IsI x) (b : IsI y) : IsI (x - y) := by
  obtain ⟨z, rfl⟩ := a; obtain ⟨w, rfl⟩ := b; exact ⟨z - w, (Rat.intCast_sub _ _).symm⟩
theorem IsI.int (z : Int) : IsI (z : Rat) := ⟨z, rfl⟩
theorem IsI.pow {x : Rat} (a : IsI x) : ∀ n : Nat, IsI (x ^ n)
  | 0 => ⟨1, by rw [Rat.pow_zero]; rfl⟩
  | n + 1 => by rw [Rat.pow_succ]; exact (a.pow n).mul a
theorem IsI.sum {f : Nat → Rat} : ∀ n, (∀ i, i < n → IsI (f i)) → IsI (sumR f n)
  | 0, _ => ⟨0, rfl⟩
  | n + 1, h => by rw [sumR_succ]; exact (IsI.sum n fun i hi => h i (by omega)).add (h n (by omega))
abbrev c0 (L : List Int) : Rat := (L.getD 0 0 : Int)
theorem pr_w {m : Int} {L : List Int} (h : ClOk m L) (i : Nat) : pr L i * ((ws L : Int) : Rat) = (L.getD i 0 : Int) := by
  have := ii_ne (Int.ne_of_gt h.pos)
  unfold pr
  grind
theorem c0_pos {m : Int} {L : List Int} (h : ClOk m L) (hm : mean L < 1) : 0 < L.getD 0 0 := by
  have a := p0_pos h hm
  have b := pr_w h 0
  have w : (0 : Rat) < ((ws L : Int) : Rat) := Rat.intCast_pos.mpr h.pos
  have := Rat.mul_pos a w
  rw [b] at this
  exact Rat.intCast_pos.mp this
theorem sv_int {m : Int} {L : List Int} (h : ClOk m L) (hm : mean L < 1) (n : Nat) : IsI (c0 L ^ (n + 1) * sv L n) := by
  have hw := ii_ne (Int.ne_of_gt h.pos)
  have hc : c0 L ≠ 0 := ii_ne (Int.ne_of_gt (c0_pos h hm))
  have p0 := Rat.ne_of_gt (p0_pos h hm)
  have pw0 := pr_w h 0
  induction n using Nat.strongRecOn with
  | _ n ih =>
    cases n with
    | zero =>
      have e : c0 L ^ (0 + 1) * sv L 0 = ((ws L : Int) : Rat) * 1 - sumR (fun k => (((k : Nat) : Int) : Rat) * (L.getD k 0 : Int)) L.length := by
        have e2 : sumR (fun k => (((k : Nat) : Int) : Rat) * (L.getD k 0 : Int)) L.length = mean L * ((ws L : Int) : Rat) := by
          unfold mean
          rw [sumR_mul]
          exact sumR_congr _ fun k _ => by rw [Rat.mul_assoc, pr_w h k, Rat.intCast_natCast]
        rw [e2, Rat.pow_succ, Rat.pow_zero, Rat.one_mul]
        show c0 L * ((1 - mean L) / pr L 0) = _
        unfold c0
        rw [← pw0]
        grind
      rw [e]
      exact ((IsI.int _).mul ⟨1, rfl⟩).sub (IsI.sum _ fun k _ => (IsI.int _).mul (IsI.int _))
    | succ n =>
      have e : c0 L ^ (n + 1 + 1) * sv L (n + 1) = ((ws L : Int) : Rat) * (c0 L ^ (n + 1) * sv L n) - sumR (fun j => ((L.getD (j + 1) 0 : Int) : Rat) * (c0 L ^ j * (c0 L ^ (n - j + 1) * sv L (n - j)))) (n + 1) := by
        have e2 : sumR (fun j => ((L.getD (j + 1) 0 : Int) : Rat) * (c0 L ^ j * (c0 L ^ (n - j + 1) * sv L (n - j)))) (n + 1) = sumR (fun j => pr L (j + 1) * sv L (n - j)) (n + 1) * (((ws L : Int) : Rat) * c0 L ^ (n + 1)) := by
          rw [sumR_mul]
          refine sumR_congr _ fun j hj => ?_
          have e3 : c0 L ^ (n + 1) = c0 L ^ j * c0 L ^ (n - j + 1) := by rw [← rp_add]; congr 1; omega
          rw [e3, ← pr_w h (j + 1)]
          grind
        rw [e2, sv_step, Rat.pow_succ]
        generalize sumR (fun j => pr L (j + 1) * sv L (n - j)) (n + 1) = x
        generalize c0 L ^ (n + 1) = u
        unfold c0
        rw [← pw0]
        grind
      rw [e]
      refine ((IsI.int _).mul (ih n (by omega))).sub (IsI.sum _ fun j hj => (IsI.int _).mul (((IsI.int _).pow j).mul (ih (n - j) (by omega))))
theorem szLe_sv {m : Int} {L : List Int} (h : ClOk m L) (hm : mean L < 1) {n : Nat} (hn : n ≤ 40) : szLe 420 (sv L n) := by
  have hc := c0_pos h hm
  have hcr : (0 : Rat) < c0 L := Rat.intCast_pos.mpr hc
  have hc1 := (h.c_in 0).2.2
  obtain ⟨a, b⟩ := sv_in h hm n
  obtain ⟨z, hz⟩ := sv_int h hm n
  have hpw : (0 : Rat) < c0 L ^ (n + 1) := Rat.pow_pos hcr
  have ep : c0 L ^ (n + 1) = ((L.getD 0 0 ^ (n + 1) : Int) : Rat) := by rw [Rat.intCast_pow]
  have hne : c0 L ^ (n + 1) ≠ 0 := Rat.ne_of_gt hpw
  have e : sv L n = ((z : Int) : Rat) / ((L.getD 0 0 ^ (n + 1) : Int) : Rat) := by
    rw [← ep, ← hz]
    grind
  have z0 : 0 ≤ z := by
    have : (0 : Rat) ≤ (z : Rat) := by rw [← hz]; exact Rat.mul_nonneg (Rat.le_of_lt hpw) a
    exact Rat.intCast_nonneg.mp this
  have z1 : z ≤ L.getD 0 0 ^ (n + 1) := by
    have : (z : Rat) ≤ ((L.getD 0 0 ^ (n + 1) : Int) : Rat) := by
      rw [← hz, ← ep]
      have := Rat.mul_le_mul_of_nonneg_left b (Rat.le_of_lt hpw)
      rwa [Rat.mul_one] at this
    exact Rat.intCast_le_intCast.mp this
  have bd : (L.getD 0 0 ^ (n + 1)).natAbs < 2 ^ 420 := by
    rw [Int.natAbs_pow]
    calc (L.getD 0 0).natAbs ^ (n + 1) ≤ (2 ^ 10) ^ (n + 1) := Nat.pow_le_pow_left (by omega) _
      _ = 2 ^ (10 * (n + 1)) := by rw [← Nat.pow_mul]
      _ < 2 ^ 420 := Nat.pow_lt_pow_right (by omega) (by omega)
  rw [e]
  exact szLe_div (by have : (0 : Int) < L.getD 0 0 ^ (n + 1) := Int.pow_pos hc
                     omega) (by omega) bd
theorem szLe_mn {m : Int} {L : List Int} (h : ClOk m L) (hm : m ≤ 13) : szLe 2000 (mean L) := by
  have h1 := h.lm
  unfold mean
  refine (szLe_sumN (k := 80) (m := L.length) (fun k hk => ?_) L.length (Nat.le_refl _)).mono ?_
  · have a := szLe_pr h hm k
    have b : szLe 21 (k : Rat) := szLe_i (x := (k : Int)) (iLe_20 (by omega))
    walk_at "szb"
  · have : L.length * (80 + 1) ≤ 13 * 81 := Nat.mul_le_mul (by omega) (by omega)
    omega
theorem pure_ruin_ever : ∀ ds Q0, fs_ruin_ever ds Q0 → w_ruin_ever (kdEnd Q0) (startL 8 ds) := by
  rintro ds Q ⟨L, s, rfl, h, hs, hq⟩
  unfold w_ruin_ever
  walk_at "wgo"
  have l1 := h.l1
  have lm := h.lm
  have sm := szLe_mn h (by decide)
  have sp := fun i => szLe_pr h (by decide) i
  walk_at "vcg"
  by_cases hm : mean L < 1
  · rw [decide_eq_true (by have := hm; exact this)]
    have hp := Rat.ne_of_gt (p0_pos h hm)
    have ss : ∀ n, n ≤ 40 → szLe 420 (sv L n) := fun n hn => szLe_sv h hm hn
    unfold rv at hq
    rw [if_pos hm] at hq
    walk_at "vcg"
    refine forW_rng0 (fun n env => ∃ z5 z6 z7 : SD, env = [SD.val (tI L), SD.val (.int s), SD.own ((List.range L.length).map fun i => rt (pr L i)), SD.val (rt (mean L)), SD.own ((List.range (n + 1)).map fun i => rt (sv L i)), z5, z6, z7]) ?_ (fun n env P_n h_n e0 n_n => ?_) (fun env e0 => ?_)
    · exact ⟨_, _, _, (rfl)⟩
    · obtain ⟨z5, z6, z7, rfl⟩ := e0
      have s0 := ss n (by omega)
      walk_at "vcg"
      rw [show n + 1 - 1 = n by omega]
      have em : (min (((n + 1 : Nat) : Int)) ((L.length : Int) - 1) + 1 - 1).toNat = min (n + 1) (L.length - 1) := by omega
      rw [em]
      have sx : ∀ j, j ≤ n + 1 → szLe 12000 (sv L n - sumR (fun j => pr L (j + 1) * sv L (n - j)) j) := fun j hj => by
        have a := szLe_sumN (f := fun j => pr L (j + 1) * sv L (n - j)) (k := 480) (m := n + 1) (fun i _ => ((sp (i + 1)).mul (ss (n - i) (by omega))).mono (by omega)) j hj
        have b : j * (480 + 1) ≤ 21 * 481 := Nat.mul_le_mul (by omega) (by omega)
        exact (s0.sub a).mono (by omega)
      refine forW_rng1 (fun j env => ∃ z7 : SD, env = [SD.val (tI L), SD.val (.int s), SD.own ((List.range L.length).map fun i => rt (pr L i)), SD.val (rt (mean L)), SD.own ((List.range (n + 1)).map fun i => rt (sv L i)), SD.val (.int n), SD.val (rt (sv L n - sumR (fun j => pr L (j + 1) * sv L (n - j)) j)), z7]) ?_ (fun j env P_j h_j e0 n_j => ?_) (fun env e0 => ?_)
      · exact ⟨_, (by rw [show sumR (fun j => pr L (j + 1) * sv L (n - j)) 0 = 0 from rfl, rsub0])⟩
      · obtain ⟨z7, rfl⟩ := e0
        have h1 := sx j (by omega)
        have h2 := ss (n - j) (by omega)
        have h3 := sp (j + 1)
        walk_at "vcg"
        rw [show sv L n - sumR (fun j => pr L (j + 1) * sv L (n - j)) j - pr L (j + 1) * sv L (n + 1 - (j + 1)) = sv L n - sumR (fun j => pr L (j + 1) * sv L (n - j)) (j + 1) by
          rw [sumR_succ, show n + 1 - (j + 1) = n - j by omega]
          grind]
        exact n_j _ ⟨_, (rfl)⟩
      · obtain ⟨z7, rfl⟩ := e0
        have h1 := sx (min (n + 1) (L.length - 1)) (by omega)
        have e1 : (sv L n - sumR (fun j => pr L (j + 1) * sv L (n - j)) (min (n + 1) (L.length - 1))) / pr L 0 = sv L (n + 1) := by
          rw [sv_step]
          congr 2
          by_cases hc : n + 1 ≤ L.length - 1
          · rw [Nat.min_eq_left hc]
          · rw [Nat.min_eq_right (by omega)]
            exact (sumR_ext (n := L.length - 1) (m := n + 1) (by omega) fun i hi => by rw [pr_end _ (by omega), Rat.zero_mul]).symm
        walk_at "vcg"
        rw [e1]
        exact n_n _ ⟨_, _, _, (by simp only [List.range_succ, List.map_append, List.map_cons, List.map_nil]; rfl)⟩
    · obtain ⟨z5, z6, z7, rfl⟩ := e0
      walk_at "vcg"
      rw [show s + 1 - 1 = s by omega]
      exact hq
  · rw [decide_eq_false (by have := hm; exact this)]
    unfold rv at hq
    rw [if_neg hm] at hq
    walk_at "vcg"
    by_cases e1 : L.length = 2
    · rw [decide_eq_true (by omega), if_pos rfl]
      walk_at "vcg"
      by_cases e2 : L.getD 0 0 = 0
      · rw [if_pos ⟨e1, e2⟩] at hq
        exact is_dec e2 hq
      · rw [if_neg fun z => e2 z.2] at hq
        exact isnt_dec e2 hq
    · rw [decide_eq_false (by omega), if_neg (by decide)]
      rw [if_neg fun z => e1 z.1] at hq
      exact hq
theorem szLe_tl {m : Int} {L : List Int} (h : ClOk m L) (hm : m ≤ 13) (y : Nat) : szLe 700 (tl L y) := by
  have lm := h.lm
  unfold tl
  have a := szLe_sumN (f := fun i => pr L (y + 1 + i)) (k := 50) (m := L.length - (y + 1)) (fun i _ => szLe_pr h hm _) _ (Nat.le_refl _)
  exact a.mono (by have : (L.length - (y + 1)) * (50 + 1) ≤ 13 * 51 := Nat.mul_le_mul (by omega) (by omega)
                   omega)
theorem pure_deficits_x : ∀ ds Q0 R0, fsx_deficits ds Q0 R0 → w_deficits_x (kdX Q0 R0) (startL 3 ds) := by
  rintro ds Q R ⟨L, rfl, h, h0, h1⟩
  have l1 := h.l1
  have lm := h.lm
  have sm := szLe_mn h (by decide)
  have sp := fun i => szLe_pr h (by decide) i
  have st := fun y => szLe_tl h (by decide) y
  unfold w_deficits_x
  walk_at "vcg"
  by_cases hm : mean L < 1
  · rw [decide_eq_true (by have := hm; exact this)]
    have hp := Rat.ne_of_gt (p0_pos h hm)
    walk_at "vcg"
    refine lcW_rng1 (fun i => rt (tl L (i + 1) / pr L 0)) (fun i P_i h_i n_i => ?_) ?_
    · walk_at "vcg"
      rw [cut_from (k := i + 1 + 1)]
      refine c_law_sum (f := fun j => pr L (i + 1 + 1 + j)) (n := L.length - (i + 1 + 1)) (k := 50) (fun j _ => sp _) (by omega) (by omega) ?_
      rw [show sumR (fun j => pr L (i + 1 + 1 + j)) (L.length - (i + 1 + 1)) = tl L (i + 1) from rfl]
      walk_at "vcg"
      first | exact n_i | (simp only [List.range_succ, List.map_append, List.map_cons, List.map_nil] at n_i; exact n_i)
    walk_at "vcg"
    rw [show ((L.length : Int) - 1).toNat = L.length - 1 by omega]
    exact h1 hm
  · rw [decide_eq_false (by have := hm; exact this)]
    walk_at "vcg"
    exact h0 hm
/-! fractions with a known bottom -/
structure Fq (d B : Int) (x : Rat) : Prop where
  pos : 0 < d
  ex : ∃ z : Int, x * (d : Rat) = (z : Rat) ∧ z.natAbs ≤ (B * d).natAbs
  nn : 0 ≤ B
theorem Fq.szLe {d B : Int} {x : Rat} {k : Nat} (h : Fq d B x) (h1 : d < 2 ^ k) (h2 : B * d < 2 ^ k) : szLe k x := by
  obtain ⟨z, e, hz⟩ := h.ex
  have hd : (d : Rat) ≠ 0 := fun q => by have := Rat.intCast_eq_zero_iff.mp q; have := h.pos; omega
  have e2 : x = (z : Rat) / (d : Rat) := by rw [← e]; grind
  rw [e2]
  have hp := h.pos
  have : 0 ≤ B * d := Int.mul_nonneg h.nn (Int.le_of_lt hp)
  refine szLe_div (by omega) ?_ ?_
  · have : ((z.natAbs : Nat) : Int) < 2 ^ k := by omega
    exact_mod_cast this
  · have : ((d.natAbs : Nat) : Int) < 2 ^ k := by omega
    exact_mod_cast this
theorem Fq.add {d A B : Int} {x y : Rat} (h : Fq d A x) (g : Fq d B y) : Fq d (A + B) (x + y) := by
  obtain ⟨z, e, hz⟩ := h.ex
  obtain ⟨w, f, hw⟩ := g.ex
  have p := h.pos
  refine ⟨p, ⟨z + w, by rw [Rat.intCast_add, ← e, ← f]; grind, ?_⟩, by have := h.nn; have := g.nn; omega⟩
  have a1 : 0 ≤ A * d := Int.mul_nonneg h.nn (Int.le_of_lt p)
  have a2 : 0 ≤ B * d := Int.mul_nonneg g.nn (Int.le_of_lt p)
  rw [Int.add_mul]
  omega
theorem Fq.mul {d c A B : Int} {x y : Rat} (h : Fq d A x) (g : Fq c B y) : Fq (d * c) (A * B) (x * y) := by
  obtain ⟨z, e, hz⟩ := h.ex
  obtain ⟨w, f, hw⟩ := g.ex
  refine ⟨Int.mul_pos h.pos g.pos, ⟨z * w, by rw [Rat.intCast_mul, Rat.intCast_mul, ← e, ← f]; grind, ?_⟩, Int.mul_nonneg h.nn g.nn⟩
  rw [Int.natAbs_mul, show A * B * (d * c) = (A * d) * (B * c) by grind, Int.natAbs_mul]
  exact Nat.mul_le_mul hz hw
theorem Fq.up {d c A : Int} {x : Rat} (h : Fq d A x) (hc : 0 < c) : Fq (d * c) A x := by
  have := h.mul (y := 1) (c := c) (B := 1) ⟨hc, ⟨c, by rw [Rat.one_mul], by rw [Int.one_mul]; exact Nat.le_refl _⟩, by decide⟩
  rwa [Int.mul_one, Rat.mul_one] at this
theorem Fq.mono {d A B : Int} {x : Rat} (h : Fq d A x) (hB : A ≤ B) : Fq d B x := by
  obtain ⟨z, e, hz⟩ := h.ex
  refine ⟨h.pos, ⟨z, e, Nat.le_trans hz ?_⟩, by have := h.nn; omega⟩
  have a1 : 0 ≤ A * d := Int.mul_nonneg h.nn (Int.le_of_lt h.pos)
  have a2 : A * d ≤ B * d := Int.mul_le_mul_of_nonneg_right hB (Int.le_of_lt h.pos)
  omega
theorem Fq.to {d c A : Int} {x : Rat} (h : Fq d A x) (e : d = c) : Fq c A x := e ▸ h
theorem Fq.int {i B : Int} (h : -B ≤ i ∧ i ≤ B) : Fq 1 B (i : Rat) := ⟨by decide, ⟨i, Rat.mul_one _, by omega⟩, by omega⟩
theorem Fq.zero {d : Int} (h : 0 < d) : Fq d 0 0 := ⟨h, ⟨0, Rat.zero_mul _, Nat.zero_le _⟩, Int.le_refl _⟩
theorem Fq.sum {d B : Int} {f : Nat → Rat} (hd : 0 < d) : ∀ n : Nat, (∀ i, i < n → Fq d B (f i)) → Fq d (n * B) (sumR f n)
  | 0, _ => by
    show Fq d (((0 : Nat) : Int) * B) 0
    rw [show ((0 : Nat) : Int) * B = 0 from Int.zero_mul _]; exact Fq.zero hd
  | n + 1, h => by
    have := (Fq.sum hd n fun i hi => h i (by omega)).add (h n (by omega))
    rw [sumR_succ, show ((n + 1 : Nat) : Int) * B = n * B + B by rw [Int.natCast_add, Int.add_mul, show ((1 : Nat) : Int) = 1 from rfl, Int.one_mul]]
    exact this
def vq (r : Rat) : Int := r.num + r.den
theorem vq_pos {r : Rat} (h : RateOk r) : 0 < vq r := by
  have := h.2.2
  unfold vq; omega
theorem vq_le {r : Rat} (h : RateOk r) : vq r ≤ 2000 := by
  have := h.1
  have := h.2.1
  unfold vq; omega
theorem Fq_vv {r : Rat} (h : RateOk r) : Fq (vq r) 1000 (vv r) := by
  have p := vq_pos h
  refine ⟨p, ⟨r.den, ?_, ?_⟩, by decide⟩
  · have e := rate_pos h
    have d0 : ((r.den : Int) : Rat) ≠ 0 := fun z => by have := Rat.intCast_eq_zero_iff.mp z; have := r.den_pos; omega
    have e2 : ((vq r : Int) : Rat) = (1 + r) * ((r.den : Int) : Rat) := by
      unfold vq
      rw [Rat.intCast_add]
      have : ((r.num : Int) : Rat) = r * ((r.den : Int) : Rat) := by have := rat_num_den r; generalize ((r.num : Int) : Rat) = x at *; generalize ((r.den : Int) : Rat) = y at *; grind
      rw [this]; grind
    rw [e2]
    unfold vv
    have n0 : (1 + r) ≠ 0 := fun z => by rw [z] at e; exact absurd e (by decide)
    grind
  · have := h.2.1
    omega
local macro_rules | `(tactic| walk_at "vcg1") => `(tactic| simp only [wDGet2, wDIx, wDIn, wDNotIn, wDLen, wDKeys, wDVals, wD0, wD1, wDQ, wSetD, wMovD, wDPut, wForD, wmDic, wDisD, dcS, onDic, kOf, unD_dD])
/-- one year: what is left after it -/
def TF (L : List Int) (F : Int → Rat) (s : Int) (K : Nat) : Rat := sumR (fun k => if (k : Int) ≤ s + 1 then pr L k * F (s + 1 - k) else 0) K
/-- the chance not to be ruined within n years -/
def sn (L : List Int) : Nat → Int → Rat
  | 0 => fun _ => 1
  | n + 1 => fun s => TF L (sn L n) s L.length
def fs_ruin_within : FS := fun ds Q => ∃ (L : List Int) (s n : Nat), ds = [tI L, .int s, .int n] ∧ (ClOk 13 L) ∧ (s ≤ 20) ∧ (n ≤ 12) ∧ Q (rt (1 - sn L n s))
theorem c_ruin_within {L : List Int} {s n : Nat} {Q : D → Prop} (h0 : ClOk 13 L) (h1 : s ≤ 20) (h2 : n ≤ 12) (qq_ : Q (rt (1 - sn L n s))) : fs_ruin_within [tI L, .int s, .int n] Q := ⟨L, s, n, rfl, h0, h1, h2, qq_⟩
local macro_rules | `(tactic| walk_at "vcg1") => `(tactic| with_reducible refine c_ruin_within (by walk_at "sdt") (by walk_at "sdt") (by walk_at "sdt") ?_)
/-- always behind -/
def ab (L : List Int) (n : Nat) : Rat := sumR (fun k => pw L n k * (((n : Int) - (k : Int) : Int) / ((n : Int) : Rat))) (min n (tn L n))
def fs_always_behind : FS := fun ds Q => ∃ (L : List Int) (n : Nat), ds = [tI L, .int n] ∧ (ClOk 13 L) ∧ (1 ≤ n) ∧ (n ≤ 8) ∧ Q (rt (ab L n))
theorem c_always_behind {L : List Int} {n : Nat} {Q : D → Prop} (h0 : ClOk 13 L) (h1 : 1 ≤ n) (h2 : n ≤ 8) (qq_ : Q (rt (ab L n))) : fs_always_behind [tI L, .int n] Q := ⟨L, n, rfl, h0, h1, h2, qq_⟩
local macro_rules | `(tactic| walk_at "vcg1") => `(tactic| with_reducible refine c_always_behind (by walk_at "sdt") (by walk_at "sdt") (by walk_at "sdt") ?_)
def N_ruin_within : List Str := ["claims", "start", "years", "chances", "here", "turn", "later", "surplus", "k", "chance", "goal"]
def w_ruin_within_i1 : WS :=
 (wIfS (wTst (wBin (dCmp fun i j => decide (j ≤ i)) (wBin dSub (wBin dPlus (wVar 7) (wC (.int 1))) (wVar 8)) (wC (.int 0)))) (wSeq (wSet 10 (wBin dSub (wBin dPlus (wVar 7) (wC (.int 1))) (wVar 8)))
 (wDPut 6 (wVar 10) (wFn (fun ds Q => ds.length = 2 ∧ fs_plus ds Q) (wCons (wDGet2 6 (wVar 10) (wTup (wCons (wC (.int 0)) (wCons (wC (.int 1)) wNil)))) (wCons (wFn (fun ds Q => ds.length = 2 ∧ fs_by ds Q) (wCons (wDIx 4 (wVar 7)) (wCons (wVar 9) wNil))) wNil))))) wNext)
def w_ruin_within : WS :=
 (wSeq (wDrop (wFn (fun ds Q => ds.length = 2 ∧ fs_need_claims ds Q) (wCons (wVar 0) (wCons (wC (.int 13)) wNil))))
 (wSeq (wDrop (wFn (fun ds Q => ds.length = 3 ∧ fs_need_time ds Q) (wCons (wVar 1) (wCons (wC (.int 0)) (wCons (wC (.int 20)) wNil)))))
 (wSeq (wDrop (wFn (fun ds Q => ds.length = 3 ∧ fs_need_time ds Q) (wCons (wVar 2) (wCons (wC (.int 0)) (wCons (wC (.int 12)) wNil)))))
 (wSeq (wAft 3 (wPar [3, 4] (wmOwn (wFnN 1 fs_chances_of (wCons (wVar 0) wNil)) (wmDic (wD1 (wVar 1) (wTup (wCons (wC (.int 1)) (wCons (wC (.int 1)) wNil)))) wmNil))))
 (wSeq (wFor (wFnL fRng1 (wCons (wVar 2) wNil)) (wgN 5) (wSeq (wSetD 6 wD0)
 (wSeq (wForD 4 (wgN 7) (wFor (wEnum (wVarS 3)) (wgTup 2 (wgCons (wgN 8) (wgCons (wgN 9) wgNil))) w_ruin_within_i1))
 (wMovD 4 6))))
 (wRet (wFn (fun ds Q => ds.length = 2 ∧ fs_minus ds Q) (wCons (wTup (wCons (wC (.int 1)) (wCons (wC (.int 1)) wNil))) (wCons (wFn (fun ds Q => ds.length = 1 ∧ fs_total ds Q) (wCons (wDe (wDVals 4)) wNil)) wNil)))))))))
def N_always_behind : List Str := ["claims", "years", "found", "amount", "chance"]
def w_always_behind : WS :=
 (wSeq (wDrop (wFn (fun ds Q => ds.length = 2 ∧ fs_need_claims ds Q) (wCons (wVar 0) (wCons (wC (.int 13)) wNil))))
 (wSeq (wDrop (wFn (fun ds Q => ds.length = 3 ∧ fs_need_time ds Q) (wCons (wVar 1) (wCons (wC (.int 1)) (wCons (wC (.int 12)) wNil)))))
 (wSeq (wSet 2 (wTup (wCons (wC (.int 0)) (wCons (wC (.int 1)) wNil))))
 (wSeq (wFor (wEnum (wSlN (wDe (wFnN 2 fs_sums_of (wCons (wVar 0) (wCons (wVar 1) wNil)))) wNoP (wPart (wVar 1)))) (wgTup 2 (wgCons (wgN 3) (wgCons (wgN 4) wgNil))) (wSet 2 (wFn (fun ds Q => ds.length = 2 ∧ fs_plus ds Q) (wCons (wVar 2) (wCons (wFn (fun ds Q => ds.length = 2 ∧ fs_by ds Q) (wCons (wVar 4) (wCons (wFn (fun ds Q => ds.length = 2 ∧ fs_ratio ds Q) (wCons (wBin dSub (wVar 1) (wVar 3)) (wCons (wVar 1) wNil))) wNil))) wNil)))))
 (wRet (wVar 2))))))
/-! sums over lists; comprehensions that keep some -/
def lz {α : Type} (g : α → Rat) : List α → Rat
  | [] => 0
  | a :: l => g a + lz g l
theorem lz_append {α : Type} (g : α → Rat) : ∀ l m, lz g (l ++ m) = lz g l + lz g m
  | [], m => by show lz g m = 0 + lz g m; rw [Rat.zero_add]
  | a :: l, m => by show g a + lz g (l ++ m) = g a + lz g l + lz g m; rw [lz_append g l m, Rat.add_assoc]
theorem lz_map {α β : Type} (g : β → Rat) (f : α → β) : ∀ l, lz g (l.map f) = lz (fun a => g (f a)) l
  | [] => rfl
  | a :: l => by show g (f a) + lz g (l.map f) = _; rw [lz_map g f l]; rfl
theorem lz_flatMap {α β : Type} (g : β → Rat) (f : α → List β) : ∀ l, lz g (l.flatMap f) = lz (fun a => lz g (f a)) l
  | [] => rfl
  | a :: l => by rw [List.flatMap_cons, lz_append, lz_flatMap g f l]; rfl
theorem lz_congr {α : Type} {f g : α → Rat} : ∀ {l : List α}, (∀ s ∈ l, f s = g s) → lz f l = lz g l
  | [], _ => rfl
  | s :: l, h => by
    show f s + lz f l = g s + lz g l
    rw [h s (by simp), lz_congr fun t ht => h t (by simp [ht])]
theorem lz_range (g : Nat → Rat) : ∀ N, lz g (List.range N) = sumR g N
  | 0 => rfl
  | N + 1 => by
    rw [List.range_succ, lz_append, lz_range g N, sumR_succ]
    show _ + (g N + 0) = _
    rw [Rat.add_zero]
theorem lz_mul {α : Type} (f : α → Rat) (c : Rat) : ∀ l, lz (fun s => f s * c) l = lz f l * c
  | [] => by show (0 : Rat) = 0 * c; rw [Rat.zero_mul]
  | s :: l => by show f s * c + lz _ l = (f s + lz f l) * c; rw [lz_mul f c l, Rat.add_mul]
theorem lz_add {α : Type} (f g : α → Rat) : ∀ l, lz (fun s => f s + g s) l = lz f l + lz g l
  | [] => by show (0 : Rat) = 0 + 0; rw [Rat.add_zero]
  | s :: l => by show f s + g s + lz _ l = f s + lz f l + (g s + lz g l); rw [lz_add f g l]; grind
theorem lz_zero {α : Type} : ∀ l : List α, lz (fun _ => (0 : Rat)) l = 0
  | [] => rfl
  | s :: l => by show 0 + lz _ l = 0; rw [lz_zero l, Rat.zero_add]
theorem lz_sumR {α : Type} (f : Nat → α → Rat) (l : List α) : ∀ n, sumR (fun j => lz (f j) l) n = lz (fun s => sumR (fun j => f j s) n) l
  | 0 => (lz_zero l).symm
  | n + 1 => by
    rw [sumR_succ, lz_sumR f l n, ← lz_add]
    exact lz_congr fun s _ => rfl
theorem lz_filter {α : Type} (g : α → Rat) (p : α → Bool) : ∀ l : List α, lz g (l.filter p) = lz (fun a => if p a = true then g a else 0) l
  | [] => rfl
  | a :: l => by
    rw [List.filter_cons]
    by_cases c : p a = true
    · rw [if_pos c]
      show g a + lz g (l.filter p) = (if p a = true then g a else 0) + _
      rw [if_pos c, lz_filter g p l]
    · rw [if_neg c]
      show lz g (l.filter p) = (if p a = true then g a else 0) + _
      rw [if_neg c, Rat.zero_add, lz_filter g p l]
theorem lz_nn {α : Type} {g : α → Rat} : ∀ {l : List α}, (∀ a ∈ l, 0 ≤ g a) → 0 ≤ lz g l
  | [], _ => by show (0 : Rat) ≤ 0; exact Rat.le_refl
  | a :: l, h => by
    have h1 := h a (by simp)
    have h2 := lz_nn (l := l) fun b hb => h b (List.mem_cons_of_mem _ hb)
    show 0 ≤ g a + lz g l
    grind
theorem lz_le {α : Type} {f g : α → Rat} : ∀ {l : List α}, (∀ a ∈ l, f a ≤ g a) → lz f l ≤ lz g l
  | [], _ => by show (0 : Rat) ≤ 0; exact Rat.le_refl
  | a :: l, h => by
    have h1 := h a (by simp)
    have h2 := lz_le (l := l) fun b hb => h b (List.mem_cons_of_mem _ hb)
    show f a + lz f l ≤ g a + lz g l
    grind
theorem lz_list {α : Type} (f : α → Rat) : ∀ l : List α, (l.map f).sum = lz f l
  | [] => rfl
  | a :: l => by rw [List.map_cons, List.sum_cons, lz_list f l]; rfl
theorem szSum_map {α : Type} {f : α → Rat} {k : Nat} (hk : 1 ≤ k) : ∀ l : List α, (∀ a ∈ l, szLe k (f a)) → szSum (l.map f) ≤ l.length * (k + 1)
  | [], _ => by simp [szSum]
  | a :: l, h => by
    have ih := szSum_map hk l fun b hb => h b (by simp [hb])
    have h1 := sz_le (h a (by simp)) hk
    have e : szSum ((a :: l).map f) = sz (f a) + 1 + szSum (l.map f) := by unfold szSum; simp
    rw [e, List.length_cons, Nat.succ_mul]
    omega
theorem c_lsum {α : Type} {l : List α} {f : α → Rat} {k : Nat} {Q : D → Prop} (h : ∀ a ∈ l, szLe k (f a)) (hk : 1 ≤ k) (hn : l.length * (k + 1) ≤ 30000000) (q : Q (rt (lz f l))) : fs_law_sum [.list (l.map fun a => rt (f a))] Q :=
  ⟨l.map f, .inl (by rw [List.map_map]; rfl), Nat.le_trans (szSum_map hk l h) hn, by rw [lz_list]; exact q⟩
theorem szLe_lz {α : Type} {f : α → Rat} {k : Nat} (hk : 1 ≤ k) {l : List α} (h : ∀ a ∈ l, szLe k (f a)) : szLe (l.length * (k + 1) + 1) (lz f l) := by
  rw [← lz_list]
  exact (szLe_sum _).mono (by have := szSum_map hk l h; omega)
theorem lcW_fl {α : Type} {g : α → D} {wg : WG} {wt : WT} {we : WE} {env : SDs} {Q : List D → Prop} {L : List α} (p : α → Bool) (f : α → D)
    (h : ∀ r, r ∈ L → ∀ (acc : List D) (P : List D → Prop), acc.length ≤ L.length → (if p r = true then P (acc ++ [f r]) else P acc) → wg (g r) env fun env' => wt env' fun c => if c = true then we env' fun y => (acc.length < 16777216 ∧ flat y = true) ∧ P (acc ++ [y]) else P acc)
    (hend : Q ((L.filter p).map f)) : lcW wg wt we env Q (L.map g) [] :=
  lcW_idx (fun i acc => acc = ((L.take i).filter p).map f) (by rw [List.take_zero]; rfl) (fun i d acc P hd ha hP => by
    subst ha
    rw [List.getElem?_map] at hd
    obtain ⟨r, hr, rfl⟩ := Option.map_eq_some_iff.mp hd
    have hi : i < L.length := (List.getElem?_eq_some_iff.mp hr).1
    refine h r (List.mem_of_getElem? hr) _ P (by
      rw [List.length_map]
      have a := List.length_filter_le p (L.take i)
      rw [List.length_take] at a
      omega) ?_
    have eT : L.take (i + 1) = L.take i ++ [r] := by rw [List.take_succ, hr]; rfl
    by_cases c : p r = true
    · rw [if_pos c]
      refine hP _ ?_
      rw [eT, List.filter_append, List.map_append]
      congr 1
      simp [c]
    · rw [if_neg c]
      refine hP _ ?_
      rw [eT, List.filter_append, List.map_append]
      simp [c]) fun acc ha => by rw [ha, List.length_map, List.take_length]; exact hend
/-! how often a number stands in a list -/
def cq (s : List Nat) (v : Nat) : Nat → Nat
  | 0 => 0
  | i + 1 => cq s v i + if s.getD i 0 = v then 1 else 0
theorem cq_filter (s : List Nat) (v : Nat) : ∀ i, i ≤ s.length → ((s.take i).filter fun x => decide (x = v)).length = cq s v i
  | 0, _ => by rw [List.take_zero]; rfl
  | i + 1, h => by
    have e : s.take (i + 1) = s.take i ++ [s.getD i 0] := by
      rw [List.take_succ, List.getElem?_eq_getElem (by omega), List.getD_eq_getElem?_getD, List.getElem?_eq_getElem (by omega)]; rfl
    rw [e, List.filter_append, List.length_append, cq_filter s v i (by omega)]
    show _ = cq s v i + if s.getD i 0 = v then 1 else 0
    congr 1
    by_cases c : s.getD i 0 = v
    · rw [if_pos c, List.filter_cons, if_pos (by simpa using c)]; rfl
    · rw [if_neg c, List.filter_cons, if_neg (by simpa using c)]; rfl
theorem cq_0 {s : List Nat} {v : Nat} : ∀ {n}, cq s v n = 0 → ∀ i, i < n → s.getD i 0 ≠ v
  | n + 1, h, i, hi => by
    unfold cq at h
    by_cases e : i = n
    · subst e
      intro z
      rw [if_pos z] at h
      omega
    · exact cq_0 (n := n) (by omega) i (by omega)
theorem cq_1 {s : List Nat} {v : Nat} : ∀ {n}, cq s v n = 1 → ∃ k, k < n ∧ s.getD k 0 = v ∧ ∀ i, i < n → i ≠ k → s.getD i 0 ≠ v
  | n + 1, h => by
    unfold cq at h
    by_cases e : s.getD n 0 = v
    · rw [if_pos e] at h
      refine ⟨n, by omega, e, fun i hi hn => cq_0 (n := n) (by omega) i (by omega)⟩
    · rw [if_neg e] at h
      obtain ⟨k, k1, k2, k3⟩ := cq_1 (n := n) (by omega)
      refine ⟨k, by omega, k2, fun i hi hn => ?_⟩
      by_cases e2 : i = n
      · subst e2; exact e
      · exact k3 i (by omega) hn
theorem cq_ge {s : List Nat} {v : Nat} : ∀ {n}, 1 ≤ cq s v n → ∃ i, i < n ∧ s.getD i 0 = v
  | n + 1, h => by
    unfold cq at h
    by_cases e : s.getD n 0 = v
    · exact ⟨n, by omega, e⟩
    · rw [if_neg e] at h
      obtain ⟨i, h1, h2⟩ := cq_ge (n := n) (by omega)
      exact ⟨i, by omega, h2⟩
theorem cq_2 {s : List Nat} {v : Nat} : ∀ {n}, 2 ≤ cq s v n → ∃ i j, i < j ∧ j < n ∧ s.getD i 0 = v ∧ s.getD j 0 = v
  | n + 1, h => by
    unfold cq at h
    by_cases e : s.getD n 0 = v
    · rw [if_pos e] at h
      obtain ⟨i, h1, h2⟩ := cq_ge (s := s) (v := v) (n := n) (by omega)
      exact ⟨i, n, h1, by omega, h2, e⟩
    · rw [if_neg e] at h
      obtain ⟨i, j, h1, h2, h3, h4⟩ := cq_2 (n := n) (by omega)
      exact ⟨i, j, h1, by omega, h3, h4⟩
theorem cq_pos {s : List Nat} {v : Nat} : ∀ {n i}, i < n → s.getD i 0 = v → 1 ≤ cq s v n
  | n + 1, i, h, e => by
    unfold cq
    by_cases c : i = n
    · subst c; rw [if_pos e]; omega
    · have := cq_pos (n := n) (i := i) (by omega) e
      omega
/-- the least of a list -/
def mnl : List Nat → Nat
  | [] => 0
  | [a] => a
  | a :: b :: l => min a (mnl (b :: l))
theorem mnl_mem : ∀ {s : List Nat}, s ≠ [] → mnl s ∈ s
  | [a], _ => by simp [mnl]
  | a :: b :: l, _ => by
    have ih := mnl_mem (s := b :: l) (by simp)
    unfold mnl
    by_cases c : a ≤ mnl (b :: l)
    · rw [Nat.min_eq_left c]; simp
    · rw [Nat.min_eq_right (by omega)]; exact List.mem_cons_of_mem _ ih
theorem mnl_le : ∀ {s : List Nat} {x}, x ∈ s → mnl s ≤ x
  | [a], x, h => by simp at h; subst h; exact Nat.le_refl _
  | a :: b :: l, x, h => by
    unfold mnl
    rcases List.mem_cons.mp h with rfl | h
    · exact Nat.min_le_left _ _
    · exact Nat.le_trans (Nat.min_le_right _ _) (mnl_le h)
theorem getD_mem {s : List Nat} {i : Nat} (h : i < s.length) : s.getD i 0 ∈ s := by
  rw [List.getD_eq_getElem?_getD, List.getElem?_eq_getElem h]
  exact List.getElem_mem h
theorem rngD_01 (n : Nat) : rngD 0 1 n = (List.range n).map fun i => PyData.int ((i : Nat) : Int) := by
  unfold rngD
  refine List.map_congr_left fun i _ => ?_
  rw [Int.zero_add, Int.mul_one]
theorem lcW_flR {wg : WG} {wt : WT} {we : WE} {env : SDs} {Q : List D → Prop} {n : Nat} (p : Nat → Bool) (f : Nat → D)
    (h : ∀ i, i < n → ∀ (acc : List D) (P : List D → Prop), acc.length ≤ n → (if p i = true then P (acc ++ [f i]) else P acc) → wg (.int ((i : Nat) : Int)) env fun env' => wt env' fun c => if c = true then we env' fun y => (acc.length < 16777216 ∧ flat y = true) ∧ P (acc ++ [y]) else P acc)
    (hend : Q (((List.range n).filter p).map f)) : lcW wg wt we env Q (rngD 0 1 n) [] := by
  rw [rngD_01]
  exact lcW_fl p f (fun i hi acc P ha hP => h i (List.mem_range.mp hi) acc P (by rw [List.length_range] at ha; exact ha) hP) hend
theorem all_intsP : ∀ ns : List Int, (ns.map PyData.int).all (plainD 9) = true
  | [] => rfl
  | n :: ns => by
    show (plainD 9 (.int n) && (ns.map PyData.int).all (plainD 9)) = true
    rw [all_intsP ns]; rfl
theorem dEq_nil {ns : List Int} {Q : D → Prop} (hl : ns.length < 16777216) (q : Q (.bool (decide (ns = [])))) : dEq (.list (ns.map PyData.int)) (.list []) Q := by
  refine ⟨shaped_plain ?_, rfl, ?_⟩
  · show ((ns.map PyData.int).all (plainD 9) && decide ((ns.map PyData.int).length < 16777216)) = true
    rw [all_intsP, List.length_map, decide_eq_true hl]; rfl
  · rw [show PyData.eqv (.list (ns.map PyData.int)) (.list []) = decide (ns = []) by cases ns <;> simp [PyData.eqv, PyData.eqvAll]]
    exact q
theorem c_atS2 {p : List Nat} {i : Nat} {Q : D → Prop} (h : i < p.length) (q : Q (.int ((p.getD i 0 : Nat) : Int))) : onSome (atI (p.map fun k => PyData.int ((k : Nat) : Int)) (i : Int)) Q := by
  have : (p.map fun k => PyData.int ((k : Nat) : Int)) = (List.range p.length).map fun i => .int ((p.getD i 0 : Nat) : Int) := list_fn (fun k : Nat => PyData.int ((k : Nat) : Int)) p 0
  rw [this]
  exact c_at i rfl h q
/-! dicts of ratios by ints -/
abbrev QL := List (Int × Rat)
def dq (qs : QL) : List (Key × D) := qs.map fun p => (Sum.inl p.1, rt p.2)
def gQ : QL → Int → Rat
  | [], _ => 0
  | p :: r, z => if p.1 = z then p.2 else gQ r z
def putQ : QL → Int → Rat → QL
  | [], z, x => [(z, x)]
  | p :: r, z, x => if p.1 = z then (p.1, x) :: r else p :: putQ r z x
def NdQ (qs : QL) : Prop := (qs.map (·.1)).Nodup
theorem inl_iff {a b : Int} : ((Sum.inl a : Key) = .inl b) ↔ a = b := ⟨fun h => by injection h, fun h => by rw [h]⟩
theorem lkD_cons (p : Key × D) (ps : List (Key × D)) (k : Key) : lkD (p :: ps) k = if p.1 = k then some p.2 else lkD ps k := by
  unfold lkD
  rw [List.find?_cons]
  by_cases e : p.1 = k
  · rw [if_pos e, decide_eq_true e]; rfl
  · rw [if_neg e, decide_eq_false e]
theorem lkD_get : ∀ (qs : QL) (z : Int), (lkD (dq qs) (.inl z)).getD (rt 0) = rt (gQ qs z)
  | [], z => rfl
  | p :: r, z => by
    show (lkD ((.inl p.1, rt p.2) :: dq r) (.inl z)).getD (rt 0) = rt (if p.1 = z then p.2 else gQ r z)
    rw [lkD_cons]
    by_cases e : p.1 = z
    · rw [if_pos (show ((Sum.inl p.1 : Key) = .inl z) from inl_iff.mpr e), if_pos e]; rfl
    · rw [if_neg (fun h => e (inl_iff.mp h)), if_neg e]
      exact lkD_get r z
theorem lkD_mem : ∀ {qs : QL} {z : Int} {x : Rat}, NdQ qs → (z, x) ∈ qs → lkD (dq qs) (.inl z) = some (rt x)
  | p :: r, z, x, hn, h => by
    show lkD ((.inl p.1, rt p.2) :: dq r) (.inl z) = some (rt x)
    rw [lkD_cons]
    have hn2 := List.nodup_cons.mp (show ((p :: r).map (·.1)).Nodup from hn)
    rcases List.mem_cons.mp h with e | e
    · rw [← e, if_pos rfl]
    · rw [if_neg (fun y => hn2.1 (by show p.1 ∈ _; rw [inl_iff.mp y]; exact List.mem_map.mpr ⟨_, e, rfl⟩))]
      exact lkD_mem hn2.2 e
theorem keys_put (z : Int) (x : Rat) : ∀ (qs : QL) (k : Int), k ∈ (putQ qs z x).map (·.1) ↔ k ∈ qs.map (·.1) ∨ k = z
  | [], k => by simp [putQ]
  | p :: r, k => by
    unfold putQ
    by_cases e : p.1 = z
    · rw [if_pos e]
      simp only [List.map_cons, List.mem_cons]
      constructor
      · rintro (h | h)
        · exact .inl (.inl h)
        · exact .inl (.inr h)
      · rintro ((h | h) | h)
        · exact .inl h
        · exact .inr h
        · exact .inl (h.trans e.symm)
    · rw [if_neg e]
      simp only [List.map_cons, List.mem_cons]
      rw [keys_put z x r k, or_assoc]
theorem NdQ.put {z : Int} {x : Rat} : ∀ {qs : QL}, NdQ qs → NdQ (putQ qs z x)
  | [], _ => by simp [NdQ, putQ]
  | p :: r, h => by
    have h2 := List.nodup_cons.mp (show ((p :: r).map (·.1)).Nodup from h)
    unfold putQ
    by_cases e : p.1 = z
    · rw [if_pos e]; exact h
    · rw [if_neg e]
      refine List.nodup_cons.mpr ⟨fun q => ?_, NdQ.put (qs := r) h2.2⟩
      rcases (keys_put z x r p.1).mp q with q | q
      · exact h2.1 q
      · exact e q
theorem put_all {P : Int → Rat → Prop} {z : Int} {x : Rat} (hx : P z x) : ∀ {qs : QL}, (∀ p ∈ qs, P p.1 p.2) → ∀ p ∈ putQ qs z x, P p.1 p.2
  | [], _, p, hp => by
    have : p = (z, x) := by simpa [putQ] using hp
    rw [this]; exact hx
  | q :: r, h, p, hp => by
    unfold putQ at hp
    by_cases e : q.1 = z
    · rw [if_pos e] at hp
      rcases List.mem_cons.mp hp with y | y
      · rw [y]; show P q.1 x; rw [e]; exact hx
      · exact h p (List.mem_cons_of_mem _ y)
    · rw [if_neg e] at hp
      rcases List.mem_cons.mp hp with y | y
      · rw [y]; exact h q List.mem_cons_self
      · exact put_all hx (fun p hp => h p (List.mem_cons_of_mem _ hp)) p y
theorem map_id_of {z : Int} {d : D} : ∀ {qs : QL}, z ∉ qs.map (·.1) → (dq qs).map (fun p => if p.1 = Sum.inl z then (p.1, d) else p) = dq qs
  | [], _ => rfl
  | p :: r, h => by
    show (if (Sum.inl p.1 : Key) = .inl z then _ else _) :: (dq r).map _ = _ :: dq r
    rw [if_neg (fun y => h (by rw [← inl_iff.mp y]; simp)), map_id_of fun y => h (List.mem_cons_of_mem _ y)]
theorem putD_cons (p : Key × D) (ps : List (Key × D)) (k : Key) (d : D) : putD (p :: ps) k d = if p.1 = k then (p.1, d) :: ps.map (fun p => if p.1 = k then (p.1, d) else p) else p :: putD ps k d := by
  unfold putD
  rw [List.any_cons]
  by_cases e : p.1 = k
  · rw [if_pos e, decide_eq_true e, Bool.true_or, if_pos rfl, List.map_cons, if_pos e]
  · rw [if_neg e, decide_eq_false e, Bool.false_or]
    split
    · rw [List.map_cons, if_neg e]
    · rfl
theorem putD_dq {z : Int} {x : Rat} : ∀ {qs : QL}, NdQ qs → putD (dq qs) (.inl z) (rt x) = dq (putQ qs z x)
  | [], _ => rfl
  | p :: r, h => by
    have h2 := List.nodup_cons.mp (show ((p :: r).map (·.1)).Nodup from h)
    show putD ((.inl p.1, rt p.2) :: dq r) (.inl z) (rt x) = dq (if p.1 = z then (p.1, x) :: r else p :: putQ r z x)
    rw [putD_cons]
    by_cases e : p.1 = z
    · rw [if_pos (show ((Sum.inl p.1 : Key) = .inl z) from inl_iff.mpr e), if_pos e, map_id_of (by rw [← e]; exact h2.1)]; rfl
    · rw [if_neg (fun h => e (inl_iff.mp h)), if_neg e, putD_dq h2.2]; rfl
theorem lz_put {F : Int → Rat} {z : Int} {y : Rat} : ∀ qs : QL, lz (fun p => p.2 * F p.1) (putQ qs z (gQ qs z + y)) = lz (fun p => p.2 * F p.1) qs + y * F z
  | [] => by
    show (0 + y) * F z + 0 = 0 + y * F z
    grind
  | p :: r => by
    unfold putQ gQ
    by_cases e : p.1 = z
    · rw [if_pos e, if_pos e]
      show (p.2 + y) * F p.1 + lz _ r = p.2 * F p.1 + lz _ r + y * F z
      rw [e]; grind
    · rw [if_neg e, if_neg e]
      show p.2 * F p.1 + lz (fun p => p.2 * F p.1) (putQ r z (gQ r z + y)) = p.2 * F p.1 + lz _ r + y * F z
      rw [lz_put r]; grind
theorem nd_len : ∀ (n : Nat) (l : List Int), l.Nodup → (∀ x ∈ l, 0 ≤ x ∧ x < n) → l.length ≤ n
  | 0, l, _, h => by
    cases l with
    | nil => exact Nat.le_refl _
    | cons x l => have := h x List.mem_cons_self; omega
  | n + 1, l, hd, h => by
    by_cases e : (n : Int) ∈ l
    · have h1 := List.length_erase_of_mem e
      have h2 := List.length_pos_of_mem e
      have := nd_len n (l.erase n) (hd.erase _) fun x hx => by
        have h3 := (List.Nodup.mem_erase_iff hd).mp hx
        have := h x h3.2
        have := h3.1
        omega
      omega
    · have := nd_len n l hd fun x hx => by
        have := h x hx
        have : x ≠ n := fun z => e (z ▸ hx)
        omega
      omega
theorem gQ_in {P : Rat → Prop} {z : Int} (h0 : P 0) : ∀ {qs : QL}, (∀ p ∈ qs, P p.2) → P (gQ qs z)
  | [], _ => h0
  | p :: r, h => by
    unfold gQ
    split
    · exact h p List.mem_cons_self
    · exact gQ_in h0 fun p hp => h p (List.mem_cons_of_mem _ hp)
theorem lz_ge {α : Type} {g : α → Rat} : ∀ {l : List α} {a : α}, (∀ a ∈ l, 0 ≤ g a) → a ∈ l → g a ≤ lz g l
  | b :: l, a, h, ha => by
    show g a ≤ g b + lz g l
    have hb := h b List.mem_cons_self
    have hl := lz_nn fun a ha => h a (List.mem_cons_of_mem b ha)
    rcases List.mem_cons.mp ha with e | e
    · rw [e]; grind
    · have := lz_ge (fun a ha => h a (List.mem_cons_of_mem b ha)) e; grind
/-! one year -/
theorem TF_le {m : Int} {L : List Int} (h : ClOk m L) {F G : Int → Rat} (hf : ∀ s, F s ≤ G s) (s : Int) (n : Nat) : TF L F s n ≤ TF L G s n := sumR_le n fun i _ => by
  show (if (i : Int) ≤ s + 1 then pr L i * F (s + 1 - i) else 0) ≤ if (i : Int) ≤ s + 1 then pr L i * G (s + 1 - i) else 0
  split
  · have := pr_ge h i
    have := hf (s + 1 - i)
    exact Rat.mul_le_mul_of_nonneg_left this ‹_›
  · exact Rat.le_refl
theorem TF_nn {m : Int} {L : List Int} (h : ClOk m L) {F : Int → Rat} (hf : ∀ s, 0 ≤ F s) (s : Int) (n : Nat) : 0 ≤ TF L F s n := sumR_nn0 fun i _ => by
  show 0 ≤ if (i : Int) ≤ s + 1 then pr L i * F (s + 1 - i) else 0
  split
  · exact Rat.mul_nonneg (pr_ge h i) (hf _)
  · exact Rat.le_refl
theorem pr_sum_le {m : Int} {L : List Int} (h : ClOk m L) {n : Nat} (hn : n ≤ L.length) : sumR (pr L) n ≤ 1 := by
  have e := sumR_add (pr L) n (L.length - n)
  rw [show n + (L.length - n) = L.length by omega, one_pr h] at e
  have := sumR_nn0 (f := fun k => pr L (n + k)) (n := L.length - n) fun i _ => pr_ge h _
  grind
theorem TF_1 {m : Int} {L : List Int} (h : ClOk m L) (s : Int) {n : Nat} (hn : n ≤ L.length) : TF L (fun _ => 1) s n ≤ 1 := Rat.le_trans (sumR_le n fun i _ => by
  show (if (i : Int) ≤ s + 1 then pr L i * 1 else 0) ≤ pr L i
  split
  · rw [Rat.mul_one]; exact Rat.le_refl
  · exact pr_ge h i) (pr_sum_le h hn)
theorem sn_in {m : Int} {L : List Int} (h : ClOk m L) : ∀ n s, 0 ≤ sn L n s ∧ sn L n s ≤ 1
  | 0, s => ⟨by show (0 : Rat) ≤ 1; decide, Rat.le_refl⟩
  | n + 1, s => ⟨TF_nn h (fun s => (sn_in h n s).1) s _, Rat.le_trans (TF_le h (fun s => (sn_in h n s).2) s _) (TF_1 h s (Nat.le_refl _))⟩
/-- years behind each other -/
def itT (L : List Int) : Nat → (Int → Rat) → Int → Rat
  | 0, F => F
  | t + 1, F => itT L t (fun s => TF L F s L.length)
theorem itT_sn (L : List Int) : ∀ t j, itT L t (sn L j) = sn L (t + j)
  | 0, j => by rw [Nat.zero_add]; rfl
  | t + 1, j => by
    show itT L t (sn L (j + 1)) = _
    rw [itT_sn L t (j + 1), show t + (j + 1) = t + 1 + j by omega]
/-- the chances by surplus behind t years -/
structure OkQ (L : List Int) (s : Int) (t : Nat) (qs : QL) : Prop where
  nd : NdQ qs
  rg : ∀ p ∈ qs, 0 ≤ p.1 ∧ p.1 ≤ s + t
  nn : ∀ p ∈ qs, 0 ≤ p.2
  fq : ∀ p ∈ qs, Fq (ws L ^ t) 1 p.2
  sm : ∀ F, lz (fun p => p.2 * F p.1) qs = itT L t F s
/-- .. and some of the next year's -/
structure MidQ (L : List Int) (s : Int) (t : Nat) (A : (Int → Rat) → Rat) (rs : QL) : Prop where
  nd : NdQ rs
  rg : ∀ p ∈ rs, 0 ≤ p.1 ∧ p.1 ≤ s + (t + 1 : Nat)
  nn : ∀ p ∈ rs, 0 ≤ p.2
  fq : ∀ p ∈ rs, Fq (ws L ^ (t + 1)) 1 p.2
  sm : ∀ F, lz (fun p => p.2 * F p.1) rs = A F
theorem OkQ.one {m : Int} {L : List Int} (h : ClOk m L) {s : Int} (hs : 0 ≤ s) : OkQ L s 0 [(s, 1)] where
  nd := by simp [NdQ]
  rg := fun p hp => by
    have : p = (s, 1) := by simpa using hp
    rw [this]; exact ⟨hs, by show s ≤ s + 0; omega⟩
  nn := fun p hp => by
    have : p = (s, 1) := by simpa using hp
    rw [this]; show (0 : Rat) ≤ 1; decide
  fq := fun p hp => by
    have : p = (s, 1) := by simpa using hp
    rw [this]
    rw [show ws L ^ 0 = 1 from Int.pow_zero _]
    show Fq 1 1 ((1 : Int) : Rat)
    exact Fq.int (by omega)
  sm := fun F => by
    show 1 * F s + 0 = F s
    grind
theorem Fq.cut {d B : Int} {x : Rat} (h : Fq d B x) (h0 : 0 ≤ x) (h1 : x ≤ 1) : Fq d 1 x := by
  obtain ⟨z, e, hz⟩ := h.ex
  have hd := h.pos
  have hdr : (0 : Rat) ≤ (d : Rat) := Rat.intCast_nonneg.mpr (Int.le_of_lt hd)
  refine ⟨hd, ⟨z, e, ?_⟩, by decide⟩
  have a1 : (0 : Rat) ≤ (z : Rat) := by rw [← e]; exact Rat.mul_nonneg h0 hdr
  have a2 : (z : Rat) ≤ (d : Rat) := by
    rw [← e]
    have := Rat.mul_le_mul_of_nonneg_right h1 hdr
    rwa [Rat.one_mul] at this
  have b1 : 0 ≤ z := Rat.intCast_nonneg.mp a1
  have b2 : z ≤ d := Rat.intCast_le_intCast.mp a2
  rw [Int.one_mul]
  omega
theorem Fq_pr {m : Int} {L : List Int} (h : ClOk m L) (i : Nat) : Fq (ws L) 1 (pr L i) := by
  have hp := h.pos
  have hw : ((ws L : Int) : Rat) ≠ 0 := fun z => by have := Rat.intCast_eq_zero_iff.mp z; omega
  refine ⟨hp, ⟨L.getD i 0, ?_, ?_⟩, by decide⟩
  · unfold pr
    grind
  · have := h.c_in i
    rw [Int.one_mul]
    omega
theorem MidQ.put {L : List Int} {s : Int} {t : Nat} {A : (Int → Rat) → Rat} {rs : QL} (h : MidQ L s t A rs) {z : Int} {y : Rat} (hz : 0 ≤ z ∧ z ≤ s + (t + 1 : Nat)) (hy : 0 ≤ y) (fy : Fq (ws L ^ (t + 1)) 1 y) (h1 : A (fun _ => 1) + y ≤ 1) :
    MidQ L s t (fun F => A F + y * F z) (putQ rs z (gQ rs z + y)) := by
  have g0 : 0 ≤ gQ rs z := gQ_in (P := fun x => 0 ≤ x) Rat.le_refl h.nn
  have sm : ∀ F, lz (fun p => p.2 * F p.1) (putQ rs z (gQ rs z + y)) = A F + y * F z := fun F => by rw [lz_put, h.sm F]
  have gf : Fq (ws L ^ (t + 1)) 1 (gQ rs z) := gQ_in (P := fun x => Fq (ws L ^ (t + 1)) 1 x) ((Fq.zero fy.pos).mono (by decide)) h.fq
  have hx : 0 ≤ gQ rs z + y := Rat.add_nonneg g0 hy
  have nn : ∀ p ∈ putQ rs z (gQ rs z + y), 0 ≤ p.2 := put_all (P := fun _ x => 0 ≤ x) hx h.nn
  have mem : (z, gQ rs z + y) ∈ putQ rs z (gQ rs z + y) := by
    have : ∀ (qs : QL) (x : Rat), (z, x) ∈ putQ qs z x := by
      intro qs x
      induction qs with
      | nil => simp [putQ]
      | cons p r ih =>
        unfold putQ
        split
        · rename_i e; rw [e]; exact List.mem_cons_self
        · exact List.mem_cons_of_mem _ ih
    exact this rs _
  have le1 : gQ rs z + y ≤ 1 := by
    have a := lz_ge (g := fun p : Int × Rat => p.2 * (fun _ => (1 : Rat)) p.1) (fun p hp => by show 0 ≤ p.2 * 1; rw [Rat.mul_one]; exact nn p hp) mem
    rw [sm (fun _ => 1)] at a
    have a : (gQ rs z + y) * 1 ≤ A (fun _ => 1) + y * 1 := a
    rw [Rat.mul_one, Rat.mul_one] at a
    exact Rat.le_trans a h1
  exact ⟨h.nd.put, put_all (P := fun k _ => 0 ≤ k ∧ k ≤ s + (t + 1 : Nat)) hz h.rg, nn, put_all (P := fun _ x => Fq (ws L ^ (t + 1)) 1 x) ((gf.add fy).cut hx le1) h.fq, sm⟩
theorem OkQ.len {L : List Int} {s : Int} {t : Nat} {qs : QL} (h : OkQ L s t qs) {n : Nat} (hn : s + t < n) : qs.length ≤ n := by
  have := nd_len n (qs.map (·.1)) (show (qs.map (·.1)).Nodup from h.nd) fun x hx => by
    obtain ⟨p, hp, rfl⟩ := List.mem_map.mp hx
    have := h.rg p hp
    omega
  simpa using this
theorem MidQ.len {L : List Int} {s : Int} {t : Nat} {A : (Int → Rat) → Rat} {qs : QL} (h : MidQ L s t A qs) {n : Nat} (hn : s + (t + 1 : Nat) < n) : qs.length ≤ n := by
  have := nd_len n (qs.map (·.1)) (show (qs.map (·.1)).Nodup from h.nd) fun x hx => by
    obtain ⟨p, hp, rfl⟩ := List.mem_map.mp hx
    have := h.rg p hp
    omega
  simpa using this
theorem szLe_Q {m : Int} {L : List Int} (h : ClOk m L) (hm : m ≤ 13) {t : Nat} (ht : t ≤ 13) {x : Rat} (hx : Fq (ws L ^ t) 1 x) : szLe 200 x := by
  have w1 := h.ws_le hm
  have w0 := h.pos
  have p1 : ws L ^ t < 2 ^ 200 := by
    have a := pow_14 w1 t
    have b : 2 ^ (14 * t) ≤ 2 ^ 182 := Nat.pow_le_pow_right (by omega) (by omega)
    have e : ws L ^ t = (((ws L).toNat ^ t : Nat) : Int) := by
      rw [Int.natCast_pow, Int.toNat_of_nonneg (Int.le_of_lt w0)]
    rw [e]
    have c : (2 : Nat) ^ 182 < 2 ^ 200 := by decide
    have : (ws L).toNat ^ t < 2 ^ 200 := by omega
    exact_mod_cast this
  exact hx.szLe p1 (by rw [Int.one_mul]; exact p1)
theorem lz_take {α : Type} (g : α → Rat) {l : List α} {j : Nat} {a : α} (h : l[j]? = some a) : lz g (l.take (j + 1)) = lz g (l.take j) + g a := by
  obtain ⟨hj, e⟩ := List.getElem?_eq_some_iff.mp h
  rw [List.take_succ, h, lz_append]
  show _ + (g a + 0) = _
  rw [Rat.add_zero]
theorem lz_take_le {α : Type} {g : α → Rat} {l : List α} (h : ∀ a ∈ l, 0 ≤ g a) (j : Nat) : lz g (l.take j) ≤ lz g l := by
  have e := lz_append g (l.take j) (l.drop j)
  rw [List.take_append_drop] at e
  have := lz_nn (g := g) (l := l.drop j) fun a ha => h a (List.mem_of_mem_drop ha)
  grind
theorem keys_get {qs : QL} {j : Nat} {d : D} (h : (List.map (fun p => kD p.1) (dq qs))[j]? = some d) : ∃ p, qs[j]? = some p ∧ d = .int p.1 := by
  rw [List.getElem?_map] at h
  unfold dq at h
  rw [List.getElem?_map] at h
  cases e : qs[j]? with
  | none => rw [e] at h; cases h
  | some p => rw [e] at h; exact ⟨p, rfl, (Option.some.inj h).symm⟩
theorem MidQ.nil {L : List Int} {s : Int} {t : Nat} : MidQ L s t (fun _ => 0) [] := ⟨by simp [NdQ], fun _ h => (by cases h), fun _ h => (by cases h), fun _ h => (by cases h), fun _ => rfl⟩
theorem MidQ.done {L : List Int} {s : Int} {t : Nat} {qs rs : QL} (h : OkQ L s t qs) (k : MidQ L s t (fun F => lz (fun p => p.2 * TF L F p.1 L.length) qs) rs) : OkQ L s (t + 1) rs :=
  ⟨k.nd, k.rg, k.nn, k.fq, fun F => by rw [k.sm F]; exact h.sm fun s => TF L F s L.length⟩
theorem TF_succ (L : List Int) (F : Int → Rat) (s : Int) (k : Nat) : TF L F s (k + 1) = TF L F s k + (if (k : Int) ≤ s + 1 then pr L k * F (s + 1 - k) else 0) := sumR_succ ..
theorem flats_dq (qs : QL) : flats ((dq qs).map (·.2)) = true := flats_iff.mpr fun d hd => by
  obtain ⟨p, hp, rfl⟩ := List.mem_map.mp hd
  obtain ⟨q, _, rfl⟩ := List.mem_map.mp hp
  rfl
theorem vals_dq (qs : QL) : (dq qs).map (·.2) = qs.map fun p => rt p.2 := by
  unfold dq
  rw [List.map_map]; rfl
theorem len_dq (qs : QL) : (dq qs).length = qs.length := by unfold dq; rw [List.length_map]
theorem mass_le {m : Int} {L : List Int} (h : ClOk m L) {s : Int} {t : Nat} {qs : QL} (o : OkQ L s t qs) : lz (fun p => p.2 * (1 : Rat)) qs ≤ 1 := by
  have e := o.sm fun _ => 1
  have e2 := congrFun (itT_sn L t 0) s
  have e3 : itT L t (fun _ => 1) s = sn L t s := e2
  have := (sn_in h t s).2
  rw [e3] at e
  rw [e]; exact this
theorem rsQ {qs : QL} : (qs.map fun p => rt p.2) = (qs.map (·.2)).map rt := by rw [List.map_map]; rfl
theorem pure_ruin_within : ∀ ds Q0, fs_ruin_within ds Q0 → w_ruin_within (kdEnd Q0) (startL 11 ds) := by
  rintro ds Q ⟨L, s, n, rfl, h, hs, hn, hq⟩
  unfold w_ruin_within
  walk_at "wgo"
  have l13 := h.lm
  have sp := szLe_pr h (by decide)
  walk_at "vcg"
  refine forW_rng0 (fun t env => ∃ (qs : QL), ∃ z5 z6 z7 z8 z9 z10 : SD, (OkQ L s t qs) ∧ env = [SD.val (tI L), SD.val (.int s), SD.val (.int n), SD.val (.list ((List.range L.length).map fun i => rt (pr L i))), SD.dic (dq qs), z5, z6, z7, z8, z9, z10]) ?_ (fun t env P_t h_t e0 n_t => ?_) (fun env e0 => ?_)
  · exact ⟨[((s : Int), 1)], _, _, _, _, _, _, OkQ.one h (by omega), (rfl)⟩
  · obtain ⟨qs, z5, z6, z7, z8, z9, z10, t_0, rfl⟩ := e0
    walk_at "vcg"
    refine forW_idx (fun j env => ∃ (rs : QL), ∃ z5 z7 z8 z9 z10 : SD, (MidQ L s t (fun F => lz (fun p => p.2 * TF L F p.1 L.length) (qs.take j)) rs) ∧ env = [SD.val (tI L), SD.val (.int s), SD.val (.int n), SD.val (.list ((List.range L.length).map fun i => rt (pr L i))), SD.val (.dict (dD (dq qs))), z5, SD.dic (dq rs), z7, z8, z9, z10]) ?_ (fun j d env P_j h_j e0 n_j => ?_) (fun env e0 => ?_)
    · exact ⟨[], _, _, _, _, _, MidQ.nil, (rfl)⟩
    · obtain ⟨rs, z5, z7, z8, z9, z10, j_0, rfl⟩ := e0
      obtain ⟨⟨su, x⟩, hx, rfl⟩ := keys_get h_j
      have mem : (su, x) ∈ qs := List.mem_of_getElem? hx
      have x0 : 0 ≤ x := t_0.nn _ mem
      have fx : Fq (ws L ^ t) 1 x := t_0.fq _ mem
      have srg := t_0.rg _ mem
      have sx : szLe 200 x := szLe_Q h (by decide) (by omega) fx
      walk_at "vcg"
      refine forW_mapN (fun k env => ∃ (us : QL), ∃ z5 z8 z9 z10 : SD, (MidQ L s t (fun F => lz (fun p => p.2 * TF L F p.1 L.length) (qs.take j) + x * TF L F su k) us) ∧ env = [SD.val (tI L), SD.val (.int s), SD.val (.int n), SD.val (.list ((List.range L.length).map fun i => rt (pr L i))), SD.val (.dict (dD (dq qs))), z5, SD.dic (dq us), SD.val (.int su), z8, z9, z10]) ?_ (fun k env P_k h_k e0 n_k => ?_) (fun env e0 => ?_)
      · exact ⟨rs, _, _, _, _, cast (congrArg (fun A => MidQ L s t A rs) (funext fun F => by show _ = _ + x * (0 : Rat); rw [Rat.mul_zero, Rat.add_zero])) j_0, (rfl)⟩
      · obtain ⟨us, z5, z8, z9, z10, k_0, rfl⟩ := e0
        walk_at "vcg"
        unfold w_ruin_within_i1
        by_cases c : (k : Int) ≤ su + 1
        · obtain ⟨g, hg⟩ : ∃ g : Int, g = su + 1 - k := ⟨_, rfl⟩
          have sus : szLe 200 (gQ us g) := szLe_Q h (by decide) (show t + 1 ≤ 13 by omega) (gQ_in (P := fun x => Fq (ws L ^ (t + 1)) 1 x) ((Fq.zero (Int.pow_pos h.pos)).mono (by decide)) k_0.fq)
          have hl := MidQ.len k_0 (n := 40) (by omega)
          have spk := sp k
          have fy : Fq (ws L ^ (t + 1)) 1 (x * pr L k) := (fx.mul (Fq_pr h k)).to (Int.pow_succ ..).symm
          have y0 : 0 ≤ x * pr L k := Rat.mul_nonneg x0 (pr_ge h k)
          have tot : lz (fun p => p.2 * TF L (fun _ => 1) p.1 L.length) (qs.take j) + x * TF L (fun _ => 1) su k + x * pr L k ≤ 1 := by
            have m1 := mass_le h t_0
            have m2 := lz_take_le (g := fun p : Int × Rat => p.2 * (1 : Rat)) (l := qs) (fun a ha => by rw [Rat.mul_one]; exact t_0.nn a ha) (j + 1)
            rw [lz_take _ hx] at m2
            have m3 : lz (fun p => p.2 * TF L (fun _ => 1) p.1 L.length) (qs.take j) ≤ lz (fun p : Int × Rat => p.2 * (1 : Rat)) (qs.take j) := lz_le fun a ha => Rat.mul_le_mul_of_nonneg_left (TF_1 h a.1 (Nat.le_refl _)) (t_0.nn a (List.mem_of_mem_take ha))
            have m4 : TF L (fun _ => 1) su (k + 1) ≤ 1 := TF_1 h su (show k + 1 ≤ L.length by omega)
            rw [TF_succ, if_pos c, Rat.mul_one] at m4
            have m5 := Rat.mul_le_mul_of_nonneg_left m4 x0
            have m2 : lz (fun p : Int × Rat => p.2 * (1 : Rat)) (qs.take j) + x * 1 ≤ _ := m2
            generalize lz (fun p : Int × Rat => p.2 * (1 : Rat)) (qs.take j) = a1 at *
            generalize lz (fun p : Int × Rat => p.2 * (1 : Rat)) qs = a2 at *
            generalize lz (fun p : Int × Rat => p.2 * TF L (fun _ => 1) p.1 L.length) (qs.take j) = a3 at *
            generalize TF L (fun _ => 1) su k = a4 at *
            grind
          have put := k_0.put (z := g) (y := x * pr L k) (by omega) y0 fy tot
          walk_at "vcg"
          rw [lkD_mem t_0.nd mem, ← hg]
          show fs_by [rt x, rt (pr L k)] _
          rw [lkD_get]
          walk_at "vcg"
          refine ⟨by rw [len_dq]; omega, ?_⟩
          rw [putD_dq k_0.nd]
          exact n_k _ ⟨putQ us g (gQ us g + x * pr L k), _, _, _, _, cast (congrArg (fun A => MidQ L s t A _) (funext fun F => by rw [TF_succ, if_pos c, hg]; grind)) put, (rfl)⟩
        · walk_at "vcg"
          exact n_k _ ⟨us, _, _, _, _, cast (congrArg (fun A => MidQ L s t A us) (funext fun F => by rw [TF_succ, if_neg c, Rat.add_zero])) k_0, (rfl)⟩
      · obtain ⟨us, z5, z8, z9, z10, k_0, rfl⟩ := e0
        exact n_j _ ⟨us, _, _, _, _, _, cast (congrArg (fun A => MidQ L s t A us) (funext fun F => by rw [lz_take _ hx])) k_0, (rfl)⟩
    · obtain ⟨rs, z5, z7, z8, z9, z10, j_0, rfl⟩ := e0
      walk_at "vcg"
      refine ⟨by decide, ?_⟩
      have e : qs.take (List.map (fun p => kD p.1) (dq qs)).length = qs := by
        rw [List.length_map, len_dq]; exact List.take_length
      rw [e] at j_0
      exact n_t _ ⟨rs, _, _, _, _, _, _, MidQ.done t_0 j_0, (rfl)⟩
  · obtain ⟨qs, z5, z6, z7, z8, z9, z10, t_0, rfl⟩ := e0
    walk_at "vcg"
    rw [vals_dq]
    refine ⟨by rw [← vals_dq]; exact flats_dq qs, ?_⟩
    have hl := t_0.len (n := 40) (by omega)
    have e := t_0.sm fun _ => 1
    have e2 : itT L n (fun _ => 1) (s : Int) = sn L n s := congrFun (itT_sn L n 0) s
    rw [e2] at e
    have e3 : lz (fun p : Int × Rat => p.2) qs = sn L n s := by
      rw [← e]
      exact lz_congr fun p _ => (Rat.mul_one _).symm
    have sq : ∀ p ∈ qs, szLe 200 p.2 := fun p hp => szLe_Q h (by decide) (by omega) (t_0.fq p hp)
    have sl := szLe_lz (f := fun p : Int × Rat => p.2) (k := 200) (by decide) sq
    have sl2 : szLe 10000 (lz (fun p : Int × Rat => p.2) qs) := sl.mono (by omega)
    refine c_lsum (k := 200) sq (by decide) (by omega) ?_
    rw [e3] at sl2 ⊢
    walk_at "vcg"
    exact hq
def N_law_k47 : List Str := ["_law_script", "_law_row", "_law_claims_here", "_law_start", "_law_years", "_law_chances_here", "_law_rows", "_law_due", "_law_turn", "_law_more", "_law_surplus", "_law_chance", "_law_k", "_law_here"]
def w_law_k47_i1 : WS :=
 (wIfS (wTst (wBin (dCmp fun i j => decide (i < j)) (wBin dSub (wBin dPlus (wVar 10) (wC (.int 1))) (wVar 12)) (wC (.int 0)))) (wSet 7 (wFn (fun ds Q => ds.length = 2 ∧ fs_law_plus ds Q) (wCons (wVar 7) (wCons (wVar 13) wNil)))) wNext)
def w_law_k47_i2 : WS :=
 (wIfS (wAnd (wTst (wBin (dCmp fun i j => decide (j ≤ i)) (wBin dSub (wBin dPlus (wVar 10) (wC (.int 1))) (wVar 12)) (wC (.int 0)))) (wTst (wBin dNe (wVar 13) (wTup (wCons (wC (.int 0)) (wCons (wC (.int 1)) wNil)))))) (wApp 9 (wTup (wCons (wBin dSub (wBin dPlus (wVar 10) (wC (.int 1))) (wVar 12)) (wCons (wVar 13) wNil)))) wNext)
def w_law_k47 : WS :=
 (wSeq (wPar [2, 3, 4] (wmVal (wFn (fun ds Q => ds.length = 2 ∧ fs_law_claims ds Q) (wCons (wVar 1) (wCons (wC (.int 4)) wNil))) (wmVal (wFn (fun ds Q => ds.length = 2 ∧ fs_law_taken ds Q) (wCons (wVar 1) (wCons (wC (.int 5)) wNil))) (wmVal (wFn (fun ds Q => ds.length = 2 ∧ fs_law_taken ds Q) (wCons (wVar 1) (wCons (wC (.int 6)) wNil))) wmNil))))
 (wSeq (wPar [5, 6, 7] (wmOwn (wFnN 1 fs_law_chances (wCons (wVar 2) wNil)) (wmOwn (wLst (wCons (wTup (wCons (wVar 3) (wCons (wTup (wCons (wC (.int 1)) (wCons (wC (.int 1)) wNil))) wNil))) wNil)) (wmVal (wTup (wCons (wC (.int 0)) (wCons (wC (.int 1)) wNil))) wmNil))))
 (wSeq (wFor (wFnL fRng1 (wCons (wVar 4) wNil)) (wgN 8) (wSeq (wSetN 9 (wLst wNil))
 (wSeq (wDis 6 (wFor (wVarS 6) (wgTup 2 (wgCons (wgN 10) (wgCons (wgN 11) wgNil))) (wFor (wFnL fRng1 (wCons (wFn fLen (wCons (wVar 5) wNil)) wNil)) (wgN 12) (wSeq (wSet 13 (wFn (fun ds Q => ds.length = 2 ∧ fs_law_by ds Q) (wCons (wVar 11) (wCons (wBin dIx (wVar 5) (wVar 12)) wNil))))
 (wSeq w_law_k47_i1
 w_law_k47_i2)))))
 (wMov 6 9))))
 (wSeq (wIfS (wNot (wTru (wFn (fun ds Q => ds.length = 2 ∧ fs_law_alike ds Q) (wCons (wFn (fun ds Q => ds.length = 3 ∧ fs_ruin_within ds Q) (wCons (wVar 2) (wCons (wVar 3) (wCons (wVar 4) wNil)))) (wCons (wVar 7) wNil))))) (wRet (wC (.bool false))) wNext)
 (wRet (wAndV (wNotV (wFn (fun ds Q => ds.length = 2 ∧ fs_law_below ds Q) (wCons (wFn (fun ds Q => ds.length = 3 ∧ fs_ruin_within ds Q) (wCons (wVar 2) (wCons (wVar 3) (wCons (wBin dPlus (wVar 4) (wC (.int 1))) wNil)))) (wCons (wVar 7) wNil)))) (wNotV (wFn (fun ds Q => ds.length = 2 ∧ fs_law_below ds Q) (wCons (wVar 7) (wCons (wFn (fun ds Q => ds.length = 3 ∧ fs_ruin_within ds Q) (wCons (wVar 2) (wCons (wBin dPlus (wVar 3) (wC (.int 1))) (wCons (wVar 4) wNil)))) wNil))))))))))
local macro_rules | `(tactic| walk_at "vcg1") => `(tactic| simp only [wMov, onOwn])
/-! rows of pairs -/
def pairsD (qs : QL) : List D := qs.map fun p => .tuple [.int p.1, rt p.2]
theorem pairs_get {qs : QL} {j : Nat} {d : D} (h : (pairsD qs)[j]? = some d) : ∃ p, qs[j]? = some p ∧ d = .tuple [.int p.1, rt p.2] := by
  unfold pairsD at h
  rw [List.getElem?_map] at h
  cases e : qs[j]? with
  | none => rw [e] at h; cases h
  | some p => rw [e] at h; exact ⟨p, rfl, (Option.some.inj h).symm⟩
structure RowQ (L : List Int) (t : Nat) (A : (Int → Rat) → Rat) (qs : QL) : Prop where
  nn : ∀ p ∈ qs, 0 ≤ p.2
  fq : ∀ p ∈ qs, Fq (ws L ^ t) 1 p.2
  sm : ∀ F, lz (fun p => p.2 * F p.1) qs = A F
theorem RowQ.app {L : List Int} {t : Nat} {A : (Int → Rat) → Rat} {qs : QL} (h : RowQ L t A qs) {z : Int} {y : Rat} (hy : 0 ≤ y) (fy : Fq (ws L ^ t) 1 y) : RowQ L t (fun F => A F + y * F z) (qs ++ [(z, y)]) where
  nn := fun p hp => by
    rcases List.mem_append.mp hp with q | q
    · exact h.nn p q
    · have : p = (z, y) := by simpa using q
      rw [this]; exact hy
  fq := fun p hp => by
    rcases List.mem_append.mp hp with q | q
    · exact h.fq p q
    · have : p = (z, y) := by simpa using q
      rw [this]; exact fy
  sm := fun F => by
    rw [lz_append, h.sm F]
    show _ + (y * F z + 0) = _
    rw [Rat.add_zero]
theorem RowQ.one {m : Int} {L : List Int} (h : ClOk m L) {s : Int} (hs : 0 ≤ s) : RowQ L 0 (fun F => itT L 0 F s) [(s, 1)] := ⟨(OkQ.one h hs).nn, (OkQ.one h hs).fq, (OkQ.one h hs).sm⟩
theorem RowQ.nil {L : List Int} {t : Nat} : RowQ L t (fun _ => 0) [] := ⟨fun _ h => (by cases h), fun _ h => (by cases h), fun _ => rfl⟩
theorem szLe_QB {m : Int} {L : List Int} (h : ClOk m L) (hm : m ≤ 13) {t : Nat} (ht : t ≤ 12) {B : Int} (hB : B ≤ 65536) {x : Rat} (hx : Fq (ws L ^ t) B x) : szLe 200 x := by
  have w1 := h.ws_le hm
  have w0 := h.pos
  have a := pow_14 w1 t
  have b : 2 ^ (14 * t) ≤ 2 ^ 168 := Nat.pow_le_pow_right (by omega) (by omega)
  have e : ws L ^ t = (((ws L).toNat ^ t : Nat) : Int) := by rw [Int.natCast_pow, Int.toNat_of_nonneg (Int.le_of_lt w0)]
  have c0 := hx.nn
  generalize hW : ws L ^ t = W at *
  have p0 := hx.pos
  have W1 : W ≤ 2 ^ 168 := by
    rw [e]
    have : (ws L).toNat ^ t ≤ 2 ^ 168 := Nat.le_trans a b
    exact_mod_cast this
  have W2 : B * W ≤ 65536 * 2 ^ 168 := Int.le_trans (Int.mul_le_mul_of_nonneg_right hB (Int.le_of_lt p0)) (Int.mul_le_mul_of_nonneg_left W1 (by decide))
  have c1 : (2 : Int) ^ 168 < 2 ^ 200 := by decide
  have c2 : (65536 : Int) * 2 ^ 168 < 2 ^ 200 := by decide
  exact hx.szLe (by omega) (by omega)
theorem Fq_sn {m : Int} {L : List Int} (h : ClOk m L) : ∀ n s, Fq (ws L ^ n) 1 (sn L n s)
  | 0, s => by
    rw [show ws L ^ 0 = 1 from Int.pow_zero _]
    exact Fq.int (i := 1) (B := 1) (by omega)
  | n + 1, s => by
    have a := Fq.sum (d := ws L ^ (n + 1)) (B := 1) (f := fun k => if (k : Int) ≤ s + 1 then pr L k * sn L n (s + 1 - k) else 0) (Int.pow_pos h.pos) L.length fun i _ => by
      show Fq _ 1 (if (i : Int) ≤ s + 1 then pr L i * sn L n (s + 1 - i) else 0)
      split
      · exact ((Fq_pr h i).mul (Fq_sn h n _)).to (by rw [Int.pow_succ, Int.mul_comm])
      · exact (Fq.zero (Int.pow_pos h.pos)).mono (by decide)
    exact a.cut (sn_in h (n + 1) s).1 (sn_in h (n + 1) s).2
theorem szLe_sn {m : Int} {L : List Int} (h : ClOk m L) (hm : m ≤ 13) {n : Nat} (hn : n ≤ 12) (s : Int) : szLe 200 (sn L n s) := szLe_QB h hm hn (by decide) (Fq_sn h n s)
theorem Fq_one {m : Int} {L : List Int} (h : ClOk m L) (t : Nat) : Fq (ws L ^ t) 1 1 := by
  have := Fq.up (c := ws L ^ t) (Fq.int (i := 1) (B := 1) (by omega)) (Int.pow_pos h.pos)
  rwa [Int.one_mul] at this
theorem Fq.neg {d B : Int} {x : Rat} (h : Fq d B x) : Fq d B (-x) := by
  obtain ⟨z, e, hz⟩ := h.ex
  exact ⟨h.pos, ⟨-z, by rw [Rat.neg_mul, e, Rat.intCast_neg], by rw [Int.natAbs_neg]; exact hz⟩, h.nn⟩
theorem Fq_rn {m : Int} {L : List Int} (h : ClOk m L) (t : Nat) (s : Int) : Fq (ws L ^ t) 1 (1 - sn L t s) := by
  have a := sn_in h t s
  have := (Fq_one h t).add (Fq_sn h t s).neg
  rw [← Rat.sub_eq_add_neg] at this
  exact this.cut (by grind) (by grind)
theorem sn_le {m : Int} {L : List Int} (h : ClOk m L) (s : Int) : ∀ n, sn L (n + 1) s ≤ sn L n s := by
  intro n
  induction n generalizing s with
  | zero => exact (sn_in h 1 s).2
  | succ n ih => exact TF_le h ih s _
theorem sn_up {m : Int} {L : List Int} (h : ClOk m L) : ∀ n s, sn L n s ≤ sn L n (s + 1)
  | 0, s => Rat.le_refl
  | n + 1, s => sumR_le _ fun i _ => by
    show (if (i : Int) ≤ s + 1 then pr L i * sn L n (s + 1 - i) else 0) ≤ if (i : Int) ≤ s + 1 + 1 then pr L i * sn L n (s + 1 + 1 - i) else 0
    by_cases c : (i : Int) ≤ s + 1
    · rw [if_pos c, if_pos (by omega), show s + 1 + 1 - (i : Int) = (s + 1 - i) + 1 by omega]
      exact Rat.mul_le_mul_of_nonneg_left (sn_up h n _) (pr_ge h i)
    · rw [if_neg c]
      split
      · exact Rat.mul_nonneg (pr_ge h i) (sn_in h n _).1
      · exact Rat.le_refl
/-- what a row's claims ruin -/
def dU (L : List Int) (s : Int) (k : Nat) : Rat := sumR (fun i => if s + 1 < (i : Int) then pr L i else 0) k
theorem dU_succ (L : List Int) (s : Int) (k : Nat) : dU L s (k + 1) = dU L s k + (if s + 1 < (k : Int) then pr L k else 0) := sumR_succ ..
theorem dU_end {m : Int} {L : List Int} (h : ClOk m L) (s : Int) : dU L s L.length = 1 - TF L (fun _ => 1) s L.length := by
  have e : ∀ n, dU L s n + TF L (fun _ => 1) s n = sumR (pr L) n := by
    intro n
    unfold dU TF
    rw [← sumR_sum]
    refine sumR_congr n fun i _ => ?_
    by_cases c : (i : Int) ≤ s + 1
    · rw [if_pos c, if_neg (by omega)]; grind
    · rw [if_neg c, if_pos (by omega)]; grind
  have := e L.length
  rw [one_pr h] at this
  grind
theorem pure_law_k47 : LawD N_law_k47 w_law_k47 := by
  unfold LawD w_law_k47 N_law_k47
  walk_at "vcg"
  refine ⟨4, rfl, by omega, by omega, fun L h hx => ?_⟩
  walk_at "vcg"
  intro s0 hs0 hs1
  walk_at "vcg"
  intro n0 hn0 hn1
  obtain ⟨s, rfl⟩ : ∃ s : Nat, s0 = (s : Int) := ⟨s0.toNat, by omega⟩
  obtain ⟨n, rfl⟩ : ∃ n : Nat, n0 = (n : Int) := ⟨n0.toNat, by omega⟩
  have h13 : ClOk 13 L := h.to (by decide)
  have l1 := h.l1
  have lm := h.lm
  have sp := fun i => szLe_pr h13 (by decide) i
  walk_at "vcg"
  refine forW_rng0 (fun t env => ∃ (qs : QL), ∃ z0 z8 z9 z10 z11 z12 z13 : SD, (RowQ L t (fun F => itT L t F s) qs) ∧ (qs.length ≤ 4 ^ t) ∧ env = [z0, SD.val (rowD), SD.val (tI L), SD.val (.int s), SD.val (.int n), SD.own ((List.range L.length).map fun i => rt (pr L i)), SD.own (pairsD qs), SD.val (rt (1 - sn L t s)), z8, z9, z10, z11, z12, z13]) ?_ (fun t env P_t h_t e0 n_t => ?_) (fun env e0 => ?_)
  · exact ⟨[((s : Int), 1)], _, _, _, _, _, _, _, RowQ.one h (by omega), by simp, (by rw [show (1 : Rat) - sn L 0 s = 0 from by show (1 : Rat) - 1 = 0; grind]; rfl)⟩
  · obtain ⟨qs, z0, z8, z9, z10, z11, z12, z13, t_0, t_1, rfl⟩ := e0
    have snt : itT L t (fun _ => 1) (s : Int) = sn L t s := congrFun (itT_sn L t 0) s
    have p4 : 4 ^ t ≤ 4 ^ 4 := Nat.pow_le_pow_right (by omega) (by omega)
    have ql : qs.length ≤ 256 := Nat.le_trans t_1 p4
    have fd : Fq (ws L ^ t) 1 (1 - sn L t s) := Fq_rn h t s
    have fd1 : Fq (ws L ^ (t + 1)) 1 (1 - sn L t s) := (fd.up h.pos).to (Int.pow_succ ..).symm
    walk_at "vcg"
    refine forW_idx (fun j env => ∃ (rs : QL), ∃ z0 z10 z11 z12 z13 : SD, (RowQ L (t + 1) (fun F => lz (fun p => p.2 * TF L F p.1 L.length) (qs.take j)) rs) ∧ (rs.length ≤ 4 * j) ∧ (Fq (ws L ^ (t + 1)) (1 + 4 * j) (1 - sn L t s + lz (fun p => p.2 * dU L p.1 L.length) (qs.take j))) ∧ env = [z0, SD.val (rowD), SD.val (tI L), SD.val (.int s), SD.val (.int n), SD.own ((List.range L.length).map fun i => rt (pr L i)), SD.val (.list (pairsD qs)), SD.val (rt (1 - sn L t s + lz (fun p => p.2 * dU L p.1 L.length) (qs.take j))), SD.val (.int t), SD.own (pairsD rs), z10, z11, z12, z13]) ?_ (fun j d env P_j h_j e0 n_j => ?_) (fun env e0 => ?_)
    · exact ⟨[], _, _, _, _, _, RowQ.nil, by simp, (show Fq _ _ (_ + (0 : Rat)) by rw [Rat.add_zero]; exact fd1.mono (by omega)), (by rw [show lz (fun p => p.2 * dU L p.1 L.length) (qs.take 0) = 0 from rfl, Rat.add_zero]; rfl)⟩
    · obtain ⟨rs, z0, z10, z11, z12, z13, j_0, j_1, j_2, rfl⟩ := e0
      obtain ⟨⟨su, x⟩, hx, rfl⟩ := pairs_get h_j
      have jl := (List.getElem?_eq_some_iff.mp hx).1
      have mem : (su, x) ∈ qs := List.mem_of_getElem? hx
      have x0 : 0 ≤ x := t_0.nn _ mem
      have fx : Fq (ws L ^ t) 1 x := t_0.fq _ mem
      have sx : szLe 200 x := szLe_QB h13 (by decide) (by omega) (by omega) fx
      walk_at "vcg"
      refine forW_rng0 (fun k env => ∃ (us : QL), ∃ z0 z12 z13 : SD, (RowQ L (t + 1) (fun F => lz (fun p => p.2 * TF L F p.1 L.length) (qs.take j) + x * TF L F su k) us) ∧ (us.length ≤ 4 * j + k) ∧ (Fq (ws L ^ (t + 1)) (1 + 4 * j + k) (1 - sn L t s + lz (fun p => p.2 * dU L p.1 L.length) (qs.take j) + x * dU L su k)) ∧ env = [z0, SD.val (rowD), SD.val (tI L), SD.val (.int s), SD.val (.int n), SD.own ((List.range L.length).map fun i => rt (pr L i)), SD.val (.list (pairsD qs)), SD.val (rt (1 - sn L t s + lz (fun p => p.2 * dU L p.1 L.length) (qs.take j) + x * dU L su k)), SD.val (.int t), SD.own (pairsD us), SD.val (.int su), SD.val (rt x), z12, z13]) ?_ (fun k env P_k h_k e0 n_k => ?_) (fun env e0 => ?_)
      · exact ⟨rs, _, _, _, cast (congrArg (fun A => RowQ L (t + 1) A rs) (funext fun F => by show _ = _ + x * (0 : Rat); rw [Rat.mul_zero, Rat.add_zero])) j_0, by omega, by show Fq _ _ (_ + x * (0 : Rat)); rw [Rat.mul_zero, Rat.add_zero]; exact j_2.mono (by omega), (by rw [show dU L su 0 = 0 from rfl, Rat.mul_zero, Rat.add_zero])⟩
      · obtain ⟨us, z0, z12, z13, k_0, k_1, k_2, rfl⟩ := e0
        have spk := sp k
        have fy : Fq (ws L ^ (t + 1)) 1 (x * pr L k) := (fx.mul (Fq_pr h k)).to (Int.pow_succ ..).symm
        have y0 : 0 ≤ x * pr L k := Rat.mul_nonneg x0 (pr_ge h k)
        have sy := szLe_QB h13 (by decide) (show t + 1 ≤ 12 by omega) (by decide) fy
        have sdu := szLe_QB h13 (by decide) (show t + 1 ≤ 12 by omega) (by omega) k_2
        have ul : (pairsD us).length = us.length := by unfold pairsD; rw [List.length_map]
        walk_at "vcg"
        unfold w_law_k47_i1 w_law_k47_i2
        by_cases c : su + 1 < (k : Int)
        · walk_at "vcg"
          have e : 1 - sn L t s + lz (fun p => p.2 * dU L p.1 L.length) (qs.take j) + x * dU L su k + x * pr L k = 1 - sn L t s + lz (fun p => p.2 * dU L p.1 L.length) (qs.take j) + x * dU L su (k + 1) := by rw [dU_succ, if_pos c]; grind
          have f := (k_2.add fy).mono (show 1 + 4 * (j : Int) + k + 1 ≤ 1 + 4 * j + (k + 1 : Nat) by omega)
          rw [e] at f ⊢
          exact n_k _ ⟨us, _, _, _, cast (congrArg (fun A => RowQ L (t + 1) A us) (funext fun F => by rw [TF_succ, if_neg (by omega), Rat.add_zero])) k_0, by omega, f, (rfl)⟩
        · have e : x * dU L su k = x * dU L su (k + 1) := by rw [dU_succ, if_neg c]; grind
          have f := k_2.mono (show 1 + 4 * (j : Int) + k ≤ 1 + 4 * j + (k + 1 : Nat) by omega)
          rw [e] at f
          walk_at "vcg"
          by_cases z : x * pr L k = 0
          · rw [decide_eq_true z, if_neg (by decide), e]
            exact n_k _ ⟨us, _, _, _, cast (congrArg (fun A => RowQ L (t + 1) A us) (funext fun F => by rw [TF_succ, if_pos (by omega), Rat.mul_add, ← Rat.mul_assoc, z, Rat.zero_mul, Rat.add_zero])) k_0, by omega, f, (rfl)⟩
          · rw [decide_eq_false z, if_pos (by decide), e]
            refine ⟨by omega, ?_⟩
            rw [show pairsD us ++ [PyData.tuple [.int (su + 1 - k), rt (x * pr L k)]] = pairsD (us ++ [(su + 1 - k, x * pr L k)]) by unfold pairsD; rw [List.map_append]; rfl]
            exact n_k _ ⟨us ++ [(su + 1 - k, x * pr L k)], _, _, _, cast (congrArg (fun A => RowQ L (t + 1) A _) (funext fun F => by rw [TF_succ, if_pos (by omega)]; grind)) (k_0.app (z := su + 1 - k) y0 fy), by rw [List.length_append]; show us.length + 1 ≤ _; omega, f, (rfl)⟩
      · obtain ⟨us, z0, z12, z13, k_0, k_1, k_2, rfl⟩ := e0
        change P_j _
        have e : 1 - sn L t s + lz (fun p => p.2 * dU L p.1 L.length) (qs.take j) + x * dU L su L.length = 1 - sn L t s + lz (fun p => p.2 * dU L p.1 L.length) (qs.take (j + 1)) := by rw [lz_take _ hx]; grind
        have f := k_2.mono (show 1 + 4 * (j : Int) + L.length ≤ 1 + 4 * (j + 1 : Nat) by omega)
        rw [e] at f ⊢
        exact n_j _ ⟨us, _, _, _, _, _, cast (congrArg (fun A => RowQ L (t + 1) A us) (funext fun F => by rw [lz_take _ hx])) k_0, by omega, f, (rfl)⟩
    · obtain ⟨rs, z0, z10, z11, z12, z13, j_0, j_1, j_2, rfl⟩ := e0
      walk_at "vcg"
      have e : qs.take (pairsD qs).length = qs := by
        rw [show (pairsD qs).length = qs.length by unfold pairsD; rw [List.length_map]]; exact List.take_length
      rw [e] at j_0 j_2 ⊢
      refine ⟨by decide, ?_⟩
      have e1 : lz (fun p => p.2 * dU L p.1 L.length) qs = sn L t s - sn L (t + 1) s := by
        have a := t_0.sm fun _ => 1
        have b := t_0.sm fun s => TF L (fun _ => 1) s L.length
        have b2 : itT L t (fun s => TF L (fun _ => 1) s L.length) (s : Int) = sn L (t + 1) s := congrFun (itT_sn L (t + 1) 0) s
        rw [snt] at a
        rw [b2] at b
        rw [← a, ← b]
        have c : ∀ l : QL, lz (fun p => p.2 * dU L p.1 L.length) l = lz (fun p => p.2 * 1) l - lz (fun p => p.2 * TF L (fun _ => 1) p.1 L.length) l := by
          intro l
          induction l with
          | nil => show (0 : Rat) = 0 - 0; grind
          | cons p l ih =>
            show p.2 * dU L p.1 L.length + lz _ l = p.2 * 1 + lz _ l - (p.2 * TF L (fun _ => 1) p.1 L.length + lz _ l)
            rw [ih, dU_end h]
            grind
        exact c qs
      rw [e1, show 1 - sn L t s + (sn L t s - sn L (t + 1) s) = 1 - sn L (t + 1) s by grind]
      exact n_t _ ⟨rs, _, _, _, _, _, _, _, cast (congrArg (fun A => RowQ L (t + 1) A rs) (funext fun F => t_0.sm fun s => TF L F s L.length)) j_0, by rw [Nat.pow_succ]; have : (pairsD qs).length = qs.length := by { unfold pairsD; rw [List.length_map] }; omega, (rfl)⟩
  · obtain ⟨qs, z0, z8, z9, z10, z11, z12, z13, t_0, t_1, rfl⟩ := e0
    have s1 := szLe_sn h13 (by decide) (show n ≤ 12 by omega) s
    have s2 := szLe_sn h13 (by decide) (show n + 1 ≤ 12 by omega) s
    have s3 := szLe_sn h13 (by decide) (show n ≤ 12 by omega) (s + 1)
    have le1 := sn_le h s n
    have le2 := sn_up h n s
    walk_at "vcg"
    rw [decide_eq_false (show ¬ 1 - sn L (n + 1) s < 1 - sn L n s by grind)]
    walk_at "vcg"
    rw [show ((s : Int) + 1) = ((s + 1 : Nat) : Int) from rfl] at le2
    rw [decide_eq_false (show ¬ 1 - sn L n s < 1 - sn L n ((s + 1 : Nat) : Int) by grind)]
    rfl
end DL
namespace Lk47
open PySem PySem.Spec PyProof.Rows L2 GX GxR DL
theorem dn_catB {C : List Addr} {X : Cx} {a b : Expr} {wa wb : WE} {pos : Pos} (ha : DE C X a wa) (hb : DE C X b wb) : DN C X (.BinOp a .Add b pos) (wBinL fCatL wa wb) := dn_cat ha hb
theorem dn_deD {C : List Addr} {X : Cx} {e : Expr} {w : WL} (h : DN C X e w) : DE C X e (wDe w) := h.de
def top (i : Nat) : Stmt := PySem.Challenge.pw_actuarium_k47_whole_ruin_within.main.body.getD i (.Pass ⟨0, 0, 0, 0⟩)
def N_law_taken : List Str := ["_law_row", "_law_many", "_law_found", "_law_cell"]
def N_law_pick : List Str := ["_law_row", "_law_things"]
def N_law_claims : List Str := ["_law_row", "_law_most", "_law_found", "_law_k"]
def N_law_ratio : List Str := ["_law_top", "_law_bottom", "_law_one", "_law_other"]
def N_law_chances : List Str := ["_law_claims_here", "_law_one"]
def N_law_by : List Str := ["_law_one", "_law_other"]
def N_law_plus : List Str := ["_law_one", "_law_other"]
def N_is_in : List Str := ["value", "least", "most"]
def N_need_claims : List Str := ["claims", "most", "one"]
def N_need_time : List Str := ["time", "least", "most"]
def N_ratio : List Str := ["top", "bottom", "common"]
def N_chances_of : List Str := ["claims", "one"]
def N_by : List Str := ["one", "other"]
def N_plus : List Str := ["one", "other"]
def N_total : List Str := ["some", "found", "one"]
def N_minus : List Str := ["one", "other"]
def N_ruin_within : List Str := ["claims", "start", "years", "chances", "here", "turn", "later", "surplus", "k", "chance", "goal"]
def N_law_alike : List Str := ["_law_found", "_law_due", "_law_k"]
def N_law_below : List Str := ["_law_one", "_law_other"]
def N_law_k47 : List Str := ["_law_script", "_law_row", "_law_claims_here", "_law_start", "_law_years", "_law_chances_here", "_law_rows", "_law_due", "_law_turn", "_law_more", "_law_surplus", "_law_chance", "_law_k", "_law_here"]
section
variable {P : Program} {w : World} {K : PySem.W.Frag} {mg : Str → Option Value} {base : Heap} {C : List Addr}
theorem S_law_pick : FnScope N_law_pick ["_law_row", "_law_things"] (defScope (top 25)) := ⟨rfl, rfl, rfl, by decide +kernel, rfl, by decide +kernel, by decide +kernel⟩
theorem d_law_pick {f c : Addr} (m_len : mg "len" = none) (B_law_taken : FnB P w K mg base C "_law_taken" 41 2 fs_law_taken) (A : Around) (outer : List Env) (s : Shared) (H : Hp) (E : XK) (hR : Room 41 (A.deeper (envOfC "_law_pick" (defScope (top 25)) s.heap.objs.size f (.ref c)))) :
    DSs C (dcx P w K mg base N_law_pick "_law_pick" (defScope (top 25)) f c A outer s H E) W0 (defBody (top 25)) w_law_pick :=
 (dss_one (ds_ret (de_ix (de_var 1) (de_callF B_law_taken hR (da_cons (de_var 0) (da_cons (de_len m_len (da_cons (de_var 1) da_nil)) da_nil))))))
theorem S_law_claims : FnScope N_law_claims ["_law_row", "_law_most"] (defScope (top 31)) := ⟨rfl, rfl, rfl, by decide +kernel, rfl, by decide +kernel, by decide +kernel⟩
theorem d_law_claims {f c : Addr} (m_range : mg "range" = none) (m_tuple : mg "tuple" = none) (B_law_taken : FnB P w K mg base C "_law_taken" 41 2 fs_law_taken) (B_law_pick : FnB P w K mg base C "_law_pick" 42 2 fs_law_pick) (A : Around) (outer : List Env) (s : Shared) (H : Hp) (E : XK) (hR : Room 42 (A.deeper (envOfC "_law_claims" (defScope (top 31)) s.heap.objs.size f (.ref c)))) :
    DSs C (dcx P w K mg base N_law_claims "_law_claims" (defScope (top 31)) f c A outer s H E) W0 (defBody (top 31)) w_law_claims :=
 (dss_cons (ds_setLc 2 rfl rfl (sw_true rfl rfl (by decide) (by decide +kernel)) rfl S_law_claims.nd (blkOk_by (own := [("_law_k", 3)]) (by rfl)) (DI.dj (di_range1 rfl m_range (da_cons (de_callF B_law_taken hR (da_cons (de_var 0) (da_cons (de_var 1) da_nil))) da_nil))) (fun _ => (dg_name 3 S_law_claims.nd rfl (by first | exact .inl rfl | exact .inr rfl))) (fun _ => dts_nil) (fun _ => (de_callF B_law_pick hR (da_cons (de_var 0) (da_cons (dn_deD (dn_lst (da_cons de_int (da_cons de_int (da_cons de_int (da_cons de_int (da_cons de_int (da_cons (de_callF B_law_taken hR (da_cons (de_var 0) (da_cons de_int da_nil))) da_nil)))))))) da_nil)))))
 (dss_one (ds_ret (de_plus (de_tuple m_tuple (da_cons (de_var 2) da_nil)) (de_tup (da_cons (de_callF B_law_pick hR (da_cons (de_var 0) (da_cons (dn_deD (dn_lst (da_cons de_int (da_cons de_int (da_cons de_int da_nil))))) da_nil))) da_nil))))))
theorem S_law_ratio : FnScope N_law_ratio ["_law_top", "_law_bottom"] (defScope (top 27)) := ⟨rfl, rfl, rfl, by decide +kernel, rfl, by decide +kernel, by decide +kernel⟩
theorem d_law_ratio {f c : Addr} (m_abs : mg "abs" = none) (m_int : mg "int" = none) (Sr0 : Sr P base) (A : Around) (outer : List Env) (s : Shared) (H : Hp) (E : XK) (hR : Room 40 (A.deeper (envOfC "_law_ratio" (defScope (top 27)) s.heap.objs.size f (.ref c)))) :
    DSs C (dcx P w K mg base N_law_ratio "_law_ratio" (defScope (top 27)) f c A outer s H E) W0 (defBody (top 27)) w_law_ratio :=
 (dss_cons (ds_par2 2 3 rfl S_law_ratio.nd rfl rfl rfl rfl (dm_val (de_abs m_abs (da_cons (de_var 0) da_nil)) (dm_val (de_abs m_abs (da_cons (de_var 1) da_nil)) dm_nil)) (by first | rfl | with_unfolding_all rfl))
 (dss_cons (ds_while PassesOwn.never (dt_ne (de_var 3) de_int (un64 hR)) (dss_one (ds_par2 2 3 rfl S_law_ratio.nd rfl rfl rfl rfl (dm_val (de_var 3) (dm_val (de_mod (de_intc m_int (da_cons (de_var 2) da_nil)) (de_var 3)) dm_nil)) (by first | rfl | with_unfolding_all rfl))))
 (dss_one (ds_ret (de_if (dt_gt (de_var 1) de_int) (de_tup (da_cons (de_fdivS Sr0 hR (de_var 0) (de_var 2)) (da_cons (de_fdivS Sr0 hR (de_var 1) (de_var 2)) da_nil))) (de_tup (da_cons (de_sub de_int (de_fdivS Sr0 hR (de_var 0) (de_var 2))) (da_cons (de_sub de_int (de_fdivS Sr0 hR (de_var 1) (de_var 2))) da_nil))))))))
theorem S_law_chances : FnScope N_law_chances ["_law_claims_here"] (defScope (top 32)) := ⟨rfl, rfl, rfl, by decide +kernel, rfl, by decide +kernel, by decide +kernel⟩
theorem d_law_chances {f c : Addr} (m_sum : mg "sum" = none) (B_law_ratio : FnB P w K mg base C "_law_ratio" 41 2 fs_law_ratio) (A : Around) (outer : List Env) (s : Shared) (H : Hp) (E : XK) (hR : Room 41 (A.deeper (envOfC "_law_chances" (defScope (top 32)) s.heap.objs.size f (.ref c)))) :
    DSs C (dcx P w K mg base N_law_chances "_law_chances" (defScope (top 32)) f c A outer s H E) W0 (defBody (top 32)) w_law_chances :=
 (dss_one (ds_retN (dn_lc rfl S_law_chances.nd (blkOk_by (own := [("_law_one", 1)]) (by rfl)) (dj_seq (de_var 0)) (fun _ => (dg_name 1 S_law_chances.nd rfl (by first | exact .inl rfl | exact .inr rfl))) (fun _ => dts_nil) (fun _ => (de_callF B_law_ratio hR (da_cons (de_var 1) (da_cons (de_sum rfl m_sum (da_cons (de_var 0) da_nil)) da_nil)))))))
theorem S_law_by : FnScope N_law_by ["_law_one", "_law_other"] (defScope (top 29)) := ⟨rfl, rfl, rfl, by decide +kernel, rfl, by decide +kernel, by decide +kernel⟩
theorem d_law_by {f c : Addr} (B_law_ratio : FnB P w K mg base C "_law_ratio" 41 2 fs_law_ratio) (A : Around) (outer : List Env) (s : Shared) (H : Hp) (E : XK) (hR : Room 41 (A.deeper (envOfC "_law_by" (defScope (top 29)) s.heap.objs.size f (.ref c)))) :
    DSs C (dcx P w K mg base N_law_by "_law_by" (defScope (top 29)) f c A outer s H E) W0 (defBody (top 29)) w_law_by :=
 (dss_one (ds_ret (de_callF B_law_ratio hR (da_cons (de_mul (de_ix (de_var 0) de_int) (de_ix (de_var 1) de_int)) (da_cons (de_mul (de_ix (de_var 0) de_int) (de_ix (de_var 1) de_int)) da_nil)))))
theorem S_law_plus : FnScope N_law_plus ["_law_one", "_law_other"] (defScope (top 28)) := ⟨rfl, rfl, rfl, by decide +kernel, rfl, by decide +kernel, by decide +kernel⟩
theorem d_law_plus {f c : Addr} (B_law_ratio : FnB P w K mg base C "_law_ratio" 41 2 fs_law_ratio) (A : Around) (outer : List Env) (s : Shared) (H : Hp) (E : XK) (hR : Room 41 (A.deeper (envOfC "_law_plus" (defScope (top 28)) s.heap.objs.size f (.ref c)))) :
    DSs C (dcx P w K mg base N_law_plus "_law_plus" (defScope (top 28)) f c A outer s H E) W0 (defBody (top 28)) w_law_plus :=
 (dss_one (ds_ret (de_callF B_law_ratio hR (da_cons (de_plus (de_mul (de_ix (de_var 0) de_int) (de_ix (de_var 1) de_int)) (de_mul (de_ix (de_var 1) de_int) (de_ix (de_var 0) de_int))) (da_cons (de_mul (de_ix (de_var 0) de_int) (de_ix (de_var 1) de_int)) da_nil)))))
theorem S_is_in : FnScope N_is_in ["value", "least", "most"] (defScope (top 12)) := ⟨rfl, rfl, rfl, by decide +kernel, rfl, by decide +kernel, by decide +kernel⟩
theorem d_is_in {f c : Addr} (m_bool : mg "bool" = none) (m_int : mg "int" = none) (m_isinstance : mg "isinstance" = none) (A : Around) (outer : List Env) (s : Shared) (H : Hp) (E : XK) (hR : Room 40 (A.deeper (envOfC "is_in" (defScope (top 12)) s.heap.objs.size f (.ref c)))) :
    DSs C (dcx P w K mg base N_is_in "is_in" (defScope (top 12)) f c A outer s H E) W0 (defBody (top 12)) w_is_in :=
 (dss_one (ds_ret (de_and (de_isiI m_isinstance m_int (de_var 0)) (de_and (de_not (de_isiB m_isinstance m_bool (de_var 0))) (de_one (de_chain op_le op_le opd_cmp opd_cmp (de_var 1) (de_var 0) (de_var 2)))))))
theorem S_need_claims : FnScope N_need_claims ["claims", "most"] (defScope (top 17)) := ⟨rfl, rfl, rfl, by decide +kernel, rfl, by decide +kernel, by decide +kernel⟩
theorem d_need_claims {f c Pt : Addr} (m_all : mg "all" = none) (m_isinstance : mg "isinstance" = none) (m_len : mg "len" = none) (m_tuple : mg "tuple" = none) (m_MOST_WEIGHT : ∃ t, mg "MOST_WEIGHT" = some (.int 1000 t)) (TB : TabB base mg c Pt) (hPC : Pt ∈ C) (B_is_in : FnB P w K mg base C "is_in" 41 3 fs_is_in) (A : Around) (outer : List Env) (s : Shared) (H : Hp) (E : XK) (hR : Room 42 (A.deeper (envOfC "need_claims" (defScope (top 17)) s.heap.objs.size f (.ref c)))) :
    DSs C (dcx P w K mg base N_need_claims "need_claims" (defScope (top 17)) f c A outer s H E) W0 (defBody (top 17)) w_need_claims :=
 (dss_cons (ds_if (DW.dt (dw_or (dt_not (dt_truth (de_isiT m_isinstance m_tuple (de_var 0)))) (dw_or1 (dt_not (dt_chain op_le op_le opd_cmp opd_cmp de_int (de_len m_len (da_cons (de_var 0) da_nil)) (de_var 1)))))) (dss_one ds_never) dss_nil)
 (dss_one (ds_if (DW.dt (dw_or (dt_not (dt_truth (de_all (k := 41) (hR.mono (by decide)) (by rfl) m_all rfl S_need_claims.nd (tc_of TB rfl) hPC (gblk_by (own := [("one", 2)]) (by rfl)) (dj_seq (de_var 0)) (fun _ => (dg_name 2 S_need_claims.nd rfl (by first | exact .inl rfl | exact .inr rfl))) (fun P1 _ hR1 TN1 => dts_nil) (fun P1 _ hR1 TN1 => (de_callF (B_is_in.up P1) hR1 (da_cons (de_var 2) (da_cons de_int (da_cons (de_globE m_MOST_WEIGHT) da_nil)))))))) (dw_or1 (dt_eq (de_ix (de_var 0) (de_neg de_int)) de_int (un64 hR))))) (dss_one ds_never) dss_nil)))
theorem S_need_time : FnScope N_need_time ["time", "least", "most"] (defScope (top 13)) := ⟨rfl, rfl, rfl, by decide +kernel, rfl, by decide +kernel, by decide +kernel⟩
theorem d_need_time {f c : Addr} (B_is_in : FnB P w K mg base C "is_in" 41 3 fs_is_in) (A : Around) (outer : List Env) (s : Shared) (H : Hp) (E : XK) (hR : Room 41 (A.deeper (envOfC "need_time" (defScope (top 13)) s.heap.objs.size f (.ref c)))) :
    DSs C (dcx P w K mg base N_need_time "need_time" (defScope (top 13)) f c A outer s H E) W0 (defBody (top 13)) w_need_time :=
 (dss_one (ds_if (dt_not (dt_truth (de_callF B_is_in hR (da_cons (de_var 0) (da_cons (de_var 1) (da_cons (de_var 2) da_nil)))))) (dss_one ds_never) dss_nil))
theorem S_ratio : FnScope N_ratio ["top", "bottom"] (defScope (top 6)) := ⟨rfl, rfl, rfl, by decide +kernel, rfl, by decide +kernel, by decide +kernel⟩
theorem d_ratio {f c : Addr} (m_gcd : mg "gcd" = some (.builtin "math.gcd")) (Sr0 : Sr P base) (A : Around) (outer : List Env) (s : Shared) (H : Hp) (E : XK) (hR : Room 40 (A.deeper (envOfC "ratio" (defScope (top 6)) s.heap.objs.size f (.ref c)))) :
    DSs C (dcx P w K mg base N_ratio "ratio" (defScope (top 6)) f c A outer s H E) W0 (defBody (top 6)) w_ratio :=
 (dss_cons (ds_set 2 S_ratio.nd rfl (by first | exact .inl rfl | exact .inr rfl) (de_if (dt_gt (de_var 1) de_int) (de_gcd m_gcd (da_cons (de_var 0) (da_cons (de_var 1) da_nil))) (de_sub de_int (de_gcd m_gcd (da_cons (de_var 0) (da_cons (de_var 1) da_nil))))))
 (dss_one (ds_ret (de_tup (da_cons (de_fdivS Sr0 hR (de_var 0) (de_var 2)) (da_cons (de_fdivS Sr0 hR (de_var 1) (de_var 2)) da_nil))))))
theorem S_chances_of : FnScope N_chances_of ["claims"] (defScope (top 18)) := ⟨rfl, rfl, rfl, by decide +kernel, rfl, by decide +kernel, by decide +kernel⟩
theorem d_chances_of {f c : Addr} (m_sum : mg "sum" = none) (B_ratio : FnB P w K mg base C "ratio" 41 2 fs_ratio) (A : Around) (outer : List Env) (s : Shared) (H : Hp) (E : XK) (hR : Room 41 (A.deeper (envOfC "chances_of" (defScope (top 18)) s.heap.objs.size f (.ref c)))) :
    DSs C (dcx P w K mg base N_chances_of "chances_of" (defScope (top 18)) f c A outer s H E) W0 (defBody (top 18)) w_chances_of :=
 (dss_one (ds_retN (dn_lc rfl S_chances_of.nd (blkOk_by (own := [("one", 1)]) (by rfl)) (dj_seq (de_var 0)) (fun _ => (dg_name 1 S_chances_of.nd rfl (by first | exact .inl rfl | exact .inr rfl))) (fun _ => dts_nil) (fun _ => (de_callF B_ratio hR (da_cons (de_var 1) (da_cons (de_sum rfl m_sum (da_cons (de_var 0) da_nil)) da_nil)))))))
theorem S_by : FnScope N_by ["one", "other"] (defScope (top 9)) := ⟨rfl, rfl, rfl, by decide +kernel, rfl, by decide +kernel, by decide +kernel⟩
theorem d_by {f c : Addr} (B_ratio : FnB P w K mg base C "ratio" 41 2 fs_ratio) (A : Around) (outer : List Env) (s : Shared) (H : Hp) (E : XK) (hR : Room 41 (A.deeper (envOfC "by" (defScope (top 9)) s.heap.objs.size f (.ref c)))) :
    DSs C (dcx P w K mg base N_by "by" (defScope (top 9)) f c A outer s H E) W0 (defBody (top 9)) w_by :=
 (dss_one (ds_ret (de_callF B_ratio hR (da_cons (de_mul (de_ix (de_var 0) de_int) (de_ix (de_var 1) de_int)) (da_cons (de_mul (de_ix (de_var 0) de_int) (de_ix (de_var 1) de_int)) da_nil)))))
theorem S_plus : FnScope N_plus ["one", "other"] (defScope (top 7)) := ⟨rfl, rfl, rfl, by decide +kernel, rfl, by decide +kernel, by decide +kernel⟩
theorem d_plus {f c : Addr} (B_ratio : FnB P w K mg base C "ratio" 41 2 fs_ratio) (A : Around) (outer : List Env) (s : Shared) (H : Hp) (E : XK) (hR : Room 41 (A.deeper (envOfC "plus" (defScope (top 7)) s.heap.objs.size f (.ref c)))) :
    DSs C (dcx P w K mg base N_plus "plus" (defScope (top 7)) f c A outer s H E) W0 (defBody (top 7)) w_plus :=
 (dss_one (ds_ret (de_callF B_ratio hR (da_cons (de_plus (de_mul (de_ix (de_var 0) de_int) (de_ix (de_var 1) de_int)) (de_mul (de_ix (de_var 1) de_int) (de_ix (de_var 0) de_int))) (da_cons (de_mul (de_ix (de_var 0) de_int) (de_ix (de_var 1) de_int)) da_nil)))))
theorem S_total : FnScope N_total ["some"] (defScope (top 10)) := ⟨rfl, rfl, rfl, by decide +kernel, rfl, by decide +kernel, by decide +kernel⟩
theorem d_total {f c : Addr} (B_plus : FnB P w K mg base C "plus" 42 2 fs_plus) (A : Around) (outer : List Env) (s : Shared) (H : Hp) (E : XK) (hR : Room 42 (A.deeper (envOfC "total" (defScope (top 10)) s.heap.objs.size f (.ref c)))) :
    DSs C (dcx P w K mg base N_total "total" (defScope (top 10)) f c A outer s H E) W0 (defBody (top 10)) w_total :=
 (dss_cons (ds_set 1 S_total.nd rfl (by first | exact .inl rfl | exact .inr rfl) (de_tup (da_cons de_int (da_cons de_int da_nil))))
 (dss_cons (ds_for PassesOwn.never rfl (di_var 0) (dg_name 2 S_total.nd rfl (by first | exact .inl rfl | exact .inr rfl)) (dss_one (ds_set 1 S_total.nd rfl (by first | exact .inl rfl | exact .inr rfl) (de_callF B_plus hR (da_cons (de_var 1) (da_cons (de_var 2) da_nil))))))
 (dss_one (ds_ret (de_var 1)))))
theorem S_minus : FnScope N_minus ["one", "other"] (defScope (top 8)) := ⟨rfl, rfl, rfl, by decide +kernel, rfl, by decide +kernel, by decide +kernel⟩
theorem d_minus {f c : Addr} (B_ratio : FnB P w K mg base C "ratio" 41 2 fs_ratio) (A : Around) (outer : List Env) (s : Shared) (H : Hp) (E : XK) (hR : Room 41 (A.deeper (envOfC "minus" (defScope (top 8)) s.heap.objs.size f (.ref c)))) :
    DSs C (dcx P w K mg base N_minus "minus" (defScope (top 8)) f c A outer s H E) W0 (defBody (top 8)) w_minus :=
 (dss_one (ds_ret (de_callF B_ratio hR (da_cons (de_sub (de_mul (de_ix (de_var 0) de_int) (de_ix (de_var 1) de_int)) (de_mul (de_ix (de_var 1) de_int) (de_ix (de_var 0) de_int))) (da_cons (de_mul (de_ix (de_var 0) de_int) (de_ix (de_var 1) de_int)) da_nil)))))
theorem S_ruin_within : FnScope N_ruin_within ["claims", "start", "years"] (defScope (top 22)) := ⟨rfl, rfl, rfl, by decide +kernel, rfl, by decide +kernel, by decide +kernel⟩
theorem d_ruin_within {f c : Addr} (m_enumerate : mg "enumerate" = none) (m_list : mg "list" = none) (m_range : mg "range" = none) (m_MOST_AMOUNTS : ∃ t, mg "MOST_AMOUNTS" = some (.int 13 t)) (m_MOST_START : ∃ t, mg "MOST_START" = some (.int 20 t)) (m_MOST_YEARS : ∃ t, mg "MOST_YEARS" = some (.int 12 t)) (B_need_claims : FnB P w K mg base C "need_claims" 43 2 fs_need_claims) (B_need_time : FnB P w K mg base C "need_time" 42 3 fs_need_time) (B_chances_of : FnB P w K mg base C "chances_of" 42 1 fs_chances_of) (B_by : FnB P w K mg base C "by" 42 2 fs_by) (B_plus : FnB P w K mg base C "plus" 42 2 fs_plus) (B_total : FnB P w K mg base C "total" 43 1 fs_total) (B_minus : FnB P w K mg base C "minus" 42 2 fs_minus) (A : Around) (outer : List Env) (s : Shared) (H : Hp) (E : XK) (hR : Room 43 (A.deeper (envOfC "ruin_within" (defScope (top 22)) s.heap.objs.size f (.ref c)))) :
    DSs C (dcx P w K mg base N_ruin_within "ruin_within" (defScope (top 22)) f c A outer s H E) W0 (defBody (top 22)) w_ruin_within :=
 (dss_cons (ds_expr (de_callF B_need_claims hR (da_cons (de_var 0) (da_cons (de_globE m_MOST_AMOUNTS) da_nil))))
 (dss_cons (ds_expr (de_callF B_need_time hR (da_cons (de_var 1) (da_cons de_int (da_cons (de_globE m_MOST_START) da_nil)))))
 (dss_cons (ds_expr (de_callF B_need_time hR (da_cons (de_var 2) (da_cons de_int (da_cons (de_globE m_MOST_YEARS) da_nil)))))
 (dss_cons (ds_aft 3 (ds_par2 3 4 rfl S_ruin_within.nd rfl rfl rfl rfl (dm_own (dn_callF B_chances_of hR (da_cons (de_var 0) da_nil)) (dm_dic (dq_one (de_var 1) (de_tup (da_cons de_int (da_cons de_int da_nil)))) dm_nil)) (by first | rfl | with_unfolding_all rfl)))
 (dss_cons (ds_for PassesOwn.never rfl (di_range1 rfl m_range (da_cons (de_var 2) da_nil)) (dg_name 5 S_ruin_within.nd rfl (by first | exact .inl rfl | exact .inr rfl)) (dss_cons (ds_setD 6 S_ruin_within.nd rfl (by first | exact .inl rfl | exact .inr rfl) dq_nil)
 (dss_cons (ds_forD 4 PassesOwn.never rfl (dg_name 7 S_ruin_within.nd rfl (by first | exact .inl rfl | exact .inr rfl)) (dss_one (ds_for PassesOwn.never rfl (di_enumerate m_enumerate (dq_var 3)) (dg_tup rfl (dgs_cons (dg_name 8 S_ruin_within.nd rfl (by first | exact .inl rfl | exact .inr rfl)) (dgs_cons (dg_name 9 S_ruin_within.nd rfl (by first | exact .inl rfl | exact .inr rfl)) dgs_nil))) (dss_one (ds_if (dt_ge (de_sub (de_plus (de_var 7) de_int) (de_var 8)) de_int) (dss_cons (ds_set 10 S_ruin_within.nd rfl (by first | exact .inl rfl | exact .inr rfl) (de_sub (de_plus (de_var 7) de_int) (de_var 8)))
 (dss_one (ds_dput 6 (un1 (un64 hR)) (de_callF B_plus hR (da_cons (de_dget2 6 (un1 (un64 hR)) (de_var 10) (de_tup (da_cons de_int (da_cons de_int da_nil)))) (da_cons (de_callF B_by hR (da_cons (de_dix 4 (un1 (un64 hR)) (de_var 7)) (da_cons (de_var 9) da_nil))) da_nil))) (de_var 10)))) dss_nil)))))
 (dss_one (ds_movD 4 6 S_ruin_within.nd rfl (by first | exact .inl rfl | exact .inr rfl))))))
 (dss_one (ds_ret (de_callF B_minus hR (da_cons (de_tup (da_cons de_int (da_cons de_int da_nil))) (da_cons (de_callF B_total hR (da_cons (dn_deD (dn_dvals 4 rfl rfl m_list)) da_nil)) da_nil))))))))))
theorem S_law_alike : FnScope N_law_alike ["_law_found", "_law_due"] (defScope (top 26)) := ⟨rfl, rfl, rfl, by decide +kernel, rfl, by decide +kernel, by decide +kernel⟩
theorem d_law_alike {kf : Nat} {fs_law_alike : FS} {f c : Addr} (m_bool : mg "bool" = none) (m_int : mg "int" = none) (m_isinstance : mg "isinstance" = none) (m_len : mg "len" = none) (m_list : mg "list" = none) (m_range : mg "range" = none) (m_str : mg "str" = none) (m_tuple : mg "tuple" = none) (hkf : 41 ≤ kf) (B_law_alike : FnB P w K mg base C "_law_alike" kf 2 fs_law_alike) (A : Around) (outer : List Env) (s : Shared) (H : Hp) (E : XK) (hR : Room kf (A.deeper (envOfC "_law_alike" (defScope (top 26)) s.heap.objs.size f (.ref c)))) :
    DSs C (dcx P w K mg base N_law_alike "_law_alike" (defScope (top 26)) f c A outer s H E) W0 (defBody (top 26)) (w_law_alike fs_law_alike) :=
 (dss_cons (ds_if (dt_truth (de_isiTL m_isinstance m_tuple m_list (de_var 1))) (dss_cons (ds_if (DW.dt (dw_or (dt_not (dt_truth (de_isiTL m_isinstance m_tuple m_list (de_var 0)))) (dw_or1 (dt_ne (de_isiL m_isinstance m_list (de_var 0)) (de_isiL m_isinstance m_list (de_var 1)) (un64 hR))))) (dss_one (ds_ret de_bl)) dss_nil)
 (dss_cons (ds_if (dt_ne (de_len m_len (da_cons (de_var 0) da_nil)) (de_len m_len (da_cons (de_var 1) da_nil)) (un64 hR)) (dss_one (ds_ret de_bl)) dss_nil)
 (dss_one (ds_ret (de_eq (dn_deD (dn_lc rfl S_law_alike.nd (blkOk_by (own := [("_law_k", 2)]) (by rfl)) (DI.dj (di_range1 rfl m_range (da_cons (de_len m_len (da_cons (de_var 1) da_nil)) da_nil))) (fun _ => (dg_name 2 S_law_alike.nd rfl (by first | exact .inl rfl | exact .inr rfl))) (fun _ => (dts_one (dt_not (dt_truth (de_callF (hj := Nat.le_refl _) B_law_alike hR (da_cons (de_ix (de_var 0) (de_var 2)) (da_cons (de_ix (de_var 1) (de_var 2)) da_nil))))))) (fun _ => (de_var 2)))) (dn_deD (dn_lst da_nil)) (un64 hR)))))) dss_nil)
 (dss_cons (ds_if (DW.dt (dw_or (dt_is (de_var 1) de_non) (dw_or1 (dt_truth (de_isiS m_isinstance m_str (de_var 1)))))) (dss_one (ds_ret (de_and (de_eq (de_var 0) (de_var 1) (un64 hR)) (de_one (de_eq (de_isiS m_isinstance m_str (de_var 0)) (de_isiS m_isinstance m_str (de_var 1)) (un64 hR)))))) dss_nil)
 (dss_one (ds_ret (de_and (de_isiI m_isinstance m_int (de_var 0)) (de_and (de_eq (de_isiB m_isinstance m_bool (de_var 0)) (de_isiB m_isinstance m_bool (de_var 1)) (un64 hR)) (de_one (de_eq (de_var 0) (de_var 1) (un64 hR)))))))))
theorem S_law_below : FnScope N_law_below ["_law_one", "_law_other"] (defScope (top 35)) := ⟨rfl, rfl, rfl, by decide +kernel, rfl, by decide +kernel, by decide +kernel⟩
theorem d_law_below {f c : Addr}  (A : Around) (outer : List Env) (s : Shared) (H : Hp) (E : XK) (hR : Room 40 (A.deeper (envOfC "_law_below" (defScope (top 35)) s.heap.objs.size f (.ref c)))) :
    DSs C (dcx P w K mg base N_law_below "_law_below" (defScope (top 35)) f c A outer s H E) W0 (defBody (top 35)) w_law_below :=
 (dss_one (ds_ret (de_lt (de_mul (de_ix (de_var 0) de_int) (de_ix (de_var 1) de_int)) (de_mul (de_ix (de_var 1) de_int) (de_ix (de_var 0) de_int)))))
theorem S_law : FnScope N_law_k47 ["_law_script"] (defScope (top 38)) := ⟨rfl, rfl, rfl, by decide +kernel, rfl, by decide +kernel, by decide +kernel⟩
theorem d_law {f c : Addr} (m_len : mg "len" = none) (m_range : mg "range" = none) (B_law_taken : FnB P w K mg base C "_law_taken" 41 2 fs_law_taken) (B_law_claims : FnB P w K mg base C "_law_claims" 43 2 fs_law_claims) (B_law_chances : FnB P w K mg base C "_law_chances" 42 1 fs_law_chances) (B_law_by : FnB P w K mg base C "_law_by" 42 2 fs_law_by) (B_law_plus : FnB P w K mg base C "_law_plus" 42 2 fs_law_plus) (B_ruin_within : FnB P w K mg base C "ruin_within" 44 3 fs_ruin_within) (B_law_alike : FnB P w K mg base C "_law_alike" 46 2 fs_law_alike) (B_law_below : FnB P w K mg base C "_law_below" 41 2 fs_law_below) (A : Around) (outer : List Env) (s : Shared) (H : Hp) (E : XK) (hR : Room 46 (A.deeper (envOfC "law" (defScope (top 38)) s.heap.objs.size f (.ref c)))) :
    DSs C (dcx P w K mg base N_law_k47 "law" (defScope (top 38)) f c A outer s H E) W0 ((defBody (top 38)).drop 1) w_law_k47 :=
 (dss_cons (ds_par3 2 3 4 rfl S_law.nd rfl rfl rfl rfl rfl rfl (dm_val (de_callF B_law_claims hR (da_cons (de_var 1) (da_cons de_int da_nil))) (dm_val (de_callF B_law_taken hR (da_cons (de_var 1) (da_cons de_int da_nil))) (dm_val (de_callF B_law_taken hR (da_cons (de_var 1) (da_cons de_int da_nil))) dm_nil))) (by first | rfl | with_unfolding_all rfl))
 (dss_cons (ds_par3 5 6 7 rfl S_law.nd rfl rfl rfl rfl rfl rfl (dm_own (dn_callF B_law_chances hR (da_cons (de_var 2) da_nil)) (dm_own (dn_lst (da_cons (de_tup (da_cons (de_var 3) (da_cons (de_tup (da_cons de_int (da_cons de_int da_nil))) da_nil))) da_nil)) (dm_val (de_tup (da_cons de_int (da_cons de_int da_nil))) dm_nil))) (by first | rfl | with_unfolding_all rfl))
 (dss_cons (ds_for PassesOwn.never rfl (di_range1 rfl m_range (da_cons (de_var 4) da_nil)) (dg_name 8 S_law.nd rfl (by first | exact .inl rfl | exact .inr rfl)) (dss_cons (ds_setN 9 S_law.nd rfl (by first | exact .inl rfl | exact .inr rfl) (dn_lst da_nil))
 (dss_cons (ds_dis 6 (ds_for PassesOwn.never rfl (di_var 6) (dg_tup rfl (dgs_cons (dg_name 10 S_law.nd rfl (by first | exact .inl rfl | exact .inr rfl)) (dgs_cons (dg_name 11 S_law.nd rfl (by first | exact .inl rfl | exact .inr rfl)) dgs_nil))) (dss_one (ds_for PassesOwn.never rfl (di_range1 rfl m_range (da_cons (de_len m_len (da_cons (de_var 5) da_nil)) da_nil)) (dg_name 12 S_law.nd rfl (by first | exact .inl rfl | exact .inr rfl)) (dss_cons (ds_set 13 S_law.nd rfl (by first | exact .inl rfl | exact .inr rfl) (de_callF B_law_by hR (da_cons (de_var 11) (da_cons (de_ix (de_var 5) (de_var 12)) da_nil))))
 (dss_cons (ds_if (dt_lt (de_sub (de_plus (de_var 10) de_int) (de_var 12)) de_int) (dss_one (ds_set 7 S_law.nd rfl (by first | exact .inl rfl | exact .inr rfl) (de_callF B_law_plus hR (da_cons (de_var 7) (da_cons (de_var 13) da_nil))))) dss_nil)
 (dss_one (ds_if (DW.dt (dw_and (dt_ge (de_sub (de_plus (de_var 10) de_int) (de_var 12)) de_int) (dw_and1 (dt_ne (de_var 13) (de_tup (da_cons de_int (da_cons de_int da_nil))) (un64 hR))))) (dss_one (ds_app 9 (de_tup (da_cons (de_sub (de_plus (de_var 10) de_int) (de_var 12)) (da_cons (de_var 13) da_nil))))) dss_nil))))))))
 (dss_one (ds_mov 6 9 S_law.nd rfl (by first | exact .inl rfl | exact .inr rfl))))))
 (dss_cons (ds_if (dt_not (dt_truth (de_callF B_law_alike hR (da_cons (de_callF B_ruin_within hR (da_cons (de_var 2) (da_cons (de_var 3) (da_cons (de_var 4) da_nil)))) (da_cons (de_var 7) da_nil))))) (dss_one (ds_ret de_bl)) dss_nil)
 (dss_one (ds_ret (de_and (de_not (de_callF B_law_below hR (da_cons (de_callF B_ruin_within hR (da_cons (de_var 2) (da_cons (de_var 3) (da_cons (de_plus (de_var 4) de_int) da_nil)))) (da_cons (de_var 7) da_nil)))) (de_one (de_not (de_callF B_law_below hR (da_cons (de_var 7) (da_cons (de_callF B_ruin_within hR (da_cons (de_var 2) (da_cons (de_plus (de_var 3) de_int) (da_cons (de_var 4) da_nil)))) da_nil))))))))))))
theorem S_law_taken : FnScope ["_law_row", "_law_many", "_law_found", "_law_cell"] ["_law_row", "_law_many"] (defScope (top 24)) := ⟨rfl, rfl, rfl, by decide +kernel, rfl, by decide +kernel, by decide +kernel⟩
theorem d_law_taken {f c : Addr} (m_int : mg "int" = none) (m_len : mg "len" = none) (Sr0 : Sr P base) (A : Around) (outer : List Env) (s : Shared) (H : Hp) (E : XK) (hR : Room 40 (A.deeper (envOfC "_law_taken" (defScope (top 24)) s.heap.objs.size f (.ref c)))) : PSs (dcx P w K mg base ["_law_row", "_law_many", "_law_found", "_law_cell"] "_law_taken" (defScope (top 24)) f c A outer s H E) (defBody (top 24)) (t_taken K) :=
 (pss_cons (ps_if (pt_cmpR op_gt (pe_ix ix_list (pe_var (i := 0) rfl (.inl rfl)) pe_int (fun _ _ => rfl)) pe_int (nomark _))
      (pss_cons (ps_set (i := 2) S_law_taken.nd rfl (.inl rfl) (pe_op op_modN (pe_callTy call_int1 (by rfl) m_int (by decide +kernel) (pa_cons (pe_ix ix_list (pe_var (i := 0) rfl (.inl rfl)) pe_int (fun _ _ => rfl)) pa_nil)) (pe_var (i := 1) rfl (.inl rfl))))
      (pss_cons (ps_asg (pe_op (op_fdivA (Sr0.seer hR)) (pe_ix ix_list (pe_var (i := 0) rfl (.inl rfl)) pe_int (fun _ _ => rfl)) (pe_var (i := 1) rfl (.inl rfl))) (pg_sub (pe_var (i := 0) rfl (.inl rfl)) pe_int set_list))
      (pss_one (ps_ret (pe_var (i := 2) rfl (.inl rfl)))))) pss_nil)
    (pss_cons (ps_asg (pe_op op_add (pe_ix ix_list (pe_var (i := 0) rfl (.inl rfl)) pe_int (fun _ _ => rfl)) pe_int) (pg_sub (pe_var (i := 0) rfl (.inl rfl)) pe_int set_list))
    (pss_cons (ps_if (pt_cmpR op_gt (pe_ix ix_list (pe_var (i := 0) rfl (.inl rfl)) pe_int (fun _ _ => rfl)) (pe_callB call_len (by rfl) m_len boot_len (pa_cons (pe_ix ix_list (pe_var (i := 0) rfl (.inl rfl)) pe_int (fun _ _ => rfl)) pa_nil)) (nomark _))
      (pss_cons (ps_asg (pe_op op_modN (pe_callTy call_int1 (by rfl) m_int (by decide +kernel) (pa_cons (pe_op op_add (pe_op op_mulF (pe_ix ix_list (pe_var (i := 0) rfl (.inl rfl)) pe_int (fun _ _ => rfl)) pe_int) pe_int) pa_nil)) pe_int) (pg_sub (pe_var (i := 0) rfl (.inl rfl)) pe_int set_list))
      (pss_one (ps_ret (pe_op op_modN (pe_callTy call_int1 (by rfl) m_int (by decide +kernel) (pa_cons (pe_op (op_fdivA (Sr0.seer hR)) (pe_ix ix_list (pe_var (i := 0) rfl (.inl rfl)) pe_int (fun _ _ => rfl)) pe_int) pa_nil)) (pe_var (i := 1) rfl (.inl rfl)))))) pss_nil)
    (pss_cons (ps_set (i := 3) S_law_taken.nd rfl (.inl rfl) (pe_ix ix_list (pe_ix ix_list (pe_var (i := 0) rfl (.inl rfl)) pe_int (fun _ _ => rfl)) (pe_op op_sub (pe_ix ix_list (pe_var (i := 0) rfl (.inl rfl)) pe_int (fun _ _ => rfl)) pe_int) (fun _ _ => rfl)))
    (pss_cons (ps_asg (pe_op op_modN (pe_callTy call_int1 (by rfl) m_int (by decide +kernel) (pa_cons (pe_op op_add (pe_op op_add (pe_op op_mulF (pe_ix ix_list (pe_var (i := 0) rfl (.inl rfl)) pe_int (fun _ _ => rfl)) pe_int) (pe_var (i := 3) rfl (.inl rfl))) pe_int) pa_nil)) pe_int) (pg_sub (pe_var (i := 0) rfl (.inl rfl)) pe_int set_list))
    (pss_cons (ps_if (pt_cmpR op_ge (pe_var (i := 3) rfl (.inl rfl)) (pe_op op_pow pe_int pe_int) (nomark _))
      (pss_one (ps_asg (pe_op (op_fdivA (Sr0.seer hR)) (pe_var (i := 3) rfl (.inl rfl)) (pe_var (i := 1) rfl (.inl rfl))) (pg_sub (pe_var (i := 0) rfl (.inl rfl)) pe_int set_list))) pss_nil)
    (pss_one (ps_ret (pe_op op_modN (pe_callTy call_int1 (by rfl) m_int (by decide +kernel) (pa_cons (pe_var (i := 3) rfl (.inl rfl)) pa_nil)) (pe_var (i := 1) rfl (.inl rfl)))))))))))
end
def dd (i : Nat) (n : Str) : He.DefD := ⟨(n, none), n, n, defArgs (top i), defBody (top i), defScope (top i), [], []⟩
def fn : List He.DefD := [dd 24 "_law_taken", dd 25 "_law_pick", dd 31 "_law_claims", dd 27 "_law_ratio", dd 32 "_law_chances", dd 29 "_law_by", dd 28 "_law_plus", dd 12 "is_in", dd 17 "need_claims", dd 13 "need_time", dd 6 "ratio", dd 18 "chances_of", dd 9 "by", dd 7 "plus", dd 10 "total", dd 8 "minus", dd 22 "ruin_within", dd 26 "_law_alike", dd 35 "_law_below", dd 38 "law"]
def faG : List He.Fa := [.glo "_law_taken", .glo "_law_pick", .glo "_law_claims", .glo "_law_ratio", .glo "_law_chances", .glo "_law_by", .glo "_law_plus", .glo "is_in", .glo "need_claims", .glo "need_time", .glo "ratio", .glo "chances_of", .glo "by", .glo "plus", .glo "total", .glo "minus", .glo "ruin_within", .glo "_law_alike", .glo "_law_below", .glo "law"]
def faB : List He.Fa := [.free "abs", .free "all", .free "bool", .free "enumerate", .free "int", .free "isinstance", .free "len", .free "list", .free "range", .free "str", .free "sum", .free "tuple"]
def faI : List He.Fa := [.int "MOST_AMOUNTS" 13, .int "MOST_START" 20, .int "MOST_WEIGHT" 1000, .int "MOST_YEARS" 12]
def faC : List He.Fa := []
def faX : List He.Fa := []
def fa : List He.Fa := faG ++ (faB ++ (faI ++ (faC ++ faX)))
def tf : List He.Defn := [("need_claims", none)]
def ex (K : PySem.W.Frag) : Bool := He.eqO (PySem.W.nsIn K mainGlobals "gcd") (some (some (.builtin "math.gcd"))) && (true)
def loose0 : List Str := ["LifeError", "BadTime", "BadClaims", "ratio", "plus", "minus", "by", "total", "is_in", "need_time", "MOST_AMOUNTS", "MOST_WEIGHT", "need_claims", "chances_of", "MOST_START", "MOST_YEARS", "ruin_within", "_law_taken", "_law_pick", "_law_alike", "_law_ratio", "_law_plus", "_law_by", "_law_sum", "_law_claims", "_law_chances", "_law_fold", "_law_above", "_law_below", "_law_two"]
def loose1 : List Str := ["_law_near"]
def loose : List Str := loose0 ++ loose1
abbrev R : PySem.W.OpenRow := PySem.W.OpenLaw.row PySem.Challenge.rw_actuarium_k47_whole_ruin_within
abbrev hk : PySem.W.Hook := hookY 2 fa fn tf ex
def ob (s : PySem.W.SharedT) : He.AlD × Bool := obsY 2 fa fn tf ex (HandSHeadRun.getT s)
theorem ob_eq (s : PySem.W.SharedT) : ob s = hk.obs s.abs := obsY_eq (HandSHeadRun.getT_eq s)
set_option maxHeartbeats 0 in
theorem run (w : World) : HandSHeadRun.RunEqI R (PySem.W.view R.prog [0, 38]) hk ob 30000 loose w := by
  unfold HandSHeadRun.RunEqI
  kernel_rfl
theorem facts {P : Program} {w : World} {K : PySem.W.Frag} {h : Heap} {mg : Str → Option Value} {f : Addr} (hT : P.given.tree = none) (X : K.In h) (G : h.Ns mainGlobals mg) (hfa : mg ("law" : Str) = some (.ref f)) (S : SaysY fa fn tf ex h K) :
    ∃ fd : FuncData, (∀ (s : Shared) (u : Value), BindsTo s fd ⟨[u], []⟩ [("_law_script", u)]) ∧ ∀ base : Heap, K.In base → base.Ns mainGlobals mg → (∀ p ∈ tf, TabB base mg (He.cT K p).1 (He.cT K p).2) → (∀ p ∈ tf, base.NoSeer) → FnOk P w K mg base CX0 47 f fd ["_law_script"] (spLaw (tf.map fun p => (He.cT K p).2) K) := by
  obtain ⟨fd_law_taken, F_law_taken⟩ := S.d.def_ 0 (d := dd 24 "_law_taken") rfl
  have g_law_taken : mg "_law_taken" = some (.ref (He.fAd K ("_law_taken", none))) := He.glo_ok X G (S.d.fact 0 (f := .glo "_law_taken") rfl)
  obtain ⟨fd_law_pick, F_law_pick⟩ := S.d.def_ 1 (d := dd 25 "_law_pick") rfl
  have g_law_pick : mg "_law_pick" = some (.ref (He.fAd K ("_law_pick", none))) := He.glo_ok X G (S.d.fact 1 (f := .glo "_law_pick") rfl)
  obtain ⟨fd_law_claims, F_law_claims⟩ := S.d.def_ 2 (d := dd 31 "_law_claims") rfl
  have g_law_claims : mg "_law_claims" = some (.ref (He.fAd K ("_law_claims", none))) := He.glo_ok X G (S.d.fact 2 (f := .glo "_law_claims") rfl)
  obtain ⟨fd_law_ratio, F_law_ratio⟩ := S.d.def_ 3 (d := dd 27 "_law_ratio") rfl
  have g_law_ratio : mg "_law_ratio" = some (.ref (He.fAd K ("_law_ratio", none))) := He.glo_ok X G (S.d.fact 3 (f := .glo "_law_ratio") rfl)
  obtain ⟨fd_law_chances, F_law_chances⟩ := S.d.def_ 4 (d := dd 32 "_law_chances") rfl
  have g_law_chances : mg "_law_chances" = some (.ref (He.fAd K ("_law_chances", none))) := He.glo_ok X G (S.d.fact 4 (f := .glo "_law_chances") rfl)
  obtain ⟨fd_law_by, F_law_by⟩ := S.d.def_ 5 (d := dd 29 "_law_by") rfl
  have g_law_by : mg "_law_by" = some (.ref (He.fAd K ("_law_by", none))) := He.glo_ok X G (S.d.fact 5 (f := .glo "_law_by") rfl)
  obtain ⟨fd_law_plus, F_law_plus⟩ := S.d.def_ 6 (d := dd 28 "_law_plus") rfl
  have g_law_plus : mg "_law_plus" = some (.ref (He.fAd K ("_law_plus", none))) := He.glo_ok X G (S.d.fact 6 (f := .glo "_law_plus") rfl)
  obtain ⟨fd_is_in, F_is_in⟩ := S.d.def_ 7 (d := dd 12 "is_in") rfl
  have g_is_in : mg "is_in" = some (.ref (He.fAd K ("is_in", none))) := He.glo_ok X G (S.d.fact 7 (f := .glo "is_in") rfl)
  obtain ⟨fd_need_claims, F_need_claims⟩ := S.d.def_ 8 (d := dd 17 "need_claims") rfl
  have g_need_claims : mg "need_claims" = some (.ref (He.fAd K ("need_claims", none))) := He.glo_ok X G (S.d.fact 8 (f := .glo "need_claims") rfl)
  obtain ⟨fd_need_time, F_need_time⟩ := S.d.def_ 9 (d := dd 13 "need_time") rfl
  have g_need_time : mg "need_time" = some (.ref (He.fAd K ("need_time", none))) := He.glo_ok X G (S.d.fact 9 (f := .glo "need_time") rfl)
  obtain ⟨fd_ratio, F_ratio⟩ := S.d.def_ 10 (d := dd 6 "ratio") rfl
  have g_ratio : mg "ratio" = some (.ref (He.fAd K ("ratio", none))) := He.glo_ok X G (S.d.fact 10 (f := .glo "ratio") rfl)
  obtain ⟨fd_chances_of, F_chances_of⟩ := S.d.def_ 11 (d := dd 18 "chances_of") rfl
  have g_chances_of : mg "chances_of" = some (.ref (He.fAd K ("chances_of", none))) := He.glo_ok X G (S.d.fact 11 (f := .glo "chances_of") rfl)
  obtain ⟨fd_by, F_by⟩ := S.d.def_ 12 (d := dd 9 "by") rfl
  have g_by : mg "by" = some (.ref (He.fAd K ("by", none))) := He.glo_ok X G (S.d.fact 12 (f := .glo "by") rfl)
  obtain ⟨fd_plus, F_plus⟩ := S.d.def_ 13 (d := dd 7 "plus") rfl
  have g_plus : mg "plus" = some (.ref (He.fAd K ("plus", none))) := He.glo_ok X G (S.d.fact 13 (f := .glo "plus") rfl)
  obtain ⟨fd_total, F_total⟩ := S.d.def_ 14 (d := dd 10 "total") rfl
  have g_total : mg "total" = some (.ref (He.fAd K ("total", none))) := He.glo_ok X G (S.d.fact 14 (f := .glo "total") rfl)
  obtain ⟨fd_minus, F_minus⟩ := S.d.def_ 15 (d := dd 8 "minus") rfl
  have g_minus : mg "minus" = some (.ref (He.fAd K ("minus", none))) := He.glo_ok X G (S.d.fact 15 (f := .glo "minus") rfl)
  obtain ⟨fd_ruin_within, F_ruin_within⟩ := S.d.def_ 16 (d := dd 22 "ruin_within") rfl
  have g_ruin_within : mg "ruin_within" = some (.ref (He.fAd K ("ruin_within", none))) := He.glo_ok X G (S.d.fact 16 (f := .glo "ruin_within") rfl)
  obtain ⟨fd_law_alike, F_law_alike⟩ := S.d.def_ 17 (d := dd 26 "_law_alike") rfl
  have g_law_alike : mg "_law_alike" = some (.ref (He.fAd K ("_law_alike", none))) := He.glo_ok X G (S.d.fact 17 (f := .glo "_law_alike") rfl)
  obtain ⟨fd_law_below, F_law_below⟩ := S.d.def_ 18 (d := dd 35 "_law_below") rfl
  have g_law_below : mg "_law_below" = some (.ref (He.fAd K ("_law_below", none))) := He.glo_ok X G (S.d.fact 18 (f := .glo "_law_below") rfl)
  obtain ⟨fd_law, F_law⟩ := S.d.def_ 19 (d := dd 38 "law") rfl
  have g_law : mg "law" = some (.ref (He.fAd K ("law", none))) := He.glo_ok X G (S.d.fact 19 (f := .glo "law") rfl)
  have m_abs : mg "abs" = none := He.free_ok X G (S.d.fact 20 (f := .free "abs") rfl)
  have m_all : mg "all" = none := He.free_ok X G (S.d.fact 21 (f := .free "all") rfl)
  have m_bool : mg "bool" = none := He.free_ok X G (S.d.fact 22 (f := .free "bool") rfl)
  have m_enumerate : mg "enumerate" = none := He.free_ok X G (S.d.fact 23 (f := .free "enumerate") rfl)
  have m_int : mg "int" = none := He.free_ok X G (S.d.fact 24 (f := .free "int") rfl)
  have m_isinstance : mg "isinstance" = none := He.free_ok X G (S.d.fact 25 (f := .free "isinstance") rfl)
  have m_len : mg "len" = none := He.free_ok X G (S.d.fact 26 (f := .free "len") rfl)
  have m_list : mg "list" = none := He.free_ok X G (S.d.fact 27 (f := .free "list") rfl)
  have m_range : mg "range" = none := He.free_ok X G (S.d.fact 28 (f := .free "range") rfl)
  have m_str : mg "str" = none := He.free_ok X G (S.d.fact 29 (f := .free "str") rfl)
  have m_sum : mg "sum" = none := He.free_ok X G (S.d.fact 30 (f := .free "sum") rfl)
  have m_tuple : mg "tuple" = none := He.free_ok X G (S.d.fact 31 (f := .free "tuple") rfl)
  have m_MOST_AMOUNTS : ∃ t, mg "MOST_AMOUNTS" = some (.int 13 t) := He.int_ok X G (S.d.fact 32 (f := .int "MOST_AMOUNTS" 13) rfl)
  have m_MOST_START : ∃ t, mg "MOST_START" = some (.int 20 t) := He.int_ok X G (S.d.fact 33 (f := .int "MOST_START" 20) rfl)
  have m_MOST_WEIGHT : ∃ t, mg "MOST_WEIGHT" = some (.int 1000 t) := He.int_ok X G (S.d.fact 34 (f := .int "MOST_WEIGHT" 1000) rfl)
  have m_MOST_YEARS : ∃ t, mg "MOST_YEARS" = some (.int 12 t) := He.int_ok X G (S.d.fact 35 (f := .int "MOST_YEARS" 12) rfl)
  have e_0 := S.more
  have e_1 := (He.ba e_0).2
  have m_gcd : mg "gcd" = some (.builtin "math.gcd") := PySem.W.mg_of X G (He.eqO_ok (He.ba e_0).1)
  have e := hfa.symm.trans g_law
  cases e
  refine ⟨fd_law, fun s v => FunD.bindsA (ps := ["_law_script"]) F_law (fun _ _ _ _ _ _ us hl => match us, hl with | [_], _ => rfl) s [v] rfl, fun base B N TBs NS => ?_⟩
  have Sr0 : Sr P base := ⟨NS _ (List.mem_iff_getElem?.mpr ⟨0, rfl⟩), hT⟩
  generalize hC : tf.map (fun p => (He.cT K p).2) = C
  have T_need_claims : TabB base mg (He.cT K ("need_claims", none)).1 (He.cT K ("need_claims", none)).2 := TBs _ (List.mem_iff_getElem?.mpr ⟨0, rfl⟩)
  have C_need_claims : (He.cT K ("need_claims", none)).2 ∈ C := by rw [← hC]; exact List.mem_map.mpr ⟨_, List.mem_iff_getElem?.mpr ⟨0, rfl⟩, rfl⟩
  have B_law_taken : FnB P w K mg base C "_law_taken" 41 2 fs_law_taken := ⟨_, _, ["_law_row", "_law_many"], ok_taken F_law_taken S_law_taken (fun A outer s H E hR => d_law_taken m_int m_len Sr0 A outer s H E hR), g_law_taken, F_law_taken.kp, FunD.bindsN F_law_taken (fun _ _ _ _ _ _ us hl => match us, hl with | [_, _], _ => rfl)⟩
  have B_law_pick : FnB P w K mg base C "_law_pick" 42 2 fs_law_pick := ⟨_, _, ["_law_row", "_law_things"], ok_of F_law_pick S_law_pick rfl (fun A outer s H E hR => d_law_pick m_len B_law_taken A outer s H E hR) pure_law_pick, g_law_pick, F_law_pick.kp, FunD.bindsN F_law_pick (fun _ _ _ _ _ _ us hl => match us, hl with | [_, _], _ => rfl)⟩
  have B_law_claims : FnB P w K mg base C "_law_claims" 43 2 fs_law_claims := ⟨_, _, ["_law_row", "_law_most"], ok_of F_law_claims S_law_claims rfl (fun A outer s H E hR => d_law_claims m_range m_tuple B_law_taken B_law_pick A outer s H E hR) pure_law_claims, g_law_claims, F_law_claims.kp, FunD.bindsN F_law_claims (fun _ _ _ _ _ _ us hl => match us, hl with | [_, _], _ => rfl)⟩
  have B_law_ratio : FnB P w K mg base C "_law_ratio" 41 2 fs_law_ratio := ⟨_, _, ["_law_top", "_law_bottom"], ok_of F_law_ratio S_law_ratio rfl (fun A outer s H E hR => d_law_ratio m_abs m_int Sr0 A outer s H E hR) pure_law_ratio, g_law_ratio, F_law_ratio.kp, FunD.bindsN F_law_ratio (fun _ _ _ _ _ _ us hl => match us, hl with | [_, _], _ => rfl)⟩
  have B_law_chances : FnB P w K mg base C "_law_chances" 42 1 fs_law_chances := ⟨_, _, ["_law_claims_here"], ok_of F_law_chances S_law_chances rfl (fun A outer s H E hR => d_law_chances m_sum B_law_ratio A outer s H E hR) pure_law_chances, g_law_chances, F_law_chances.kp, FunD.bindsN F_law_chances (fun _ _ _ _ _ _ us hl => match us, hl with | [_], _ => rfl)⟩
  have B_law_by : FnB P w K mg base C "_law_by" 42 2 fs_law_by := ⟨_, _, ["_law_one", "_law_other"], ok_of F_law_by S_law_by rfl (fun A outer s H E hR => d_law_by B_law_ratio A outer s H E hR) pure_law_by, g_law_by, F_law_by.kp, FunD.bindsN F_law_by (fun _ _ _ _ _ _ us hl => match us, hl with | [_, _], _ => rfl)⟩
  have B_law_plus : FnB P w K mg base C "_law_plus" 42 2 fs_law_plus := ⟨_, _, ["_law_one", "_law_other"], ok_of F_law_plus S_law_plus rfl (fun A outer s H E hR => d_law_plus B_law_ratio A outer s H E hR) pure_law_plus, g_law_plus, F_law_plus.kp, FunD.bindsN F_law_plus (fun _ _ _ _ _ _ us hl => match us, hl with | [_, _], _ => rfl)⟩
  have B_is_in : FnB P w K mg base C "is_in" 41 3 fs_is_in := ⟨_, _, ["value", "least", "most"], ok_of F_is_in S_is_in rfl (fun A outer s H E hR => d_is_in m_bool m_int m_isinstance A outer s H E hR) pure_is_in, g_is_in, F_is_in.kp, FunD.bindsN F_is_in (fun _ _ _ _ _ _ us hl => match us, hl with | [_, _, _], _ => rfl)⟩
  have B_need_claims : FnB P w K mg base C "need_claims" 43 2 fs_need_claims := ⟨_, _, ["claims", "most"], ok_of F_need_claims S_need_claims rfl (fun A outer s H E hR => d_need_claims m_all m_isinstance m_len m_tuple m_MOST_WEIGHT T_need_claims C_need_claims B_is_in A outer s H E hR) pure_need_claims, g_need_claims, F_need_claims.kp, FunD.bindsN F_need_claims (fun _ _ _ _ _ _ us hl => match us, hl with | [_, _], _ => rfl)⟩
  have B_need_time : FnB P w K mg base C "need_time" 42 3 fs_need_time := ⟨_, _, ["time", "least", "most"], ok_of F_need_time S_need_time rfl (fun A outer s H E hR => d_need_time B_is_in A outer s H E hR) pure_need_time, g_need_time, F_need_time.kp, FunD.bindsN F_need_time (fun _ _ _ _ _ _ us hl => match us, hl with | [_, _, _], _ => rfl)⟩
  have B_ratio : FnB P w K mg base C "ratio" 41 2 fs_ratio := ⟨_, _, ["top", "bottom"], ok_of F_ratio S_ratio rfl (fun A outer s H E hR => d_ratio m_gcd Sr0 A outer s H E hR) pure_ratio, g_ratio, F_ratio.kp, FunD.bindsN F_ratio (fun _ _ _ _ _ _ us hl => match us, hl with | [_, _], _ => rfl)⟩
  have B_chances_of : FnB P w K mg base C "chances_of" 42 1 fs_chances_of := ⟨_, _, ["claims"], ok_of F_chances_of S_chances_of rfl (fun A outer s H E hR => d_chances_of m_sum B_ratio A outer s H E hR) pure_chances_of, g_chances_of, F_chances_of.kp, FunD.bindsN F_chances_of (fun _ _ _ _ _ _ us hl => match us, hl with | [_], _ => rfl)⟩
  have B_by : FnB P w K mg base C "by" 42 2 fs_by := ⟨_, _, ["one", "other"], ok_of F_by S_by rfl (fun A outer s H E hR => d_by B_ratio A outer s H E hR) pure_by, g_by, F_by.kp, FunD.bindsN F_by (fun _ _ _ _ _ _ us hl => match us, hl with | [_, _], _ => rfl)⟩
  have B_plus : FnB P w K mg base C "plus" 42 2 fs_plus := ⟨_, _, ["one", "other"], ok_of F_plus S_plus rfl (fun A outer s H E hR => d_plus B_ratio A outer s H E hR) pure_plus, g_plus, F_plus.kp, FunD.bindsN F_plus (fun _ _ _ _ _ _ us hl => match us, hl with | [_, _], _ => rfl)⟩
  have B_total : FnB P w K mg base C "total" 43 1 fs_total := ⟨_, _, ["some"], ok_of F_total S_total rfl (fun A outer s H E hR => d_total B_plus A outer s H E hR) pure_total, g_total, F_total.kp, FunD.bindsN F_total (fun _ _ _ _ _ _ us hl => match us, hl with | [_], _ => rfl)⟩
  have B_minus : FnB P w K mg base C "minus" 42 2 fs_minus := ⟨_, _, ["one", "other"], ok_of F_minus S_minus rfl (fun A outer s H E hR => d_minus B_ratio A outer s H E hR) pure_minus, g_minus, F_minus.kp, FunD.bindsN F_minus (fun _ _ _ _ _ _ us hl => match us, hl with | [_, _], _ => rfl)⟩
  have B_ruin_within : FnB P w K mg base C "ruin_within" 44 3 fs_ruin_within := ⟨_, _, ["claims", "start", "years"], ok_of F_ruin_within S_ruin_within rfl (fun A outer s H E hR => d_ruin_within m_enumerate m_list m_range m_MOST_AMOUNTS m_MOST_START m_MOST_YEARS B_need_claims B_need_time B_chances_of B_by B_plus B_total B_minus A outer s H E hR) pure_ruin_within, g_ruin_within, F_ruin_within.kp, FunD.bindsN F_ruin_within (fun _ _ _ _ _ _ us hl => match us, hl with | [_, _, _], _ => rfl)⟩
  have b_law_alike : Binds K fd_law_alike ["_law_found", "_law_due"] [] := FunD.bindsN F_law_alike (fun _ _ _ _ _ _ us hl => match us, hl with | [_, _], _ => rfl)
  have R_law_alike : FnB P w K mg base C "_law_alike" 41 2 fsNo := fnB_no (ps := ["_law_found", "_law_due"]) rfl g_law_alike F_law_alike.kp b_law_alike
  have R_law_alike0 : FnB P w K mg base C "_law_alike" 42 2 (fs_alike 0) := ⟨_, _, ["_law_found", "_law_due"], ok_of F_law_alike S_law_alike rfl (fun A outer s H E hR => d_law_alike m_bool m_int m_isinstance m_len m_list m_range m_str m_tuple (by decide) R_law_alike A outer s H E hR) pure_law_alike0, g_law_alike, F_law_alike.kp, b_law_alike⟩
  have R_law_alike1 : FnB P w K mg base C "_law_alike" 43 2 (fs_alike 1) := ⟨_, _, ["_law_found", "_law_due"], ok_of F_law_alike S_law_alike rfl (fun A outer s H E hR => d_law_alike m_bool m_int m_isinstance m_len m_list m_range m_str m_tuple (by decide) R_law_alike0 A outer s H E hR) (pure_law_alike 0), g_law_alike, F_law_alike.kp, b_law_alike⟩
  have R_law_alike2 : FnB P w K mg base C "_law_alike" 44 2 (fs_alike 2) := ⟨_, _, ["_law_found", "_law_due"], ok_of F_law_alike S_law_alike rfl (fun A outer s H E hR => d_law_alike m_bool m_int m_isinstance m_len m_list m_range m_str m_tuple (by decide) R_law_alike1 A outer s H E hR) (pure_law_alike 1), g_law_alike, F_law_alike.kp, b_law_alike⟩
  have R_law_alike3 : FnB P w K mg base C "_law_alike" 45 2 (fs_alike 3) := ⟨_, _, ["_law_found", "_law_due"], ok_of F_law_alike S_law_alike rfl (fun A outer s H E hR => d_law_alike m_bool m_int m_isinstance m_len m_list m_range m_str m_tuple (by decide) R_law_alike2 A outer s H E hR) (pure_law_alike 2), g_law_alike, F_law_alike.kp, b_law_alike⟩
  have B_law_alike : FnB P w K mg base C "_law_alike" 46 2 fs_law_alike := ⟨_, _, ["_law_found", "_law_due"], ok_of F_law_alike S_law_alike rfl (fun A outer s H E hR => d_law_alike m_bool m_int m_isinstance m_len m_list m_range m_str m_tuple (by decide) R_law_alike3 A outer s H E hR) (pure_law_alike 3), g_law_alike, F_law_alike.kp, b_law_alike⟩
  have B_law_below : FnB P w K mg base C "_law_below" 41 2 fs_law_below := ⟨_, _, ["_law_one", "_law_other"], ok_of F_law_below S_law_below rfl (fun A outer s H E hR => d_law_below  A outer s H E hR) pure_law_below, g_law_below, F_law_below.kp, FunD.bindsN F_law_below (fun _ _ _ _ _ _ us hl => match us, hl with | [_, _], _ => rfl)⟩
  exact law_ok (rest := (defBody (top 38)).drop 1) F_law rfl S_law rfl (by first | exact .inl rfl | exact .inr rfl) (by first | exact .inl rfl | exact .inr (.inl rfl) | exact .inr (.inr rfl)) (fun A outer s H E hR => d_law m_len m_range B_law_taken B_law_claims B_law_chances B_law_by B_law_plus B_ruin_within B_law_alike B_law_below A outer s H E hR) pure_law_k47
end Lk47
open PySem PySem.W PySem.Calls PyProof.Rows
set_option maxHeartbeats 0 in
theorem PySem.Challenge.cw_actuarium_k47_whole_ruin_within_holds : PySem.Challenge.rw_actuarium_k47_whole_ruin_within.Holds := by
  w_on; o_law
  refine HandSHeadRun.head_imp (r := OpenLaw.row PySem.Challenge.rw_actuarium_k47_whole_ruin_within) (q := view (OpenLaw.row PySem.Challenge.rw_actuarium_k47_whole_ruin_within).prog [0, 38]) (H := Lk47.hk) (ob := Lk47.ob) (M := 30000) (loose := Lk47.loose) (d := HandSHeadRun.topDef (OpenLaw.row PySem.Challenge.rw_actuarium_k47_whole_ruin_within).prog 38) (kwd := []) Lk47.ob_eq
    Lk47.run (by kernel_rfl) (by kernel_rfl) (by kernel_rfl) (by rfl) (by first | assumption | decide +kernel) (by decide +kernel) ⟨rfl, rfl, rfl, rfl, rfl, by decide +kernel⟩ ?hw ?hc
  case hw => w_witness2
  case hc =>
    refine DL.law_end (l := PySem.Challenge.rw_actuarium_k47_whole_ruin_within) (k := 47) rfl (by kernel_rfl) ⟨rfl, by decide, by decide⟩ (by kernel_rfl) ?F
    intro w mg f h K X G hmg0 S
    have hmg : mg ("law" : PySem.Str) = some (.ref f) := by
      have e : (HandSHeadRun.topDef (OpenLaw.row PySem.Challenge.rw_actuarium_k47_whole_ruin_within).prog 38).name = ("law" : PySem.Str) := by kernel_rfl
      rw [← e]
      exact hmg0
    exact Lk47.facts (P := (PySem.Challenge.rw_actuarium_k47_whole_ruin_within).prog) (w := w) rfl X G hmg S
