import PyProof.Rows.All
import Wide.All
import OpenK.AllK
import Wide.FinOn
import HandS.ForMost
import HandS.AnyAll
import HandS.GenList
import HandS.IsInst
import HandS.TupAny
import HandS.Zip
import HandS.Style
import HandS.Conv
import HandS.Star
import HandS.ExcInit
import HandS.ExcField
import HandS.ExcIs
import HandS.Lambda
import HandS.EndOwn
import HandS.Flow
import HandS.SortInts
import HandS.ForExc
import KE.GoesMore
import HandS.SetFor
import HandS.Strs
import PySem.Challenge.RW_pinchworks_k46_whole_moved_columns
import KE.KExcIs
set_option Elab.async false
set_option linter.all false
set_option maxRecDepth 100000
set_option maxHeartbeats 4000000
/-! A generator expression whose element may call defs: its context, its run, what sum and all make of it. -/
namespace GX
open PySem PySem.Spec PyProof.Rows L2 GenW

/-- the names of the generator expression's own scope: its one name x, the walked thing, captured names of the def -/
structure GenB (N : List Str) (sc scope : Scope) (x : Str) : Prop where
  kind : scope.kind = .function
  co : scope.isCoroutine = false
  cell : ∀ y ∈ scope.names, y.2 ≠ .cell
  dot : scope.names.lookup (".0" : Str) = some NameKind.local
  loc : scope.names.lookup x = some .local
  free : ∀ y ∈ scope.names, y.2 = .free → sc.names.lookup y.1 = some .cell ∨ sc.names.lookup y.1 = some .free
  own : ∀ y ∈ scope.names, y.2 = .local → y.1 ∉ N
  nd : (N ++ [x]).Nodup

/-- the context of the element, from the state s (the heap H) ahead of the generator's frame -/
abbrev genCx (X : Cx) (A : Around) (s : Shared) (H : Hp) (env : Env) (x : Str) (ex : List Addr) (pn : List (Addr × Obj)) : Cx where
  prog := X.prog
  w := X.w
  K := X.K
  mg := X.mg
  base := X.base
  A := A
  N := X.N ++ [x]
  s_0 := s
  H_0 := H
  env := env
  outer := X.stack
  stack := env :: X.stack
  ex := ex
  fn := fun _ => false
  calm := true
  pn := pn
  xe := fun _ _ => False
abbrev gEnv (X : Cx) (scope : Scope) (C : Addr) (code : Value) : Env := genEnv scope (cloFrom X.env.cells scope.names []) C code builtinsNs X.env

section
variable {X : Cx} {pins : List (Addr × Obj)} {σ : L2.St} {H : Hp} {s : Shared} {scope : Scope} {x : Str}
theorem GenB.has (B : GenB X.N X.env.scope scope x) (ok : X.Ok) : ∀ y ∈ scope.names, y.2 = .free → ∃ c, X.env.cells.lookup y.1 = some c := fun y hy e => by
  rcases B.free y hy e with k | k
  · exact ok.has _ (.inl k)
  · exact ok.has _ (.inr k)
theorem gen_start {fp : List Addr} {A' : Around} {code : Value} {h' : Heap} {g' : Array GenState} {t' : Nat} {a : Addr} {go : Obj} {m : Str → Option Value} (I : Inv X pins σ H s) (B : GenB X.N X.env.scope scope x)
    (hfp : ∀ b ∈ fp, FpOk X pins H b ∧ b < s.heap.objs.size) (hA : A'.frames = some (gEnv X scope s.heap.objs.size code :: X.stack)) (hd : A'.handled = none)
    (kp : ∀ b o, s.heap.get? b = some o → h'.get? b = some o) (ns : h'.Ns s.heap.objs.size m) (hgo : h'.get? a = some go) (ha : s.heap.objs.size < a) (hgd : ∀ v, go.data ≠ .cell v) (hb : AllBare g') :
    Inv (genCx X A' s H (gEnv X scope s.heap.objs.size code) x fp [(a, go)]) [] (σ ++ [none]) H { s with heap := h', gens := g', toks := t' } := by
  have hfree := B.has I.ok
  have cm : ∀ {y c}, (cloFrom X.env.cells scope.names []).lookup y = some c → X.env.cells.lookup y = some c := fun {y c} e => by
    rcases cloFrom_mem (PySem.mem_of_lookup e) with hm | ⟨h1, h2⟩
    · cases hm
    · obtain ⟨c1, hc⟩ := hfree _ h1 rfl
      have hc : X.env.cells.lookup y = some c1 := hc
      have e2 : c = c1 := by
        rw [h2, hc] <;> rfl
      rw [e2]
      exact hc
  have look : ∀ {y}, scope.names.lookup y = some .free → ∃ c, (cloFrom X.env.cells scope.names []).lookup y = some c := fun {y} hl => by
    have hy : (y, NameKind.free) ∈ scope.names := PySem.mem_of_lookup hl
    exact mem_lookup (cloFrom_has (cells := X.env.cells) (acc := []) hy)
  have clt : ∀ {y c}, (cloFrom X.env.cells scope.names []).lookup y = some c → c < s.heap.objs.size := fun {y c} e => by
    obtain ⟨v, z⟩ := I.cell y c (cm e)
    exact z.lt
  refine ⟨⟨I.ok.mod, B.kind, I.ok.glob, rfl, Nat.le_refl _, fun y z c e1 e2 => I.ok.inj y z c (cm e1) (cm e2), fun y hy => ?_, fun y c z _ => ?_, fun _ => hd, hA, .inr ⟨rfl, rfl⟩, fun b hb => ⟨Nat.ne_of_lt (hfp b hb).2, fun y c e => ?_⟩, I.bs, Nat.le_trans I.ok.bsz I.sz, fun b o e hb => ?_,
      fun b hb z => ?_, I.stack, I.stkFree⟩,
    rfl, hb, Un.kept kp, ⟨m, ns, fun i y v e1 e2 e3 => ?_⟩, fun y c e => ?_, I.hok.fresh (Nat.le_refl _), fun y c e => ?_, fun p hp => ?_, I.hok.kept kp, ?_⟩
  · have hy : scope.names.lookup y = some .cell ∨ scope.names.lookup y = some .free := hy
    rcases hy with hy | hy
    · exact absurd rfl (B.cell _ (PySem.mem_of_lookup hy))
    · exact look hy
  · have z : false = true := z
    cases z
  · exact (hfp b hb).1.2.2.2.2.1 y c (cm e)
  · rcases (hfp b hb).1.2.2.2.1 with z | z
    · exact I.ok.noex b o e z
    · exact absurd (Nat.lt_of_lt_of_le (Heap.lt_size e) (Nat.le_trans I.ok.bsz z)) (Nat.lt_irrefl _)
  · rcases List.mem_cons.mp (I.stkSub b z) with z | z
    · exact (hfp b hb).1.2.1 z
    · exact (hfp b hb).1.2.2.1 z
  · have hlen : σ.length = X.N.length := I.len
    have hi : i < X.N.length := by
      by_cases hi : i < X.N.length
      · exact hi
      · rw [List.getElem?_append_right (by omega)] at e2
        cases hj : i - σ.length with
        | zero =>
          rw [hj] at e2
          cases e2
        | succ j =>
          rw [hj] at e2
          cases e2
    have e1' : X.N[i]? = some y := by
      have e1 : (X.N ++ [x])[i]? = some y := e1
      rw [List.getElem?_append_left hi] at e1
      exact e1
    have e2' : σ[i]? = some (some v) := by
      rw [List.getElem?_append_left (by omega)] at e2
      exact e2
    have hyN : y ∈ X.N := List.mem_of_getElem? e1'
    have e3 : Vis scope y := e3
    have hfr : scope.names.lookup y = some .free := by
      rcases e3 with k | k | k
      · exact absurd hyN (B.own _ (PySem.mem_of_lookup k) rfl)
      · exact absurd rfl (B.cell _ (PySem.mem_of_lookup k))
      · exact k
    obtain ⟨m2, hn, hl⟩ := I.loc
    have hvis : Vis X.env.scope y := (B.free _ (PySem.mem_of_lookup hfr) rfl).elim (fun k => .inr (.inl k)) (fun k => .inr (.inr k))
    obtain ⟨w', r, q⟩ := hl i y v e1' e2' hvis
    obtain ⟨c2, h2⟩ := look hfr
    refine ⟨w', r, .inr ⟨.inr hfr, c2, h2, ?_⟩⟩
    have c1 := cm h2
    rcases q with ⟨k', _⟩ | ⟨_, c3, e', z⟩
    · have k' : X.env.scope.names.lookup y = some .local := k'
      rcases B.free _ (PySem.mem_of_lookup hfr) rfl with k2 | k2 <;> rw [show X.env.scope.names.lookup y = _ from k2] at k' <;> cases k'
    · rw [c1] at e'
      cases e'
      exact z.keeps kp
  · obtain ⟨w', z⟩ := I.cell y c (cm e)
    exact ⟨w', z.keeps kp⟩
  · exact I.freeC y c (cm e)
  · have hp' : p = (a, go) := by
      have hp : p ∈ [(a, go)] ++ ([] : List (Addr × Obj)) := hp
      simpa using hp
    subst hp'
    have hle : s.heap.objs.size ≤ a := Nat.le_of_lt ha
    refine ⟨hgo, I.hok.fresh hle, Nat.ne_of_gt ha, fun z => ?_, hgd⟩
    rcases List.mem_cons.mp (I.stkSub _ z) with z | z
    · have hl := I.lt
      have hz : a = X.env.locals := z
      rw [← hz] at hl
      exact absurd (Nat.lt_trans hl ha) (Nat.lt_irrefl _)
    · exact I.nofs hle z
  · show (σ ++ [none]).length = (X.N ++ [x]).length
    rw [List.length_append, List.length_append, I.len]
    rfl
end
end GX
namespace GX
open PySem PySem.Spec PyProof.Rows L2 GenW

/-- while the generator sleeps, all is kept but the consumer's own objects at cs -/
structure SleptC (cs : List Addr) (s s' : Shared) : Prop where
  os : s'.os = s.os
  bare : AllBare s'.gens
  keep : ∀ b o, b ∉ cs → s.heap.get? b = some o → s'.heap.get? b = some o
  own : ∀ b ∈ cs, ∀ o, s.heap.get? b = some o → (∀ v, o.data ≠ .cell v) → ∃ o', s'.heap.get? b = some o' ∧ ∀ v, o'.data ≠ .cell v
theorem SleptC.refl {cs : List Addr} {s : Shared} (h : AllBare s.gens) : SleptC cs s s := ⟨rfl, h, fun _ _ _ e => e, fun b _ o e d => ⟨o, e, d⟩⟩
theorem SleptC.trans {cs : List Addr} {s s1 s2 : Shared} (a : SleptC cs s s1) (b : SleptC cs s1 s2) : SleptC cs s s2 :=
  ⟨b.os.trans a.os, b.bare, fun c o hc e => b.keep c o hc (a.keep c o hc e), fun c hc o e d => by
    obtain ⟨o', e', d'⟩ := a.own c hc o e d
    exact b.own c hc o' e' d'⟩
/-- the consumer's objects: younger than the generator's entry, none of its frame's -/
def ApartC (X : Cx) (cs : List Addr) : Prop := ∀ S ∈ cs, X.s_0.heap.objs.size ≤ S ∧ S ≠ X.env.locals ∧ (∀ x c, X.env.cells.lookup x = some c → c ≠ S) ∧ (∀ p ∈ X.pn, p.1 ≠ S) ∧ S ∉ X.ex
/-- the pins are the consumer's objects as they stand -/
structure PinC (cs : List Addr) (pc : List (Addr × Obj)) : Prop where
  all : ∀ b ∈ cs, ∃ o, (b, o) ∈ pc
  only : ∀ p ∈ pc, p.1 ∈ cs

section
variable {X : Cx} {cs : List Addr} {pc : List (Addr × Obj)} {σ : L2.St} {H : Hp} {s s' : Shared}
theorem Inv.sleptC (hA : ApartC X cs) (hp : PinC cs pc) (I : Inv X pc σ H s) (z : SleptC cs s s') : ∃ pc', PinC cs pc' ∧ Inv X pc' σ H s' ∧ ∀ p ∈ pc', s'.heap.get? p.1 = some p.2 := by
  have inH : ∀ b ∈ cs, H b = none ∧ b ≠ X.env.locals ∧ b ∉ X.fs ∧ ∃ o, s.heap.get? b = some o ∧ ∀ v, o.data ≠ .cell v := fun b hb => by
    obtain ⟨o, ho⟩ := hp.all b hb
    obtain ⟨h1, h2, h3, h4, h5⟩ := I.pin (b, o) (List.mem_append_right _ ho)
    exact ⟨h2, h3, h4, o, h1, h5⟩
  have I0 : Inv X [] σ H s := I.pins_of fun p hp => absurd hp (by simp)
  have nt : ∀ b u, H b = some u → b ∉ cs := fun b u q hb => by
    rw [(inH b hb).1] at q
    cases q
  obtain ⟨z1, z2, z3, z4⟩ := z
  obtain ⟨hh, g, d, t, o⟩ := s'
  have ho : o = s.os := z1
  subst ho
  have J : Inv X [] σ H { s with heap := hh, gens := g, drawn := d, toks := t } := by
    refine I0.step (g' := g) (t' := t) (d' := d) (ch := cs) (fun b hb => ?_)
      (fun b ob _ _ hc q _ => z3 b ob hc q) (fun b ob _ _ hc q _ => ⟨ob.slots, z3 b ob hc q⟩) (fun _ _ _ _ n => n) (fun b ob hc q => ⟨ob, z3 b ob hc q⟩)
      (fun _ _ q => q) (fun _ _ _ q => q) (fun b ps q => ⟨#[], by rw [q]; simp⟩) (fun m hm => ?_) (fun b u q => ?_) z2
    · obtain ⟨a1, a2, a3, a4, a5⟩ := hA b hb
      refine ⟨.inr a1, a2, a3, fun p hp => ?_⟩
      rw [List.append_nil] at hp
      exact a4 p hp
    · obtain ⟨ob, es, ep, ho, r⟩ := hm
      exact ⟨ob, es, ep, z3 _ ob (fun hc => (hA _ hc).2.1 rfl) ho, r⟩
    · refine (I0.hok b u q).stay (fun c v hc y => z3 c v ?_ y) (fun _ y => y) fun _ _ y => y
      rcases hc with y | y
      · rw [y]; exact nt b u q
      · exact nt c _ y
  refine ⟨pinsAt cs hh, ⟨fun b hb => ?_, fun p hp => (of_pinsAt hp).1⟩, J.pins_of fun p hp => ?_, fun p hp => (of_pinsAt hp).2⟩
  · obtain ⟨_, _, _, o, e, d⟩ := inH b hb
    obtain ⟨o', e', _⟩ := z4 b hb o e d
    exact ⟨o', mem_pinsAt hb e'⟩
  · obtain ⟨hb, e⟩ := of_pinsAt hp
    obtain ⟨h1, h2, h3, o, e0, d⟩ := inH p.1 hb
    obtain ⟨o', e', d'⟩ := z4 p.1 hb o e0 d
    have e2 : hh.get? p.1 = some o' := e'
    rw [e] at e2
    cases e2
    exact ⟨e, h1, h2, h3, d'⟩
end

/-- running: ahead of turn i -/
structure Run (X : Cx) (cs fp : List Addr) (tn : Nat → Heap → Prop) (Pv : Nat → Hp → Prop) (σ : L2.St) (pc : List (Addr × Obj)) (i : Nat) (H : Hp) (s : Shared) : Prop where
  pin : PinC cs pc
  inv : Inv X pc (σ ++ [none]) H s
  turn : tn i s.heap
  fp : ∀ b ∈ fp, H b = none
  pv : Pv i H
/-- the protocol of N turns: the i-th gives f i -/
def YG (X : Cx) (cs fp : List Addr) (tn : Nat → Heap → Prop) (Pv : Nat → Hp → Prop) (σ : L2.St) (N : Nat) (f : Nat → V) : Protocol := fun n s₀ v s kap =>
  ∃ i pc H, n + 1 + i = N ∧ RelV (f i) v ∧ Run X cs fp tn Pv σ pc (i + 1) H s ∧ (∀ p ∈ pc, s₀.heap.get? p.1 = some p.2) ∧ ∀ s'', SleptC cs s s'' → kap (.send .none) s''
def DoneG (X : Cx) (cs : List Addr) (Pv : Nat → Hp → Prop) (σ : L2.St) (N : Nat) : Nat → Shared → Shared → Prop := fun n s₀ s =>
  n = 0 ∧ ∃ pc H, PinC cs pc ∧ Inv X pc (σ ++ [none]) H s ∧ Pv N H ∧ ∀ p ∈ pc, s₀.heap.get? p.1 = some p.2

section
variable {X : Cx} {cs fp : List Addr} {σ : L2.St} {tn : Nat → Heap → Prop} {Pv : Nat → Hp → Prop} {N : Nat} {f : Nat → V} {J : It} {te : TE} {it : Addr} {x : Str} {px pos : Pos} {elt iter : Expr} {scope : Scope} {A : Around}
abbrev gExp (elt : Expr) (x : Str) (px : Pos) (iter : Expr) (scope : Scope) (pos : Pos) : Expr := .GeneratorExp elt [⟨.Name x px, iter, [], 0⟩] scope pos

theorem seg_loop (hcalm : X.calm = true) (hxe : X.xe = fun _ _ => False) (hA : ApartC X cs) (hApart : ∀ b ∈ fp, b ∉ cs) (T : Turn X.prog X.w X.K (.Name x px) J fp it tn) (hN : X.N.Nodup) (hix : X.N[σ.length]? = some x) (hxl : X.env.scope.names.lookup x = some .local)
    (hco : X.env.scope.isCoroutine = false) (hov : X.A = A.over (.compLoop (gExp elt x px iter scope pos) 0 (.ref it) .none X.env) [])
    (hex : ∀ b ∈ fp, b ∈ X.ex ∧ ∀ p ∈ X.pn, p.1 ≠ b) (he : PE X elt te)
    (step : ∀ i H, i < N → Pv i H → J.go i H ∧ ∀ y H', J.yld i H y H' → te (σ ++ [some y]) H' fun z H3 => z = f i ∧ Pv (i + 1) H3) (stop : ∀ H, Pv N H → J.stop N H) :
    ∀ (k i : Nat) (s₀ s : Shared) (pc : List (Addr × Obj)) (H : Hp), N - i = k → i ≤ N → Run X cs fp tn Pv σ pc i H s → (∀ p ∈ pc, s₀.heap.get? p.1 = some p.2) →
      Seg (model X.prog X.w) A (fun n s₀ r s₁ => r = .ok .next ∧ DoneG X cs Pv σ N n s₀ s₁) (YG X cs fp tn Pv σ N f) (N - i) s₀
        (.compLoop (gExp elt x px iter scope pos) 0 (.ref it) .none X.env) ((model X.prog X.w).den (.compLoop (gExp elt x px iter scope pos) 0 (.ref it) .none X.env)) [] s := by
  intro k
  have stat : ∀ {pc : List (Addr × Obj)} {σ' : L2.St} {H : Hp} {s : Shared}, PinC cs pc → Inv X pc σ' H s → (∀ b ∈ fp, H b = none) → ∀ b ∈ fp, FpOk X pc H b := fun hp I hn b hb =>
    ⟨hn b hb, (I.ok.exf b (hex b hb).1).1, I.ok.exfs b (hex b hb).1, .inl (hex b hb).1, (I.ok.exf b (hex b hb).1).2, fun p hpm => by
      rcases List.mem_append.mp hpm with z | z
      · exact (hex b hb).2 p z
      · intro e
        exact hApart b hb (e ▸ hp.only p z)⟩
  induction k with
  | zero =>
    intro i s₀ s pc H hk hi R hpc
    have hin : i = N := by omega
    subst hin
    show Seg _ A _ _ _ s₀ _ ((compTurn (gExp elt x px iter scope pos) 0 (.ref it) .none X.env).onRaise (leaving X.env)) [] s
    rw [compTurn_gen, Sem.onRaise_eq_wrap]
    refine seg_bind_wrap (wpAny_standAt ?_)
    refine seg_bind_wrap ?_
    rw [← hov]
    refine wpAny_mono (T.done X rfl rfl rfl hcalm i pc s _ H (fun _ _ => False) R.inv (stat R.pin R.inv R.fp) R.turn (stop H R.pv)) (fun r s1 hr => ?_) fun _ _ z => z.elim
    obtain ⟨rfl, I1⟩ := hr
    exact seg_end (.ok .next) ⟨rfl, Nat.sub_self _, pc, H, R.pin, I1, R.pv, hpc⟩
  | succ k ih =>
    intro i s₀ s pc H hk hi R hpc
    have hlt : i < N := by omega
    obtain ⟨hgo, hyl⟩ := step i H hlt R.pv
    show Seg _ A _ _ _ s₀ _ ((compTurn (gExp elt x px iter scope pos) 0 (.ref it) .none X.env).onRaise (leaving X.env)) [] s
    rw [compTurn_gen, Sem.onRaise_eq_wrap]
    refine seg_bind_wrap (wpAny_standAt ?_)
    refine seg_bind_wrap ?_
    rw [← hov]
    refine wpAny_mono (T.item X rfl rfl rfl hcalm i pc s _ H (fun _ _ => False) R.inv (stat R.pin R.inv R.fp) R.turn hgo) (fun r s1 hr => ?_) fun _ _ z => z.elim
    obtain ⟨u, rfl, h1⟩ := hr
    refine seg_bind_wrap ?_
    rw [← hov]
    refine wpAny_mono h1 (fun _ s2 h2 => ?_) fun _ _ z => z.elim
    obtain ⟨y, H2, I2, ry, hy, st2, fr2⟩ := h2
    have I2' := I2.pinned (stat R.pin I2 fr2) (T.obj _ _ st2)
    refine seg_bind_wrap ?_
    rw [← hov]
    refine wpAny_assign_Name (store_ok (i := σ.length) I2' hN hix (.inl hxl) ry (fun s3 I3 => ?_) (.inr hxl))
    have eσ : (σ ++ [none]).set σ.length (some y) = σ ++ [some y] := by simp
    rw [eσ] at I3
    refine seg_bind_wrap ?_
    simp only [List.forIn_nil]
    refine wpAny_pure ?_
    simp only [if_true]
    have hyo : ∀ v, yieldOut X.env v = yieldValue v := fun v => by simp only [yieldOut, hco, Bool.false_eq_true, if_false]
    simp only [hyo]
    rw [Sem.bind_eq_wrap', Sem.bind_eq_wrap', Sem.wrap_wrap, Sem.wrap_wrap]
    refine seg_wrap ?_
    rw [← hov]
    refine wpAny_mono (he.run _ s3 _ H2 _ I3 (hyl y H2 hy)) (fun v s4 h4 => ?_) fun x' s' z => by rw [hxe] at z; exact z.elim
    obtain ⟨z, H4, I4, rz, ez, p4⟩ := h4
    subst ez
    have hk' : N - i = (N - (i + 1)) + 1 := by omega
    rw [hk']
    have pin' : ∀ b ∈ fp, ∀ o, s2.heap.get? b = some o → s4.heap.get? b = some o ∧ H4 b = none := fun b hb o e =>
      let z := I4.pin (b, o) (List.mem_append_right _ (List.mem_append_right _ (mem_pinsAt hb e)))
      ⟨z.1, z.2.1⟩
    have I4' : Inv X pc (σ ++ [none]) H4 s4 := I4.unpinned.weak (by simp) fun j v e => by
      by_cases hj : j < σ.length
      · rw [List.getElem?_append_left hj] at e ⊢
        exact e
      · rw [List.getElem?_append_right (by omega)] at e
        cases hj : j - σ.length with
        | zero => rw [hj] at e; cases e
        | succ j => rw [hj] at e; cases e
    have R4 : Run X cs fp tn Pv σ pc (i + 1) H4 s4 := ⟨R.pin, I4', T.keep _ _ _ st2 fun b hb o e => (pin' b hb o e).1, fun b hb => by
      obtain ⟨o, e, _⟩ := T.obj _ _ st2 b hb
      exact (pin' b hb o e).2, p4⟩
    refine seg_at (seg_yield rfl rfl rfl ⟨i, pc, H4, by omega, rz, R4, hpc, fun s'' hal => ?_⟩)
    obtain ⟨pc', hp', I5, e5⟩ := Inv.sleptC hA R.pin I4' hal
    exact seg_again rfl (ih (i + 1) s'' s'' pc' H4 (by omega) hlt ⟨hp', I5, T.keep _ _ _ R4.turn fun b hb o e => hal.keep b o (hApart b hb) e, R4.fp, p4⟩ e5)

theorem seg_start (hcalm : X.calm = true) (hxe : X.xe = fun _ _ => False) (hA : ApartC X cs) (hApart : ∀ b ∈ fp, b ∉ cs) (T : Turn X.prog X.w X.K (.Name x px) J fp it tn) (hN : X.N.Nodup) (hix : X.N[σ.length]? = some x) (hxl : X.env.scope.names.lookup x = some .local)
    (hco : X.env.scope.isCoroutine = false) (hov : X.A = A.over (.compLoop (gExp elt x px iter scope pos) 0 (.ref it) .none X.env) [])
    (hex : ∀ b ∈ fp, b ∈ X.ex ∧ ∀ p ∈ X.pn, p.1 ≠ b) (he : PE X elt te)
    (step : ∀ i H, i < N → Pv i H → J.go i H ∧ ∀ y H', J.yld i H y H' → te (σ ++ [some y]) H' fun z H3 => z = f i ∧ Pv (i + 1) H3) (stop : ∀ H, Pv N H → J.stop N H)
    (s₀ s : Shared) (pc : List (Addr × Obj)) (H : Hp) (R : Run X cs fp tn Pv σ pc 0 H s) (hpc : ∀ p ∈ pc, s₀.heap.get? p.1 = some p.2) :
    Seg (model X.prog X.w) A (fun n s₀ r s₁ => r = .ok .next ∧ DoneG X cs Pv σ N n s₀ s₁) (YG X cs fp tn Pv σ N f) N s₀
      (.compStart (gExp elt x px iter scope pos) 0 (.ref it) .none X.env) ((model X.prog X.w).den (.compStart (gExp elt x px iter scope pos) 0 (.ref it) .none X.env)) [] s := by
  have loop := seg_loop (σ := σ) (tn := tn) (Pv := Pv) (N := N) (f := f) (A := A) (iter := iter) (pos := pos) (scope := scope) (elt := elt) hcalm hxe hA hApart T hN hix hxl hco hov hex he step stop N 0 s₀ s pc H (Nat.sub_zero _) (Nat.zero_le _) R hpc
  rw [Nat.sub_zero] at loop
  show Seg _ A _ _ _ s₀ _ ((compStart (gExp elt x px iter scope pos) 0 (.ref it) .none X.env).onRaise (leaving X.env)) [] s
  unfold compStart
  rw [Sem.onRaise_eq_wrap]
  show Seg _ A _ _ _ s₀ _ ((ask >>= _).wrap _ _ _ _) [] s
  refine seg_bind_wrap (wpAny_askSetting ?_)
  split
  · exact seg_again rfl loop
  · first
      | exact seg_bind_wrap (wpAny_rule (seg_bind_wrap (wpAny_standAt (seg_bind_wrap (T.self _ 0 s _ _ R.turn (seg_again rfl loop))))))
      | (refine seg_bind_wrap (wpAny_rule ?_); show Seg _ A _ _ _ s₀ _ ((standAt iter.pos >>= _).wrap _ _ _ _) [] s; exact seg_bind_wrap (wpAny_standAt (seg_bind_wrap (T.self _ 0 s _ _ R.turn (seg_again rfl loop)))))
end
end GX
namespace GX
open PySem PySem.Spec PyProof.Rows L2 GenW

theorem over_gen {A : Around} {elt iter : Expr} {x : Str} {px pos : Pos} {scope : Scope} {it : Value} {env : Env} : A.over (.compLoop (gExp elt x px iter scope pos) 0 it .none env) [] = A.deeper env := by
  first
    | rfl
    | (obtain ⟨hd, d, fr, gs, u⟩ := A; simp [Around.over, Around.deeper, marksOver, frameCount, unitsOf, envsOf, guardsOf, pushEnvs, pushGuards, Code.envs, Code.env?, Code.isFrame, Code.guards, Code.isGuard, Code.weight, Code.frames, Code.isCreation, Code.isCaller, Code.cUnits])
theorem room_gen {k : Nat} {A : Around} (r : Room (k + 1) A) (env : Env) : Room k (A.in1.in1.deeper env) :=
  ⟨r.hd, by have := r.dp; show A.depth + 1 + 3 * k + 5 < _; omega, by have := r.un; show A.units + 1 + 1 + 3 + 16 * k + 200 < _; omega⟩

/-- all that the generator's run leans on -/
structure GOk (X : Cx) (cs fp : List Addr) (tn : Nat → Heap → Prop) (Pv : Nat → Hp → Prop) (σ : L2.St) (N : Nat) (f : Nat → V) (J : It) (te : TE) (it : Addr) (x : Str) (px : Pos) (elt iter : Expr) (scope : Scope) (pos : Pos) (A : Around) (a : Addr) (g : Nat) (go : Obj) : Prop where
  calm : X.calm = true
  xe : X.xe = fun _ _ => False
  apart : ApartC X cs
  fpcs : ∀ b ∈ fp, b ∉ cs
  T : Turn X.prog X.w X.K (.Name x px) J fp it tn
  nd : X.N.Nodup
  ix : X.N[σ.length]? = some x
  xl : X.env.scope.names.lookup x = some .local
  co : X.env.scope.isCoroutine = false
  ov : X.A = A.over (.compLoop (gExp elt x px iter scope pos) 0 (.ref it) .none X.env) []
  ex : ∀ b ∈ fp, b ∈ X.ex ∧ ∀ p ∈ X.pn, p.1 ≠ b
  he : PE X elt te
  step : ∀ i H, i < N → Pv i H → J.go i H ∧ ∀ y H', J.yld i H y H' → te (σ ++ [some y]) H' fun z H3 => z = f i ∧ Pv (i + 1) H3
  stop : ∀ H, Pv N H → J.stop N H
  pn : (a, go) ∈ X.pn
  gen : ∀ h : Heap, h.get? a = some go → h.IsGen a g
  acs : a ∉ cs
  ccs : cStatics ∉ cs

/-- asleep ahead of turn i -/
structure Sl (X : Cx) (cs fp : List Addr) (tn : Nat → Heap → Prop) (Pv : Nat → Hp → Prop) (σ : L2.St) (N : Nat) (f : Nat → V) (A : Around) (g : Nat) (i : Nat) (s : Shared) : Prop where
  run : ∃ pc H, Run X cs fp tn Pv σ pc i H s
  go : ∃ gs, s.gens[g]? = some gs ∧ ∀ s'', SleptC cs s s'' → gs.Goes (model X.prog X.w) A (fun n s₀ r s₁ => r = .ok .next ∧ DoneG X cs Pv σ N n s₀ s₁) (YG X cs fp tn Pv σ N f) (N - i) (.send .none) s''

section
variable {X : Cx} {cs fp : List Addr} {tn : Nat → Heap → Prop} {Pv : Nat → Hp → Prop} {σ : L2.St} {N : Nat} {f : Nat → V} {J : It} {te : TE} {it : Addr} {x : Str} {px : Pos} {elt iter : Expr} {scope : Scope} {pos : Pos} {A : Around} {a : Addr} {g : Nat} {go : Obj} {i : Nat} {s s' : Shared}

theorem Run.slept (G : GOk X cs fp tn Pv σ N f J te it x px elt iter scope pos A a g go) (z : SleptC cs s s') (h : ∃ pc H, Run X cs fp tn Pv σ pc i H s) : ∃ pc H, Run X cs fp tn Pv σ pc i H s' := by
  obtain ⟨pc, H, R⟩ := h
  obtain ⟨pc', hp, I, _⟩ := Inv.sleptC G.apart R.pin R.inv z
  exact ⟨pc', H, hp, I, G.T.keep _ _ _ R.turn fun b hb o e => z.keep b o (G.fpcs b hb) e, R.fp, R.pv⟩
theorem Sl.slept (G : GOk X cs fp tn Pv σ N f J te it x px elt iter scope pos A a g go) (h : Sl X cs fp tn Pv σ N f A g i s) (z : SleptC cs s s') (hg : s'.gens = s.gens) : Sl X cs fp tn Pv σ N f A g i s' := by
  obtain ⟨gs, e, go⟩ := h.go
  exact ⟨Run.slept G z h.run, gs, by rw [hg]; exact e, fun s'' z2 => go s'' (z.trans z2)⟩
theorem Sl.isGen (G : GOk X cs fp tn Pv σ N f J te it x px elt iter scope pos A a g go) (h : Sl X cs fp tn Pv σ N f A g i s) : s.heap.IsGen a g := by
  obtain ⟨pc, H, R⟩ := h.run
  exact G.gen _ (R.inv.pin (a, go) (List.mem_append_left _ G.pn)).1
theorem Sl.lim (h : Sl X cs fp tn Pv σ N f A g i s) : s.heap.NoLimit := by
  obtain ⟨pc, H, R⟩ := h.run
  exact R.inv.nolimit
theorem Sl.bare (h : Sl X cs fp tn Pv σ N f A g i s) : AllBare s.gens := by
  obtain ⟨pc, H, R⟩ := h.run
  exact R.inv.bare
theorem slept_setGen {gs : GenState} {s : Shared} (hb : AllBare s.gens) (hg : gs.bare = true) : SleptC cs s (s.setGen g gs) :=
  ⟨rfl, allBare_setGen hb hg, fun _ _ _ e => e, fun b _ o e d => ⟨o, e, d⟩⟩
theorem kept_of {pc : List (Addr × Obj)} {σ' : L2.St} {H : Hp} {s₀ s₁ : Shared} (hp : PinC cs pc) (I : Inv X pc σ' H s₁) (h0 : ∀ p ∈ pc, s₀.heap.get? p.1 = some p.2) : ∀ b ∈ cs, ∀ o, s₀.heap.get? b = some o → s₁.heap.get? b = some o := fun b hb o e => by
  obtain ⟨o', ho'⟩ := hp.all b hb
  have e1 : s₀.heap.get? b = some o' := h0 (b, o') ho'
  rw [e] at e1
  cases e1
  exact (I.pin (b, o) (List.mem_append_right _ ho')).1

theorem gen_item {A1 : Around} {Q : Option Value → Shared → Prop} {E : Value → Shared → Prop} (G : GOk X cs fp tn Pv σ N f J te it x px elt iter scope pos A1.in1 a g go) (hh : A1.handled = none) (hd : A1.depth < recursionLimit) (hi : i < N) (h : Sl X cs fp tn Pv σ N f A1.in1 g i s)
    (hQ : ∀ v s', RelV (f i) v → Sl X cs fp tn Pv σ N f A1.in1 g (i + 1) s' → (∀ b ∈ cs, ∀ o, s.heap.get? b = some o → s'.heap.get? b = some o) → Q (some v) s') :
    wpAny (model X.prog X.w) A1 (pyNext (.ref a)) Q E s := by
  have hgen := h.isGen G
  have hlim := h.lim
  have hbare := h.bare
  obtain ⟨gs, hgs, hgo⟩ := h.go
  have hgl : g < s.gens.size := (Array.getElem?_eq_some_iff.mp hgs).1
  refine wpAny_gsz (n := g + 1) hgl (wpAny_pyNext_genexpQ (P := DoneG X cs Pv σ N) hh hlim hd hgen hgs (hgo _ (slept_setGen hbare rfl)) (fun v s₁ gs' hb hv => ?_) (fun s₁ hp h' hk => ?_))
  · intro hsz
    obtain ⟨i', pc, H, en, rv, R, h0, hkap⟩ := hv
    have ei : i' = i := by omega
    subst ei
    have hsz1 : g < s₁.gens.size := by
      have q : (s₁.setGen g gs').gens.size = s₁.gens.size := setGen_size _ _ _
      omega
    have z1 : SleptC cs s₁ (s₁.setGen g gs') := slept_setGen R.inv.bare hb
    refine hQ v _ rv ⟨Run.slept G z1 ⟨pc, H, R⟩, gs', setGen_at hsz1, fun s'' z2 => ?_⟩ fun b hb o e => kept_of R.pin R.inv h0 b hb o e
    obtain ⟨m, hm⟩ : ∃ m, N - i' = m + 1 := ⟨N - i' - 1, by omega⟩
    have hk2 := hkap s'' (z1.trans z2)
    rw [hm] at hk2
    have em : N - (i' + 1) = m := by omega
    rw [em]
    exact hk2
  · intro _
    obtain ⟨en, _⟩ := hp
    omega
theorem gen_done {A1 : Around} {Q : Option Value → Shared → Prop} {E : Value → Shared → Prop} (G : GOk X cs fp tn Pv σ N f J te it x px elt iter scope pos A1.in1 a g go) (hh : A1.handled = none) (hd : A1.depth < recursionLimit) (h : Sl X cs fp tn Pv σ N f A1.in1 g N s)
    (hQ : ∀ pc H s', PinC cs pc → Inv X pc (σ ++ [none]) H s' → Pv N H → (∀ b ∈ cs, ∀ o, s.heap.get? b = some o → s'.heap.get? b = some o) → Q none s') :
    wpAny (model X.prog X.w) A1 (pyNext (.ref a)) Q E s := by
  have hgen := h.isGen G
  have hlim := h.lim
  have hbare := h.bare
  obtain ⟨gs, hgs, hgo⟩ := h.go
  rw [Nat.sub_self] at hgo
  refine wpAny_pyNext_genexpQ (P := DoneG X cs Pv σ N) hh hlim hd hgen hgs (hgo _ (slept_setGen hbare rfl)) (fun v s₁ gs' hb hv => ?_) (fun s₁ hp h' hk => ?_)
  · obtain ⟨i', pc, H, en, rv, R, h0, hkap⟩ := hv
    exact False.elim (hkap s₁ (SleptC.refl R.inv.bare))
  · obtain ⟨_, pc, H, hp, I, pv, h0⟩ := hp
    have z1 : SleptC cs s₁ { s₁.setGen g .finished with heap := h' } := ⟨rfl, allBare_setGen I.bare rfl, fun b o _ e => hk b o e, fun b _ o e d => ⟨o, hk b o e, d⟩⟩
    obtain ⟨pc', hp', I', _⟩ := Inv.sleptC G.apart hp I z1
    exact hQ pc' H _ hp' I' pv fun b hb o e => hk b o (kept_of hp I h0 b hb o e)

theorem all_loop {A0 : Around} {R : Result → Shared → Prop} (G : GOk X [] fp tn Pv σ N (fun _ => V.bl true) J te it x px elt iter scope pos A0.in1.in1 a g go) (hh : A0.handled = none) (hd : A0.depth < recursionLimit)
    (hR : ∀ pc H s', PinC [] pc → Inv X pc (σ ++ [none]) H s' → Pv N H → R (.ok (.ret (.bool true))) s') : ∀ (k i : Nat) (s : Shared), N - i = k → i ≤ N → Sl X [] fp tn Pv σ N (fun _ => V.bl true) A0.in1.in1 g i s →
    codeAny (model X.prog X.w) A0 (.builtin "all.loop" ⟨[.ref a], []⟩) R s := by
  intro k
  induction k with
  | zero =>
    intro i s hk hi h
    have hin : i = N := by omega
    subst hin
    refine codeAny_builtin F.entry_all_loop ?_
    rw [Around.under_plainId F.plain_all_loop _]
    show wpAny _ A0.in1 (pyNext (.ref a) >>= _) _ _ s
    refine wpAny_bind (gen_done (A1 := A0.in1) G hh hd h fun pc H s' hp I pv _ => ?_)
    exact wpAny_bind (wpAny_rule (wpAny_pure (hR pc H s' hp I pv)))
  | succ k ih =>
    intro i s hk hi h
    have hlt : i < N := by omega
    refine codeAny_builtin F.entry_all_loop ?_
    rw [Around.under_plainId F.plain_all_loop _]
    show wpAny _ A0.in1 (pyNext (.ref a) >>= _) _ _ s
    refine wpAny_bind (gen_item (A1 := A0.in1) G hh hd hlt h fun v s' rv h' _ => ?_)
    cases rv
    refine wpAny_bind (wpAny_holding (wpAny_truthy_bool ?_))
    refine wpAny_bind (wpAny_letGo ?_)
    simp only [if_true]
    exact wpAny_pure ⟨plainId_quiet F.plain_all_loop _, ih (i + 1) s' (by omega) hlt h'⟩

theorem sum_loop {A0 : Around} {R : Result → Shared → Prop} {S : Addr} {val : Nat → Int} (G : GOk X [S] fp tn Pv σ N (fun j => V.int (val j)) J te it x px elt iter scope pos A0.in1.in1 a g go) (hh : A0.handled = none) (hd : A0.depth < recursionLimit)
    (hfit : ∀ j, j < N → InLong (val j) ∧ InLong (preSum val (j + 1)))
    (hR : ∀ pc H s' t', PinC [S] pc → Inv X pc (σ ++ [none]) H s' → Pv N H → R (.ok (.ret (.int (preSum val N) t'))) s') : ∀ (k i : Nat) (s : Shared) (tA : Tok) (c : Nat), N - i = k → i ≤ N → Sl X [S] fp tn Pv σ N (fun j => V.int (val j)) A0.in1.in1 g i s →
    s.heap.get? S = some { cls := .type "list", dict := none, data := .seq #[.int (preSum val i) tA] c, slots := #[] } →
    codeAny (model X.prog X.w) A0 (.builtin "sum.loop" ⟨[.ref a, .ref S, rawInt 0, rawInt 0], []⟩) R s := by
  intro k
  induction k with
  | zero =>
    intro i s tA c hk hi h hS
    have hin : i = N := by omega
    subst hin
    refine codeAny_builtin F.entry_sum_loop ?_
    rw [Around.under_plainId F.plain_sum_loop _]
    show wpAny _ A0.in1 (seqItems? (.ref S) >>= _) _ _ s
    refine wpAny_bind (wpAny_seqItems hS rfl ?_)
    show wpAny _ A0.in1 (tryCatch (pyNext (.ref a)) _ >>= _) _ _ s
    refine wpAny_bind (wpAny_tryCatch (gen_done (A1 := A0.in1) G hh hd h fun pc H s' hp I pv _ => ?_))
    exact wpAny_pure (hR pc H s' tA hp I pv)
  | succ k ih =>
    intro i s tA c hk hi h hS
    have hlt : i < N := by omega
    refine codeAny_builtin F.entry_sum_loop ?_
    rw [Around.under_plainId F.plain_sum_loop _]
    show wpAny _ A0.in1 (seqItems? (.ref S) >>= _) _ _ s
    refine wpAny_bind (wpAny_seqItems hS rfl ?_)
    show wpAny _ A0.in1 (tryCatch (pyNext (.ref a)) _ >>= _) _ _ s
    refine wpAny_bind (wpAny_tryCatch (gen_item (A1 := A0.in1) G hh hd hlt h fun v s' rv h' hkS => ?_))
    obtain ⟨t, rfl⟩ := (show ∃ t, v = Value.int (val i) t from rv)
    have hS' := hkS S (List.mem_singleton.mpr rfl) _ hS
    obtain ⟨⟨f1, f2⟩, f3, f4⟩ := hfit i hlt
    have hc : ((decide (-(2 ^ 63) ≤ val i) && decide (val i < 2 ^ 63)) && (decide (-(2 ^ 63) ≤ preSum val i + val i) && decide (preSum val i + val i < 2 ^ 63))) = true := by
      simp only [preSum] at f3 f4
      simp only [Bool.and_eq_true, decide_eq_true_eq]
      exact ⟨⟨f1, f2⟩, f3, f4⟩
    show wpAny _ A0.in1 (if (_ : Bool) = true then (mkInt (preSum val i + val i) >>= _) else _) _ _ _
    split
    · refine wpAny_bind (wpAny_mkInt ?_)
      show wpAny _ A0.in1 (updateSeq S (fun _ => #[.int (preSum val i + val i) s'.toks]) >>= _) _ _ _
      refine wpAny_bind ?_
      have hb := h'.bare
      refine wpAny_updateSeq hS' rfl (wpAny_pure ⟨plainId_quiet F.plain_sum_loop _, ih (i + 1) _ s'.toks _ (by omega) hlt (h'.slept G ⟨rfl, hb, fun b o hbS e => ?_, fun b hbS o e d => ?_⟩ rfl) (Heap.get?_update_self _ hS' rfl)⟩)
      · exact (Heap.get?_update_other _ _ (fun hz : S = b => hbS (by rw [hz]; exact List.mem_singleton.mpr rfl))).trans e
      · have ebS : b = S := List.mem_singleton.mp hbS
        subst ebS
        exact ⟨_, Heap.get?_update_self _ hS' rfl, fun v z => by cases z⟩
    · rename_i hneg
      exact absurd hc hneg
end
end GX
namespace GX
open PySem PySem.Spec PyProof.Rows L2 GenW

/-- the generator at a, made, in the state s5, the heap H2 -/
def Pk (X : Cx) (pins : List (Addr × Obj)) (σ : L2.St) (H2 : Hp) (J : It) (te : TE) (x : Str) (px : Pos) (elt iter : Expr) (scope : Scope) (pos : Pos) (a : Addr) (s5 : Shared) : Prop :=
  ∃ (XG : Cx) (fp : List Addr) (tn : Nat → Heap → Prop) (it : Addr) (g : Nat) (go : Obj), XG.prog = X.prog ∧ XG.w = X.w ∧ Inv XG [] (σ ++ [none]) H2 s5 ∧ tn 0 s5.heap ∧ (∀ b ∈ fp, H2 b = none) ∧
    s5.gens[g]? = some (.fresh (.compStart (gExp elt x px iter scope pos) 0 (.ref it) .none XG.env)) ∧ s5.heap.IsGen a g ∧
    (∀ (cs : List Addr) (N : Nat) (f : Nat → V) (Pv : Nat → Hp → Prop), (∀ S ∈ cs, s5.heap.objs.size ≤ S) →
      (∀ i H, i < N → Pv i H → J.go i H ∧ ∀ y H', J.yld i H y H' → te (σ ++ [some y]) H' fun z H3 => z = f i ∧ Pv (i + 1) H3) → (∀ H, Pv N H → J.stop N H) →
      GOk XG cs fp tn Pv σ N f J te it x px elt iter scope pos X.A.in1.in1 a g go) ∧
    (∀ pc H s', Inv XG pc (σ ++ [none]) H s' → Inv X pins σ H s')

section
variable {X : Cx} {pins : List (Addr × Obj)} {σ : L2.St} {H : Hp} {s : Shared} {scope : Scope} {x : Str}
theorem gen_made {c P : Addr} {elt iter : Expr} {px pos : Pos} {wi : TI} {te : TE} {k : Nat} {Q' : Value → Shared → Prop} {R : It → Hp → Prop}
    (hr : Room (k + 1) X.A) (TB : GxR.TabB X.base X.mg c P) (hcode : X.env.code = .ref c) (B : GenB X.N X.env.scope scope x) (hi : PI X (.Name x px) iter wi)
    (he : ∀ (A' : Around) (s : Shared) (H : Hp) (C : Addr) (code : Value) (fp : List Addr) (pn : List (Addr × Obj)), Room k A' → PE (genCx X A' s H (gEnv X scope C code) x fp pn) elt te)
    (hs : ∀ v, genFold iter X.env v = pure v) (I : Inv X pins σ H s) (h : wi σ H fun J H1 => GxR.TabG H1 P ∧ R J H1)
    (hQ : ∀ J H1 H2 a s5, R J H1 → GxR.Tabbed P H1 H2 → Pk X pins σ H2 J te x px elt iter scope pos a s5 → Q' (.ref a) s5) :
    wpAny (model X.prog X.w) X.A (eval (gExp elt x px iter scope pos) X.env) Q' X.xe s := by
  refine wpAny_GeneratorExp_make B.co (closure_ok (B.has I.ok)) B.cell B.dot B.kind (by have := hr.dp; omega) ?_ hs
  refine thn (hi.run pins s σ H _ I h) fun xv s1 hx => thn hx fun itv s2 h2 => ?_
  obtain ⟨it, fp, tn, J, H2, e, I2, T, st2, f2, ⟨ps, hP, ht⟩, hR⟩ := h2
  subst e
  refine ⟨I2.nolimit, ?_⟩
  have hPs : s2.heap.get? P = some { cls := .none, data := .fields ps } := I2.hok P _ hP
  have cd : PySem.W.CodeHd s2.heap c P := TB.code.keeps fun b u e => I2.bk b u e
  have cont : ∀ (code : Value) (h3 : Heap) (tk : Nat) (ps' : Array Value), Heap.ExtBut P s2.heap h3 → s2.heap.objs.size ≤ h3.objs.size → h3.get? P = some { cls := .none, data := .fields ps' } → (∃ more, ps' = ps ++ more) → TriplesOk ps'.toList →
      wpAny (model X.prog X.w) X.A (builtinsFor X.env.globals X.env.builtins) (fun bi s₄ => ∀ h', h'.Ns s₄.heap.objs.size (fun y => if y = ".0" then some (.ref it) else none) → Heap.SameBut s₄.heap.objs.size (s₄.heap.push { cls := .type "frame", data := .dict #[] }) h' →
          Q' (.ref h'.objs.size) { s₄ with
            gens := s₄.gens.push (.fresh (.compStart (gExp elt x px iter scope pos) 0 (.ref it) .none (genEnv scope (cloFrom X.env.cells scope.names []) s₄.heap.objs.size code bi X.env))),
            toks := s₄.toks + 1 + 1 + 1,
            heap := h'.push { cls := .type "generator", data := .fields #[.int s₄.gens.size 0, .str "<genexpr>" (s₄.toks + 1), .str (X.env.qual ++ "<genexpr>") (s₄.toks + 1 + 1)] } }) X.xe { s2 with heap := h3, toks := tk } := by
    intro code h3 tk ps' hx hsz hP3 hmore ht3
    obtain ⟨bm, ob, e1, e2, e3, e4, e5, e6, e7, e8⟩ := TB.bm
    have keep3 : ∀ b u, b ≠ P → s2.heap.get? b = some u → h3.get? b = some u := fun b u hb e => hx b u hb e
    refine wpAny_builtinsFor (m := X.mg) (by rw [I2.ok.glob]; exact (I2.mod.glob.keeps I2.bk).extBut hx TB.gP) e1 e2 (keep3 _ _ e4 (I2.bk _ _ e5)) e6 e7 e8 ?_
    intro h' hn' hs'
    obtain ⟨more, em⟩ := hmore
    have I3 : Inv X pins σ (upd H2 P (.tbl (ps ++ more))) { s2 with heap := h3, toks := tk } :=
      GxR.inv_tab (more := more) (h' := h3) (g' := s2.gens) (d' := s2.drawn) (t' := tk) I2 hP keep3 (by rw [← em]; exact hP3) I2.bare
    generalize hs3 : ({ s2 with heap := h3, toks := tk } : Shared) = s3 at I3 hn' hs' ⊢
    have h3h : s3.heap = h3 := by rw [← hs3]
    have nfP : ∀ b ∈ fp, b ≠ P := fun b hb z => by
      have q := (f2 b hb).1
      rw [z, hP] at q
      cases q
    have lt3 : ∀ b ∈ fp, b < s3.heap.objs.size := fun b hb => by
      obtain ⟨o, e, _⟩ := T.obj _ _ st2 b hb
      rw [h3h]
      exact Heap.lt_size (keep3 b o (nfP b hb) e)
    have f3 : ∀ b ∈ fp, FpOk X pins (upd H2 P (.tbl (ps ++ more))) b ∧ b < s3.heap.objs.size := fun b hb => ⟨⟨by rw [upd_ne (nfP b hb)]; exact (f2 b hb).1, (f2 b hb).2⟩, lt3 b hb⟩
    have hsz' : h'.objs.size = s3.heap.objs.size + 1 := by rw [hs'.1, Heap.size_push]
    generalize hgo : ({ cls := .type "generator", data := .fields #[.int s3.gens.size 0, .str "<genexpr>" (s3.toks + 1), .str (X.env.qual ++ "<genexpr>") (s3.toks + 1 + 1)] } : Obj) = go
    have keep' : ∀ b o, s3.heap.get? b = some o → (h'.push go).get? b = some o := fun b o e => Heap.get?_push_of_some _ (hs'.extBut b o (Nat.ne_of_lt (Heap.lt_size e)) (Heap.get?_push_of_some _ e))
    have hgoat : (h'.push go).get? h'.objs.size = some go := by
      rw [← hgo]
      exact Heap.get?_push_size _ rfl
    have hgen : ∀ h : Heap, h.get? h'.objs.size = some go → h.IsGen h'.objs.size s3.gens.size := fun h e => by
      subst hgo
      exact ⟨_, _, _, e, rfl, rfl, rfl⟩
    have I5 := gen_start (A' := X.A.in1.in1.deeper (gEnv X scope s3.heap.objs.size code)) (code := code) (h' := h'.push go) (g' := s3.gens.push (.fresh (.compStart (gExp elt x px iter scope pos) 0 (.ref it) .none (gEnv X scope s3.heap.objs.size code)))) (t' := s3.toks + 1 + 1 + 1)
      (a := h'.objs.size) (go := go) I3 B f3 (Around.frames_deeper I3.ok.frames) hr.hd keep' (hn'.push go) hgoat (by rw [hsz']; exact Nat.lt_succ_self _) (fun v z => by rw [← hgo] at z; cases z) (I3.bare.push rfl)
    have szN : (h'.push go).objs.size = s3.heap.objs.size + 1 + 1 := by rw [Heap.size_push, hsz']
    refine hQ J H2 _ _ _ hR ⟨⟨ps ++ more, upd_same, by rw [← em]; exact ht3⟩, fun b hb => upd_ne hb⟩
      ⟨genCx X (X.A.in1.in1.deeper (gEnv X scope s3.heap.objs.size code)) s3 (upd H2 P (.tbl (ps ++ more))) (gEnv X scope s3.heap.objs.size code) x fp [(h'.objs.size, go)], fp, tn, it, s3.gens.size, go, rfl, rfl, I5, ?_, fun b hb => (f3 b hb).1.1, ?_, hgen _ hgoat, fun cs N f Pv hcs hstep hstop => ?_, fun pc H' s' I' => ?_⟩
    · exact T.keep _ _ _ st2 fun b hb o e => keep' b o (by rw [h3h]; exact keep3 b o (nfP b hb) e)
    · exact Array.getElem?_push_size ..
    · have lc : ∀ S ∈ cs, s3.heap.objs.size + 1 + 1 ≤ S := fun S hS => by
        have q := hcs S hS
        rw [← szN]
        exact q
      have hcl : cStatics < s3.heap.objs.size := let ⟨_, hns, _⟩ := I3.nolimit; hns.lt
      refine ⟨rfl, rfl, fun S hS => ⟨?_, ?_, fun y c e z => ?_, fun p hp z => ?_, fun hm => ?_⟩, fun b hb hc => ?_, T, B.nd, ?_, B.loc, B.co, over_gen.symm, fun b hb => ⟨hb, fun p hp z => ?_⟩, he _ _ _ _ _ _ _ (room_gen hr _), hstep, hstop, List.mem_singleton.mpr rfl, hgen, fun hc => ?_, fun hc => ?_⟩
      · have q := lc S hS
        show s3.heap.objs.size ≤ S
        exact Nat.le_trans (Nat.le_trans (Nat.le_succ _) (Nat.le_succ _)) q
      · have q := lc S hS
        show S ≠ s3.heap.objs.size
        exact Nat.ne_of_gt (Nat.lt_of_lt_of_le (Nat.lt_succ_of_lt (Nat.lt_succ_self _)) q)
      · have e' : (genCx X (X.A.in1.in1.deeper (gEnv X scope s3.heap.objs.size code)) s3 (upd H2 P (.tbl (ps ++ more))) (gEnv X scope s3.heap.objs.size code) x fp [(h'.objs.size, go)]).env.cells.lookup y = some c := e
        rcases cloFrom_mem (PySem.mem_of_lookup e') with hm | ⟨h1, h2⟩
        · cases hm
        · obtain ⟨c1, hc⟩ := B.has I3.ok _ h1 rfl
          have hc : X.env.cells.lookup y = some c1 := hc
          have e2 : c = c1 := by rw [h2, hc] <;> rfl
          rw [← e2] at hc
          obtain ⟨v, zc⟩ := I3.cell y c hc
          have q := lc S hS
          have hl := zc.lt
          rw [z] at hl
          exact absurd (Nat.lt_of_lt_of_le (Nat.lt_succ_of_lt (Nat.lt_succ_of_lt hl)) q) (Nat.lt_irrefl _)
      · have hp' : p = (h'.objs.size, go) := List.mem_singleton.mp hp
        rw [hp'] at z
        have z' : h'.objs.size = S := z
        have q := lc S hS
        rw [← z', hsz'] at q
        exact absurd q (Nat.not_succ_le_self _)
      · have q := lc S hS
        have hl := lt3 S hm
        exact absurd (Nat.lt_of_lt_of_le (Nat.lt_succ_of_lt (Nat.lt_succ_of_lt hl)) q) (Nat.lt_irrefl _)
      · have q := lc b hc
        have hl := lt3 b hb
        exact absurd (Nat.lt_of_lt_of_le (Nat.lt_succ_of_lt (Nat.lt_succ_of_lt hl)) q) (Nat.lt_irrefl _)
      · show (X.N ++ [x])[σ.length]? = some x
        rw [I3.len]
        simp
      · have hp' : p = (h'.objs.size, go) := List.mem_singleton.mp hp
        rw [hp'] at z
        have z' : h'.objs.size = b := z
        have hl := lt3 b hb
        rw [← z', hsz'] at hl
        exact absurd (Nat.lt_of_succ_lt hl) (Nat.lt_irrefl _)
      · have q := lc _ hc
        rw [hsz'] at q
        exact absurd q (Nat.not_succ_le_self _)
      · have q := lc _ hc
        exact absurd (Nat.lt_of_lt_of_le (Nat.lt_succ_of_lt (Nat.lt_succ_of_lt hcl)) q) (Nat.lt_irrefl _)
    · exact I3.call' (ch := fp) I'.os I'.base I'.hok I'.bare fun b hb => ⟨(f3 b hb).1.2.2.2.1, (f3 b hb).1.2.1, (f3 b hb).1.2.2.2.2.1, (f3 b hb).1.2.2.2.2.2⟩
  cases hf : codeAmong pos ps.toList with
  | none =>
    refine wpAny_genexprCodeX hcode (cd.code hPs ht) (cd.tab hPs) hf fun c' h' tk hx hge hlt hco' _ htab' _ => ?_
    obtain ⟨o1, vs, f1, tf, fl, tg, inF, tx, tt, op, _, _, _, _, _, _, _, _, _, htr, _⟩ := hco'
    exact cont _ h' tk _ hx (Nat.le_trans hge (Nat.le_of_lt hlt)) htab'.2 ⟨_, rfl⟩ htr
  | some cv =>
    refine wpAny_genexprCode_hit hcode (cd.code hPs ht) hf ?_
    exact cont cv s2.heap s2.toks ps (Heap.ExtBut.refl _ _) (Nat.le_refl _) hPs ⟨#[], by simp⟩ ht

/-- all(elt for x in iter), every element True -/
def tAllG (P : Addr) (wi : TI) (te : TE) : TE := fun σ H Q => wi σ H fun J H1 => GxR.TabG H1 P ∧ ∀ H2, GxR.Tabbed P H1 H2 → ∃ (N : Nat) (Pv : Nat → Hp → Prop), Pv 0 H2 ∧
  (∀ i H, i < N → Pv i H → J.go i H ∧ ∀ y H', J.yld i H y H' → te (σ ++ [some y]) H' fun z H3 => z = V.bl true ∧ Pv (i + 1) H3) ∧ (∀ H, Pv N H → J.stop N H) ∧ ∀ H, Pv N H → Q (.bl true) H
theorem pe_allG {c P : Addr} {elt iter : Expr} {px p pos gpos : Pos} {wi : TI} {te : TE} {k : Nat}
    (hr : Room (k + 1) X.A) (hg : Gl X "all") (hm : X.mg "all" = none) (hb : bootBuiltins "all" = some (.builtin "all")) (TB : GxR.TabB X.base X.mg c P) (hcode : X.env.code = .ref c) (B : GenB X.N X.env.scope scope x) (hi : PI X (.Name x px) iter wi)
    (he : ∀ (A' : Around) (s : Shared) (H : Hp) (C : Addr) (code : Value) (fp : List Addr) (pn : List (Addr × Obj)), Room k A' → PE (genCx X A' s H (gEnv X scope C code) x fp pn) elt te)
    (hs : ∀ v, genFold iter X.env v = pure v)
    (hse : starEach [gExp elt x px iter scope gpos] X.env = (false, eval (gExp elt x px iter scope gpos) X.env) :: starEach [] X.env := by rfl) :
    PE X (.Call (.Name "all" p) [gExp elt x px iter scope gpos] [] pos) (tAllG P wi te) := by
  refine ⟨fun pins s σ H Q I h => ?_⟩
  refine wpAny_Call_Name_kw (ld_blt I hg hm hb ?_)
  refine PyProof.Rows.callWith_builtin1 ?_ hse (by rfl)
  rw [hse]
  show wpAny _ _ (spliced ((false, eval (gExp elt x px iter scope gpos) X.env) :: backTo pos (starEach [] X.env))) _ _ s
  refine Calls.spliced_cons (gen_made hr TB hcode B hi he hs I h fun J H1 H2 a s5 hR hT hK => ?_)
  refine Calls.spliced_nil ?_
  obtain ⟨N, Pv, p0, hstep, hstop, hend⟩ := hR H2 hT
  obtain ⟨XG, fp, tn, it, g, go, eP, ew, I5, st5, fr5, hg5, hgen, hGO, hback⟩ := hK
  have G := hGO [] N (fun _ => V.bl true) Pv (fun S hS => absurd hS (by simp)) hstep hstop
  have h0 : X.A.handled = none := hr.hd
  have hdp : X.A.depth < recursionLimit := hr.depth
  have R0 : Run XG [] fp tn Pv σ [] 0 H2 s5 := ⟨⟨fun b hb => absurd hb (by simp), fun p hp => absurd hp (by simp)⟩, I5, st5, fr5, p0⟩
  have sl : Sl XG [] fp tn Pv σ N (fun _ => V.bl true) X.A.in1.in1 g 0 s5 := ⟨⟨[], H2, R0⟩, _, hg5, fun s'' z => ⟨rfl, by
    obtain ⟨pc, H', R'⟩ := Run.slept G z ⟨[], H2, R0⟩
    exact seg_start (A := X.A.in1.in1) G.calm G.xe G.apart G.fpcs G.T G.nd G.ix G.xl G.co G.ov G.ex G.he G.step G.stop s'' s'' pc H' R' fun p hp => (R'.inv.pin p (List.mem_append_right _ hp)).1⟩⟩
  rw [← eP, ← ew]
  refine call_function_tree F.kind_all F.plain_all F.entry_all (F.args_all1 _) ?_
  unfold Builtin.«all»
  refine wpAny_bind (m := oneArg "all" _) (wpAny_pure ?_)
  refine wpAny_bind (wpAny_pyIter_gen hgen ?_)
  exact wpAny_pure ⟨plainId_quiet F.plain_all_loop _, all_loop (A0 := X.A) G h0 hdp (fun pc H' s' hp I' pv => ⟨.bl true, H', hback pc H' s' I', rfl, hend H' pv⟩) N 0 s5 rfl (Nat.zero_le _) sl⟩

theorem pinc_one (S : Addr) (o : Obj) : PinC [S] [(S, o)] := ⟨fun b hb => by
    have e : b = S := List.mem_singleton.mp hb
    subst e
    exact ⟨o, List.mem_singleton.mpr rfl⟩, fun p hp => by
    rw [List.mem_singleton.mp hp]
    exact List.mem_singleton.mpr rfl⟩
/-- sum(elt for x in iter), whole numbers within the long's range -/
def tSumG (P : Addr) (wi : TI) (te : TE) : TE := fun σ H Q => wi σ H fun J H1 => GxR.TabG H1 P ∧ ∀ H2, GxR.Tabbed P H1 H2 → ∃ (N : Nat) (val : Nat → Int) (Pv : Nat → Hp → Prop), Pv 0 H2 ∧ (∀ j, j < N → InLong (val j) ∧ InLong (preSum val (j + 1))) ∧
  (∀ i H, i < N → Pv i H → J.go i H ∧ ∀ y H', J.yld i H y H' → te (σ ++ [some y]) H' fun z H3 => z = V.int (val i) ∧ Pv (i + 1) H3) ∧ (∀ H, Pv N H → J.stop N H) ∧ ∀ H, Pv N H → Q (.int (preSum val N)) H
theorem pe_sumG {c P : Addr} {elt iter : Expr} {px p pos gpos : Pos} {wi : TI} {te : TE} {k : Nat}
    (hr : Room (k + 1) X.A) (hg : Gl X "sum") (hm : X.mg "sum" = none) (hb : bootBuiltins "sum" = some (.builtin "sum")) (TB : GxR.TabB X.base X.mg c P) (hcode : X.env.code = .ref c) (B : GenB X.N X.env.scope scope x) (hi : PI X (.Name x px) iter wi)
    (he : ∀ (A' : Around) (s : Shared) (H : Hp) (C : Addr) (code : Value) (fp : List Addr) (pn : List (Addr × Obj)), Room k A' → PE (genCx X A' s H (gEnv X scope C code) x fp pn) elt te)
    (hs : ∀ v, genFold iter X.env v = pure v)
    (hse : starEach [gExp elt x px iter scope gpos] X.env = (false, eval (gExp elt x px iter scope gpos) X.env) :: starEach [] X.env := by rfl) :
    PE X (.Call (.Name "sum" p) [gExp elt x px iter scope gpos] [] pos) (tSumG P wi te) := by
  refine ⟨fun pins s σ H Q I h => ?_⟩
  refine wpAny_Call_Name_kw (ld_blt I hg hm hb ?_)
  refine PyProof.Rows.callWith_builtin1 ?_ hse (by rfl)
  rw [hse]
  show wpAny _ _ (spliced ((false, eval (gExp elt x px iter scope gpos) X.env) :: backTo pos (starEach [] X.env))) _ _ s
  refine Calls.spliced_cons (gen_made hr TB hcode B hi he hs I h fun J H1 H2 a s5 hR hT hK => ?_)
  refine Calls.spliced_nil ?_
  obtain ⟨N, val, Pv, p0, hfit, hstep, hstop, hend⟩ := hR H2 hT
  obtain ⟨XG, fp, tn, it, g, go, eP, ew, I5, st5, fr5, hg5, hgen, hGO, hback⟩ := hK
  have h0 : X.A.handled = none := hr.hd
  have hdp : X.A.depth < recursionLimit := hr.depth
  have G := hGO [s5.heap.objs.size] N (fun j => V.int (val j)) Pv (fun S hS => by rw [List.mem_singleton.mp hS]; exact Nat.le_refl _) hstep hstop
  rw [← eP, ← ew]
  refine call_function_tree F.kind_sum F.plain_sum F.entry_sum (F.args_sum1 _) ?_
  unfold Builtin.«sum»
  simp only [List.length_cons, List.length_nil]
  rw [if_neg (by decide)]
  refine wpAny_bind (wpAny_of_eq (show Builtin.Builtins.bindParams "sum" ["start"] 0 { } = pure [none] from rfl) ?_)
  refine wpAny_bind (wpAny_pyIter_gen hgen ?_)
  refine wpAny_bind (wpAny_mkInt ?_)
  refine wpAny_bind (wpAny_pure ?_)
  simp only [List.forIn_cons, List.forIn_nil]
  refine wpAny_bind (wpAny_bind (wpAny_bind (wpAny_isInstance (T := "int") (b := false) (typeIs_int _ _ _) PySem.sub_int_str ?_)))
  simp only [Bool.false_eq_true, if_false]
  refine wpAny_pure (wpAny_bind (wpAny_bind (wpAny_isInstance (T := "int") (b := false) (typeIs_int _ _ _) PySem.sub_int_bytes ?_)))
  simp only [Bool.false_eq_true, if_false]
  refine wpAny_pure (wpAny_bind (wpAny_bind (wpAny_isInstance (T := "int") (b := false) (typeIs_int _ _ _) PySem.sub_int_bytearray ?_)))
  simp only [Bool.false_eq_true, if_false]
  refine wpAny_pure (wpAny_pure ?_)
  refine wpAny_bind (wpAny_newObj_type ?_)
  have hS : (s5.heap.push ({ cls := .type "list", data := .seq #[.int 0 s5.toks] } : Obj)).get? s5.heap.objs.size = some { cls := .type "list", data := .seq #[.int 0 s5.toks] } := Heap.get?_push_size _ rfl
  have I6 : Inv XG [] (σ ++ [none]) H2 { s5 with heap := s5.heap.push { cls := .type "list", data := .seq #[.int 0 s5.toks] }, toks := s5.toks + 1 } := I5.kept fun b o e => Heap.get?_push_of_some _ e
  have ap := G.apart s5.heap.objs.size (List.mem_singleton.mpr rfl)
  have I7 : Inv XG [(s5.heap.objs.size, { cls := .type "list", data := .seq #[.int 0 s5.toks] })] (σ ++ [none]) H2 { s5 with heap := s5.heap.push { cls := .type "list", data := .seq #[.int 0 s5.toks] }, toks := s5.toks + 1 } := I6.pins_of fun p hp => by
    rw [List.mem_singleton.mp hp]
    exact ⟨hS, I5.hok.fresh (Nat.le_refl _), ap.2.1, I5.nofs (Nat.le_refl _), fun v z => by cases z⟩
  have R0 : Run XG [s5.heap.objs.size] fp tn Pv σ [(s5.heap.objs.size, { cls := .type "list", data := .seq #[.int 0 s5.toks] })] 0 H2 { s5 with heap := s5.heap.push { cls := .type "list", data := .seq #[.int 0 s5.toks] }, toks := s5.toks + 1 } :=
    ⟨pinc_one _ _, I7, G.T.keep _ _ _ st5 fun b _ o e => Heap.get?_push_of_some _ e, fr5, p0⟩
  have sl : Sl XG [s5.heap.objs.size] fp tn Pv σ N (fun j => V.int (val j)) X.A.in1.in1 g 0 { s5 with heap := s5.heap.push { cls := .type "list", data := .seq #[.int 0 s5.toks] }, toks := s5.toks + 1 } := ⟨⟨_, H2, R0⟩, _, hg5, fun s'' z => ⟨rfl, by
    obtain ⟨pc, H', R'⟩ := Run.slept G z ⟨_, H2, R0⟩
    exact seg_start (A := X.A.in1.in1) G.calm G.xe G.apart G.fpcs G.T G.nd G.ix G.xl G.co G.ov G.ex G.he G.step G.stop s'' s'' pc H' R' fun p hp => (R'.inv.pin p (List.mem_append_right _ hp)).1⟩⟩
  exact wpAny_pure ⟨plainId_quiet F.plain_sum_loop _, sum_loop (A0 := X.A) G h0 hdp hfit (fun pc H' s' t' hp I' pv => ⟨.int (preSum val N), H', hback pc H' s' I', ⟨t', rfl⟩, hend H' pv⟩) N 0 _ s5.toks _ rfl (Nat.zero_le _) sl hS⟩
end
end GX
/-! The plain functions, and how a problem lies in the heap. -/
namespace Q46
open PySem PySem.Spec PyProof.Rows L2

abbrev S3 := Int × Int × Int
structure Pb where
  ss : List S3
  bs : List (Int × Int)
  gap : Int
def mx (i j : Int) : Int := if j > i then j else i
def mn (i j : Int) : Int := if j < i then j else i
theorem mx_le {i j k : Int} : mx i j ≤ k ↔ i ≤ k ∧ j ≤ k := by unfold mx; split <;> omega
theorem mx_l (i j : Int) : i ≤ mx i j := by unfold mx; split <;> omega
theorem mx_r (i j : Int) : j ≤ mx i j := by unfold mx; split <;> omega
theorem mx_or (i j : Int) : mx i j = i ∨ mx i j = j := by unfold mx; split <;> simp
def ab (i : Int) : Int := if i < 0 then -i else i
namespace Pb
variable (p : Pb)
def many : Nat := p.ss.length + p.bs.length
def giver (n : Nat) : Bool := match p.ss[n]? with
  | some t => decide (t.2.1 < t.1)
  | none => match p.bs[n - p.ss.length]? with
    | some b => decide (0 < b.2)
    | none => false
def down (n : Nat) : Int := if p.giver n = true then p.gap else 0
/-- upper level, lower level, rate, heat of a box -/
def span (n : Nat) : Int × Int × Int × Int := match p.ss[n]? with
  | some t => (mx t.1 t.2.1 - p.down n, mn t.1 t.2.1 - p.down n, t.2.2, 0)
  | none => match p.bs[n - p.ss.length]? with
    | some b => (b.1 - p.down n, b.1 - p.down n, 0, ab b.2)
    | none => (0, 0, 0, 0)
def up (n : Nat) : Int := (p.span n).1
def lo (n : Nat) : Int := (p.span n).2.1
def rate (n : Nat) : Int := (p.span n).2.2.1
def box (n : Nat) : Int := (p.span n).2.2.2
def numbers (g : Bool) : List Nat := (List.range p.many).filter fun n => p.giver n == g
def heatA (n : Nat) (level : Int) (op : Bool) : Int :=
  if p.rate n = 0 then (if level < p.up n ∨ (p.up n = level ∧ op = false) then p.box n else 0) else p.rate n * mx 0 (p.up n - mx level (p.lo n))
def needA (level : Int) (op : Bool) : Int := ((p.numbers false).map fun n => p.heatA n level op).sum - ((p.numbers true).map fun n => p.heatA n level op).sum
def levs : List Int := (List.range p.many).flatMap fun n => [p.up n, p.lo n]
def both (l : Int) : Int := mx (p.needA l true) (p.needA l false)
def heat : Int := p.levs.foldl (fun m l => mx m (p.both l)) 0
def more (l : List (Int × Int)) : Pb := { p with bs := p.bs ++ l }
end Pb
def okS (t : S3) : Prop := (0 ≤ t.1 ∧ t.1 ≤ 1000) ∧ (0 ≤ t.2.1 ∧ t.2.1 ≤ 1000) ∧ t.1 ≠ t.2.1 ∧ 1 ≤ t.2.2 ∧ t.2.2 ≤ 100
def okB (b : Int × Int) : Prop := (0 ≤ b.1 ∧ b.1 ≤ 1000) ∧ (-10000 ≤ b.2 ∧ b.2 ≤ 10000) ∧ b.2 ≠ 0
structure Ok (p : Pb) : Prop where
  s6 : p.ss.length ≤ 6
  b4 : p.bs.length ≤ 6
  ss : ∀ t ∈ p.ss, okS t
  bs : ∀ b ∈ p.bs, okB b
  g0 : 0 ≤ p.gap
  g1 : p.gap ≤ 100
  ne : p.ss ≠ [] ∨ p.bs ≠ []
/-! ### columns -/
def okC (t : S3) : Prop := (0 ≤ t.1 ∧ t.1 ≤ 1000) ∧ (0 ≤ t.2.1 ∧ t.2.1 ≤ t.1 - 1) ∧ 1 ≤ t.2.2 ∧ t.2.2 ≤ 10000
def boxesOf (cs : List S3) (sh : List Int) : List (Int × Int) := (cs.zip sh).flatMap fun q => [(q.1.1 + q.2, 0 - q.1.2.2), (q.1.2.1 + q.2, q.1.2.2)]
def stays (cs : List S3) (sh : List Int) : Bool := (cs.zip sh).all fun q => decide (0 ≤ q.1.2.1 + q.2) && decide (q.1.1 + q.2 ≤ 1000)
def rangeL (lo hi : Int) : List Int := (List.range (hi + 1 - lo).toNat).map fun (i : Nat) => lo + (i : Int)
def rowsOf (lo hi : Int) : List S3 → List (List Int)
  | cs => cs.foldl (fun rows _ => rows.flatMap fun row => (rangeL lo hi).map fun s => row ++ [s]) [[]]
def better (p : Pb) (cs : List S3) (best : Option (List Int × Int)) (row : List Int) : Option (List Int × Int) :=
  if stays cs row = true then
    match best with
    | none => some (row, (p.more (boxesOf cs row)).heat)
    | some b => if (p.more (boxesOf cs row)).heat < b.2 then some (row, (p.more (boxesOf cs row)).heat) else some b
  else best
def bestOf (p : Pb) (cs : List S3) (lo hi : Int) : Option (List Int × Int) := (rowsOf lo hi cs).foldl (better p cs) none

/-! ### in the heap -/
def T3 (H : Hp) (a : Addr) (t : S3) : Prop := H a = some (.tup [.int t.1, .int t.2.1, .int t.2.2])
def T2 (H : Hp) (a : Addr) (t : Int × Int) : Prop := H a = some (.tup [.int t.1, .int t.2])
def TI (H : Hp) (a : Addr) (t : List Int) : Prop := H a = some (.tup (t.map V.int))
def Refs {α : Type} (R : Hp → Addr → α → Prop) (H : Hp) (vs : List V) (xs : List α) : Prop := Paired (fun v x => ∃ a, v = V.ref a ∧ R H a x) vs xs
def KeepT (H H' : Hp) : Prop := ∀ b xs, H b = some (.tup xs) → H' b = some (.tup xs)
section
variable {α : Type} {R : Hp → Addr → α → Prop} {H H' : Hp} {vs : List V} {xs : List α}
theorem Refs.len (h : Refs R H vs xs) : vs.length = xs.length := Paired.length h
theorem Refs.get : ∀ {vs : List V} {xs : List α} {i : Nat} {x : α}, Refs R H vs xs → xs[i]? = some x → ∃ a, vs[i]? = some (V.ref a) ∧ R H a x
  | _, _, _, _, .nil, e => by simp at e
  | _, _, 0, _, .cons ⟨a, e, r⟩ _, h => by
    simp at h
    subst h
    exact ⟨a, by simp [e], r⟩
  | _, _, i + 1, x, .cons _ t, h => by
    obtain ⟨a, h1, h2⟩ := Refs.get (i := i) (x := x) t (by simpa using h)
    exact ⟨a, by simpa using h1, h2⟩
theorem Refs.get' {i : Nat} {v : V} (h : Refs R H vs xs) (e : vs[i]? = some v) : ∃ a x, v = V.ref a ∧ xs[i]? = some x ∧ R H a x := by
  have hl := h.len
  have hi : i < vs.length := (List.getElem?_eq_some_iff.mp e).1
  obtain ⟨a, h1, h2⟩ := h.get (i := i) (x := xs[i]'(by omega)) (List.getElem?_eq_getElem _)
  rw [h1] at e
  exact ⟨a, _, (Option.some.inj e).symm, List.getElem?_eq_getElem _, h2⟩
theorem Refs.imp (h : Refs R H vs xs) (k : ∀ a x, R H a x → R H' a x) : Refs R H' vs xs := Paired.mapP h fun _ _ ⟨a, e, r⟩ => ⟨a, e, k a _ r⟩
theorem Refs.app {v : V} {x : α} {a : Addr} (h : Refs R H vs xs) (e : v = V.ref a) (r : R H a x) : Refs R H (vs ++ [v]) (xs ++ [x]) := by
  induction h with
  | nil => exact .cons ⟨a, e, r⟩ .nil
  | cons p _ ih => exact .cons p ih
theorem Refs.append {ws : List V} {ys : List α} (h : Refs R H vs xs) (k : Refs R H ws ys) : Refs R H (vs ++ ws) (xs ++ ys) := by
  induction h with
  | nil => exact k
  | cons p _ ih => exact .cons p ih
end
theorem KeepT.refl (H : Hp) : KeepT H H := fun _ _ e => e
theorem KeepT.trans {H H1 H2 : Hp} (a : KeepT H H1) (b : KeepT H1 H2) : KeepT H H2 := fun c xs e => b c xs (a c xs e)
theorem T3.keep {H H' : Hp} (k : KeepT H H') : ∀ a x, T3 H a x → T3 H' a x := fun a _ e => k a _ e
theorem T2.keep {H H' : Hp} (k : KeepT H H') : ∀ a x, T2 H a x → T2 H' a x := fun a _ e => k a _ e
theorem TI.keep {H H' : Hp} (k : KeepT H H') : ∀ a x, TI H a x → TI H' a x := fun a _ e => k a _ e
/-- a tuple of things -/
def TupR {α : Type} (R : Hp → Addr → α → Prop) (H : Hp) (p : Addr) (xs : List α) : Prop := ∃ vs, H p = some (.tup vs) ∧ Refs R H vs xs
theorem TupR.keep {α : Type} {R : Hp → Addr → α → Prop} {H H' : Hp} {p : Addr} {xs : List α} (h : TupR R H p xs) (k : KeepT H H') (kr : ∀ a x, R H a x → R H' a x) : TupR R H' p xs :=
  let ⟨vs, e, r⟩ := h
  ⟨vs, k _ _ e, r.imp kr⟩
def PbAt (H : Hp) (p : Addr) (pr : Pb) : Prop := ∃ ps pb, H p = some (.tup [.ref ps, .ref pb, .int pr.gap]) ∧ TupR T3 H ps pr.ss ∧ TupR T2 H pb pr.bs
theorem PbAt.keep {H H' : Hp} {p : Addr} {pr : Pb} (h : PbAt H p pr) (k : KeepT H H') : PbAt H' p pr :=
  let ⟨ps, pb, e, a, b⟩ := h
  ⟨ps, pb, k _ _ e, a.keep k (T3.keep k), b.keep k (T2.keep k)⟩
/-! ### how heaps grow -/
theorem same_upd {H : Hp} {p : Addr} {o : HO} (h : H p = none) : Same H (upd H p o) := fun b x e => by
  rw [upd_ne (ne_of_none e h)]
  exact e
theorem Same.keepT {H H' : Hp} (s : Same H H') : KeepT H H' := fun b xs e => s b _ e
/-- all is kept, but the tables at PT may grow -/
structure Grow (PT : List Addr) (H H' : Hp) : Prop where
  obj : ∀ b o, H b = some o → (∀ ps, o ≠ .tbl ps) → H' b = some o
  tbl : ∀ b ps, H b = some (.tbl ps) → b ∉ PT → H' b = some (.tbl ps)
  tab : ∀ P ∈ PT, GxR.TabG H P → GxR.TabG H' P
  there : ∀ b, H b ≠ none → H' b ≠ none
theorem Grow.refl (PT : List Addr) (H : Hp) : Grow PT H H := ⟨fun _ _ e _ => e, fun _ _ e _ => e, fun _ _ e => e, fun _ e => e⟩
theorem Grow.trans {PT : List Addr} {H H1 H2 : Hp} (a : Grow PT H H1) (b : Grow PT H1 H2) : Grow PT H H2 :=
  ⟨fun c o e n => b.obj c o (a.obj c o e n) n, fun c ps e n => b.tbl c ps (a.tbl c ps e n) n, fun P hP t => b.tab P hP (a.tab P hP t), fun c e => b.there c (a.there c e)⟩
theorem Grow.of {PT : List Addr} {H H' : Hp} (s : Same H H') : Grow PT H H' := ⟨fun b o e _ => s b o e, fun b ps e _ => s b _ e, fun P _ ⟨ps, e, t⟩ => ⟨ps, s _ _ e, t⟩, fun b e => by
  cases q : H b with
  | none => exact absurd q e
  | some o =>
    rw [s b o q]
    exact fun z => by cases z⟩
theorem Grow.tabbed {PT : List Addr} {H H' : Hp} {P : Addr} (hP : P ∈ PT) (h0 : GxR.TabG H P) (t : GxR.Tabbed P H H') : Grow PT H H' := by
  obtain ⟨ps0, e0, _⟩ := h0
  refine ⟨fun b o e n => ?_, fun b ps e n => ?_, fun Q hQ q => ?_, fun b e => ?_⟩
  · have hb : b ≠ P := fun z => by
      rw [z, e0] at e
      exact n _ (Option.some.inj e).symm
    rw [t.2 b hb]
    exact e
  · have hb : b ≠ P := fun z => n (z ▸ hP)
    rw [t.2 b hb]
    exact e
  · by_cases hb : Q = P
    · rw [hb]
      exact t.1
    · obtain ⟨ps, e, r⟩ := q
      exact ⟨ps, by rw [t.2 Q hb]; exact e, r⟩
  · by_cases hb : b = P
    · obtain ⟨ps, e, _⟩ := t.1
      rw [hb, e]
      exact fun z => by cases z
    · rw [t.2 b hb]
      exact e
theorem Grow.keepT {PT : List Addr} {H H' : Hp} (g : Grow PT H H') : KeepT H H' := fun b xs e => g.obj b _ e fun _ z => by cases z
theorem Grow.lst {PT : List Addr} {H H' : Hp} (g : Grow PT H H') {a : Addr} {xs : List V} (h : H a = some (.lst xs)) : H' a = some (.lst xs) := g.obj a _ h fun _ z => by cases z
theorem Grow.free {PT : List Addr} {H H' : Hp} (g : Grow PT H H') {l : Addr} (h : H' l = none) : H l = none := by
  cases q : H l with
  | none => rfl
  | some o => exact absurd h (g.there l (by rw [q]; exact fun z => by cases z))
/-- the tables stand -/
def Tbs (PT : List Addr) (H : Hp) : Prop := ∀ P ∈ PT, GxR.TabG H P
theorem Tbs.grow {PT : List Addr} {H H' : Hp} (t : Tbs PT H) (g : Grow PT H H') : Tbs PT H' := fun P hP => g.tab P hP (t P hP)
end Q46
/-! max of three ints; enumerate of a tuple. -/
namespace PySem
open Sem (wp)
open AutoSeq1 (wpAny_loadPart')
theorem KX.args_max3 (a b c : Value) : argsOk "max" ⟨[a, b, c], []⟩ := by unfold argsOk; kernel_rfl
section
variable {prog : Program} {w : World} {A : Around} {E : Value → Shared → Prop} {s : Shared}
theorem KX.call_max_three {a b c : Value} {Q : Value → Shared → Prop}
    (h : wpAny (model prog w) A.in1 (pyIter (.ref s.heap.objs.size)) (fun it s₂ => ∃ I fp wr n P St bt, it = .ref I ∧ Walks prog w A.in1 I fp wr n P St ∧ St 0 s₂.heap ∧ (∀ b ∈ fp, b < s₂.heap.objs.size) ∧ 0 < n ∧ CmpOf prog w A.in1 .Gt P bt ∧
      ∀ v h' tk, P (argBest bt (n - 1)) v → (∀ b o, b ∉ wr → s₂.heap.get? b = some o → h'.get? b = some o) → Q v { s₂ with heap := h', toks := tk }) E
      { s with heap := s.heap.push { cls := .type "tuple", data := .seq #[a, b, c] } }) :
    wpAny (model prog w) A (call (.builtin "max") [a, b, c]) Q E s := by
  have hname : (toString "max" ++ toString ".loop" : String) = "max.loop" := by decide
  refine call_function_tree F.kind_max F.plain_max F.entry_max (KX.args_max3 _ _ _) ?_
  show wpAny _ A.in1 (Builtin.Builtins.bindParams "max" ["key", "default"] 0 ⟨[], []⟩ >>= _) _ _ s
  refine wpAny_bind (wpAny_of_eq (show Builtin.Builtins.bindParams "max" ["key", "default"] 0 ⟨[], []⟩ = pure [none, none] from rfl) ?_)
  show wpAny _ A.in1 (newTuple [a, b, c] >>= _) _ _ s
  refine wpAny_bind (wpAny_newObj_type ?_)
  refine wpAny_bind (wpAny_mono h (fun it s₂ h₂ => ?_) fun _ _ e => e)
  obtain ⟨I, fp, wr, n, P, St, bt, rfl, W, hst, hfp, hn, hcmp, hQ⟩ := h₂
  refine wpAny_bind (wpAny_newObj_type ?_)
  have hSf : s₂.heap.objs.size ∉ fp := fun hm => Nat.lt_irrefl _ (hfp _ hm)
  rw [hname]
  refine wpAny_pure ⟨plainId_quiet F.plain_max_loop _, codeAny_max_loop_first W bt hcmp s₂.heap.objs.size hSf hn (W.frame _ _ _ hst fun b _ o e => Heap.get?_push_of_some _ e) (Heap.get?_push_size _ rfl) fun v h' tk hP hk => ?_⟩
  exact hQ v h' tk hP fun b o hbw e => hk b o hbw (Nat.ne_of_lt (Heap.lt_size e)) (Heap.get?_push_of_some _ e)
theorem KX.max_three_ints {a b c : Int} {t u z : Tok} {Q : Value → Shared → Prop} (hh : A.handled = none)
    (h : ∀ h' tk d, (∀ c o, s.heap.get? c = some o → h'.get? c = some o) → Q (.int (Q46.mx (Q46.mx a b) c) d) { s with heap := h', toks := tk }) :
    wpAny (model prog w) A (call (.builtin "max") [.int a t, .int b u, .int c z]) Q E s := by
  have hT : (s.heap.push { cls := .type "tuple", data := .seq #[.int a t, .int b u, .int c z] }).IsTuple s.heap.objs.size (intItems #[(a, t), (b, u), (c, z)]) := ⟨_, Heap.get?_push_size _ rfl, rfl, 0, by simp [intItems]⟩
  refine KX.call_max_three (wpAny_pyIter_tuple hT ?_)
  have hsz : (s.heap.push { cls := .type "tuple", data := .seq #[.int a t, .int b u, .int c z] }).objs.size = s.heap.objs.size + 1 := Heap.size_push ..
  refine ⟨_, [_, s.heap.objs.size], [_], _, _, _, _, rfl, Walks.tuple (A := A.in1) hh _ s.heap.objs.size (by rw [hsz]; exact Nat.ne_of_lt (Nat.lt_succ_self _)) (intItems #[(a, t), (b, u), (c, z)]),
    ⟨⟨_, Heap.get?_push_size _ rfl, rfl, rfl⟩, hT.push _⟩, fun c hc => ?_, by simp [intItems], CmpOf.ints_gt (numAt #[(a, t), (b, u), (c, z)]) (fun _ _ => intItems_at), fun v h' tk hP hk => ?_⟩
  · show c < ((s.heap.push _).push _).objs.size
    rw [Heap.size_push, hsz]
    rcases List.mem_cons.mp hc with rfl | hc
    · rw [hsz]; exact Nat.lt_succ_self _
    · rcases List.mem_cons.mp hc with rfl | hc
      · exact Nat.lt_succ_of_lt (Nat.lt_succ_self _)
      · cases hc
  · have hold : ∀ c o, s.heap.get? c = some o → h'.get? c = some o := fun c o e => by
      refine hk c o (fun hm => ?_) (Heap.get?_push_of_some _ (Heap.get?_push_of_some _ e))
      rcases List.mem_cons.mp hm with e1 | hm
      · have := Heap.lt_size e; rw [e1, hsz] at this; exact Nat.lt_irrefl _ (Nat.lt_of_succ_lt this)
      · cases hm
    have hv : ∃ d, v = .int (Q46.mx (Q46.mx a b) c) d := by
      have hsz2 : (intItems #[(a, t), (b, u), (c, z)]).size - 1 = 2 := by simp [intItems]
      have hP' : (intItems #[(a, t), (b, u), (c, z)])[argBest (fun i j => decide (numAt #[(a, t), (b, u), (c, z)] i > numAt #[(a, t), (b, u), (c, z)] j)) 2]? = some v := by
        rw [← hsz2]; exact hP
      unfold Q46.mx
      by_cases hba : b > a
      · by_cases hcb : c > b
        · have e : argBest (fun i j => decide (numAt #[(a, t), (b, u), (c, z)] i > numAt #[(a, t), (b, u), (c, z)] j)) 2 = 2 := by simp [argBest, numAt, hba, hcb]
          rw [e] at hP'
          exact ⟨z, by simpa [intItems, hba, hcb] using hP'.symm⟩
        · have e : argBest (fun i j => decide (numAt #[(a, t), (b, u), (c, z)] i > numAt #[(a, t), (b, u), (c, z)] j)) 2 = 1 := by simp [argBest, numAt, hba, hcb]
          rw [e] at hP'
          exact ⟨u, by simpa [intItems, hba, hcb] using hP'.symm⟩
      · by_cases hcb : c > a
        · have e : argBest (fun i j => decide (numAt #[(a, t), (b, u), (c, z)] i > numAt #[(a, t), (b, u), (c, z)] j)) 2 = 2 := by simp [argBest, numAt, hba, hcb]
          rw [e] at hP'
          exact ⟨z, by simpa [intItems, hba, hcb] using hP'.symm⟩
        · have e : argBest (fun i j => decide (numAt #[(a, t), (b, u), (c, z)] i > numAt #[(a, t), (b, u), (c, z)] j)) 2 = 0 := by simp [argBest, numAt, hba, hcb]
          rw [e] at hP'
          exact ⟨t, by simpa [intItems, hba, hcb] using hP'.symm⟩
    obtain ⟨d, rfl⟩ := hv
    exact h h' tk d hold
theorem KX.meets_enumT_new (l : Addr) (items : Array Value) :
    Meets (Builtin.«enumerate.__new__» ⟨[.type "enumerate", .ref l], []⟩) (fun _ R s => s.heap.IsTuple l items ∧
      R (.ok (.ret (.ref (s.heap.push { cls := .type "tuple_iterator", data := .fields #[.ref l, .int 0 0] }).objs.size)))
        { s with heap := (s.heap.push { cls := .type "tuple_iterator", data := .fields #[.ref l, .int 0 0] }).push { cls := .type "enumerate", data := .fields #[.none, .bool false, .ref s.heap.objs.size, rawInt 0, .none, .none] } }) :=
  .of_wp fun prog w A R s h => by
    obtain ⟨hp, g, d, tk, os⟩ := s; obtain ⟨hL0, h⟩ := h
    have hsub := sub_enumerate
    have hL : Heap.IsTuple (Shared.heap ⟨hp, g, d, tk, os⟩) l items := hL0
    wp_walk using wpAny_pyIter_tuple hL
    refine wpAny_stack_any fun st => wpAny_pure ?_
    split
    · rename_i c _ _ _ _ _
      cases (c == Value.type "enumerate")
      · wp_walk using wpAny_pyIter_tuple hL
        exact ⟨_, rfl, h⟩
      · wp_walk using wpAny_pyIter_tuple hL
        exact ⟨_, rfl, h⟩
    · wp_walk using wpAny_pyIter_tuple hL
      exact ⟨_, rfl, h⟩
theorem KX.call_enumerate_tup {l : Addr} {items : Array Value} {Q : Value → Shared → Prop} (hL : s.heap.IsTuple l items)
    (h : ∀ h', IsEnum h' (s.heap.objs.size + 1) s.heap.objs.size 0 .none → h'.IsTupleIter s.heap.objs.size l 0 → h'.objs.size = s.heap.objs.size + 2 →
      (∀ b o, s.heap.get? b = some o → h'.get? b = some o) → Q (.ref (s.heap.objs.size + 1)) { s with heap := h' }) :
    wpAny (model prog w) A (call (.type "enumerate") [.ref l]) Q E s := by
  refine callType_new F.called_enumerate (by decide) (F.typeCall_enumerate_1 _) (F.newCall_enumerate_1 _) (fun obj => F.args_object_init_2 obj _) F.entry_enumerate_new
    (KX.meets_enumT_new l items) ⟨hL, ?_⟩
  have hz : (s.heap.push { cls := .type "tuple_iterator", data := .fields #[.ref l, .int 0 0] }).objs.size = s.heap.objs.size + 1 := Heap.size_push ..
  show _ ∧ _
  rw [hz]
  have he : IsEnum ((s.heap.push { cls := .type "tuple_iterator", data := .fields #[.ref l, .int 0 0] }).push
      { cls := .type "enumerate", data := .fields #[.none, .bool false, .ref s.heap.objs.size, rawInt 0, .none, .none] }) (s.heap.objs.size + 1) s.heap.objs.size 0 .none := by
    have := Heap.get?_push_size (s.heap.push { cls := .type "tuple_iterator", data := .fields #[.ref l, .int 0 0] })
      (o := { cls := .type "enumerate", data := .fields #[.none, .bool false, .ref s.heap.objs.size, rawInt 0, .none, .none] }) rfl
    rw [hz] at this; exact this
  refine ⟨⟨_, he, rfl⟩, h _ he ⟨_, Heap.get?_push_of_some _ (Heap.get?_push_size _ rfl), rfl, rfl⟩ (by rw [Heap.size_push, hz]) fun b o x => Heap.get?_push_of_some _ (Heap.get?_push_of_some _ x)⟩
end
end PySem
namespace KX
open PySem PySem.Spec PyProof.Rows L2
theorem vals3 {x y z : V} {us : List Value} (r : Vals [x, y, z] us) : ∃ u v w', us = [u, v, w'] ∧ RelV x u ∧ RelV y v ∧ RelV z w' := by
  cases r with
  | cons r1 r2 =>
    obtain ⟨_, _, rfl, r3, r4⟩ := vals2 r2
    exact ⟨_, _, _, rfl, r1, r3, r4⟩
theorem call_max3 {X : Cx} (hc : X.calm = true) : CallR X (.builtin "max") (fun xs H Q => ∃ i j k, xs = [.int i, .int j, .int k] ∧ Q (.int (Q46.mx (Q46.mx i j) k)) H) := by
  intro pins s σ H xs us Q I r h
  obtain ⟨i, j, k0, rfl, q⟩ := h
  obtain ⟨u, w', z, rfl, ⟨t, rfl⟩, ⟨t', rfl⟩, ⟨t'', rfl⟩⟩ := vals3 r
  exact PySem.KX.max_three_ints (I.ok.hd hc) fun h' tk d k => ⟨.int (Q46.mx (Q46.mx i j) k0), H, I.kept k, ⟨_, rfl⟩, q⟩
/-- the tuple at a as it stands at each turn, each item in a new pair -/
def IteT (K : PySem.W.Frag) (a : Addr) : It :=
  ⟨fun i H => ∃ (xs : List V) (x : V), SqT K H a xs ∧ xs[i]? = some x, fun i H v H' => ∃ T x, v = .ref T ∧ H T = none ∧ H' = upd H T (.tup [.int (i : Nat), x]) ∧ ∀ xs, SqT K H a xs → xs[i]? = some x, fun i H => ∃ xs : List V, SqT K H a xs ∧ xs.length ≤ i⟩
theorem turn_enumT {P : Program} {w : World} {K : PySem.W.Frag} {elts : List Expr} {kk : Nat} {tpos : Pos} (a e it : Addr) (hait : a ≠ it) (hae : a ≠ e) :
    Turn P w K (.Tuple elts kk tpos) (IteT K a) [e, it] e (fun i h => (∃ old, IsEnum h e it ((i : Nat) : Int) old) ∧ h.IsTupleIter it a i ∧ e ≠ it) where
  mem := by simp
  obj := fun i h st b hb => by
    obtain ⟨⟨old, he⟩, ⟨o, ho, hc, hd⟩, _⟩ := st
    have e' : b = e ∨ b = it := by simpa using hb
    rcases e' with z | z
    · rw [z]; exact ⟨_, he, fun v q => nomatch q⟩
    · rw [z]; exact ⟨o, ho, fun v q => by rw [hd] at q; cases q⟩
  keep := fun i h h' st k => let ⟨⟨old, he⟩, hi, hne⟩ := st; ⟨⟨old, k e (by simp) _ he⟩, hi.at fun o q => k it (by simp) o q, hne⟩
  item := by
    intro X hP hw hK hc i pins s σ H E I hf st hg
    subst hP hw hK
    obtain ⟨⟨old, he⟩, hit, hne⟩ := st
    obtain ⟨xs, x, hq, hx⟩ := hg
    obtain ⟨its, rv, p, hz⟩ := I.tuple hq
    obtain ⟨u, hu, ru⟩ := rv.get hx
    have hel : e < s.heap.objs.size := Heap.lt_size he
    have hil : it < s.heap.objs.size := by obtain ⟨_, q, _⟩ := hit; exact Heap.lt_size q
    have hD : Draws X.prog X.w X.A.in1 it [it, a] its.toArray.size (fun i v => its.toArray[i]? = some v) (fun i h => h.IsTupleIter it a i ∧ h.IsTuple a its.toArray) := Draws.tuple (A := X.A.in1) (I.ok.hd hc) it a hait its.toArray
    have hlt : i < its.toArray.size := by
      have := (List.getElem?_eq_some_iff.mp hu).1
      simpa using this
    refine wpAny_pyNext_enum_itemD hD he (show s.heap.IsTupleIter it a i ∧ s.heap.IsTuple a its.toArray from ⟨hit, p⟩) hlt hne (by simp [hne, Ne.symm hae]) fun u' h' tk hP ho hst hT hsz hk => ?_
    have eu : u' = u := by
      have : its.toArray[i]? = some u := by simpa using hu
      exact Option.some.inj ((show its.toArray[i]? = some u' from hP).symm.trans this)
    subst eu
    have hit' := hst.1
    refine ⟨_, rfl, wpAny_letOwnedTupleGo_enum (s := { s with heap := h', toks := tk + 1 }) ho fun h'' he' sb => ?_⟩
    have hT2 : h''.get? s.heap.objs.size = some { cls := .type "tuple", data := .seq #[.int i tk, u'] } := (sb.2 _ (Nat.ne_of_gt hel)).trans hT
    have new : ObjOk X.prog X.w (upd H s.heap.objs.size (.tup [.int (i : Nat), x])) h'' s.heap.objs.size (.tup [.int (i : Nat), x]) :=
      ⟨by show 2 ≤ sizeLine; decide, [.int i tk, u'], .cons ⟨_, rfl⟩ (.cons ru .nil), ⟨_, hT2, rfl, _, rfl⟩⟩
    have I1 : Inv X pins σ (upd H s.heap.objs.size (.tup [.int (i : Nat), x])) { s with heap := h'', toks := tk + 1 } :=
      I.turnedNew (ch := [e, it]) (fun b ob hb q => (sb.2 b (fun z => hb (by simp [z]))).trans (hk b ob (fun z => hb (by simp [z])) (fun z => hb (by simp [z])) q)) hf (Nat.le_refl _) new
    refine ⟨.ref s.heap.objs.size, _, I1, rfl, ⟨_, x, rfl, I.hok.fresh (Nat.le_refl _), rfl, fun ys hy => by rw [I.tuple_inj hy hq]; exact hx⟩, ⟨⟨u', ?_⟩, hit'.at fun o q => (sb.2 it (Ne.symm hne)).trans q, hne⟩, fun b hb => ?_⟩
    · have e1 : ((i + 1 : Nat) : Int) = (i : Int) + 1 := by omega
      rw [e1]; exact he'
    · have hb' : b < s.heap.objs.size := by
        have e' : b = e ∨ b = it := by simpa using hb
        rcases e' with z | z
        · rw [z]; exact hel
        · rw [z]; exact hil
      rw [upd_ne (Nat.ne_of_lt hb')]
      exact (hf b hb).1
  done := by
    intro X hP hw hK hc i pins s σ H E I hf st hg
    subst hP hw hK
    obtain ⟨⟨old, he⟩, hit, hne⟩ := st
    obtain ⟨xs, hq, hx⟩ := hg
    obtain ⟨its, rv, p, hz⟩ := I.tuple hq
    obtain ⟨f0, f1, f2, f3, f4, f5⟩ := hf it (by simp)
    have hl := rv.length
    have hT : s.TypeIs (.ref e) "enumerate" := ⟨_, he, rfl⟩
    unfold pyNext
    refine wpAny_bind (wpAny_attempt (wpAny_callSpecial?_slot (name := Str.ofString "__next__") hT F.slot_enumerate_next
      (wpAny_call_entry F.slot_enumerate_next hT F.entry_enumerate_next ?_ (F.args_enumerate_next_1 _))))
    show wpAny _ _ (field (.ref e) 2 >>= _) _ _ _
    refine wpAny_bind (wpAny_field he rfl (x := .ref it) rfl ?_)
    refine wpAny_bind (wpAny_nextOf_tuple_end (A := X.A.in1) (I.ok.hd hc) hit (show s.heap.IsTuple a its.toArray from p) (by simp; omega) fun h' x he' hx' => ?_)
    obtain ⟨o, ho, hc⟩ := hx'
    refine wpAny_bind (wpAny_isInstance (T := "StopIteration") (b := true) ⟨o, ho, hc⟩ isSubtype_stop ?_)
    exact wpAny_pure ⟨rfl, I.turned (t' := s.toks) (fun b o hb q => he' b o hb q) f0 f1 f3 f4 f5⟩
  self := fun A i s Q E st h => let ⟨⟨_, he⟩, _⟩ := st; wpAny_pyIter_enum he h
def iEnumT (K : PySem.W.Frag) (ta : TA) : TI := fun σ H R => ta σ H fun vs H1 => ∃ a xs, vs = [.ref a] ∧ SqT K H1 a xs ∧ R (IteT K a) H1
theorem pi_enumT {X : Cx} {e : Expr} {ta : TA} {p pos tpos : Pos} {elts : List Expr} {kk : Nat} (hg : Gl X "enumerate") (hm : X.mg "enumerate" = none) (ha : PA X [e] ta) (hs : starEach [e] X.env = [(false, eval e X.env)] := by rfl) :
    PI X (.Tuple elts kk tpos) (.Call (.Name "enumerate" p) [e] [] pos) (iEnumT X.K ta) := by
  refine ⟨fun pins s σ H R I h => ?_⟩
  refine Call_ (ld_blt I hg hm boot_enumerate (PyProof.Rows.callWith_type1 (thn (ha.run pos pins s σ H _ I h) fun us s1 ⟨vs, H1, I1, r1, q1⟩ => ?_) hs rfl))
  obtain ⟨a, xs, ex, hq, q⟩ := q1
  subst ex
  cases r1 with
  | cons r rr =>
    cases rr
    cases r
    obtain ⟨its, rv, p', hz⟩ := I1.tuple hq
    have hp' : s1.heap.IsTuple a its.toArray := p'
    have hlt : a < s1.heap.objs.size := by
      obtain ⟨o, ho, _⟩ := id hp'
      exact Heap.lt_size ho
    refine PySem.KX.call_enumerate_tup hp' fun h' he hit hsz hk => wpAny_pyIter_enum he ?_
    have I2 : Inv X pins σ H1 { s1 with heap := h' } := I1.kept (t' := s1.toks) hk
    refine ⟨s1.heap.objs.size + 1, [s1.heap.objs.size + 1, s1.heap.objs.size], _, _, H1, rfl, I2, turn_enumT a (s1.heap.objs.size + 1) s1.heap.objs.size (Nat.ne_of_lt hlt) (Nat.ne_of_lt (Nat.lt_succ_of_lt hlt)), ⟨⟨.none, he⟩, hit, Nat.succ_ne_self _⟩, fun b hb => ?_, q⟩
    have e' : b = s1.heap.objs.size + 1 ∨ b = s1.heap.objs.size := by simpa using hb
    have hle : s1.heap.objs.size ≤ b := by
      rcases e' with z | z
      · rw [z]; exact Nat.le_add_right _ _
      · rw [z]; exact Nat.le_refl _
    exact I1.fpOk hle (I1.hok.fresh hle)
/-- a loop over enumerate of a tuple -/
theorem for_enumT {K : PySem.W.Frag} {a : Addr} {xs : List V} {g : TG} {tb : TS} {D : Ends} {σ : L2.St} {H : Hp} (Pv : Nat → L2.St → Hp → Prop) (h0 : Pv 0 σ H) (hq : ∀ i σ H, Pv i σ H → SqT K H a xs)
    (hs : ∀ (i : Nat) (x : V) (T : Addr) (σ : L2.St) (H : Hp), xs[i]? = some x → Pv i σ H → H T = none → g (.ref T) σ (upd H T (.tup [.int (i : Nat), x])) fun σ2 H2 => tb { D with nx := Pv (i + 1), ct := Pv (i + 1), bk := D.nx } σ2 H2) (hd : ∀ σ H, Pv xs.length σ H → D.nx σ H) :
    ∃ W : Nat → Nat → L2.St → Hp → Prop, (∃ m, W 0 m σ H) ∧ ∀ i m σ H, W i m σ H →
      ((IteT K a).stop i H ∧ D.nx σ H) ∨ ((IteT K a).go i H ∧ ∃ N : L2.St → Hp → Prop, (∀ σ' H', N σ' H' → ∃ m', m' < m ∧ W (i + 1) m' σ' H') ∧ ∀ v H', (IteT K a).yld i H v H' → g v σ H' fun σ2 H2 => tb { D with nx := N, ct := N, bk := D.nx } σ2 H2) := by
  refine ⟨fun i m σ H => m = xs.length - i ∧ i ≤ xs.length ∧ Pv i σ H, ⟨xs.length, rfl, Nat.zero_le _, h0⟩, ?_⟩
  rintro i m σ H ⟨rfl, hi, p⟩
  have qx := hq i σ H p
  by_cases hlt : i < xs.length
  · have hx : xs[i]? = some xs[i] := List.getElem?_eq_getElem hlt
    refine .inr ⟨⟨xs, _, qx, hx⟩, Pv (i + 1), fun σ' H' p' => ⟨xs.length - (i + 1), by omega, rfl, hlt, p'⟩, fun v H' y => ?_⟩
    obtain ⟨T, x', rfl, hT, rfl, f1⟩ := y
    exact hs i x' T σ H (f1 xs qx) p hT
  · have e : i = xs.length := by omega
    subst e
    exact .inl ⟨⟨xs, qx, Nat.le_refl _⟩, hd σ H p⟩
end KX
/-! set of a list of ints, as a set that sorted takes. -/
namespace L2
open PySem PySem.Spec PyProof.Rows
section
variable {P : Program} {w : World} {A : Around} {E : Value → Shared → Prop} {s : Shared}
set_option maxRecDepth 100000 in
set_option maxHeartbeats 3200000 in
theorem KX2.call_set_lstI {l : Addr} {items : Array Value} (ns : List Int) {Q : Value → Shared → Prop} (hh : A.handled = none) (hl : s.heap.IsList l items) (hit : IntsAre items.toList ns) (hb : ns.length + 1 < scanBound)
    (h : ∀ (h' : Heap) (tk c : Nat), SetR w h' s.heap.objs.size (fun j => decide (j ∈ ns)) c → c ≤ ns.length → (∀ b o, s.heap.get? b = some o → h'.get? b = some o) → Q (.ref s.heap.objs.size) { s with heap := h', toks := tk }) :
    wpAny (model P w) A (call (.type "set") [.ref l]) Q E s := by
  have hisz : items.size = ns.length := by
    have q := IntsAre.length hit
    rw [Array.length_toList] at q
    exact q
  obtain ⟨c, tl, hmro⟩ := F.called_set.mro
  have hmade := F.called_set.made
  have hsub := F.called_set.sub
  refine wpAny_call (codeAny_of_tree ?_)
  show wpAny _ _ (callAny (.type "set") _) _ _ _
  refine wpAny_pure ⟨Code.quiet_builtin _ (by decide +kernel), codeAny_builtin F.entry_type_call ?_⟩
  rw [Around.under_plain (weight_type_call_type "set" [.ref l] []) rfl]
  have h1 := F.called_set.notType
  have h2 := F.called_set.canCreate
  have hct := F.typeCall_set_1 (.ref l)
  repeat (any_goals (first | assumption | wp_step))

  refine codeAny_mono (code_set_led1 (.ref l) (E := E) (Q₁ := fun obj s₁ => obj = .ref s.heap.objs.size ∧ s₁ = { s with heap := s.heap.push { cls := .type "set", dict := none, data := .set #[] 0 (.fresh 0 0 (!w.params.followText "set-order")) } }) ⟨rfl, rfl⟩) fun r s₁ hr => ?_
  cases r with
  | error e => exact hr
  | ok fl =>
    cases fl with
    | ret obj =>
      obtain ⟨rfl, rfl⟩ := hr
      have hS : (s.heap.push { cls := .type "set", dict := none, data := .set #[] 0 (.fresh 0 0 (!w.params.followText "set-order")) }).get? s.heap.objs.size = some { cls := .type "set", dict := none, data := .set #[] 0 (.fresh 0 0 (!w.params.followText "set-order")) } := Heap.get?_push_size _ rfl
      have hT : Shared.TypeIs { s with heap := s.heap.push { cls := .type "set", dict := none, data := .set #[] 0 (.fresh 0 0 (!w.params.followText "set-order")) } } (.ref s.heap.objs.size) "set" := ⟨_, hS, rfl⟩
      have hli := F.called_set.init.lookup
      have hbi := F.called_set.init.bind (.ref s.heap.objs.size)
      repeat (any_goals (first | assumption | wp_step))

      refine codeAny_mono (codeAny_call_builtin (R := wants (fun r s₂ => r = .none ∧ ∃ h' tk c, s₂ = { s with heap := h', toks := tk } ∧ SetR w h' s.heap.objs.size (fun j => decide (j ∈ ns)) c ∧ c ≤ ns.length ∧
          (∀ b o, s.heap.get? b = some o → h'.get? b = some o)) E) F.called_set.init.plain F.entry_set_init (check_set_init_1 hT ?_)) fun r₂ s₂ hr₂ => ?_
      · obtain ⟨ol, hol, hcl, nl, hdl⟩ := hl
        obtain ⟨ocls, odict, odata, oslots⟩ := ol
        simp only at hcl hdl
        subst hcl; subst hdl
        have hol' : (s.heap.push { cls := .type "set", dict := none, data := .set #[] 0 (.fresh 0 0 (!w.params.followText "set-order")) }).get? l = some { cls := .type "list", dict := odict, data := .seq items nl, slots := oslots } := Heap.get?_push_of_some _ hol
        have hsls := F.sub_list_set
        have hslf := F.sub_list_frozenset
        have hne : (Value.type "list" == Value.type "dict") = false := by decide
        have hl1 : (s.heap.push { cls := .type "set", dict := none, data := .set #[] 0 (.fresh 0 0 (!w.params.followText "set-order")) }).IsList l items := ⟨_, hol', rfl, nl, rfl⟩
        unfold Builtin.«set.__init__» noKeywords Builtin.Frozenset.updateFrom
        generalize hPI : pyIter = PI
        wp_walk
        subst hPI

        refine wpAny_pyIter_list hl1 ?_
        refine wpAny_bind (wpAny_runValue ?_)
        have hlS : l < s.heap.objs.size := Heap.lt_size hol
        have hh3 : A.in1.in1.in1.handled = none := by simp [hh]
        have hz1 : (s.heap.push { cls := .type "set", dict := none, data := .set #[] 0 (.fresh 0 0 (!w.params.followText "set-order")) }).objs.size = s.heap.objs.size + 1 := Heap.size_push ..
        have hneI : l ≠ (s.heap.push { cls := .type "set", dict := none, data := .set #[] 0 (.fresh 0 0 (!w.params.followText "set-order")) }).objs.size := by
          rw [Heap.size_push]; exact Nat.ne_of_lt (Nat.lt_succ_of_lt hlS)
        have hSf : s.heap.objs.size ∉ [(s.heap.push { cls := .type "set", dict := none, data := .set #[] 0 (.fresh 0 0 (!w.params.followText "set-order")) }).objs.size, l] := by
          rw [Heap.size_push]; simp only [List.mem_cons, List.mem_singleton, List.not_mem_nil, or_false, not_or]
          exact ⟨Nat.ne_of_lt (Nat.lt_succ_self _), Nat.ne_of_gt hlS⟩
        have hval : ∀ (i : Nat) (v : Value), items[i]? = some v → ∃ k t, ns[i]? = some k ∧ v = .int k t := fun i v hv => by
          have hi : i < ns.length := by rw [← hisz]; exact (Array.getElem?_eq_some_iff.mp hv).1
          obtain ⟨t, e⟩ := PyProof.Rows.IntsAre.int_at hit i v (by rw [Array.getElem?_toList]; exact hv)
          refine ⟨ns[i], t, List.getElem?_eq_getElem hi, ?_⟩
          rw [e, List.getD_eq_getElem?_getD, List.getElem?_eq_getElem hi] <;> rfl
        refine set_update_ints ((Walks.list hh3 _ l hneI items).toS) s.heap.objs.size
          hSf ns hisz hb hval (items.size - 0) 0 _ (by omega) (Nat.zero_le _)
          ⟨⟨_, Heap.get?_push_size _ rfl, rfl, rfl⟩, (hl1.push _)⟩ ?hS0 ?hR
        case hS0 =>
          have hget : ((s.heap.push { cls := .type "set", dict := none, data := .set #[] 0 (.fresh 0 0 (!w.params.followText "set-order")) }).push { cls := .type "list_iterator", data := .fields #[.ref l, .int 0 0] }).get? s.heap.objs.size
              = some { cls := .type "set", dict := none, data := .set #[] 0 (.fresh 0 0 (!w.params.followText "set-order")) } := Heap.get?_push_of_some _ hS
          exact ⟨0, Nat.le_refl 0, setR_new_at hget⟩
        case hR =>
          intro s' c' hm hc' hS'
          obtain ⟨h', g2, d', tk', os'⟩ := s'
          have eg : g2 = s.gens := hm.gens
          have ed : d' = s.drawn := hm.drawn
          have eo : os' = s.os := hm.os
          subst eg; subst ed; subst eo
          show wpAny _ _ _ _ _ _
          refine wpAny_pure ?_
          show wpAny _ _ (ret Value.none) _ _ _
          rw [hisz] at hc'
          refine wpAny_pure ⟨rfl, h', tk', c', rfl, hS', hc', fun b o e => ?_⟩
          have hb0 : b < s.heap.objs.size := Heap.lt_size e
          have hb1 : b ≠ s.heap.objs.size := Nat.ne_of_lt hb0
          have hb2 : b ≠ (s.heap.push { cls := .type "set", dict := none, data := .set #[] 0 (.fresh 0 0 (!w.params.followText "set-order")) }).objs.size := by
            rw [Heap.size_push]; exact Nat.ne_of_lt (Nat.lt_succ_of_lt hb0)
          exact hm.heap b o (by simp only [List.mem_cons, List.mem_singleton, List.not_mem_nil, or_false, not_or]; exact ⟨hb1, hb2⟩) (Heap.get?_push_of_some _ (Heap.get?_push_of_some _ e))

      · cases r₂ with
        | error e => exact hr₂
        | ok fl₂ =>
          cases fl₂ with
          | ret r =>
            obtain ⟨rfl, h', tk, c', rfl, hS', hc', hk'⟩ := hr₂
            repeat (any_goals (first | assumption | wp_step))
            exact h _ _ _ hS' hc' hk'
          | _ => exact hr₂.elim
    | _ => exact hr.elim

end
end L2
namespace KX2
open PySem PySem.Spec PyProof.Rows L2
/-- set(xs), xs a list of ints -/
def rSetL (K : PySem.W.Frag) (w : World) : List V → Hp → VK → Prop := fun vs H Q => ∃ (l : Addr) (ns : List Int), vs = [V.ref l] ∧ SqL K H l (ns.map V.int) ∧ ns.length ≤ 1000 ∧ ∀ (p : Addr) (c : Nat), H p = none → c ≤ ns.length → Q (.ref p) (upd H p (SetO w p (fun j => decide (j ∈ ns)) c))
theorem cr_setL {X : Cx} (hc : X.calm = true) : CallR X (.type "set") (rSetL X.K X.w) := by
  intro pins s σ H vs us Q I r h
  obtain ⟨l, ns, rfl, hs, hz, q⟩ := h
  obtain ⟨its, rv, hl, _⟩ := I.list hs
  rw [Vals.ref1 r]
  refine L2.KX2.call_set_lstI ns (I.ok.hd hc) hl.isList (by simpa using rv.ints) (by unfold scanBound; omega) fun h' tk c R hcn k => ?_
  have hn : H s.heap.objs.size = none := I.hok.fresh (Nat.le_refl _)
  exact ⟨.ref s.heap.objs.size, _, I.laid (t' := tk) k (Nat.le_refl _) (setO_new R), rfl, q _ c hn hcn⟩
end KX2
/-! The text by places (printed by gen_wt.py). -/
namespace Q46
open PySem PySem.Spec PyProof.Rows L2
def topS (i : Nat) : Stmt := PySem.Challenge.pw_pinchworks_k46_whole_moved_columns.main.body.getD i (.Pass ⟨0, 0, 0, 0⟩)
abbrev cTooMany : Stmt := topS 8
abbrev sInit : Stmt := inClass cTooMany 0
theorem scInit : FnScope ["self", "most"] ["self", "most"] (defScope sInit) := ⟨rfl, rfl, rfl, by decide +kernel, rfl, by decide +kernel, by decide +kernel⟩
abbrev sIsIn : Stmt := topS 16
theorem scIsIn : FnScope ["value", "least", "most"] ["value", "least", "most"] (defScope sIsIn) := ⟨rfl, rfl, rfl, by decide +kernel, rfl, by decide +kernel, by decide +kernel⟩
abbrev sIsStream : Stmt := topS 17
theorem scIsStream : FnScope ["value"] ["value"] (defScope sIsStream) := ⟨rfl, rfl, rfl, by decide +kernel, rfl, by decide +kernel, by decide +kernel⟩
abbrev sIsBox : Stmt := topS 18
theorem scIsBox : FnScope ["value"] ["value"] (defScope sIsBox) := ⟨rfl, rfl, rfl, by decide +kernel, rfl, by decide +kernel, by decide +kernel⟩
abbrev sNeedProblem : Stmt := topS 19
theorem scNeedProblem : FnScope ["problem", "streams", "boxes", "gap", "index", "one"] ["problem"] (defScope sNeedProblem) := ⟨rfl, rfl, rfl, by decide +kernel, rfl, by decide +kernel, by decide +kernel⟩
abbrev sIsGiver : Stmt := topS 20
theorem scIsGiver : FnScope ["problem", "number", "streams", "boxes", "gap"] ["problem", "number"] (defScope sIsGiver) := ⟨rfl, rfl, rfl, by decide +kernel, rfl, by decide +kernel, by decide +kernel⟩
abbrev sSpanOf : Stmt := topS 21
theorem scSpanOf : FnScope ["problem", "number", "streams", "boxes", "gap", "down", "start", "goal", "rate", "temperature", "heat"] ["problem", "number"] (defScope sSpanOf) := ⟨rfl, rfl, rfl, by decide +kernel, rfl, by decide +kernel, by decide +kernel⟩
abbrev sNumbersOf : Stmt := topS 22
theorem scNumbersOf : FnScope ["problem", "are_givers", "many", "number"] ["problem", "are_givers"] (defScope sNumbersOf) := ⟨rfl, rfl, rfl, by decide +kernel, rfl, by decide +kernel, by decide +kernel⟩
abbrev sHeatAbove : Stmt := topS 23
theorem scHeatAbove : FnScope ["problem", "number", "level", "is_open", "upper", "lower", "rate", "heat"] ["problem", "number", "level", "is_open"] (defScope sHeatAbove) := ⟨rfl, rfl, rfl, by decide +kernel, rfl, by decide +kernel, by decide +kernel⟩
abbrev sLevelsOf : Stmt := topS 24
theorem scLevelsOf : FnScope ["problem", "found", "number", "upper", "lower", "rate", "heat"] ["problem"] (defScope sLevelsOf) := ⟨rfl, rfl, rfl, by decide +kernel, rfl, by decide +kernel, by decide +kernel⟩
abbrev sNeedAbove : Stmt := topS 25
theorem scNeedAbove : FnScope ["problem", "level", "is_open", "taken"] ["problem", "level", "is_open"] (defScope sNeedAbove) := ⟨rfl, rfl, rfl, by decide +kernel, rfl, by decide +kernel, by decide +kernel⟩
abbrev sHeatingOf : Stmt := topS 27
theorem scHeatingOf : FnScope ["problem", "found", "level"] ["problem"] (defScope sHeatingOf) := ⟨rfl, rfl, rfl, by decide +kernel, rfl, by decide +kernel, by decide +kernel⟩
abbrev sWithMore : Stmt := topS 29
theorem scWithMore : FnScope ["problem", "boxes"] ["problem", "boxes"] (defScope sWithMore) := ⟨rfl, rfl, rfl, by decide +kernel, rfl, by decide +kernel, by decide +kernel⟩
abbrev sIsColumn : Stmt := topS 33
theorem scIsColumn : FnScope ["value"] ["value"] (defScope sIsColumn) := ⟨rfl, rfl, rfl, by decide +kernel, rfl, by decide +kernel, by decide +kernel⟩
abbrev sShifted : Stmt := topS 34
theorem scShifted : FnScope ["columns", "shifts", "found", "top", "bottom", "heat", "shift"] ["columns", "shifts"] (defScope sShifted) := ⟨rfl, rfl, rfl, by decide +kernel, rfl, by decide +kernel, by decide +kernel⟩
abbrev sBestShifts : Stmt := topS 35
theorem scBestShifts : FnScope ["problem", "columns", "low", "high", "index", "one", "rows", "found", "row", "boxes", "heating", "side", "shift"] ["problem", "columns", "low", "high"] (defScope sBestShifts) := ⟨rfl, rfl, rfl, by decide +kernel, rfl, by decide +kernel, by decide +kernel⟩
abbrev sTaken : Stmt := topS 37
theorem scTaken : FnScope ["_law_row", "_law_many", "_law_found", "_law_cell"] ["_law_row", "_law_many"] (defScope sTaken) := ⟨rfl, rfl, rfl, by decide +kernel, rfl, by decide +kernel, by decide +kernel⟩
abbrev sPick : Stmt := topS 38
theorem scPick : FnScope ["_law_row", "_law_things"] ["_law_row", "_law_things"] (defScope sPick) := ⟨rfl, rfl, rfl, by decide +kernel, rfl, by decide +kernel, by decide +kernel⟩
abbrev sAlike : Stmt := topS 39
theorem scAlike : FnScope ["_law_found", "_law_due", "_law_k"] ["_law_found", "_law_due"] (defScope sAlike) := ⟨rfl, rfl, rfl, by decide +kernel, rfl, by decide +kernel, by decide +kernel⟩
abbrev sProblem : Stmt := topS 40
theorem scProblem : FnScope ["_law_row", "_law_streams", "_law_boxes", "_law_scale", "_law_k", "_law_start", "_law_goal", "_law_heat_here"] ["_law_row"] (defScope sProblem) := ⟨rfl, rfl, rfl, by decide +kernel, rfl, by decide +kernel, by decide +kernel⟩
abbrev sLSpan : Stmt := topS 41
theorem scLSpan : FnScope ["_law_problem_here", "_law_number", "_law_streams", "_law_boxes", "_law_gap", "_law_start", "_law_goal", "_law_rate", "_law_down", "_law_at", "_law_heat_here"] ["_law_problem_here", "_law_number"] (defScope sLSpan) := ⟨rfl, rfl, rfl, by decide +kernel, rfl, by decide +kernel, by decide +kernel⟩
abbrev sLHeat : Stmt := topS 42
theorem scLHeat : FnScope ["_law_problem_here", "_law_number", "_law_level", "_law_is_open", "_law_gives", "_law_upper", "_law_lower", "_law_rate", "_law_heat_here"] ["_law_problem_here", "_law_number", "_law_level", "_law_is_open"] (defScope sLHeat) := ⟨rfl, rfl, rfl, by decide +kernel, rfl, by decide +kernel, by decide +kernel⟩
abbrev sLNeed : Stmt := topS 43
theorem scLNeed : FnScope ["_law_problem_here", "_law_level", "_law_is_open", "_law_found", "_law_number", "_law_heat_here"] ["_law_problem_here", "_law_level", "_law_is_open"] (defScope sLNeed) := ⟨rfl, rfl, rfl, by decide +kernel, rfl, by decide +kernel, by decide +kernel⟩
abbrev sLLevels : Stmt := topS 44
theorem scLLevels : FnScope ["_law_problem_here", "_law_found", "_law_number"] ["_law_problem_here"] (defScope sLLevels) := ⟨rfl, rfl, rfl, by decide +kernel, rfl, by decide +kernel, by decide +kernel⟩
abbrev sLHeating : Stmt := topS 45
theorem scLHeating : FnScope ["_law_problem_here", "_law_needs", "_law_level"] ["_law_problem_here"] (defScope sLHeating) := ⟨rfl, rfl, rfl, by decide +kernel, rfl, by decide +kernel, by decide +kernel⟩
abbrev sTold : Stmt := topS 46
theorem scTold : FnScope ["_law_work", "e"] ["_law_work"] (defScope sTold) := ⟨rfl, rfl, rfl, by decide +kernel, rfl, by decide +kernel, by decide +kernel⟩
abbrev sLaw : Stmt := topS 47
theorem scLaw : FnScope ["_law_script", "_law_row", "_law_due", "_law_k", "_law_top", "_law_rows", "_law_one", "_law_more", "_law_some", "_law_boxes", "_law_here", "_law_columns", "_law_high", "_law_low", "_law_problem_here", "_law_shift"] ["_law_script"] (defScope sLaw) := ⟨rfl, rfl, rfl, by decide +kernel, rfl, by decide +kernel, by decide +kernel⟩
/-- a def of the top, as its callers meet it -/
structure Df (K : PySem.W.Frag) (mg : Str → Option Value) (x : String) (st : Stmt) (ps : List Str) (f : Addr) (fd : FuncData) : Prop where
  F : Fun K x x st f fd
  g : mg x = some (.ref f)
  b : Binds K fd ps []
/-- the built-in names are the built-ins', the constants stand -/
structure Bl (mg : Str → Option Value) : Prop where
  isinstance_ : mg "isinstance" = none
  int_ : mg "int" = none
  bool_ : mg "bool" = none
  tuple_ : mg "tuple" = none
  len_ : mg "len" = none
  all_ : mg "all" = none
  list_ : mg "list" = none
  range_ : mg "range" = none
  enumerate_ : mg "enumerate" = none
  max_ : mg "max" = none
  min_ : mg "min" = none
  abs_ : mg "abs" = none
  sum_ : mg "sum" = none
  sorted_ : mg "sorted" = none
  zip_ : mg "zip" = none
  set_ : mg "set" = none
  str_ : mg "str" = none
  cMOST_TEMPERATURE : ∃ t, mg "MOST_TEMPERATURE" = some (.int 1000 t)
  cMOST_RATE : ∃ t, mg "MOST_RATE" = some (.int 100 t)
  cMOST_HEAT : ∃ t, mg "MOST_HEAT" = some (.int 10000 t)
  cMOST_STREAMS : ∃ t, mg "MOST_STREAMS" = some (.int 6 t)
  cMOST_BOXES : ∃ t, mg "MOST_BOXES" = some (.int 4 t)
  cMOST_GAP : ∃ t, mg "MOST_GAP" = some (.int 100 t)
  cMOST_COLUMNS : ∃ t, mg "MOST_COLUMNS" = some (.int 2 t)
  cMOST_SHIFT : ∃ t, mg "MOST_SHIFT" = some (.int 50 t)
structure Tx (K : PySem.W.Frag) (mg : Str → Option Value) where
  B : Bl mg
  fIsIn : Addr
  dIsIn : FuncData
  DIsIn : Df K mg "is_in" sIsIn ["value", "least", "most"] fIsIn dIsIn
  fIsStream : Addr
  dIsStream : FuncData
  DIsStream : Df K mg "is_stream" sIsStream ["value"] fIsStream dIsStream
  fIsBox : Addr
  dIsBox : FuncData
  DIsBox : Df K mg "is_box" sIsBox ["value"] fIsBox dIsBox
  fNeedProblem : Addr
  dNeedProblem : FuncData
  DNeedProblem : Df K mg "need_problem" sNeedProblem ["problem"] fNeedProblem dNeedProblem
  fIsGiver : Addr
  dIsGiver : FuncData
  DIsGiver : Df K mg "is_giver" sIsGiver ["problem", "number"] fIsGiver dIsGiver
  fSpanOf : Addr
  dSpanOf : FuncData
  DSpanOf : Df K mg "span_of" sSpanOf ["problem", "number"] fSpanOf dSpanOf
  fNumbersOf : Addr
  dNumbersOf : FuncData
  DNumbersOf : Df K mg "numbers_of" sNumbersOf ["problem", "are_givers"] fNumbersOf dNumbersOf
  fHeatAbove : Addr
  dHeatAbove : FuncData
  DHeatAbove : Df K mg "heat_above" sHeatAbove ["problem", "number", "level", "is_open"] fHeatAbove dHeatAbove
  fLevelsOf : Addr
  dLevelsOf : FuncData
  DLevelsOf : Df K mg "levels_of" sLevelsOf ["problem"] fLevelsOf dLevelsOf
  fNeedAbove : Addr
  dNeedAbove : FuncData
  DNeedAbove : Df K mg "need_above" sNeedAbove ["problem", "level", "is_open"] fNeedAbove dNeedAbove
  fHeatingOf : Addr
  dHeatingOf : FuncData
  DHeatingOf : Df K mg "heating_of" sHeatingOf ["problem"] fHeatingOf dHeatingOf
  fWithMore : Addr
  dWithMore : FuncData
  DWithMore : Df K mg "with_more" sWithMore ["problem", "boxes"] fWithMore dWithMore
  fIsColumn : Addr
  dIsColumn : FuncData
  DIsColumn : Df K mg "is_column" sIsColumn ["value"] fIsColumn dIsColumn
  fShifted : Addr
  dShifted : FuncData
  DShifted : Df K mg "shifted" sShifted ["columns", "shifts"] fShifted dShifted
  fBestShifts : Addr
  dBestShifts : FuncData
  DBestShifts : Df K mg "best_shifts" sBestShifts ["problem", "columns", "low", "high"] fBestShifts dBestShifts
  fTaken : Addr
  dTaken : FuncData
  DTaken : Df K mg "_law_taken" sTaken ["_law_row", "_law_many"] fTaken dTaken
  fPick : Addr
  dPick : FuncData
  DPick : Df K mg "_law_pick" sPick ["_law_row", "_law_things"] fPick dPick
  fAlike : Addr
  dAlike : FuncData
  DAlike : Df K mg "_law_alike" sAlike ["_law_found", "_law_due"] fAlike dAlike
  fProblem : Addr
  dProblem : FuncData
  DProblem : Df K mg "_law_problem" sProblem ["_law_row"] fProblem dProblem
  fLSpan : Addr
  dLSpan : FuncData
  DLSpan : Df K mg "_law_span" sLSpan ["_law_problem_here", "_law_number"] fLSpan dLSpan
  fLHeat : Addr
  dLHeat : FuncData
  DLHeat : Df K mg "_law_heat" sLHeat ["_law_problem_here", "_law_number", "_law_level", "_law_is_open"] fLHeat dLHeat
  fLNeed : Addr
  dLNeed : FuncData
  DLNeed : Df K mg "_law_need" sLNeed ["_law_problem_here", "_law_level", "_law_is_open"] fLNeed dLNeed
  fLLevels : Addr
  dLLevels : FuncData
  DLLevels : Df K mg "_law_levels" sLLevels ["_law_problem_here"] fLLevels dLLevels
  fLHeating : Addr
  dLHeating : FuncData
  DLHeating : Df K mg "_law_heating" sLHeating ["_law_problem_here"] fLHeating dLHeating
  fTold : Addr
  dTold : FuncData
  DTold : Df K mg "_law_told" sTold ["_law_work"] fTold dTold
  fLaw : Addr
  dLaw : FuncData
  DLaw : Df K mg "law" sLaw ["_law_script"] fLaw dLaw
end Q46
namespace Q46
open PySem PySem.Spec PyProof.Rows L2
section
variable {P : Program} {w : World} {K : PySem.W.Frag} {mg : Str → Option Value} {base : Heap}
theorem goT {c : Bool} {A B : Prop} (h : c = true) (a : A) : if c = true then A else B := by subst h; exact a
theorem goF {c : Bool} {A B : Prop} (h : c = false) (b : B) : if c = true then A else B := by subst h; exact b
theorem goE {c : Bool} {A B : Prop} (a : c = true → A) (b : c = false → B) : if c = true then A else B := by cases c <;> simp_all
/-! ### is_in -/
def spIsIn : Sp := fun vs H Q _ => ∃ v lo hi : Int, vs = [.int v, .int lo, .int hi] ∧ Q (.bl (decide (lo ≤ v) && decide (v ≤ hi))) H
theorem ok_isIn (T : Tx K mg) : FnOk P w K mg base CX0 1 T.fIsIn T.dIsIn ["value", "least", "most"] spIsIn := by
  refine T.DIsIn.F.ok scIsIn (fun vs H Q E h => ?_) (fun cdv A outer s H vs Q E hr h => ?_)
  · obtain ⟨v, lo, hi, rfl, _⟩ := h
    rfl
  · obtain ⟨v, lo, hi, rfl, q⟩ := h
    refine ⟨_, pss_one (ps_ret (pe_and (pe_callB call_isi (by rfl) T.B.isinstance_ (by decide +kernel) (pa_cons (pv 0) (pa_cons (pe_bltn (v := .ty "int") (by rfl) T.B.int_ (by decide +kernel) rfl) pa_nil)))
      (pe_and (pe_not (pe_callB call_isi (by rfl) T.B.isinstance_ (by decide +kernel) (pa_cons (pv 0) (pa_cons (pe_bltn (v := .ty "bool") (by rfl) T.B.bool_ (by decide +kernel) rfl) pa_nil))))
        (pe_one (pe_chain op_le op_le (pv 1) (pv 0) (pv 2)))))), ?_⟩
    refine ⟨_, rfl, _, _, .type "int", .type "int", true, rfl, .ty "int", .base (.int _), kit_ty (by decide +kernel), true, rfl, iteT ?_⟩
    refine ⟨_, rfl, _, _, .type "int", .type "bool", false, rfl, .ty "bool", .base (.int _), kit_ty (by decide +kernel), false, rfl, true, rfl, iteT ?_⟩
    refine ⟨_, rfl, _, rfl, _, _, rfl, rfl, _, rfl, ite2 (fun e => ⟨_, rfl, _, _, rfl, rfl, ?_⟩) (fun e => ?_)⟩
    · rw [e, Bool.true_and] at q
      exact q
    · have e : decide (lo ≤ v) = false := Bool.eq_false_iff.mpr e
      rw [e, Bool.false_and] at q
      exact q
/-! ### is_stream -/
theorem Fun.okC {x qual : Str} {st : Stmt} {f c : Addr} {fd : FuncData} {N ps : List Str} {k : Nat} {sp : Sp} (F : Fun K x qual st f fd) (hc : fd.code = .ref c) (S : FnScope N ps (defScope st)) (len : ∀ vs H Q E, sp vs H Q E → vs.length = ps.length)
    (hbody : ∀ (A : Around) (outer : List Env) (s : Shared) (H : Hp) (vs : List V) (Q : VK) (E : XK), Room k (A.deeper (envOfC qual (defScope st) s.heap.objs.size f (.ref c))) → sp vs H Q E →
      ∃ t, PSs (cxOf CX0 P w K mg base N qual (defScope st) f (.ref c) A outer s H E).nox (defBody st) t ∧ t { nx := fun _ H' => Q .non H', rt := Q } (start N vs) H) : FnOk P w K mg base CX0 (k + 1) f fd ps sp := by
  obtain ⟨oc, od, kV, doc, pm, an, cdv, ct, osl, rfl, lk, hcd⟩ := F.ex
  have hc' : cdv = .ref c := hc
  subst hc'
  refine fn_of lk hcd S len fun A outer s H vs Q E hr hsp => ?_
  obtain ⟨t, h, q⟩ := hbody A outer s H vs Q E hr hsp
  exact ⟨t, h.nox, q⟩
def spIsStream (PT : List Addr) (P1 : Addr) : Sp := fun vs H Q _ => ∃ (a : Addr) (t : S3), vs = [.ref a] ∧ T3 H a t ∧ okS t ∧ GxR.TabG H P1 ∧ ∀ H', Grow PT H H' → Q (.bl true) H'
theorem ok_isStream (T : Tx K mg) {PT : List Addr} {c P1 : Addr} (hP : P1 ∈ PT) (TB : GxR.TabB base mg c P1) (hcode : T.dIsStream.code = .ref c) : FnOk P w K mg base CX0 3 T.fIsStream T.dIsStream ["value"] (spIsStream PT P1) := by
  have Gi : FnOk P w K mg base CX0 1 T.fIsIn T.dIsIn ["value", "least", "most"] spIsIn := ok_isIn T
  obtain ⟨tr, hrate⟩ := T.B.cMOST_RATE
  obtain ⟨tt, htemp⟩ := T.B.cMOST_TEMPERATURE
  refine Fun.okC T.DIsStream.F hcode scIsStream (fun vs H Q E h => ?_) (fun A outer s H vs Q E hr h => ?_)
  · obtain ⟨a, t, rfl, _⟩ := h
    rfl
  · obtain ⟨a, t, rfl, hT, ok, tab, q⟩ := h
    have hr1 : Room 1 _ := hr.mono (by decide)
    refine ⟨_, pss_cons (ps_if (PW.pt (pw_or (pt_not (pt_val (pe_callB call_isi (by rfl) T.B.isinstance_ (by decide +kernel) (pa_cons (pv 0) (pa_cons (pe_bltn (v := .ty "tuple") (by rfl) T.B.tuple_ (by decide +kernel) rfl) pa_nil)))))
        (pw_or (pt_cmpR op_ne (pe_callB call_len_seq (by rfl) T.B.len_ PySem.boot_len (pa_cons (pv 0) pa_nil)) pe_int (nomark _))
        (pw_or1 (pt_not (pt_val (pe_call Gi hr1 (by rfl) T.DIsIn.g T.DIsIn.F.kp T.DIsIn.b .nil pass0 (pa_cons (pe_ix ix_tup (pv 0) pe_int (fun _ _ => rfl)) (pa_cons pe_int (pa_cons (pe_glob (v := .int 100) (by rfl) hrate ⟨_, rfl⟩) pa_nil)))))))))) pss_never pss_nil)
      (pss_one (ps_ret (pe_and (GX.pe_allG (k := 1) hr (by rfl) T.B.all_ (by decide +kernel) TB rfl (by show GX.GenB ["value"] (defScope sIsStream) _ "one"; exact ⟨rfl, rfl, by decide +kernel, rfl, rfl, by decide +kernel, by decide +kernel, by decide +kernel⟩)
          (pi_tup (pe_slice sl_tup (pv 0) po_none (po_some pe_int)))
          (fun A' s H C code fp pn hr' => pe_call Gi hr' (by rfl) T.DIsIn.g T.DIsIn.F.kp T.DIsIn.b .nil pass0 (pa_cons (pv 1) (pa_cons pe_int (pa_cons (pe_glob (v := .int 1000) (by rfl) htemp ⟨_, rfl⟩) pa_nil)))) (fun _ => rfl))
        (pe_one (pe_cmpR op_ne (pe_ix ix_tup (pv 0) pe_int (fun _ _ => rfl)) (pe_ix ix_tup (pv 0) pe_int (fun _ _ => rfl)) (nomark _)))))), ?_⟩
    obtain ⟨o1, o2, o3, o4, o5⟩ := ok
    have hS : SqT K H a [.int t.1, .int t.2.1, .int t.2.2] := SqT.of hT
    -- not isinstance(value, tuple) or len(value) != 3 or not is_in(value[2], 1, MOST_RATE)
    refine ⟨_, rfl, _, _, .type "tuple", .type "tuple", true, rfl, .ty "tuple", .base (.tup hT), kit_ty (by decide +kernel), true, rfl, iteF ?_⟩
    refine ⟨_, rfl, _, _, rfl, .inr hS, rfl, _, rfl, ?_⟩
    refine goF (by simp) ?_
    refine ⟨_, rfl, _, _, 2, .int t.2.2, rfl, rfl, hS, atI_nat (j := 2) rfl, _, _, _, rfl, _, rfl, ?_⟩
    refine goF (by simp [o4, o5]) ?_
    -- all(..) and value[0] != value[1]
    refine ⟨_, rfl, 2, rfl, a, _, rfl, hS, (by show ¬(HT.sIx 3 0 none = 0 ∧ HT.sIx 3 3 (some 2) = 3); decide), fun p np => ⟨p, rfl, ⟨_, SqT.of upd_same⟩, ?_, fun H2 hT2 => ?_⟩⟩
    · obtain ⟨ps, e, r⟩ := tab
      exact ⟨ps, by rw [upd_ne (ne_of_none e np)]; exact e, r⟩
    have g1 : Grow PT H (upd H p (.tup [.int t.1, .int t.2.1])) := Grow.of (same_upd np)
    have tab1 : GxR.TabG (upd H p (.tup [.int t.1, .int t.2.1])) P1 := g1.tab P1 hP tab
    have g2 : Grow PT H H2 := g1.trans (Grow.tabbed hP tab1 hT2)
    have hp2 : H2 p = some (.tup [.int t.1, .int t.2.1]) := (Grow.tabbed hP tab1 hT2).keepT _ _ upd_same
    refine ⟨2, fun i H' => Grow PT H H' ∧ H' p = some (.tup [.int t.1, .int t.2.1]), ⟨g2, hp2⟩, fun i H' hi ⟨g, e⟩ => ?_, fun H' ⟨g, e⟩ => ⟨_, SqT.of e, Nat.le_refl _⟩, fun H' ⟨g, e⟩ => ?_⟩
    · have hx : ∃ v : Int, ([.int t.1, .int t.2.1] : List V)[i]? = some (.int v) ∧ 0 ≤ v ∧ v ≤ 1000 := by
        match i, hi with
        | 0, _ => exact ⟨t.1, rfl, o1.1, o1.2⟩
        | 1, _ => exact ⟨t.2.1, rfl, o2.1, o2.2⟩
      obtain ⟨v, hv, h0, h1⟩ := hx
      refine ⟨⟨_, _, SqT.of e, hv⟩, fun y H'' hy => ?_⟩
      obtain ⟨rfl, fy⟩ := hy
      have ey : y = .int v := Option.some.inj ((fy _ (SqT.of e)).symm.trans hv)
      subst ey
      refine ⟨_, rfl, _, _, _, rfl, ?_, g, e⟩
      simp [h0, h1]
    · refine ⟨true, rfl, iteT ?_⟩
      have hS' : SqT K H' a [.int t.1, .int t.2.1, .int t.2.2] := SqT.of (g.keepT _ _ hT)
      refine ⟨_, rfl, _, _, 0, .int t.1, rfl, rfl, hS', atI_nat (j := 0) rfl, _, rfl, _, _, 1, .int t.2.1, rfl, rfl, hS', atI_nat (j := 1) rfl, rfl, ?_⟩
      have e1 : (!decide (V.int t.1 = V.int t.2.1)) = true := by simp [o3]
      rw [e1]
      exact q H' g
end
end Q46
namespace Q46
open PySem PySem.Spec PyProof.Rows L2
section
variable {P : Program} {w : World} {K : PySem.W.Frag} {mg : Str → Option Value} {base : Heap}
def spIsBox : Sp := fun vs H Q _ => ∃ (a : Addr) (t : Int × Int), vs = [.ref a] ∧ T2 H a t ∧ okB t ∧ Q (.bl true) H
theorem ok_isBox (T : Tx K mg) : FnOk P w K mg base CX0 2 T.fIsBox T.dIsBox ["value"] spIsBox := by
  have Gi : FnOk P w K mg base CX0 1 T.fIsIn T.dIsIn ["value", "least", "most"] spIsIn := ok_isIn T
  obtain ⟨th, hheat⟩ := T.B.cMOST_HEAT
  obtain ⟨tt, htemp⟩ := T.B.cMOST_TEMPERATURE
  refine T.DIsBox.F.ok scIsBox (fun vs H Q E h => ?_) (fun cdv A outer s H vs Q E hr h => ?_)
  · obtain ⟨a, t, rfl, _⟩ := h
    rfl
  · obtain ⟨a, t, rfl, hT, ok, q⟩ := h
    refine ⟨_, (pss_cons (ps_if (PW.pt (pw_or (pt_not (pt_val (pe_callB call_isi (by rfl) T.B.isinstance_ (by decide +kernel) (pa_cons (pv 0) (pa_cons (pe_bltn (v := .ty "tuple") (by rfl) T.B.tuple_ (by decide +kernel) rfl) pa_nil))))) (pw_or (pt_cmpR op_ne (pe_callB call_len_seq (by rfl) T.B.len_ PySem.boot_len (pa_cons (pv 0) pa_nil)) pe_int (nomark _)) (pw_or1 (pt_not (pt_val (pe_call Gi hr (by rfl) T.DIsIn.g T.DIsIn.F.kp T.DIsIn.b .nil pass0 (pa_cons (pe_ix ix_tup (pv 0) pe_int (fun _ _ => rfl)) (pa_cons pe_int (pa_cons (pe_glob (v := .int 1000) (by rfl) htemp ⟨_, rfl⟩) pa_nil)))))))))) pss_never pss_nil) (pss_one (ps_ret (pe_and (pe_call Gi hr (by rfl) T.DIsIn.g T.DIsIn.F.kp T.DIsIn.b .nil pass0 (pa_cons (pe_ix ix_tup (pv 0) pe_int (fun _ _ => rfl)) (pa_cons (pe_op op_sub pe_int (pe_glob (v := .int 10000) (by rfl) hheat ⟨_, rfl⟩)) (pa_cons (pe_glob (v := .int 10000) (by rfl) hheat ⟨_, rfl⟩) pa_nil)))) (pe_one (pe_cmpR op_ne (pe_ix ix_tup (pv 0) pe_int (fun _ _ => rfl)) pe_int (nomark _))))))), ?_⟩
    obtain ⟨⟨o1, o2⟩, ⟨o3, o4⟩, o5⟩ := ok
    have hS : SqT K H a [.int t.1, .int t.2] := SqT.of hT
    refine ⟨_, rfl, _, _, .type "tuple", .type "tuple", true, rfl, .ty "tuple", .base (.tup hT), kit_ty (by decide +kernel), true, rfl, iteF ?_⟩
    refine ⟨_, rfl, _, _, rfl, .inr hS, rfl, _, rfl, goF (by simp) ?_⟩
    refine ⟨_, rfl, _, _, 0, .int t.1, rfl, rfl, hS, atI_nat (j := 0) rfl, _, _, _, rfl, _, rfl, goF (by simp [o1, o2]) ?_⟩
    refine ⟨_, rfl, _, _, 1, .int t.2, rfl, rfl, hS, atI_nat (j := 1) rfl, _, _, rfl, rfl, _, _, _, rfl, _, rfl, goT (by simp; omega) ?_⟩
    refine ⟨_, rfl, _, _, 1, .int t.2, rfl, rfl, hS, atI_nat (j := 1) rfl, rfl, ?_⟩
    have e1 : (!decide (V.int t.2 = V.int 0)) = true := by simp [o5]
    rw [e1]
    exact q
def spIsColumn : Sp := fun vs H Q _ => ∃ (a : Addr) (t : S3), vs = [.ref a] ∧ T3 H a t ∧ okC t ∧ Q (.bl true) H
theorem ok_isColumn (T : Tx K mg) : FnOk P w K mg base CX0 2 T.fIsColumn T.dIsColumn ["value"] spIsColumn := by
  have Gi : FnOk P w K mg base CX0 1 T.fIsIn T.dIsIn ["value", "least", "most"] spIsIn := ok_isIn T
  obtain ⟨th, hheat⟩ := T.B.cMOST_HEAT
  obtain ⟨tt, htemp⟩ := T.B.cMOST_TEMPERATURE
  refine T.DIsColumn.F.ok scIsColumn (fun vs H Q E h => ?_) (fun cdv A outer s H vs Q E hr h => ?_)
  · obtain ⟨a, t, rfl, _⟩ := h
    rfl
  · obtain ⟨a, t, rfl, hT, ok, q⟩ := h
    refine ⟨_, (pss_cons (ps_if (PW.pt (pw_or (pt_not (pt_val (pe_callB call_isi (by rfl) T.B.isinstance_ (by decide +kernel) (pa_cons (pv 0) (pa_cons (pe_bltn (v := .ty "tuple") (by rfl) T.B.tuple_ (by decide +kernel) rfl) pa_nil))))) (pw_or (pt_cmpR op_ne (pe_callB call_len_seq (by rfl) T.B.len_ PySem.boot_len (pa_cons (pv 0) pa_nil)) pe_int (nomark _)) (pw_or1 (pt_not (pt_val (pe_call Gi hr (by rfl) T.DIsIn.g T.DIsIn.F.kp T.DIsIn.b .nil pass0 (pa_cons (pe_ix ix_tup (pv 0) pe_int (fun _ _ => rfl)) (pa_cons pe_int (pa_cons (pe_glob (v := .int 10000) (by rfl) hheat ⟨_, rfl⟩) pa_nil)))))))))) pss_never pss_nil) (pss_one (ps_ret (pe_and (pe_call Gi hr (by rfl) T.DIsIn.g T.DIsIn.F.kp T.DIsIn.b .nil pass0 (pa_cons (pe_ix ix_tup (pv 0) pe_int (fun _ _ => rfl)) (pa_cons pe_int (pa_cons (pe_glob (v := .int 1000) (by rfl) htemp ⟨_, rfl⟩) pa_nil)))) (pe_one (pe_call Gi hr (by rfl) T.DIsIn.g T.DIsIn.F.kp T.DIsIn.b .nil pass0 (pa_cons (pe_ix ix_tup (pv 0) pe_int (fun _ _ => rfl)) (pa_cons pe_int (pa_cons (pe_op op_sub (pe_ix ix_tup (pv 0) pe_int (fun _ _ => rfl)) pe_int) pa_nil))))))))), ?_⟩
    obtain ⟨⟨o1, o2⟩, ⟨o3, o4⟩, o5, o6⟩ := ok
    have hS : SqT K H a [.int t.1, .int t.2.1, .int t.2.2] := SqT.of hT
    refine ⟨_, rfl, _, _, .type "tuple", .type "tuple", true, rfl, .ty "tuple", .base (.tup hT), kit_ty (by decide +kernel), true, rfl, iteF ?_⟩
    refine ⟨_, rfl, _, _, rfl, .inr hS, rfl, _, rfl, goF (by simp) ?_⟩
    refine ⟨_, rfl, _, _, 2, .int t.2.2, rfl, rfl, hS, atI_nat (j := 2) rfl, _, _, _, rfl, _, rfl, goF (by simp [o5, o6]) ?_⟩
    refine ⟨_, rfl, _, _, 0, .int t.1, rfl, rfl, hS, atI_nat (j := 0) rfl, _, _, _, rfl, _, rfl, goT (by simp; omega) ?_⟩
    refine ⟨_, rfl, _, _, 1, .int t.2.1, rfl, rfl, hS, atI_nat (j := 1) rfl, _, rfl, _, _, 0, .int t.1, rfl, rfl, hS, atI_nat (j := 0) rfl, _, _, rfl, rfl, _, _, _, rfl, ?_⟩
    have e1 : (decide ((0 : Int) ≤ t.2.1) && decide (t.2.1 ≤ t.1 - 1)) = true := by simp; omega
    rw [e1]
    exact q
end
end Q46
namespace Q46
open PySem PySem.Spec PyProof.Rows L2
section
variable {P : Program} {w : World} {K : PySem.W.Frag} {mg : Str → Option Value} {base : Heap}
def spNeed (PT : List Addr) : Sp := fun vs H Q _ => ∃ (a : Addr) (p : Pb), vs = [.ref a] ∧ PbAt H a p ∧ Ok p ∧ p.bs.length ≤ 4 ∧ Tbs PT H ∧ ∀ H', Grow PT H H' → Q .non H'
theorem ok_need (T : Tx K mg) {PT : List Addr} {c P1 : Addr} (hP : P1 ∈ PT) (TB : GxR.TabB base mg c P1) (hcode : T.dIsStream.code = .ref c) : FnOk P w K mg base CX0 4 T.fNeedProblem T.dNeedProblem ["problem"] (spNeed PT) := by
  have Gi : FnOk P w K mg base CX0 1 T.fIsIn T.dIsIn ["value", "least", "most"] spIsIn := ok_isIn T
  have Gs : FnOk P w K mg base CX0 3 T.fIsStream T.dIsStream ["value"] (spIsStream PT P1) := ok_isStream T hP TB hcode
  have Gb : FnOk P w K mg base CX0 2 T.fIsBox T.dIsBox ["value"] spIsBox := ok_isBox T
  obtain ⟨t1, hms⟩ := T.B.cMOST_STREAMS
  obtain ⟨t2, hmb⟩ := T.B.cMOST_BOXES
  obtain ⟨t3, hmg⟩ := T.B.cMOST_GAP
  refine T.DNeedProblem.F.ok scNeedProblem (fun vs H Q E h => ?_) (fun cdv A outer s H vs Q E hr h => ?_)
  · obtain ⟨a, p, rfl, _⟩ := h
    rfl
  · obtain ⟨a, p, rfl, hp, ok, b4, tb, q⟩ := h
    have hr1 : Room 1 _ := hr.mono (by decide)
    have hr2 : Room 2 _ := hr.mono (by decide)
    refine ⟨_, (pss_cons (ps_if (PW.pt (pw_or (pt_not (pt_val (pe_callB call_isi (by rfl) T.B.isinstance_ (by decide +kernel) (pa_cons (pv 0) (pa_cons (pe_bltn (v := .ty "tuple") (by rfl) T.B.tuple_ (by decide +kernel) rfl) pa_nil))))) (pw_or1 (pt_cmpR op_ne (pe_callB call_len_seq (by rfl) T.B.len_ PySem.boot_len (pa_cons (pv 0) pa_nil)) pe_int (nomark _))))) pss_never pss_nil) (pss_cons (ps_asg (pv 0) (pg_tup (by rfl) (pgs_cons (pg_name (i := 1) scNeedProblem.nd rfl (.inl rfl)) (pgs_cons (pg_name (i := 2) scNeedProblem.nd rfl (.inl rfl)) (pgs_cons (pg_name (i := 3) scNeedProblem.nd rfl (.inl rfl)) pgs_nil))))) (pss_cons (ps_if (PW.pt (pw_or (pt_not (pt_val (pe_callB call_isi (by rfl) T.B.isinstance_ (by decide +kernel) (pa_cons (pv 1) (pa_cons (pe_bltn (v := .ty "tuple") (by rfl) T.B.tuple_ (by decide +kernel) rfl) pa_nil))))) (pw_or1 (pt_cmpR op_gt (pe_callB call_len_seq (by rfl) T.B.len_ PySem.boot_len (pa_cons (pv 1) pa_nil)) (pe_glob (v := .int 6) (by rfl) hms ⟨_, rfl⟩) (nomark _))))) pss_never pss_nil) (pss_cons (ps_for PassesOwn.never rfl (KX.pi_enumT (by rfl) T.B.enumerate_ (pa_cons (pv 1) pa_nil)) (pg_tup (by rfl) (pgs_cons (pg_name (i := 4) scNeedProblem.nd rfl (.inl rfl)) (pgs_cons (pg_name (i := 5) scNeedProblem.nd rfl (.inl rfl)) pgs_nil))) (pss_one (ps_if (pt_not (pt_val (pe_call Gs hr (by rfl) T.DIsStream.g T.DIsStream.F.kp T.DIsStream.b .nil pass0 (pa_cons (pv 5) pa_nil)))) pss_never pss_nil))) (pss_cons (ps_if (PW.pt (pw_or (pt_not (pt_val (pe_callB call_isi (by rfl) T.B.isinstance_ (by decide +kernel) (pa_cons (pv 2) (pa_cons (pe_bltn (v := .ty "tuple") (by rfl) T.B.tuple_ (by decide +kernel) rfl) pa_nil))))) (pw_or1 (pt_cmpR op_gt (pe_callB call_len_seq (by rfl) T.B.len_ PySem.boot_len (pa_cons (pv 2) pa_nil)) (pe_glob (v := .int 4) (by rfl) hmb ⟨_, rfl⟩) (nomark _))))) pss_never pss_nil) (pss_cons (ps_for PassesOwn.never rfl (KX.pi_enumT (by rfl) T.B.enumerate_ (pa_cons (pv 2) pa_nil)) (pg_tup (by rfl) (pgs_cons (pg_name (i := 4) scNeedProblem.nd rfl (.inl rfl)) (pgs_cons (pg_name (i := 5) scNeedProblem.nd rfl (.inl rfl)) pgs_nil))) (pss_one (ps_if (pt_not (pt_val (pe_call Gb hr2 (by rfl) T.DIsBox.g T.DIsBox.F.kp T.DIsBox.b .nil pass0 (pa_cons (pv 5) pa_nil)))) pss_never pss_nil))) (pss_cons (ps_if (pt_not (pt_val (pe_call Gi hr1 (by rfl) T.DIsIn.g T.DIsIn.F.kp T.DIsIn.b .nil pass0 (pa_cons (pv 3) (pa_cons pe_int (pa_cons (pe_glob (v := .int 100) (by rfl) hmg ⟨_, rfl⟩) pa_nil)))))) pss_never pss_nil) (pss_one (ps_if (PW.pt (pw_and (pt_not (pt_truth (pv 1) (by intro _; rfl))) (pw_and1 (pt_not (pt_truth (pv 2) (by intro _; rfl)))))) pss_never pss_nil))))))))), ?_⟩
    obtain ⟨ps, pb, e, ⟨vss, es, rs⟩, ⟨vbs, eb, rb⟩⟩ := hp
    have hS : SqT K H a [.ref ps, .ref pb, .int p.gap] := SqT.of e
    refine ⟨_, rfl, _, _, .type "tuple", .type "tuple", true, rfl, .ty "tuple", .base (.tup e), kit_ty (by decide +kernel), true, rfl, iteF ?_⟩
    refine ⟨_, rfl, _, _, rfl, .inr hS, rfl, _, rfl, goF (by simp) ?_⟩
    refine ⟨_, rfl, _, _, rfl, hS, rfl, _, _, rfl, _, _, rfl, _, _, rfl, rfl, ?_⟩
    refine ⟨_, rfl, _, _, .type "tuple", .type "tuple", true, rfl, .ty "tuple", .base (.tup es), kit_ty (by decide +kernel), true, rfl, iteF ?_⟩
    refine ⟨_, rfl, _, _, rfl, .inr (SqT.of es), _, _, rfl, rfl, _, rfl, goF (by have := rs.len; have := ok.s6; simp; omega) ?_⟩
    have gS : ∀ {H'}, Grow PT H H' → SqT K H' ps vss := fun g => SqT.of (g.keepT _ _ es)
    have gB : ∀ {H'}, Grow PT H H' → SqT K H' pb vbs := fun g => SqT.of (g.keepT _ _ eb)
    refine ⟨_, rfl, ps, vss, rfl, SqT.of es, KX.for_enumT (xs := vss) (fun i σ H' => (∃ v4 v5, σ = [some (.ref a), some (.ref ps), some (.ref pb), some (.int p.gap), v4, v5]) ∧ Grow PT H H') ⟨⟨none, none, rfl⟩, Grow.refl _ _⟩ (fun i σ H' h => gS h.2) (fun i x U σ H' hx h hU => ?_) (fun σ H' h => ?_)⟩
    · obtain ⟨⟨v4, v5, rfl⟩, g⟩ := h
      obtain ⟨b, t, rfl, ht, hb⟩ := rs.get' hx
      have g1 : Grow PT H (upd H' U (.tup [.int (i : Nat), .ref b])) := g.trans (Grow.of (same_upd hU))
      refine ⟨_, _, rfl, SqT.of upd_same, rfl, _, _, rfl, _, _, rfl, rfl, ?_⟩
      refine ⟨_, rfl, b, t, rfl, T3.keep g1.keepT _ _ hb, ok.ss t (List.mem_of_getElem? ht), tb.grow g1 P1 hP, fun H2 g2 => ⟨true, rfl, iteF ?_⟩⟩
      exact ⟨⟨_, _, rfl⟩, g1.trans g2⟩
    obtain ⟨⟨v4, v5, rfl⟩, g⟩ := h
    refine ⟨_, rfl, _, _, .type "tuple", .type "tuple", true, rfl, .ty "tuple", .base (.tup (g.keepT _ _ eb)), kit_ty (by decide +kernel), true, rfl, iteF ?_⟩
    refine ⟨_, rfl, _, _, rfl, .inr (gB g), _, _, rfl, rfl, _, rfl, goF (by have := rb.len; have := b4; simp; omega) ?_⟩
    refine ⟨_, rfl, pb, vbs, rfl, gB g, KX.for_enumT (xs := vbs) (fun i σ H' => (∃ v4 v5, σ = [some (.ref a), some (.ref ps), some (.ref pb), some (.int p.gap), v4, v5]) ∧ Grow PT H H') ⟨⟨_, _, rfl⟩, g⟩ (fun i σ H' h => gB h.2) (fun i x U σ H' hx h hU => ?_) (fun σ H' h => ?_)⟩
    · obtain ⟨⟨v4, v5, rfl⟩, g⟩ := h
      obtain ⟨b, t, rfl, ht, hb⟩ := rb.get' hx
      have g1 : Grow PT H (upd H' U (.tup [.int (i : Nat), .ref b])) := g.trans (Grow.of (same_upd hU))
      refine ⟨_, _, rfl, SqT.of upd_same, rfl, _, _, rfl, _, _, rfl, rfl, ?_⟩
      refine ⟨_, rfl, b, t, rfl, T2.keep g1.keepT _ _ hb, ok.bs t (List.mem_of_getElem? ht), true, rfl, iteF ?_⟩
      exact ⟨⟨_, _, rfl⟩, g1⟩
    obtain ⟨⟨v4, v5, rfl⟩, g⟩ := h
    refine ⟨_, rfl, _, _, _, rfl, _, rfl, goF (by simp [ok.g0, ok.g1]) ?_⟩
    have n1 : vss.isEmpty = p.ss.isEmpty := by
      have := rs.len
      cases vss <;> cases h : p.ss <;> simp_all
    have n2 : vbs.isEmpty = p.bs.isEmpty := by
      have := rb.len
      cases vbs <;> cases h : p.bs <;> simp_all
    refine ⟨_, rfl, !vss.isEmpty, .inr (.inl ⟨_, gS g, rfl⟩), goE (fun z => ?_) (fun z => ?_)⟩
    · refine ⟨_, rfl, !vbs.isEmpty, .inr (.inl ⟨_, gB g, rfl⟩), goF ?_ ?_⟩
      · have h1 : p.ss = [] := by
          rw [n1] at z
          simpa using z
        rw [n2]
        have := ok.ne
        cases h : p.bs <;> simp_all
      · exact q _ g
    · exact q _ g
end
end Q46
namespace Q46
open PySem PySem.Spec PyProof.Rows L2
/-! ### plain facts of a problem -/
namespace Pb
variable {p : Pb}
theorem giver_s {n : Nat} {t : S3} (h : p.ss[n]? = some t) : p.giver n = decide (t.2.1 < t.1) := by unfold giver; rw [h]
theorem none_s {n : Nat} (h : p.ss.length ≤ n) : p.ss[n]? = none := List.getElem?_eq_none h
theorem giver_b {n : Nat} {b : Int × Int} (hn : p.ss.length ≤ n) (h : p.bs[n - p.ss.length]? = some b) : p.giver n = decide (0 < b.2) := by unfold giver; rw [none_s hn, h]
theorem span_s {n : Nat} {t : S3} (h : p.ss[n]? = some t) : p.span n = (mx t.1 t.2.1 - p.down n, mn t.1 t.2.1 - p.down n, t.2.2, 0) := by unfold span; rw [h]
theorem span_b {n : Nat} {b : Int × Int} (hn : p.ss.length ≤ n) (h : p.bs[n - p.ss.length]? = some b) : p.span n = (b.1 - p.down n, b.1 - p.down n, 0, ab b.2) := by unfold span; rw [none_s hn, h]
theorem get_b {n : Nat} (hn : p.ss.length ≤ n) (h : n < p.many) : ∃ b, p.bs[n - p.ss.length]? = some b := by
  unfold many at h
  exact ⟨_, List.getElem?_eq_getElem (by omega)⟩
theorem rate_bd (ok : Ok p) (n : Nat) : 0 ≤ p.rate n ∧ p.rate n ≤ 100 := by
  unfold rate
  rcases Nat.lt_or_ge n p.ss.length with h | h
  · have e := List.getElem?_eq_getElem h
    rw [span_s e]
    have := ok.ss _ (List.getElem_mem h)
    exact ⟨by have := this.2.2.2.1; simp; omega, this.2.2.2.2⟩
  · unfold span
    rw [none_s h]
    cases p.bs[n - p.ss.length]? <;> simp
end Pb
section
variable {P : Program} {w : World} {K : PySem.W.Frag} {mg : Str → Option Value} {base : Heap}
/-! ### is_giver -/
def spGiver : Sp := fun vs H Q _ => ∃ (a : Addr) (p : Pb) (n : Nat), vs = [.ref a, .int n] ∧ PbAt H a p ∧ n < p.many ∧ Q (.bl (p.giver n)) H
theorem ok_giver (T : Tx K mg) : FnOk P w K mg base CX0 1 T.fIsGiver T.dIsGiver ["problem", "number"] spGiver := by
  refine T.DIsGiver.F.ok scIsGiver (fun vs H Q E h => ?_) (fun cdv A outer s H vs Q E hr h => ?_)
  · obtain ⟨a, p, n, rfl, _⟩ := h
    rfl
  · obtain ⟨a, p, n, rfl, hp, hn, q⟩ := h
    refine ⟨_, (pss_cons (ps_asg (pv 0) (pg_tup (by rfl) (pgs_cons (pg_name (i := 2) scIsGiver.nd rfl (.inl rfl)) (pgs_cons (pg_name (i := 3) scIsGiver.nd rfl (.inl rfl)) (pgs_cons (pg_name (i := 4) scIsGiver.nd rfl (.inl rfl)) pgs_nil))))) (pss_cons (ps_if (pt_cmpR op_lt (pv 1) (pe_callB call_len_seq (by rfl) T.B.len_ PySem.boot_len (pa_cons (pv 2) pa_nil)) (nomark _)) (pss_one (ps_ret (pe_cmpR op_gt (pe_ix ix_tup (pe_ix ix_tup (pv 2) (pv 1) (fun _ _ => rfl)) pe_int (fun _ _ => rfl)) (pe_ix ix_tup (pe_ix ix_tup (pv 2) (pv 1) (fun _ _ => rfl)) pe_int (fun _ _ => rfl)) (nomark _)))) pss_nil) (pss_one (ps_ret (pe_cmpR op_gt (pe_ix ix_tup (pe_ix ix_tup (pv 3) (pe_op op_sub (pv 1) (pe_callB call_len_seq (by rfl) T.B.len_ PySem.boot_len (pa_cons (pv 2) pa_nil))) (fun _ _ => rfl)) pe_int (fun _ _ => rfl)) pe_int (nomark _)))))), ?_⟩
    obtain ⟨ps, pb, e, ⟨vss, es, rs⟩, ⟨vbs, eb, rb⟩⟩ := hp
    have hS : SqT K H a [.ref ps, .ref pb, .int p.gap] := SqT.of e
    refine ⟨_, rfl, _, _, rfl, hS, rfl, _, _, rfl, _, _, rfl, _, _, rfl, rfl, ?_⟩
    refine ⟨_, rfl, _, rfl, _, _, rfl, .inr (SqT.of es), _, _, rfl, rfl, _, rfl, goE (fun z => ?_) (fun z => ?_)⟩
    · have hl : n < p.ss.length := by
        have := rs.len
        simp at z
        omega
      have et := List.getElem?_eq_getElem hl
      obtain ⟨b, hb, tb⟩ := rs.get et
      have h3 := SqT.of (K := K) tb
      refine ⟨_, rfl, _, rfl, _, _, _, _, rfl, rfl, SqT.of es, atI_nat hb, _, _, 0, _, rfl, rfl, h3, atI_nat (j := 0) rfl, _, rfl, _, rfl, _, _, _, _, rfl, rfl, SqT.of es, atI_nat hb, _, _, 1, _, rfl, rfl, h3, atI_nat (j := 1) rfl, _, _, rfl, rfl, ?_⟩
      rw [Pb.giver_s et] at q
      exact q
    · have hl : p.ss.length ≤ n := by
        have := rs.len
        simp at z
        omega
      obtain ⟨x, hx⟩ := Pb.get_b hl hn
      obtain ⟨b, hb, tb⟩ := rb.get hx
      have h2 := SqT.of (K := K) tb
      have el : vss.length = p.ss.length := rs.len
      refine ⟨_, rfl, _, rfl, _, rfl, _, _, rfl, .inr (SqT.of es), _, _, rfl, rfl, _, _, _, _, rfl, rfl, SqT.of eb, ?_, _, _, 1, _, rfl, rfl, h2, atI_nat (j := 1) rfl, _, _, rfl, rfl, ?_⟩
      · have ez : ((n : Int) - (vss.length : Int)) = ((n - p.ss.length : Nat) : Int) := by omega
        rw [ez]
        exact atI_nat hb
      · rw [Pb.giver_b hl hx] at q
        exact q
end
end Q46
namespace Q46
open PySem PySem.Spec PyProof.Rows L2
theorem goV {c : Bool} {σ : L2.St} {H : Hp} {Q : VK} {i : Nat} {x y z : V} (h : σ[i]? = some (some x)) (hx : c = true → x = z) (hy : c = false → y = z) (q : Q z H) : if c = true then tVar i σ H Q else tC y σ H Q := by
  cases c
  · have e := hy rfl
    subst e
    exact q
  · have e := hx rfl
    subst e
    exact ⟨_, h, q⟩
section
variable {P : Program} {w : World} {K : PySem.W.Frag} {mg : Str → Option Value} {base : Heap}
def spSpan : Sp := fun vs H Q _ => ∃ (a : Addr) (p : Pb) (n : Nat), vs = [.ref a, .int n] ∧ PbAt H a p ∧ n < p.many ∧ ∀ t, H t = none → Q (.ref t) (upd H t (.tup [.int (p.up n), .int (p.lo n), .int (p.rate n), .int (p.box n)]))
theorem ok_span (T : Tx K mg) : FnOk P w K mg base CX0 2 T.fSpanOf T.dSpanOf ["problem", "number"] spSpan := by
  have Gg : FnOk P w K mg base CX0 1 T.fIsGiver T.dIsGiver ["problem", "number"] spGiver := ok_giver T
  refine T.DSpanOf.F.ok scSpanOf (fun vs H Q E h => ?_) (fun cdv A outer s H vs Q E hr h => ?_)
  · obtain ⟨a, p, n, rfl, _⟩ := h
    rfl
  · obtain ⟨a, p, n, rfl, hp, hn, q⟩ := h
    refine ⟨_, (pss_cons (ps_asg (pv 0) (pg_tup (by rfl) (pgs_cons (pg_name (i := 2) scSpanOf.nd rfl (.inl rfl)) (pgs_cons (pg_name (i := 3) scSpanOf.nd rfl (.inl rfl)) (pgs_cons (pg_name (i := 4) scSpanOf.nd rfl (.inl rfl)) pgs_nil))))) (pss_cons (ps_set (i := 5) scSpanOf.nd rfl (.inl rfl) (pe_ifExp (pt_val (pe_call Gg hr (by rfl) T.DIsGiver.g T.DIsGiver.F.kp T.DIsGiver.b .nil pass0 (pa_cons (pv 0) (pa_cons (pv 1) pa_nil)))) (pv 4) pe_int)) (pss_cons (ps_if (pt_cmpR op_lt (pv 1) (pe_callB call_len_seq (by rfl) T.B.len_ PySem.boot_len (pa_cons (pv 2) pa_nil)) (nomark _)) (pss_cons (ps_asg (pe_ix ix_tup (pv 2) (pv 1) (fun _ _ => rfl)) (pg_tup (by rfl) (pgs_cons (pg_name (i := 6) scSpanOf.nd rfl (.inl rfl)) (pgs_cons (pg_name (i := 7) scSpanOf.nd rfl (.inl rfl)) (pgs_cons (pg_name (i := 8) scSpanOf.nd rfl (.inl rfl)) pgs_nil))))) (pss_one (ps_ret (pe_tup (pa_cons (pe_op op_sub (pe_callB (call_max2 rfl) (by rfl) T.B.max_ (by decide +kernel) (pa_cons (pv 6) (pa_cons (pv 7) pa_nil))) (pv 5)) (pa_cons (pe_op op_sub (pe_callB (call_min2 rfl) (by rfl) T.B.min_ (by decide +kernel) (pa_cons (pv 6) (pa_cons (pv 7) pa_nil))) (pv 5)) (pa_cons (pv 8) (pa_cons pe_int pa_nil)))))))) pss_nil) (pss_cons (ps_asg (pe_ix ix_tup (pv 3) (pe_op op_sub (pv 1) (pe_callB call_len_seq (by rfl) T.B.len_ PySem.boot_len (pa_cons (pv 2) pa_nil))) (fun _ _ => rfl)) (pg_tup (by rfl) (pgs_cons (pg_name (i := 9) scSpanOf.nd rfl (.inl rfl)) (pgs_cons (pg_name (i := 10) scSpanOf.nd rfl (.inl rfl)) pgs_nil)))) (pss_one (ps_ret (pe_tup (pa_cons (pe_op op_sub (pv 9) (pv 5)) (pa_cons (pe_op op_sub (pv 9) (pv 5)) (pa_cons pe_int (pa_cons (pe_callB call_abs (by rfl) T.B.abs_ (by decide +kernel) (pa_cons (pv 10) pa_nil)) pa_nil))))))))))), ?_⟩
    have hp0 := hp
    obtain ⟨ps, pb, e, ⟨vss, es, rs⟩, ⟨vbs, eb, rb⟩⟩ := hp
    have hS : SqT K H a [.ref ps, .ref pb, .int p.gap] := SqT.of e
    have el : vss.length = p.ss.length := rs.len
    refine ⟨_, rfl, _, _, rfl, hS, rfl, _, _, rfl, _, _, rfl, _, _, rfl, rfl, ?_⟩
    refine ⟨_, rfl, _, rfl, a, p, n, rfl, hp0, hn, p.giver n, rfl, goV (z := .int (p.down n)) rfl (fun z => by simp [Pb.down, z]) (fun z => by simp [Pb.down, z]) ?_⟩
    refine ⟨_, rfl, _, rfl, _, _, rfl, .inr (SqT.of es), _, _, rfl, rfl, _, rfl, goE (fun z => ?_) (fun z => ?_)⟩
    · have hl : n < p.ss.length := by
        simp at z
        omega
      have et := List.getElem?_eq_getElem hl
      obtain ⟨b, hb, tb⟩ := rs.get et
      have h3 := SqT.of (K := K) tb
      have es' := Pb.span_s et
      refine ⟨_, rfl, _, rfl, _, _, _, _, rfl, rfl, SqT.of es, atI_nat hb, _, _, rfl, h3, rfl, _, _, rfl, _, _, rfl, _, _, rfl, rfl, ?_⟩
      refine ⟨_, rfl, _, rfl, _, _, rfl, _, rfl, _, _, rfl, rfl, _, rfl, _, rfl, _, _, rfl, _, rfl, _, _, rfl, rfl, _, rfl, (by show 4 ≤ sizeLine; decide), fun t ht => ?_⟩
      have := q t ht
      rw [show p.up n = (p.span n).1 from rfl, show p.lo n = (p.span n).2.1 from rfl, show p.rate n = (p.span n).2.2.1 from rfl, show p.box n = (p.span n).2.2.2 from rfl, es'] at this
      exact this
    · have hl : p.ss.length ≤ n := by
        simp at z
        omega
      obtain ⟨x, hx⟩ := Pb.get_b hl hn
      obtain ⟨b, hb, tb⟩ := rb.get hx
      have h2 := SqT.of (K := K) tb
      have es' := Pb.span_b hl hx
      refine ⟨_, rfl, _, rfl, _, rfl, _, _, rfl, .inr (SqT.of es), _, _, rfl, rfl, _, _, _, _, rfl, rfl, SqT.of eb, ?_, _, _, rfl, h2, rfl, _, _, rfl, _, _, rfl, rfl, ?_⟩
      · have ez : ((n : Int) - (vss.length : Int)) = ((n - p.ss.length : Nat) : Int) := by omega
        rw [ez]
        exact atI_nat hb
      refine ⟨_, rfl, _, rfl, _, _, rfl, rfl, _, rfl, _, rfl, _, _, rfl, rfl, _, rfl, _, rfl, (by show 4 ≤ sizeLine; decide), fun t ht => ?_⟩
      have := q t ht
      rw [show p.up n = (p.span n).1 from rfl, show p.lo n = (p.span n).2.1 from rfl, show p.rate n = (p.span n).2.2.1 from rfl, show p.box n = (p.span n).2.2.2 from rfl, es'] at this
      exact this
/-! ### numbers_of -/
def spNumbers : Sp := fun vs H Q _ => ∃ (a : Addr) (p : Pb) (g : Bool), vs = [.ref a, .bl g] ∧ PbAt H a p ∧ Ok p ∧ ∀ H' l, Same H H' → H l = none → H' l = some (.lst ((p.numbers g).map fun (n : Nat) => V.int n)) → Q (.ref l) H'
/-- the members of the first i -/
def Pb.upto (p : Pb) (g : Bool) (i : Nat) : List Nat := (List.range i).filter fun n => p.giver n == g
theorem Pb.upto_succ (p : Pb) (g : Bool) (i : Nat) : p.upto g (i + 1) = p.upto g i ++ (if p.giver i == g then [i] else []) := by
  unfold Pb.upto
  rw [List.range_succ, List.filter_append]
  congr 1
  by_cases h : p.giver i == g <;> simp [h]
theorem Pb.upto_len (p : Pb) (g : Bool) (i : Nat) : (p.upto g i).length ≤ i := Nat.le_trans (List.length_filter_le ..) (by simp)
theorem Pb.many_le {p : Pb} (ok : Ok p) : p.many ≤ 12 := by have := ok.s6; have := ok.b4; unfold Pb.many; omega
theorem ok_numbers (T : Tx K mg) : FnOk P w K mg base CX0 2 T.fNumbersOf T.dNumbersOf ["problem", "are_givers"] spNumbers := by
  have Gg : FnOk P w K mg base CX0 1 T.fIsGiver T.dIsGiver ["problem", "number"] spGiver := ok_giver T
  refine T.DNumbersOf.F.ok scNumbersOf (fun vs H Q E h => ?_) (fun cdv A outer s H vs Q E hr h => ?_)
  · obtain ⟨a, p, n, rfl, _⟩ := h
    rfl
  · obtain ⟨a, p, g, rfl, hp, ok, q⟩ := h
    refine ⟨_, (pss_cons (ps_set (i := 2) scNumbersOf.nd rfl (.inl rfl) (pe_op op_add (pe_callB call_len_seq (by rfl) T.B.len_ PySem.boot_len (pa_cons (pe_ix ix_tup (pv 0) pe_int (fun _ _ => rfl)) pa_nil)) (pe_callB call_len_seq (by rfl) T.B.len_ PySem.boot_len (pa_cons (pe_ix ix_tup (pv 0) pe_int (fun _ _ => rfl)) pa_nil)))) (pss_one (ps_ret (pe_lc (own := [("number", 3)]) (g := gName 3) (by rfl) scNumbersOf.nd (pi_range1 (by rfl) T.B.range_ (pa_cons (pv 2) pa_nil)) (blkOk_by (own := [("number", 3)]) (N := ["problem", "are_givers", "many", "number"]) (sc := defScope sNumbersOf) (by decide +kernel)) (fun _ _ _ _ _ => (pg_name (i := 3) scNumbersOf.nd rfl (Or.inl rfl))) (fun _ _ _ _ _ => (pts_one (pt_cmpR op_eq (pe_call Gg hr (by rfl) T.DIsGiver.g T.DIsGiver.F.kp T.DIsGiver.b .nil pass0 (pa_cons (pv 0) (pa_cons (pv 3) pa_nil))) (pv 1) (nomark _)))) (fun _ _ _ _ _ => (pv 3)))))), ?_⟩
    have hp0 := hp
    obtain ⟨ps, pb, e, ⟨vss, es, rs⟩, ⟨vbs, eb, rb⟩⟩ := hp
    have hS : SqT K H a [.ref ps, .ref pb, .int p.gap] := SqT.of e
    have el : vss.length = p.ss.length := rs.len
    have el2 : vbs.length = p.bs.length := rb.len
    have em : ((vss.length : Int) + (vbs.length : Int)) = ((p.many : Nat) : Int) := by unfold Pb.many; omega
    have hm := Pb.many_le ok
    refine ⟨_, rfl, _, _, 0, .ref ps, rfl, rfl, hS, atI_nat (j := 0) rfl, _, _, rfl, .inr (SqT.of es), _, rfl, _, _, 1, .ref pb, rfl, rfl, hS, atI_nat (j := 1) rfl, _, _, rfl, .inr (SqT.of eb), _, _, rfl, rfl, ?_⟩
    refine ⟨_, rfl, p.many, by rw [← em], by have : p.many ≤ 12 := hm; omega, by omega, fun D hD => ?_⟩
    refine lc_range (n := p.many) (lo := 0) (fun i H' => H' = upd H D (.lst ((p.upto g i).map fun (n : Nat) => V.int n))) rfl (fun i H' hi h => ?_) (fun H' h => ?_)
    · subst h
      have sm : Same H (upd H D (.lst ((p.upto g i).map fun (n : Nat) => V.int n))) := same_upd hD
      refine ⟨rfl, _, rfl, _, rfl, a, p, i, by simp, hp0.keep (Same.keepT sm), hi, _, rfl, rfl, _, rfl, goE (fun z => ?_) (fun z => ?_)⟩
      · have z' : (p.giver i == g) = true := by simpa using z
        refine ⟨_, rfl, _, upd_same, ?_, ?_⟩
        · have := p.upto_len g i
          simp only [List.length_map]
          show _ < 16777216
          omega
        · rw [p.upto_succ g i, if_pos z', upd_upd]
          simp
      · have z' : ¬ (p.giver i == g) = true := by simpa using z
        rw [p.upto_succ g i, if_neg z']
        simp
    · subst h
      exact q _ D (same_upd hD) hD upd_same
/-! ### heat_above -/
def spHeatA : Sp := fun vs H Q _ => ∃ (a : Addr) (p : Pb) (n : Nat) (l : Int) (o : Bool), vs = [.ref a, .int n, .int l, .bl o] ∧ PbAt H a p ∧ Ok p ∧ n < p.many ∧ ∀ H', Same H H' → Q (.int (p.heatA n l o)) H'
theorem ok_heatA (T : Tx K mg) : FnOk P w K mg base CX0 3 T.fHeatAbove T.dHeatAbove ["problem", "number", "level", "is_open"] spHeatA := by
  have Gs : FnOk P w K mg base CX0 2 T.fSpanOf T.dSpanOf ["problem", "number"] spSpan := ok_span T
  refine T.DHeatAbove.F.ok scHeatAbove (fun vs H Q E h => ?_) (fun cdv A outer s H vs Q E hr h => ?_)
  · obtain ⟨a, p, n, l, o, rfl, _⟩ := h
    rfl
  · obtain ⟨a, p, n, l, o, rfl, hp, ok, hn, q⟩ := h
    refine ⟨_, (pss_cons (ps_asg (pe_call Gs hr (by rfl) T.DSpanOf.g T.DSpanOf.F.kp T.DSpanOf.b .nil pass0 (pa_cons (pv 0) (pa_cons (pv 1) pa_nil))) (pg_tup (by rfl) (pgs_cons (pg_name (i := 4) scHeatAbove.nd rfl (.inl rfl)) (pgs_cons (pg_name (i := 5) scHeatAbove.nd rfl (.inl rfl)) (pgs_cons (pg_name (i := 6) scHeatAbove.nd rfl (.inl rfl)) (pgs_cons (pg_name (i := 7) scHeatAbove.nd rfl (.inl rfl)) pgs_nil)))))) (pss_cons (ps_if (pt_cmpR op_eq (pv 6) pe_int (nomark _)) (pss_one (ps_ret (pe_ifExp (PW.pt (pw_or (pt_cmpR op_gt (pv 4) (pv 2) (nomark _)) (pw_or1 (PW.pt (pw_and (pt_cmpR op_eq (pv 4) (pv 2) (nomark _)) (pw_and1 (pt_not (pt_val (pv 3))))))))) (pv 7) pe_int))) pss_nil) (pss_one (ps_ret (pe_op op_mul (pv 6) (pe_callB (call_max2 rfl) (by rfl) T.B.max_ (by decide +kernel) (pa_cons pe_int (pa_cons (pe_op op_sub (pv 4) (pe_callB (call_max2 rfl) (by rfl) T.B.max_ (by decide +kernel) (pa_cons (pv 2) (pa_cons (pv 5) pa_nil)))) pa_nil)))))))), ?_⟩
    refine ⟨_, rfl, _, rfl, a, p, n, rfl, hp, hn, fun t ht => ?_⟩
    have sm : Same H (upd H t (.tup [.int (p.up n), .int (p.lo n), .int (p.rate n), .int (p.box n)])) := same_upd ht
    refine ⟨_, _, rfl, SqT.of upd_same, rfl, _, _, rfl, _, _, rfl, _, _, rfl, _, _, rfl, rfl, ?_⟩
    have qq := q _ sm
    unfold Pb.heatA at qq
    refine ⟨_, rfl, rfl, _, rfl, goE (fun z => ?_) (fun z => ?_)⟩
    · have z' : p.rate n = 0 := by simpa using z
      rw [if_pos z'] at qq
      refine ⟨_, rfl, _, rfl, _, _, rfl, rfl, _, rfl, goE (fun z1 => ?_) (fun z1 => ?_)⟩
      · have c1 : l < p.up n ∨ (p.up n = l ∧ o = false) := .inl (by simpa using z1)
        rw [if_pos c1] at qq
        exact iteT ⟨_, rfl, qq⟩
      · have c0 : ¬ l < p.up n := by simpa using z1
        refine ⟨_, rfl, _, rfl, rfl, _, rfl, goE (fun z2 => ?_) (fun z2 => ?_)⟩
        · have c2 : p.up n = l := by simpa using z2
          refine ⟨_, rfl, _, rfl, ?_⟩
          cases o with
          | true =>
            have c1 : ¬ (l < p.up n ∨ (p.up n = l ∧ true = false)) := by simp [c0]
            rw [if_neg c1] at qq
            exact iteF qq
          | false =>
            have c1 : l < p.up n ∨ (p.up n = l ∧ false = false) := .inr ⟨c2, rfl⟩
            rw [if_pos c1] at qq
            exact iteT ⟨_, rfl, qq⟩
        · have c2 : ¬ p.up n = l := by simpa using z2
          have c1 : ¬ (l < p.up n ∨ (p.up n = l ∧ o = false)) := by simp [c0, c2]
          rw [if_neg c1] at qq
          exact iteF qq
    · have z' : ¬ p.rate n = 0 := by simpa using z
      rw [if_neg z'] at qq
      have hb := Pb.rate_bd ok n
      refine ⟨_, rfl, _, rfl, _, rfl, _, rfl, _, _, rfl, _, _, rfl, rfl, _, _, rfl, _, _, rfl, rfl, .inl ⟨by omega, by omega⟩, ?_⟩
      exact qq
end
end Q46
namespace Q46
open PySem PySem.Spec PyProof.Rows L2
def IKeys (kvs : List (Key × V)) (ks : List Int) : Prop := kvs.map (·.1) = ks.map Sum.inl
theorem putK_keys {kvs : List (Key × V)} {ks : List Int} (h : IKeys kvs ks) (x : Int) (v : V) : ∃ ks', IKeys (putK kvs (Sum.inl x) v) ks' ∧ (∀ y, y ∈ ks' ↔ y ∈ ks ∨ y = x) ∧ ks'.length ≤ ks.length + 1 := by
  unfold IKeys at *
  unfold putK
  by_cases hx : (kvs.any fun kv => decide (kv.1 = Sum.inl x)) = true
  · rw [if_pos hx]
    refine ⟨ks, ?_, fun y => ⟨.inl, ?_⟩, by omega⟩
    · rw [← h, List.map_map]
      apply List.map_congr_left
      intro kv _
      show (if kv.1 = Sum.inl x then (kv.1, v) else kv).1 = kv.1
      by_cases e : kv.1 = Sum.inl x <;> simp [e]
    · rintro (z | rfl)
      · exact z
      · simp only [List.any_eq_true, decide_eq_true_eq] at hx
        obtain ⟨kv, hm, e⟩ := hx
        have : kv.1 ∈ kvs.map (·.1) := List.mem_map_of_mem hm
        rw [h, e] at this
        obtain ⟨y', hy, e'⟩ := List.mem_map.mp this
        cases e'
        exact hy
  · rw [if_neg hx]
    refine ⟨ks ++ [x], ?_, fun y => by simp, by simp⟩
    rw [List.map_append, h, List.map_append]
    rfl
def Pb.levsTo (p : Pb) (i : Nat) : List Int := (List.range i).flatMap fun n => [p.up n, p.lo n]
theorem Pb.levsTo_succ (p : Pb) (i : Nat) : p.levsTo (i + 1) = p.levsTo i ++ [p.up i, p.lo i] := by
  unfold Pb.levsTo
  rw [List.range_succ, List.flatMap_append]
  simp
section
variable {P : Program} {w : World} {K : PySem.W.Frag} {mg : Str → Option Value} {base : Heap}
def spLevels : Sp := fun vs H Q _ => ∃ (a : Addr) (p : Pb), vs = [.ref a] ∧ PbAt H a p ∧ Ok p ∧ ∀ (H' : Hp) (l : Addr) (ls : List Int), Same H H' → H l = none → H' l = some (.lst (ls.map V.int)) → (∀ x, x ∈ ls ↔ x ∈ p.levs) → ls.length ≤ 40 → Q (.ref l) H'
theorem ok_levels (T : Tx K mg) : FnOk P w K mg base CX0 3 T.fLevelsOf T.dLevelsOf ["problem"] spLevels := by
  have Gs : FnOk P w K mg base CX0 2 T.fSpanOf T.dSpanOf ["problem", "number"] spSpan := ok_span T
  refine T.DLevelsOf.F.ok scLevelsOf (fun vs H Q E h => ?_) (fun cdv A outer s H vs Q E hr h => ?_)
  · obtain ⟨a, p, rfl, _⟩ := h
    rfl
  · obtain ⟨a, p, rfl, hp, ok, q⟩ := h
    refine ⟨_, (pss_cons (ps_set (i := 1) scLevelsOf.nd rfl (.inl rfl) pe_dnewK) (pss_cons (ps_for PassesOwn.never rfl (pi_range1 (by rfl) T.B.range_ (pa_cons (pe_op op_add (pe_callB call_len_seq (by rfl) T.B.len_ PySem.boot_len (pa_cons (pe_ix ix_tup (pv 0) pe_int (fun _ _ => rfl)) pa_nil)) (pe_callB call_len_seq (by rfl) T.B.len_ PySem.boot_len (pa_cons (pe_ix ix_tup (pv 0) pe_int (fun _ _ => rfl)) pa_nil))) pa_nil)) (pg_name (i := 2) scLevelsOf.nd rfl (.inl rfl)) (pss_cons (ps_asg (pe_call Gs hr (by rfl) T.DSpanOf.g T.DSpanOf.F.kp T.DSpanOf.b .nil pass0 (pa_cons (pv 0) (pa_cons (pv 2) pa_nil))) (pg_tup (by rfl) (pgs_cons (pg_name (i := 3) scLevelsOf.nd rfl (.inl rfl)) (pgs_cons (pg_name (i := 4) scLevelsOf.nd rfl (.inl rfl)) (pgs_cons (pg_name (i := 5) scLevelsOf.nd rfl (.inl rfl)) (pgs_cons (pg_name (i := 6) scLevelsOf.nd rfl (.inl rfl)) pgs_nil)))))) (pss_cons (ps_dput (hu_of hr) (pv 1) (pv 3) pe_bl rfl) (pss_one (ps_dput (hu_of hr) (pv 1) (pv 4) pe_bl rfl))))) (pss_one (ps_ret (pe_revL (pe_callB cr_sortedI (by rfl) T.B.sorted_ (by decide +kernel) (pa_cons (pe_callTy (call_list_dK rfl) (by rfl) T.B.list_ (by decide +kernel) (pa_cons (pv 1) pa_nil)) pa_nil))))))), ?_⟩
    have hp0 := hp
    obtain ⟨ps, pb, e, ⟨vss, es, rs⟩, ⟨vbs, eb, rb⟩⟩ := hp
    have hS : SqT K H a [.ref ps, .ref pb, .int p.gap] := SqT.of e
    have el : vss.length = p.ss.length := rs.len
    have el2 : vbs.length = p.bs.length := rb.len
    have em : ((vss.length : Int) + (vbs.length : Int)) = ((p.many : Nat) : Int) := by unfold Pb.many; omega
    have hm := Pb.many_le ok
    refine fun d hd => ?_
    have sd : Same H (upd H d (.dK [])) := same_upd hd
    have kd := Same.keepT sd
    refine ⟨_, rfl, _, _, 0, .ref ps, rfl, rfl, SqT.of (kd _ _ e), atI_nat (j := 0) rfl, _, _, rfl, .inr (SqT.of (kd _ _ es)), _, rfl, _, _, 1, .ref pb, rfl, rfl, SqT.of (kd _ _ e), atI_nat (j := 1) rfl, _, _, rfl, .inr (SqT.of (kd _ _ eb)), _, _, rfl, rfl, ?_⟩
    refine ⟨p.many, by rw [← em], by omega, by omega, ?_⟩
    refine for_range (n := p.many) (lo := 0) (fun i σ H' => (∃ v2 v3 v4 v5 v6, σ = [some (.ref a), some (.ref d), v2, v3, v4, v5, v6]) ∧ Same H H' ∧ ∃ kvs ks, IKeys kvs ks ∧ (∀ x, x ∈ ks ↔ x ∈ p.levsTo i) ∧ ks.length ≤ 2 * i ∧ H' d = some (.dK kvs)) ⟨⟨none, none, none, none, none, rfl⟩, sd, [], [], rfl, fun x => by simp [Pb.levsTo], by simp, upd_same⟩ (fun i σ H' hi h => ?_) (fun σ H' h => ?_)
    · obtain ⟨⟨v2, v3, v4, v5, v6, rfl⟩, sm, kvs, ks, hk, hx, hl, hd'⟩ := h
      refine ⟨_, rfl, _, rfl, a, p, i, by simp, hp0.keep (Same.keepT sm), hi, fun t ht => ?_⟩
      refine ⟨_, _, rfl, SqT.of upd_same, rfl, _, _, rfl, _, _, rfl, _, _, rfl, _, _, rfl, rfl, ?_⟩
      have hd1 : (upd H' t (.tup [.int (p.up i), .int (p.lo i), .int (p.rate i), .int (p.box i)])) d = some (.dK kvs) := by
        rw [upd_ne (ne_of_none hd' ht)]
        exact hd'
      have lk : kvs.length = ks.length := by
        have := congrArg List.length hk
        simpa using this
      obtain ⟨ks1, hk1, hx1, hl1⟩ := putK_keys hk (p.up i) (.bl true)
      obtain ⟨ks2, hk2, hx2, hl2⟩ := putK_keys hk1 (p.lo i) (.bl true)
      have lk1 : (putK kvs (Sum.inl (p.up i)) (.bl true)).length = ks1.length := by
        have := congrArg List.length hk1
        simpa using this
      refine ⟨_, rfl, _, rfl, d, _, rfl, DPut.k (k := Sum.inl (p.up i)) hd1 (by show _ < 16777216; omega), ?_⟩
      refine ⟨_, rfl, _, rfl, d, _, rfl, DPut.k (k := Sum.inl (p.lo i)) upd_same (by show _ < 16777216; omega), ?_⟩
      refine ⟨⟨_, _, _, _, _, rfl⟩, fun b x hb => ?_, _, ks2, hk2, fun x => ?_, by omega, upd_same⟩
      · rw [upd_ne (ne_of_none hb hd), upd_ne (ne_of_none hb hd), upd_ne (ne_of_none (sm b x hb) ht)]
        exact sm b x hb
      · rw [hx2, hx1, hx, p.levsTo_succ i]
        simp
        constructor
        · rintro ((h | h) | h) <;> simp [h]
        · rintro (h | h | h) <;> simp [h]
    · obtain ⟨⟨v2, v3, v4, v5, v6, rfl⟩, sm, kvs, ks, hk, hx, hl, hd'⟩ := h
      have lm : (kvs.map fun kv => kV kv.1) = ks.map V.int := by
        have := congrArg (List.map kV) hk
        rw [List.map_map, List.map_map] at this
        exact this
      refine ⟨_, rfl, d, kvs, rfl, hd', fun u hu => ?_⟩
      refine ⟨u, ks, rfl, SqL.of (by rw [← lm]; exact upd_same), fun ls u2 pm _ hu2 => ?_⟩
      refine ⟨u2, _, rfl, SqL.of upd_same, fun u3 hu3 => ?_⟩
      rw [← List.map_reverse]
      have s1 : Same H' (upd H' u (.lst (kvs.map fun kv => kV kv.1))) := same_upd hu
      have s2 : Same (upd H' u (.lst (kvs.map fun kv => kV kv.1))) (upd (upd H' u (.lst (kvs.map fun kv => kV kv.1))) u2 (.lst (ls.map V.int))) := same_upd hu2
      have s3 : Same (upd (upd H' u (.lst (kvs.map fun kv => kV kv.1))) u2 (.lst (ls.map V.int))) (upd (upd (upd H' u (.lst (kvs.map fun kv => kV kv.1))) u2 (.lst (ls.map V.int))) u3 (.lst (ls.reverse.map V.int))) := same_upd hu3
      have sa : Same H (upd (upd (upd H' u (.lst (kvs.map fun kv => kV kv.1))) u2 (.lst (ls.map V.int))) u3 (.lst (ls.reverse.map V.int))) := fun b x hb => s3 b x (s2 b x (s1 b x (sm b x hb)))
      refine q _ u3 ls.reverse sa ?_ upd_same (fun x => ?_) (by rw [List.length_reverse, pm.length_eq]; omega)
      · cases z : H u3 with
        | none => rfl
        | some o =>
          rw [s2 u3 o (s1 u3 o (sm u3 o z))] at hu3
          cases hu3
      · rw [List.mem_reverse, pm.mem_iff, hx]
        rfl
end
end Q46
namespace Q46
open PySem PySem.Spec PyProof.Rows L2
/-! ### plain: bounds, sums, the greatest -/
namespace Pb
variable {p : Pb}
theorem gap_down (ok : Ok p) (n : Nat) : 0 ≤ p.down n ∧ p.down n ≤ 100 := by
  unfold down
  have := ok.g0
  have := ok.g1
  split <;> omega
theorem span_bd (ok : Ok p) (n : Nat) : -100 ≤ p.up n ∧ p.up n ≤ 1000 ∧ -100 ≤ p.lo n ∧ p.lo n ≤ 1000 ∧ 0 ≤ p.rate n ∧ p.rate n ≤ 100 ∧ 0 ≤ p.box n ∧ p.box n ≤ 10000 := by
  have hd := gap_down ok n
  have key : ∀ t, p.span n = t → -100 ≤ t.1 ∧ t.1 ≤ 1000 ∧ -100 ≤ t.2.1 ∧ t.2.1 ≤ 1000 ∧ 0 ≤ t.2.2.1 ∧ t.2.2.1 ≤ 100 ∧ 0 ≤ t.2.2.2 ∧ t.2.2.2 ≤ 10000 := by
    intro t ht
    subst ht
    rcases Nat.lt_or_ge n p.ss.length with h | h
    · rw [span_s (List.getElem?_eq_getElem h)]
      obtain ⟨a, b, c, d, e⟩ := ok.ss _ (List.getElem_mem h)
      unfold mx mn
      refine ⟨?_, ?_, ?_, ?_, ?_, ?_, ?_, ?_⟩ <;> (try dsimp only) <;> (try split) <;> omega
    · rcases Nat.lt_or_ge (n - p.ss.length) p.bs.length with k | k
      · rw [span_b h (List.getElem?_eq_getElem k)]
        obtain ⟨a, b, c⟩ := ok.bs _ (List.getElem_mem k)
        unfold ab
        refine ⟨?_, ?_, ?_, ?_, ?_, ?_, ?_, ?_⟩ <;> (try dsimp only) <;> (try split) <;> omega
      · have e : p.span n = (0, 0, 0, 0) := by
          unfold span
          rw [none_s h, List.getElem?_eq_none k]
        rw [e]
        simp
  exact key _ rfl
theorem heatA_bd (ok : Ok p) (n : Nat) (l : Int) (o : Bool) : 0 ≤ p.heatA n l o ∧ p.heatA n l o ≤ 200000 := by
  obtain ⟨a1, a2, a3, a4, a5, a6, a7, a8⟩ := span_bd ok n
  unfold heatA
  split
  · split <;> omega
  · have m0 : 0 ≤ mx 0 (p.up n - mx l (p.lo n)) := mx_l _ _
    have m1 : mx 0 (p.up n - mx l (p.lo n)) ≤ 1100 := mx_le.mpr ⟨by omega, by have := mx_r l (p.lo n); omega⟩
    refine ⟨Int.mul_nonneg a5 m0, ?_⟩
    have h1 : p.rate n * mx 0 (p.up n - mx l (p.lo n)) ≤ 100 * 1100 := Int.mul_le_mul a6 m1 m0 (by omega)
    omega
theorem numbers_lt {g : Bool} {n : Nat} (h : n ∈ p.numbers g) : n < p.many := by
  unfold numbers at h
  have := (List.mem_filter.mp h).1
  simpa using this
theorem numbers_len (ok : Ok p) (g : Bool) : (p.numbers g).length ≤ 12 := by
  have h1 : (p.numbers g).length ≤ (List.range p.many).length := List.length_filter_le ..
  have := many_le ok
  simp at h1
  omega
end Pb
theorem preSum_list (f : Nat → Int) : ∀ (xs : List Nat) (j : Nat), j ≤ xs.length → preSum (fun i => f (xs.getD i 0)) j = ((xs.take j).map f).sum
  | xs, 0, _ => by simp [preSum]
  | xs, j + 1, h => by
    have e : xs[j]? = some xs[j] := List.getElem?_eq_getElem (by omega)
    have e2 : f (xs.getD j 0) = f xs[j] := by rw [List.getD, e]; rfl
    rw [preSum, preSum_list f xs j (by omega), List.take_succ, e, List.map_append, List.sum_append, e2]
    simp only [Option.toList_some, List.map_cons, List.map_nil, List.sum_cons, List.sum_nil]
    omega
theorem sum_bd {f : Nat → Int} {B : Int} (hB : 0 ≤ B) (hf : ∀ n, 0 ≤ f n ∧ f n ≤ B) : ∀ xs : List Nat, 0 ≤ (xs.map f).sum ∧ (xs.map f).sum ≤ B * xs.length
  | [] => by simp
  | x :: xs => by
    have := sum_bd hB hf xs
    have h1 := hf x
    simp only [List.map_cons, List.sum_cons, List.length_cons]
    have e : B * ((xs.length + 1 : Nat) : Int) = B * xs.length + B := by
      rw [Int.natCast_add, Int.mul_add]
      simp
    rw [e]
    omega
theorem foldmx_le {α : Type} {f : α → Int} : ∀ {xs : List α} {m k : Int}, xs.foldl (fun m l => mx m (f l)) m ≤ k ↔ m ≤ k ∧ ∀ x ∈ xs, f x ≤ k
  | [], m, k => by simp
  | x :: xs, m, k => by
    rw [List.foldl_cons, foldmx_le, mx_le]
    simp
    constructor
    · rintro ⟨⟨a, b⟩, c⟩
      exact ⟨a, b, c⟩
    · rintro ⟨a, b, c⟩
      exact ⟨⟨a, b⟩, c⟩
theorem foldmx_mem {α : Type} {f : α → Int} {xs ys : List α} {m : Int} (h : ∀ x, x ∈ xs ↔ x ∈ ys) : xs.foldl (fun m l => mx m (f l)) m = ys.foldl (fun m l => mx m (f l)) m := by
  apply Int.le_antisymm
  · refine foldmx_le.mpr ⟨(foldmx_le.mp (Int.le_refl _)).1, fun x hx => (foldmx_le.mp (Int.le_refl _)).2 x ((h x).mp hx)⟩
  · refine foldmx_le.mpr ⟨(foldmx_le.mp (Int.le_refl _)).1, fun x hx => (foldmx_le.mp (Int.le_refl _)).2 x ((h x).mpr hx)⟩
theorem mx_assoc (a b c : Int) : mx (mx a b) c = mx a (mx b c) := by
  by_cases h1 : b > a <;> by_cases h2 : c > b <;> by_cases h3 : c > a <;> simp [mx, h1, h2, h3] <;> omega
section
variable {P : Program} {w : World} {K : PySem.W.Frag} {mg : Str → Option Value} {base : Heap}
/-- one of the two sums, read -/
theorem sum_read {PT : List Addr} {P2 a : Addr} {p : Pb} {l : Int} {o : Bool} {v3 : Option V} {H H1 : Hp} {Q : VK} {g : Bool} (hP : P2 ∈ PT) (hp : PbAt H a p) (ok : Ok p) (tb : Tbs PT H) (g01 : Grow PT H H1)
    (q : ∀ H', Grow PT H H' → Q (.int (((p.numbers g).map fun n => p.heatA n l o).sum)) H') :
    GX.tSumG P2 (iList K (tCall spNumbers [] E0 (tCons (tVar 0) (tCons (tC (.bl g)) tNil)))) (tCall spHeatA [] E0 (tCons (tVar 0) (tCons (tVar 4) (tCons (tVar 1) (tCons (tVar 2) tNil))))) [some (.ref a), some (.int l), some (.bl o), v3] H1 Q := by
  refine ⟨_, rfl, a, p, g, rfl, hp.keep g01.keepT, ok, fun H2 d sm hd hl => ⟨d, rfl, ⟨_, SqL.of hl⟩, ?_⟩⟩
  have g02 : Grow PT H H2 := g01.trans (Grow.of sm)
  refine ⟨tb.grow g02 P2 hP, fun H3 ht => ?_⟩
  have g23 : Grow PT H2 H3 := Grow.tabbed hP (tb.grow g02 P2 hP) ht
  have lbd := p.numbers_len ok g
  have sl : ∀ j, 0 ≤ (((p.numbers g).take j).map fun n => p.heatA n l o).sum ∧ (((p.numbers g).take j).map fun n => p.heatA n l o).sum ≤ 2400000 := fun j => by
    have h1 := sum_bd (f := fun n => p.heatA n l o) (B := 200000) (by omega) (fun n => p.heatA_bd ok n l o) ((p.numbers g).take j)
    have h2 : ((p.numbers g).take j).length ≤ 12 := by
      rw [List.length_take]
      omega
    omega
  refine ⟨(p.numbers g).length, fun i => p.heatA ((p.numbers g).getD i 0) l o, fun _ H' => Grow PT H H' ∧ H' d = some (.lst ((p.numbers g).map fun (n : Nat) => V.int n)), ⟨g02.trans g23, g23.lst hl⟩, fun j hj => ?_, fun i H' hi h => ?_, fun H' h => ?_, fun H' h => ?_⟩
  · have h1 := p.heatA_bd ok ((p.numbers g).getD j 0) l o
    have h2 := sl (j + 1)
    rw [← preSum_list (fun n => p.heatA n l o) (p.numbers g) (j + 1) hj] at h2
    refine ⟨show InLong (p.heatA ((p.numbers g).getD j 0) l o) from ⟨by omega, by omega⟩, ⟨by omega, by omega⟩⟩
  · obtain ⟨gr, hd'⟩ := h
    have en : (p.numbers g)[i]? = some (p.numbers g)[i] := List.getElem?_eq_getElem hi
    have ex : ((p.numbers g).map fun (n : Nat) => V.int n)[i]? = some (V.int ((p.numbers g)[i] : Nat)) := by
      rw [List.getElem?_map, en]
      rfl
    refine ⟨⟨_, _, SqL.of hd', ex⟩, fun y H'' hy => ?_⟩
    obtain ⟨rfl, fy⟩ := hy
    have ey : y = V.int ((p.numbers g)[i] : Nat) := Option.some.inj ((fy _ (SqL.of hd')).symm.trans ex)
    subst ey
    refine ⟨_, rfl, _, rfl, _, rfl, _, rfl, a, p, (p.numbers g)[i], l, o, rfl, hp.keep gr.keepT, ok, Pb.numbers_lt (List.getElem_mem hi), fun H5 s5 => ⟨?_, gr.trans (Grow.of s5), s5 _ _ hd'⟩⟩
    have eg : (p.numbers g).getD i 0 = (p.numbers g)[i] := by rw [List.getD, en]; rfl
    show V.int (p.heatA (p.numbers g)[i] l o) = V.int (p.heatA ((p.numbers g).getD i 0) l o)
    rw [eg]
  · obtain ⟨gr, hd'⟩ := h
    exact ⟨_, SqL.of hd', by simp⟩
  · obtain ⟨gr, hd'⟩ := h
    have := q H' gr
    rw [preSum_list (fun n => p.heatA n l o) (p.numbers g) _ (Nat.le_refl _), List.take_length]
    exact this
def spNeedA (PT : List Addr) : Sp := fun vs H Q _ => ∃ (a : Addr) (p : Pb) (l : Int) (o : Bool), vs = [.ref a, .int l, .bl o] ∧ PbAt H a p ∧ Ok p ∧ Tbs PT H ∧ ∀ H', Grow PT H H' → Q (.int (p.needA l o)) H'
theorem ok_needA (T : Tx K mg) {PT : List Addr} {c P2 : Addr} (hP : P2 ∈ PT) (TB : GxR.TabB base mg c P2) (hcode : T.dNeedAbove.code = .ref c) : FnOk P w K mg base CX0 5 T.fNeedAbove T.dNeedAbove ["problem", "level", "is_open"] (spNeedA PT) := by
  have Gn : FnOk P w K mg base CX0 2 T.fNumbersOf T.dNumbersOf ["problem", "are_givers"] spNumbers := ok_numbers T
  have Gh : FnOk P w K mg base CX0 3 T.fHeatAbove T.dHeatAbove ["problem", "number", "level", "is_open"] spHeatA := ok_heatA T
  refine Fun.okC T.DNeedAbove.F hcode scNeedAbove (fun vs H Q E h => ?_) (fun A outer s H vs Q E hr h => ?_)
  · obtain ⟨a, p, l, o, rfl, _⟩ := h
    rfl
  · obtain ⟨a, p, l, o, rfl, hp, ok, tb, q⟩ := h
    have hr2 : Room 2 _ := hr.mono (by decide)
    refine ⟨_, (pss_cons (ps_set (i := 3) scNeedAbove.nd rfl (.inl rfl) (GX.pe_sumG (k := 3) hr (by rfl) T.B.sum_ (by decide +kernel) TB rfl (by show GX.GenB ["problem", "level", "is_open", "taken"] (defScope sNeedAbove) _ "number"; exact ⟨rfl, rfl, by decide +kernel, rfl, rfl, by decide +kernel, by decide +kernel, by decide +kernel⟩) (pi_list (pe_call Gn hr2 (by rfl) T.DNumbersOf.g T.DNumbersOf.F.kp T.DNumbersOf.b .nil pass0 (pa_cons (pv 0) (pa_cons pe_bl pa_nil)))) (fun A' s H C code fp pn hr' => (pe_call Gh hr' (by rfl) T.DHeatAbove.g T.DHeatAbove.F.kp T.DHeatAbove.b .nil pass0 (pa_cons (pv 0) (pa_cons (pv 4) (pa_cons (pv 1) (pa_cons (pv 2) pa_nil)))))) (fun _ => rfl))) (pss_one (ps_ret (pe_op op_sub (pv 3) (GX.pe_sumG (k := 3) hr (by rfl) T.B.sum_ (by decide +kernel) TB rfl (by show GX.GenB ["problem", "level", "is_open", "taken"] (defScope sNeedAbove) _ "number"; exact ⟨rfl, rfl, by decide +kernel, rfl, rfl, by decide +kernel, by decide +kernel, by decide +kernel⟩) (pi_list (pe_call Gn hr2 (by rfl) T.DNumbersOf.g T.DNumbersOf.F.kp T.DNumbersOf.b .nil pass0 (pa_cons (pv 0) (pa_cons pe_bl pa_nil)))) (fun A' s H C code fp pn hr' => (pe_call Gh hr' (by rfl) T.DHeatAbove.g T.DHeatAbove.F.kp T.DHeatAbove.b .nil pass0 (pa_cons (pv 0) (pa_cons (pv 4) (pa_cons (pv 1) (pa_cons (pv 2) pa_nil)))))) (fun _ => rfl)))))), ?_⟩
    unfold tSeq tAsg
    refine sum_read (g := false) hP hp ok tb (Grow.refl _ _) fun H1 g1 => ?_
    refine ⟨_, rfl, sum_read (g := true) hP hp ok tb g1 fun H2 g2 => ?_⟩
    exact ⟨_, _, rfl, rfl, q _ g2⟩
def spHeating (PT : List Addr) : Sp := fun vs H Q _ => ∃ (a : Addr) (p : Pb), vs = [.ref a] ∧ PbAt H a p ∧ Ok p ∧ Tbs PT H ∧ ∀ H', Grow PT H H' → Q (.int p.heat) H'
theorem ok_heating (T : Tx K mg) {PT : List Addr} {c P2 : Addr} (hP : P2 ∈ PT) (TB : GxR.TabB base mg c P2) (hcode : T.dNeedAbove.code = .ref c) : FnOk P w K mg base CX0 6 T.fHeatingOf T.dHeatingOf ["problem"] (spHeating PT) := by
  have Gl : FnOk P w K mg base CX0 3 T.fLevelsOf T.dLevelsOf ["problem"] spLevels := ok_levels T
  have Gn : FnOk P w K mg base CX0 5 T.fNeedAbove T.dNeedAbove ["problem", "level", "is_open"] (spNeedA PT) := ok_needA T hP TB hcode
  refine T.DHeatingOf.F.ok scHeatingOf (fun vs H Q E h => ?_) (fun cdv A outer s H vs Q E hr h => ?_)
  · obtain ⟨a, p, rfl, _⟩ := h
    rfl
  · obtain ⟨a, p, rfl, hp, ok, tb, q⟩ := h
    have hr3 : Room 3 _ := hr.mono (by decide)
    refine ⟨_, (pss_cons (ps_set (i := 1) scHeatingOf.nd rfl (.inl rfl) pe_int) (pss_cons (ps_for PassesOwn.never rfl (pi_list (pe_call Gl hr3 (by rfl) T.DLevelsOf.g T.DLevelsOf.F.kp T.DLevelsOf.b .nil pass0 (pa_cons (pv 0) pa_nil))) (pg_name (i := 2) scHeatingOf.nd rfl (.inl rfl)) (pss_one (ps_set (i := 1) scHeatingOf.nd rfl (.inl rfl) (pe_callB (KX.call_max3 rfl) (by rfl) T.B.max_ (by decide +kernel) (pa_cons (pv 1) (pa_cons (pe_call Gn hr (by rfl) T.DNeedAbove.g T.DNeedAbove.F.kp T.DNeedAbove.b .nil pass0 (pa_cons (pv 0) (pa_cons (pv 2) (pa_cons pe_bl pa_nil)))) (pa_cons (pe_call Gn hr (by rfl) T.DNeedAbove.g T.DNeedAbove.F.kp T.DNeedAbove.b .nil pass0 (pa_cons (pv 0) (pa_cons (pv 2) (pa_cons pe_bl pa_nil)))) pa_nil))))))) (pss_one (ps_ret (pv 1))))), ?_⟩
    refine ⟨_, rfl, a, p, rfl, hp, ok, fun H1 d ls s1 hd hl hx _ => ⟨d, rfl, ⟨_, SqL.of hl⟩, ?_⟩⟩
    refine for_list (xs := ls.map V.int) (fun i σ H' => (∃ v2, σ = [some (.ref a), some (.int ((ls.take i).foldl (fun m l => mx m (p.both l)) 0)), v2]) ∧ Grow PT H H' ∧ H' d = some (.lst (ls.map V.int))) ⟨⟨none, rfl⟩, Grow.of s1, hl⟩ (fun i σ H' _ h => SqL.of h.2.2) (fun i x σ H' hi h => ?_) (fun σ H' h => ?_)
    · obtain ⟨⟨v2, rfl⟩, g, hd'⟩ := h
      obtain ⟨l, hl', rfl⟩ : ∃ l, ls[i]? = some l ∧ V.int l = x := by
        rw [List.getElem?_map] at hi
        exact Option.map_eq_some_iff.mp hi
      refine ⟨_, rfl, _, rfl, _, rfl, a, p, l, true, rfl, hp.keep g.keepT, ok, tb.grow g, fun H2 g2 => ?_⟩
      have g02 := g.trans g2
      refine ⟨_, rfl, _, rfl, a, p, l, false, rfl, hp.keep g02.keepT, ok, tb.grow g02, fun H3 g3 => ?_⟩
      refine ⟨_, _, _, rfl, ⟨some (.int l), ?_⟩, g02.trans g3, (g2.trans g3).lst hd'⟩
      rw [List.take_succ, hl', List.foldl_append]
      simp only [Option.toList_some, List.foldl_cons, List.foldl_nil]
      show [some (V.ref a), some (V.int (mx (mx _ (p.needA l true)) (p.needA l false))), some (V.int l)] = [some (V.ref a), some (V.int (mx _ (mx (p.needA l true) (p.needA l false)))), some (V.int l)]
      rw [mx_assoc]
    · obtain ⟨⟨v2, rfl⟩, g, hd'⟩ := h
      refine ⟨_, rfl, ?_⟩
      have := q H' g
      rw [List.length_map, List.take_length, foldmx_mem hx]
      exact this
end
end Q46
namespace Q46
open PySem PySem.Spec PyProof.Rows L2
/-- what the written part says of the class TooMany (at C; its __init__ at fI), and of HeatError -/
structure TMk (K : PySem.W.Frag) (mg : Str → Option Value) (C fI CH : Addr) (fd : FuncData) : Prop where
  g : mg "TooMany" = some (.ref C)
  O : OexC K C
  no : PySem.W.findIn K (.ref C) "most" = some none
  iC : PySem.W.findIn K (.ref C) "__init__" = some (some (.ref fI))
  tI : PySem.W.typeIn K (.ref fI) = some (.type "function")
  F : Fun K "__init__" "TooMany.__init__" sInit fI fd
  b : Binds K fd ["self", "most"] []
  xf : XfC K C
  ec : ExcC K C
  gH : mg "HeatError" = some (.ref CH)
  te : PySem.W.exmOne K (.ref C) (.ref CH) = some true
  kit : PySem.W.kitOne K (.ref C) (.ref C) = some true
section
variable {P : Program} {w : World} {K : PySem.W.Frag} {mg : Str → Option Value} {base : Heap}
def spInit (K : PySem.W.Frag) : Sp := fun vs H Q _ => ∃ (a C : Addr) (v : V), vs = [.ref a, v] ∧ OexC K C ∧ PySem.W.findIn K (.ref C) "most" = some none ∧ H a = some (exo a C none) ∧
  ∀ d, H d = none → d ≠ a → Q .non (upd (upd H d (exd d [("most", v)])) a (exo a C (some d)))
theorem ok_init {C fI CH : Addr} {fd : FuncData} (M : TMk K mg C fI CH fd) : FnOk P w K mg base CX0 1 fI fd ["self", "most"] (spInit K) := by
  refine M.F.ok scInit (fun vs H Q E h => ?_) (fun cdv A outer s H vs Q E hr h => ?_)
  · obtain ⟨a, C, v, rfl, _⟩ := h
    rfl
  · obtain ⟨a, C, v, rfl, hO, no, ha, q⟩ := h
    refine ⟨_, (pss_one (ps_ost (pv 0) (pv 1))), ?_⟩
    exact ⟨_, rfl, _, rfl, a, C, rfl, hO, no, .inl ⟨ha, fun d hd ne => q d hd ne⟩⟩
def spMore (C : Addr) : Sp := fun vs H Q E => ∃ (a b : Addr) (p : Pb) (us : List V) (l : List (Int × Int)), vs = [.ref a, .ref b] ∧ PbAt H a p ∧ p.bs.length ≤ 4 ∧ l.length ≤ 4 ∧ H b = some (.lst us) ∧ Refs T2 H us l ∧
  (4 < p.bs.length + l.length → ∀ H' d, Same H H' → H' d = some (.xd [("most", .int 4)]) → E (.ref C) (some d) H') ∧
  (p.bs.length + l.length ≤ 4 → ∀ H' q, Same H H' → PbAt H' q (p.more l) → Q (.ref q) H')
theorem ok_more (T : Tx K mg) {C fI CH : Addr} {fd : FuncData} (M : TMk K mg C fI CH fd) : FnOk P w K mg base (L2.CX P w) 3 T.fWithMore T.dWithMore ["problem", "boxes"] (spMore C) := by
  have Gi : FnOk P w K mg base CX0 1 fI fd ["self", "most"] (spInit K) := ok_init M
  obtain ⟨t2, hmb⟩ := T.B.cMOST_BOXES
  refine T.DWithMore.F.okX scWithMore (fun vs H Q E h => ?_) (fun cdv A outer s H vs Q E hr h => ?_)
  · obtain ⟨a, b, p, us, l, rfl, _⟩ := h
    rfl
  · obtain ⟨a, b, p, us, l, rfl, hp, p4, l4, hb, rl, qe, qq⟩ := h
    refine ⟨_, (pss_cons (ps_if (pt_cmpR op_gt (pe_op op_add (pe_callB call_len_seq (by rfl) T.B.len_ PySem.boot_len (pa_cons (pe_ix ix_tup (pv 0) pe_int (fun _ _ => rfl)) pa_nil)) (pe_callB call_len_seq (by rfl) T.B.len_ PySem.boot_len (pa_cons (pv 1) pa_nil))) (pe_glob (v := .int 4) (by rfl) hmb ⟨_, rfl⟩) (nomark _)) (pss_one (ps_raise rfl (takes_of rfl rfl rfl rfl) (pmk_oex M.O M.iC M.tI Gi hr M.b .nil pass0 (by rfl) M.g (pa_cons (pe_glob (v := .int 4) (by rfl) hmb ⟨_, rfl⟩) pa_nil)))) pss_nil) (pss_one (ps_ret (pe_tup (pa_cons (pe_ix ix_tup (pv 0) pe_int (fun _ _ => rfl)) (pa_cons (pe_op op_catA (pe_ix ix_tup (pv 0) pe_int (fun _ _ => rfl)) (pe_callTy call_tuple_of (by rfl) T.B.tuple_ (by decide +kernel) (pa_cons (pv 1) pa_nil))) (pa_cons (pe_ix ix_tup (pv 0) pe_int (fun _ _ => rfl)) pa_nil))))))), ?_⟩
    obtain ⟨ps, pb, e, ⟨vss, es, rs⟩, ⟨vbs, eb, rb⟩⟩ := hp
    have hS : SqT K H a [.ref ps, .ref pb, .int p.gap] := SqT.of e
    have el : us.length = l.length := rl.len
    have el2 : vbs.length = p.bs.length := rb.len
    refine ⟨_, rfl, _, _, 1, .ref pb, rfl, rfl, hS, atI_nat (j := 1) rfl, _, _, rfl, .inr (SqT.of eb), _, rfl, _, _, rfl, .inl (SqL.of hb), _, _, rfl, rfl, _, _, rfl, rfl, _, rfl, goE (fun z => ?_) (fun z => ?_)⟩
    · have hlt : 4 < p.bs.length + l.length := by
        simp at z
        omega
      refine ⟨by show 1 ≤ 1000; decide, fun x hx => ⟨x, C, .int 4, rfl, M.O, M.no, upd_same, fun d hd ne => ⟨rfl, d, [("most", .int 4)], upd_same, ?_, ?_, ?_⟩⟩⟩
      · rw [upd_ne ne, upd_same]
      · rw [upd_ne ne] at hd
        exact hd
      · rw [upd_ne ne] at hd
        refine qe hlt _ d (fun c o hc => ?_) upd_same
        have c1 : c ≠ d := ne_of_none hc hd
        have c2 : c ≠ x := ne_of_none hc hx
        rw [upd_ne c1, del_ne c2, upd_ne c2, upd_ne c1, upd_ne c2]
        exact hc
    · have hle : p.bs.length + l.length ≤ 4 := by
        simp at z
        omega
      refine ⟨_, rfl, _, _, 0, .ref ps, rfl, rfl, hS, atI_nat (j := 0) rfl, _, rfl, _, _, 1, .ref pb, rfl, rfl, hS, atI_nat (j := 1) rfl, _, rfl, b, us, rfl, .inl ⟨SqL.of hb, fun t ht => ?_⟩⟩
      have s1 : Same H (upd H t (.tup us)) := same_upd ht
      have k1 := Same.keepT s1
      have fin : ∀ (H2 : Hp) (q : Addr) (vs2 : List V), Same H H2 → H2 q = some (.tup vs2) → Refs T2 H2 vs2 (p.bs ++ l) → ∀ r, H2 r = none → Q (.ref r) (upd H2 r (.tup [.ref ps, .ref q, .int p.gap])) := fun H2 q vs2 s2 hq rq r hr2 => by
        have s3 : Same H2 (upd H2 r (.tup [.ref ps, .ref q, .int p.gap])) := same_upd hr2
        have s4 : Same H (upd H2 r (.tup [.ref ps, .ref q, .int p.gap])) := fun c o hc => s3 c o (s2 c o hc)
        refine qq hle _ r s4 ⟨ps, q, upd_same, ⟨vss, s4 _ _ es, rs.imp (T3.keep (Same.keepT s4))⟩, ⟨vs2, s3 _ _ hq, rq.imp (T2.keep (Same.keepT s3))⟩⟩
      refine ⟨pb, t, vbs, us, rfl, rfl, SqT.of (s1 _ _ eb), SqT.of upd_same, by show _ ≤ 16777216; omega, fun z1 => ?_, fun z1 z2 => ?_, fun z1 z2 q hq => ?_⟩
      · have hb0 : p.bs = [] := by
          cases h : p.bs with
          | nil => rfl
          | cons x y => rw [h, z1] at el2; simp at el2
        refine ⟨_, rfl, _, _, 2, .int p.gap, rfl, rfl, SqT.of (s1 _ _ e), atI_nat (j := 2) rfl, (by show 3 ≤ sizeLine; decide), fin _ t us s1 upd_same ?_⟩
        rw [hb0, List.nil_append]
        exact rl.imp (T2.keep k1)
      · have hb0 : l = [] := by
          cases h : l with
          | nil => rfl
          | cons x y => rw [h, z2] at el; simp at el
        refine ⟨_, rfl, _, _, 2, .int p.gap, rfl, rfl, SqT.of (s1 _ _ e), atI_nat (j := 2) rfl, (by show 3 ≤ sizeLine; decide), fin _ pb vbs s1 (s1 _ _ eb) ?_⟩
        rw [hb0, List.append_nil]
        exact rb.imp (T2.keep k1)
      · have s2 : Same (upd H t (.tup us)) (upd (upd H t (.tup us)) q (.tup (vbs ++ us))) := same_upd hq
        have s12 : Same H (upd (upd H t (.tup us)) q (.tup (vbs ++ us))) := fun c o hc => s2 c o (s1 c o hc)
        refine ⟨_, rfl, _, _, 2, .int p.gap, rfl, rfl, SqT.of (s12 _ _ e), atI_nat (j := 2) rfl, (by show 3 ≤ sizeLine; decide), fin _ q _ s12 upd_same ?_⟩
        exact (rb.imp (T2.keep (Same.keepT s12))).append (rl.imp (T2.keep (Same.keepT s12)))
end
end Q46
namespace Q46
open PySem PySem.Spec PyProof.Rows L2
def bx (q : S3 × Int) : List (Int × Int) := [(q.1.1 + q.2, 0 - q.1.2.2), (q.1.2.1 + q.2, q.1.2.2)]
def sy (q : S3 × Int) : Bool := decide (0 ≤ q.1.2.1 + q.2) && decide (q.1.1 + q.2 ≤ 1000)
theorem boxesOf_eq (cs : List S3) (sh : List Int) : boxesOf cs sh = (cs.zip sh).flatMap bx := rfl
theorem stays_eq (cs : List S3) (sh : List Int) : stays cs sh = (cs.zip sh).all sy := rfl
theorem take_more {α : Type} {l : List α} {i : Nat} {x : α} (h : l[i]? = some x) : l.take (i + 1) = l.take i ++ [x] := by
  rw [List.take_succ, h]
  rfl
theorem flatMap_len2 : ∀ zs : List (S3 × Int), (zs.flatMap bx).length = 2 * zs.length
  | [] => rfl
  | z :: zs => by
    rw [List.flatMap_cons, List.length_append, flatMap_len2 zs, List.length_cons]
    show 2 + _ = _
    omega
section
variable {P : Program} {w : World} {K : PySem.W.Frag} {mg : Str → Option Value} {base : Heap}
def spShifted : Sp := fun vs H Q _ => ∃ (a b : Addr) (cs : List S3) (sh : List Int), vs = [.ref a, .ref b] ∧ TupR T3 H a cs ∧ TI H b sh ∧ cs.length = sh.length ∧ cs.length ≤ 2 ∧
  (stays cs sh = false → ∀ H', Same H H' → Q .non H') ∧ (stays cs sh = true → ∀ H' r us, Same H H' → H' r = some (.lst us) → Refs T2 H' us (boxesOf cs sh) → Q (.ref r) H')
theorem ok_shifted (T : Tx K mg) : FnOk P w K mg base CX0 1 T.fShifted T.dShifted ["columns", "shifts"] spShifted := by
  obtain ⟨tt, htemp⟩ := T.B.cMOST_TEMPERATURE
  refine T.DShifted.F.ok scShifted (fun vs H Q E h => ?_) (fun cdv A outer s H vs Q E hr h => ?_)
  · obtain ⟨a, b, cs, sh, rfl, _⟩ := h
    rfl
  · obtain ⟨a, b, cs, sh, rfl, ⟨vcs, ea, rc⟩, eb, hl, h2, qn, qq⟩ := h
    refine ⟨_, (pss_cons (ps_set (i := 2) scShifted.nd rfl (.inl rfl) (pe_lst pa_nil)) (pss_cons (ps_for PassesOwn.never rfl (RZ.pi_zipA (by rfl) T.B.zip_ (pa_cons (pv 0) (pa_cons (pv 1) pa_nil))) (pg_tup (by rfl) (pgs_cons (pg_tup (by rfl) (pgs_cons (pg_name (i := 3) scShifted.nd rfl (.inl rfl)) (pgs_cons (pg_name (i := 4) scShifted.nd rfl (.inl rfl)) (pgs_cons (pg_name (i := 5) scShifted.nd rfl (.inl rfl)) pgs_nil)))) (pgs_cons (pg_name (i := 6) scShifted.nd rfl (.inl rfl)) pgs_nil))) (pss_cons (ps_if (PW.pt (pw_or (pt_cmpR op_lt (pe_op op_add (pv 4) (pv 6)) pe_int (nomark _)) (pw_or1 (pt_cmpR op_gt (pe_op op_add (pv 3) (pv 6)) (pe_glob (v := .int 1000) (by rfl) htemp ⟨_, rfl⟩) (nomark _))))) (pss_one (ps_ret pe_non)) pss_nil) (pss_one (ps_set (i := 2) scShifted.nd rfl (.inl rfl) (pe_op op_cat (pv 2) (pe_lst (pa_cons (pe_tup (pa_cons (pe_op op_add (pv 3) (pv 6)) (pa_cons (pe_op op_sub pe_int (pv 5)) pa_nil))) (pa_cons (pe_tup (pa_cons (pe_op op_add (pv 4) (pv 6)) (pa_cons (pv 5) pa_nil))) pa_nil)))))))) (pss_one (ps_ret (pv 2))))), ?_⟩
    refine ⟨by show 0 ≤ sizeLine; exact Nat.zero_le _, fun r0 hr0 => ?_⟩
    have s0 : Same H (upd H r0 (.lst [])) := same_upd hr0
    have hlv : vcs.length = (sh.map V.int).length := by rw [rc.len, List.length_map, hl]
    have hzl : (cs.zip sh).length = cs.length := by rw [List.length_zip]; omega
    refine ⟨_, rfl, _, rfl, a, b, vcs, sh.map V.int, rfl, .inr ⟨SqT.of (s0 _ _ ea), SqT.of (s0 _ _ eb), RZ.for_zipT hlv (fun i σ H' => (∃ r v3 v4 v5 v6, σ = [some (.ref a), some (.ref b), some (.ref r), v3, v4, v5, v6] ∧ ∃ us, H' r = some (.lst us) ∧ Refs T2 H' us (((cs.zip sh).take i).flatMap bx)) ∧ Same H H' ∧ ((cs.zip sh).take i).all sy = true)
      ⟨⟨r0, none, none, none, none, rfl, [], upd_same, .nil⟩, s0, rfl⟩ (fun i σ H' h => ⟨SqT.of (h.2.1 _ _ ea), SqT.of (h.2.1 _ _ eb)⟩) (fun i x y U σ H' hx hy h hU => ?_) (fun σ H' h => ?_)⟩⟩
    · obtain ⟨⟨r, v3, v4, v5, v6, rfl, us, hr', ru⟩, sm, al⟩ := h
      obtain ⟨d, t, rfl, ht, hd⟩ := rc.get' hx
      obtain ⟨z, hz, rfl⟩ : ∃ z, sh[i]? = some z ∧ V.int z = y := by
        rw [List.getElem?_map] at hy
        exact Option.map_eq_some_iff.mp hy
      have hq : (cs.zip sh)[i]? = some (t, z) := List.getElem?_zip_eq_some.mpr ⟨ht, hz⟩
      have sU : Same H' (upd H' U (.tup [.ref d, .int z])) := same_upd hU
      refine ⟨_, _, rfl, SqT.of upd_same, rfl, _, _, rfl, ⟨_, _, rfl, SqT.of (sU _ _ (sm _ _ hd)), rfl, _, _, rfl, _, _, rfl, _, _, rfl, rfl, _, _, rfl, rfl, ?_⟩⟩
      have bad : sy (t, z) = false → stays cs sh = false := fun hb => by
        rw [stays_eq]
        refine Bool.eq_false_iff.mpr fun h => ?_
        rw [List.all_eq_true.mp h _ (List.mem_of_getElem? hq)] at hb
        cases hb
      have sm1 : Same H (upd H' U (.tup [.ref d, .int z])) := fun c o hc => sU c o (sm c o hc)
      refine ⟨_, rfl, _, rfl, _, _, rfl, rfl, _, _, rfl, rfl, _, rfl, goE (fun c1 => ?_) (fun c1 => ?_)⟩
      · have c1' : t.2.1 + z < 0 := by simpa using c1
        skip
        exact qn (bad (by simp [sy]; omega)) _ sm1
      · have c1' : ¬ t.2.1 + z < 0 := by simpa using c1
        refine ⟨_, rfl, _, rfl, _, _, rfl, rfl, _, _, rfl, rfl, _, rfl, goE (fun c2 => ?_) (fun c2 => ?_)⟩
        · have c2' : 1000 < t.1 + z := by simpa using c2
          skip
          exact qn (bad (by simp [sy]; omega)) _ sm1
        · have c2' : ¬ 1000 < t.1 + z := by simpa using c2
          refine ⟨_, rfl, _, rfl, _, rfl, _, _, rfl, rfl, _, rfl, _, _, rfl, rfl, (by show 2 ≤ sizeLine; decide), fun p1 n1 => ?_⟩
          have u1 : Same _ (upd (upd H' U (.tup [.ref d, .int z])) p1 (.tup [.int (t.1 + z), .int (0 - t.2.2)])) := same_upd n1
          refine ⟨_, rfl, _, rfl, _, _, rfl, rfl, _, rfl, (by show 2 ≤ sizeLine; decide), fun p2 n2 => ?_⟩
          have u2 : Same _ (upd (upd (upd H' U (.tup [.ref d, .int z])) p1 (.tup [.int (t.1 + z), .int (0 - t.2.2)])) p2 (.tup [.int (t.2.1 + z), .int t.2.2])) := same_upd n2
          refine ⟨(by show 2 ≤ sizeLine; decide), fun p3 n3 => ?_⟩
          have u3 : Same _ (upd (upd (upd (upd H' U (.tup [.ref d, .int z])) p1 (.tup [.int (t.1 + z), .int (0 - t.2.2)])) p2 (.tup [.int (t.2.1 + z), .int t.2.2])) p3 (.lst [.ref p1, .ref p2])) := same_upd n3
          have u03 : Same H' (upd (upd (upd (upd H' U (.tup [.ref d, .int z])) p1 (.tup [.int (t.1 + z), .int (0 - t.2.2)])) p2 (.tup [.int (t.2.1 + z), .int t.2.2])) p3 (.lst [.ref p1, .ref p2])) := fun c o hc => u3 c o (u2 c o (u1 c o (sU c o hc)))
          have lus : us.length ≤ 4 := by
            rw [ru.len, flatMap_len2, List.length_take]
            omega
          refine ⟨_, _, us, [.ref p1, .ref p2], rfl, rfl, u03 _ _ hr', upd_same, (by show us.length + 2 ≤ 16777216; omega), fun p4 n4 => ?_⟩
          have u4 : Same _ (upd (upd (upd (upd (upd H' U (.tup [.ref d, .int z])) p1 (.tup [.int (t.1 + z), .int (0 - t.2.2)])) p2 (.tup [.int (t.2.1 + z), .int t.2.2])) p3 (.lst [.ref p1, .ref p2])) p4 (.lst (us ++ [.ref p1, .ref p2]))) := same_upd n4
          refine ⟨⟨p4, _, _, _, _, rfl, us ++ [.ref p1, .ref p2], upd_same, ?_⟩, fun c o hc => u4 c o (u03 c o (sm c o hc)), ?_⟩
          · rw [take_more hq, List.flatMap_append]
            refine (ru.imp (fun c x hc => u4 _ _ (u03 _ _ hc))).append ?_
            show Refs T2 _ [.ref p1, .ref p2] [(t.1 + z, 0 - t.2.2), (t.2.1 + z, t.2.2)]
            exact .cons ⟨p1, rfl, u4 _ _ (u3 _ _ (u2 _ _ upd_same))⟩ (.cons ⟨p2, rfl, u4 _ _ (u3 _ _ upd_same)⟩ .nil)
          · rw [take_more hq, List.all_append, al]
            simp [sy]
            omega
    · obtain ⟨⟨r, v3, v4, v5, v6, rfl, us, hr', ru⟩, sm, al⟩ := h
      have e : (cs.zip sh).take vcs.length = cs.zip sh := List.take_of_length_le (by rw [rc.len]; omega)
      rw [e] at ru al
      exact ⟨_, rfl, qq al _ r us sm hr' ru⟩
end
end Q46
namespace Q46
open PySem PySem.Spec PyProof.Rows L2
/-- a loop of a comprehension by a state over (turn, heap) -/
theorem loopW {J : It} {F : Hp → Prop} {B : (Hp → Prop) → V → Hp → Prop} {H0 : Hp} (N : Nat) (Pv : Nat → Hp → Prop) (h0 : Pv 0 H0) (hs : ∀ i H, i < N → Pv i H → J.go i H ∧ ∀ x H', J.yld i H x H' → B (Pv (i + 1)) x H') (hd : ∀ H, Pv N H → J.stop N H ∧ F H) :
    ∃ W : Nat → Nat → Hp → Prop, (∃ m, W 0 m H0) ∧ ∀ i m H, W i m H → (J.stop i H ∧ F H) ∨ (J.go i H ∧ ∃ Nx : Hp → Prop, (∀ H', Nx H' → ∃ m', m' < m ∧ W (i + 1) m' H') ∧ ∀ x H', J.yld i H x H' → B Nx x H') := by
  refine ⟨fun i m H => m = N - i ∧ i ≤ N ∧ Pv i H, ⟨N, by simp, Nat.zero_le _, h0⟩, ?_⟩
  rintro i m H ⟨rfl, hi, p⟩
  by_cases hlt : i < N
  · obtain ⟨g, y⟩ := hs i H hlt p
    exact .inr ⟨g, Pv (i + 1), fun H' p' => ⟨N - (i + 1), by omega, rfl, hlt, p'⟩, y⟩
  · have e : i = N := by omega
    subst e
    exact .inl (hd H p)
theorem itt_go {K : PySem.W.Frag} {a : Addr} {xs : List V} {i : Nat} {H : Hp} (h : SqT K H a xs) (hi : i < xs.length) : (Itt K a).go i H := ⟨xs, xs[i], h, List.getElem?_eq_getElem hi⟩
theorem itl_go {K : PySem.W.Frag} {a : Addr} {xs : List V} {i : Nat} {H : Hp} (h : SqL K H a xs) (hi : i < xs.length) : (Itl K a).go i H := ⟨xs, xs[i], h, List.getElem?_eq_getElem hi⟩
theorem itt_yld {K : PySem.W.Frag} {a : Addr} {xs : List V} {i : Nat} {H H' : Hp} {x : V} (h : SqT K H a xs) (y : (Itt K a).yld i H x H') : H' = H ∧ xs[i]? = some x := ⟨y.1, y.2 xs h⟩
theorem itl_yld {K : PySem.W.Frag} {a : Addr} {xs : List V} {i : Nat} {H H' : Hp} {x : V} (h : SqL K H a xs) (y : (Itl K a).yld i H x H') : H' = H ∧ xs[i]? = some x := ⟨y.1, y.2 xs h⟩
theorem itt_stop {K : PySem.W.Frag} {a : Addr} {xs : List V} {i : Nat} {H : Hp} (h : SqT K H a xs) (hi : xs.length ≤ i) : (Itt K a).stop i H := ⟨xs, h, hi⟩
theorem itl_stop {K : PySem.W.Frag} {a : Addr} {xs : List V} {i : Nat} {H : Hp} (h : SqL K H a xs) (hi : xs.length ≤ i) : (Itl K a).stop i H := ⟨xs, h, hi⟩
/-! ### rows -/
def stepR (lo hi : Int) (rows : List (List Int)) : List (List Int) := rows.flatMap fun row => (rangeL lo hi).map fun s => row ++ [s]
theorem rowsOf_snoc (lo hi : Int) (cs : List S3) (c : S3) : rowsOf lo hi (cs ++ [c]) = stepR lo hi (rowsOf lo hi cs) := by
  unfold rowsOf
  rw [List.foldl_append]
  rfl
theorem rangeL_len (lo hi : Int) : (rangeL lo hi).length = (hi + 1 - lo).toNat := by simp [rangeL]
theorem rangeL_get {lo hi : Int} {j : Nat} (h : j < (hi + 1 - lo).toNat) : (rangeL lo hi)[j]? = some (lo + (j : Int)) := by
  unfold rangeL
  rw [List.getElem?_map, List.getElem?_range h]
  rfl
theorem stepR_len (lo hi : Int) : ∀ rows : List (List Int), (stepR lo hi rows).length = rows.length * (hi + 1 - lo).toNat
  | [] => by simp [stepR]
  | r :: rows => by
    have := stepR_len lo hi rows
    unfold stepR at *
    rw [List.flatMap_cons, List.length_append, this, List.length_map, rangeL_len, List.length_cons, Nat.add_mul, Nat.one_mul, Nat.add_comm]
theorem stepR_row {lo hi : Int} {n : Nat} {rows : List (List Int)} (h : ∀ r ∈ rows, r.length = n) : ∀ r ∈ stepR lo hi rows, r.length = n + 1 := by
  intro r hr
  unfold stepR at hr
  obtain ⟨q, hq, hr⟩ := List.mem_flatMap.mp hr
  obtain ⟨s, _, rfl⟩ := List.mem_map.mp hr
  rw [List.length_append, h q hq]
  rfl
theorem rowsOf_row (lo hi : Int) (cs : List S3) : ∀ i, i ≤ cs.length → ∀ r ∈ rowsOf lo hi (cs.take i), r.length = i := by
  intro i
  induction i with
  | zero =>
    intro _ r hr
    have e : r = [] := by simpa [rowsOf] using hr
    rw [e]
    rfl
  | succ i ih =>
    intro h r hr
    rw [take_more (List.getElem?_eq_getElem (show i < cs.length by omega)), rowsOf_snoc] at hr
    exact stepR_row (ih (by omega)) r hr
theorem rowsOf_len1 (lo hi : Int) (cs : List S3) (i : Nat) (h1 : i ≤ 1) (h2 : i ≤ cs.length) (hn : (hi + 1 - lo).toNat ≤ 101) : (rowsOf lo hi (cs.take i)).length ≤ 101 := by
  match i, h1 with
  | 0, _ => simp [rowsOf]
  | 1, _ =>
    rw [take_more (List.getElem?_eq_getElem (show 0 < cs.length by omega)), rowsOf_snoc, stepR_len]
    simp [rowsOf]
    omega
/-- the best so far, as a value -/
def FoundAt (H : Hp) (v : V) (best : Option (List Int × Int)) : Prop := (v = .non ∧ best = none) ∨ ∃ f r row heat, v = .ref f ∧ H f = some (.tup [.ref r, .int heat]) ∧ TI H r row ∧ best = some (row, heat) ∧ row.length ≤ 2
theorem FoundAt.keep {H H' : Hp} {v : V} {best : Option (List Int × Int)} (h : FoundAt H v best) (k : KeepT H H') : FoundAt H' v best := by
  rcases h with ⟨e, b⟩ | ⟨f, r, row, heat, e, hf, hr, b, b2⟩
  · exact .inl ⟨e, b⟩
  · exact .inr ⟨f, r, row, heat, e, k _ _ hf, k _ _ hr, b, b2⟩
/-- the boxes of columns that stay within are boxes -/
theorem more_ok {p : Pb} (ok : Ok p) {cs : List S3} {sh : List Int} (hc : ∀ c ∈ cs, okC c) (hl : cs.length = sh.length) (h4 : p.bs.length + 2 * cs.length ≤ 6) (st : stays cs sh = true) : Ok (p.more (boxesOf cs sh)) := by
  refine ⟨ok.s6, ?_, ok.ss, ?_, ok.g0, ok.g1, ?_⟩
  · show (p.bs ++ boxesOf cs sh).length ≤ 6
    rw [List.length_append, boxesOf_eq, flatMap_len2, List.length_zip]
    omega
  · intro b hb
    have hb : b ∈ p.bs ++ boxesOf cs sh := hb
    rcases List.mem_append.mp hb with hb | hb
    · exact ok.bs b hb
    · rw [boxesOf_eq] at hb
      obtain ⟨q, hq, hb⟩ := List.mem_flatMap.mp hb
      rw [stays_eq] at st
      have s := List.all_eq_true.mp st q hq
      obtain ⟨⟨c1, c2⟩, ⟨c3, c4⟩, c5, c6⟩ := hc q.1 (List.of_mem_zip (a := q.1) (b := q.2) hq).1
      simp [sy] at s
      have hb' : b = (q.1.1 + q.2, 0 - q.1.2.2) ∨ b = (q.1.2.1 + q.2, q.1.2.2) := by simpa [bx] using hb
      rcases hb' with rfl | rfl
      · exact ⟨⟨by show 0 ≤ q.1.1 + q.2; omega, by show q.1.1 + q.2 ≤ 1000; omega⟩, ⟨by show -10000 ≤ 0 - q.1.2.2; omega, by show 0 - q.1.2.2 ≤ 10000; omega⟩, by show 0 - q.1.2.2 ≠ 0; omega⟩
      · exact ⟨⟨by show 0 ≤ q.1.2.1 + q.2; omega, by show q.1.2.1 + q.2 ≤ 1000; omega⟩, ⟨by show -10000 ≤ q.1.2.2; omega, by show q.1.2.2 ≤ 10000; omega⟩, by show q.1.2.2 ≠ 0; omega⟩
  · rcases ok.ne with h | h
    · exact .inl h
    · refine .inr ?_
      show p.bs ++ boxesOf cs sh ≠ []
      simp [h]
end Q46
namespace Q46
open PySem PySem.Spec PyProof.Rows L2
theorem ps_nox {X : Cx} {st : Stmt} {t : TS} (h : PS X.nox st t) : PS X st t := ⟨fun pins s σ H D I hw => wpAny_mono (h.run pins s σ H D (I.wish _) hw) (fun _ _ q => q.unwish) fun _ _ z => False.elim z⟩
theorem same_mut {H H2 : Hp} {D : Addr} {o : HO} (s : Same H H2) (n : H D = none) : Same H (upd H2 D o) := fun b x e => by
  rw [upd_ne (ne_of_none e n)]
  exact s b x e
theorem keepT_mut {H : Hp} {D : Addr} {us : List V} {o : HO} (h : H D = some (.lst us)) : KeepT H (upd H D o) := fun b xs e => by
  have hb : b ≠ D := fun z => by
    rw [z, h] at e
    cases e
  rw [upd_ne hb]
  exact e
theorem Same.trans {H H1 H2 : Hp} (a : Same H H1) (b : Same H1 H2) : Same H H2 := fun c o e => b c o (a c o e)
theorem replicate_snoc {α : Type} (n : Nat) (x : α) : List.replicate (n + 1) x = List.replicate n x ++ [x] := by
  rw [List.replicate_succ']
section
variable {P : Program} {w : World} {K : PySem.W.Frag} {mg : Str → Option Value} {base : Heap}
def spBest (PT : List Addr) (C : Addr) : Sp := fun vs H Q E => ∃ (a b : Addr) (p : Pb) (cs : List S3) (lo hi : Int), vs = [.ref a, .ref b, .int lo, .int hi] ∧ PbAt H a p ∧ Ok p ∧ p.bs.length ≤ 4 ∧ TupR T3 H b cs ∧ 1 ≤ cs.length ∧ cs.length ≤ 2 ∧ (∀ c ∈ cs, okC c) ∧ (-50 ≤ lo ∧ lo ≤ hi ∧ hi ≤ 50) ∧ Tbs PT H ∧
  (4 < p.bs.length + 2 * cs.length → ∀ H' d, Grow PT H H' → H' d = some (.xd [("most", .int 4)]) → E (.ref C) (some d) H') ∧
  (p.bs.length + 2 * cs.length ≤ 4 → ∀ H' v, Grow PT H H' → FoundAt H' v (bestOf p cs lo hi) → Q v H')
theorem ok_best (T : Tx K mg) {C fI CH : Addr} {fd : FuncData} (M : TMk K mg C fI CH fd) {PT : List Addr} {c1 P1 c2 P2 : Addr} (hP1 : P1 ∈ PT) (TB1 : GxR.TabB base mg c1 P1) (hcode1 : T.dIsStream.code = .ref c1)
    (hP2 : P2 ∈ PT) (TB2 : GxR.TabB base mg c2 P2) (hcode2 : T.dNeedAbove.code = .ref c2) : FnOk P w K mg base (L2.CX P w) 7 T.fBestShifts T.dBestShifts ["problem", "columns", "low", "high"] (spBest PT C) := by
  have Gi : FnOk P w K mg base CX0 1 T.fIsIn T.dIsIn ["value", "least", "most"] spIsIn := ok_isIn T
  have Gn : FnOk P w K mg base CX0 4 T.fNeedProblem T.dNeedProblem ["problem"] (spNeed PT) := ok_need T hP1 TB1 hcode1
  have Gc : FnOk P w K mg base CX0 2 T.fIsColumn T.dIsColumn ["value"] spIsColumn := ok_isColumn T
  have Gm : FnOk P w K mg base (L2.CX P w) 3 T.fWithMore T.dWithMore ["problem", "boxes"] (spMore C) := ok_more T M
  have Gs : FnOk P w K mg base CX0 1 T.fShifted T.dShifted ["columns", "shifts"] spShifted := ok_shifted T
  have Gh : FnOk P w K mg base CX0 6 T.fHeatingOf T.dHeatingOf ["problem"] (spHeating PT) := ok_heating T hP2 TB2 hcode2
  obtain ⟨t1, hmc⟩ := T.B.cMOST_COLUMNS
  obtain ⟨t2, hms⟩ := T.B.cMOST_SHIFT
  refine T.DBestShifts.F.okX scBestShifts (fun vs H Q E h => ?_) (fun cdv A outer s H vs Q E hr h => ?_)
  · obtain ⟨a, b, p, cs, lo, hi, rfl, _⟩ := h
    rfl
  · obtain ⟨a, b, p, cs, lo, hi, rfl, hp, ok, b4, ⟨vcs, eb, rc⟩, n1, n2, okc, ⟨r1, r2, r3⟩, tb, qe, qq⟩ := h
    have hr1 : Room 1 _ := hr.mono (by decide)
    have hr2 : Room 2 _ := hr.mono (by decide)
    have hr3 : Room 3 _ := hr.mono (by decide)
    have hr4 : Room 4 _ := hr.mono (by decide)
    refine ⟨_, (pss_cons (ps_expr (pe_call Gn hr4 (by rfl) T.DNeedProblem.g T.DNeedProblem.F.kp T.DNeedProblem.b .nil pass0 (pa_cons (pv 0) pa_nil))) (pss_cons (ps_if (PW.pt (pw_or (pt_not (pt_val (pe_callB call_isi (by rfl) T.B.isinstance_ (by decide +kernel) (pa_cons (pv 1) (pa_cons (pe_bltn (v := .ty "tuple") (by rfl) T.B.tuple_ (by decide +kernel) rfl) pa_nil))))) (pw_or1 (pt_not (pt_chain op_le op_le pe_int (pe_callB call_len_seq (by rfl) T.B.len_ PySem.boot_len (pa_cons (pv 1) pa_nil)) (pe_glob (v := .int 2) (by rfl) hmc ⟨_, rfl⟩)))))) pss_never pss_nil) (pss_cons (ps_nox (ps_for PassesOwn.never rfl (KX.pi_enumT (by rfl) T.B.enumerate_ (pa_cons (pv 1) pa_nil)) (pg_tup (by rfl) (pgs_cons (pg_name (i := 4) scBestShifts.nd rfl (.inl rfl)) (pgs_cons (pg_name (i := 5) scBestShifts.nd rfl (.inl rfl)) pgs_nil))) (pss_one (ps_if (pt_not (pt_val (pe_call Gc hr2 (by rfl) T.DIsColumn.g T.DIsColumn.F.kp T.DIsColumn.b .nil pass0 (pa_cons (pv 5) pa_nil)))) pss_never pss_nil)))) (pss_cons (ps_if (PW.pt (pw_or (pt_not (pt_val (pe_call Gi hr1 (by rfl) T.DIsIn.g T.DIsIn.F.kp T.DIsIn.b .nil pass0 (pa_cons (pv 2) (pa_cons (pe_op op_sub pe_int (pe_glob (v := .int 50) (by rfl) hms ⟨_, rfl⟩)) (pa_cons (pe_glob (v := .int 50) (by rfl) hms ⟨_, rfl⟩) pa_nil)))))) (pw_or1 (pt_not (pt_val (pe_call Gi hr1 (by rfl) T.DIsIn.g T.DIsIn.F.kp T.DIsIn.b .nil pass0 (pa_cons (pv 3) (pa_cons (pv 2) (pa_cons (pe_glob (v := .int 50) (by rfl) hms ⟨_, rfl⟩) pa_nil))))))))) pss_never pss_nil) (pss_cons (ps_expr (pe_call Gm hr3 (by rfl) T.DWithMore.g T.DWithMore.F.kp T.DWithMore.b .nil (passes_call (takes_of rfl rfl rfl rfl) (fun _ _ _ _ h => h)) (pa_cons (pv 0) (pa_cons (pe_lc2 (wi1 := iTup K (tTup (tCons (tC (.int 0)) (tCons (tC (.int 1)) tNil)))) (own := [("one", 5), ("side", 11)]) (vs1 := [11]) (g := gName 5) (g1 := gName 11) (tt := tYes) (tt1 := tYes) (by rfl) scBestShifts.nd (pi_tup (pv 1)) (blkOk_by (own := [("one", 5), ("side", 11)]) (N := ["problem", "columns", "low", "high", "index", "one", "rows", "found", "row", "boxes", "heating", "side", "shift"]) (sc := defScope sBestShifts) (by decide +kernel)) (by decide) (fun _ _ _ _ _ => (pg_name (i := 5) scBestShifts.nd rfl (Or.inl rfl))) (fun _ _ _ _ _ => pts_nil) (fun _ _ _ _ _ => (pi_tup (pe_tup (pa_cons pe_int (pa_cons pe_int pa_nil))))) (fun _ _ _ _ _ => (pg_name (i := 11) scBestShifts.nd rfl (Or.inl rfl))) (fun _ _ _ _ _ => pts_nil) (fun _ _ _ _ _ => (pe_tup (pa_cons pe_int (pa_cons pe_int pa_nil))))) pa_nil)))) (PSs.nox (pss_cons (ps_par (i := 6) (j := 7) (by rfl) scBestShifts.nd rfl rfl (by decide) rfl rfl (pa_cons (pe_lst (pa_cons (pe_tup pa_nil) pa_nil)) (pa_cons pe_non pa_nil)) (by rfl)) (pss_cons (ps_for PassesOwn.never rfl (pi_tup (pv 1)) (pg_name (i := 5) scBestShifts.nd rfl (.inl rfl)) (pss_one (ps_setLc2 (i := 6) (te := tTup (StX.tStar K (tVar 8) (tCons (tVar 12) tNil))) (own := [("row", 8), ("shift", 12)]) (vs1 := [12]) (g := gName 8) (g1 := gName 12) (tt := tYes) (tt1 := tYes) (by rfl) scBestShifts.nd rfl rfl (sw_true rfl rfl rfl (by decide +kernel)) (pi_list (pv 6)) (blkOk_by (own := [("row", 8), ("shift", 12)]) (N := ["problem", "columns", "low", "high", "index", "one", "rows", "found", "row", "boxes", "heating", "side", "shift"]) (sc := defScope sBestShifts) (by decide +kernel)) (by decide) (fun _ _ _ _ _ => (pg_name (i := 8) scBestShifts.nd rfl (Or.inl rfl))) (fun _ _ _ _ _ => pts_nil) (fun _ _ _ _ _ => (pi_range2 (by rfl) T.B.range_ (pa_cons (pv 2) (pa_cons (pe_op op_add (pv 3) pe_int) pa_nil)))) (fun _ _ _ _ _ => (pg_name (i := 12) scBestShifts.nd rfl (Or.inl rfl))) (fun _ _ _ _ _ => pts_nil) (fun _ _ _ _ _ => (pe_tup (StX.pa_star (pv 8) (pa_cons (pv 12) pa_nil))))))) (pss_cons (ps_for PassesOwn.never rfl (pi_list (pv 6)) (pg_name (i := 8) scBestShifts.nd rfl (.inl rfl)) (pss_cons (ps_set (i := 9) scBestShifts.nd rfl (.inl rfl) (pe_call Gs hr1 (by rfl) T.DShifted.g T.DShifted.F.kp T.DShifted.b .nil pass0 (pa_cons (pv 1) (pa_cons (pv 8) pa_nil)))) (pss_one (ps_if (pt_cmpR op_notN (pv 9) pe_non (nomark _)) (pss_cons (ps_set (i := 10) scBestShifts.nd rfl (.inl rfl) (pe_call Gh hr (by rfl) T.DHeatingOf.g T.DHeatingOf.F.kp T.DHeatingOf.b .nil pass0 (pa_cons (pe_call Gm hr3 (by rfl) T.DWithMore.g T.DWithMore.F.kp T.DWithMore.b .nil (passes_call takes0 (fun _ _ _ _ h => h)) (pa_cons (pv 0) (pa_cons (pv 9) pa_nil))) pa_nil))) (pss_one (ps_if (PW.pt (pw_or (pt_cmpR op_isN (pv 7) pe_non (nomark _)) (pw_or1 (pt_cmpR op_lt (pv 10) (pe_ix ix_tup (pv 7) pe_int (fun _ _ => rfl)) (nomark _))))) (pss_one (ps_set (i := 7) scBestShifts.nd rfl (.inl rfl) (pe_tup (pa_cons (pv 8) (pa_cons (pv 10) pa_nil))))) pss_nil))) pss_nil)))) (pss_one (ps_ret (pv 7)))))))))))), ?_⟩
    have hS : ∀ {H'}, Grow PT H H' → SqT K H' b vcs := fun g => SqT.of (g.keepT _ _ eb)
    have lc : vcs.length = cs.length := rc.len
    refine ⟨_, rfl, a, p, rfl, hp, ok, b4, tb, fun H1 g1 => ?_⟩
    refine ⟨_, rfl, _, _, .type "tuple", .type "tuple", true, rfl, .ty "tuple", .base (.tup (g1.keepT _ _ eb)), kit_ty (by decide +kernel), true, rfl, iteF ?_⟩
    refine ⟨_, rfl, _, _, rfl, .inr (hS g1), _, _, rfl, rfl, _, rfl, goT (by simp; omega) ⟨_, _, rfl, rfl, _, rfl, goF (by simp; omega) ?_⟩⟩
    refine ⟨_, rfl, b, vcs, rfl, hS g1, KX.for_enumT (xs := vcs) (fun i σ H' => (∃ v4 v5, σ = [some (.ref a), some (.ref b), some (.int lo), some (.int hi), v4, v5, none, none, none, none, none, none, none]) ∧ Grow PT H H') ⟨⟨none, none, rfl⟩, g1⟩ (fun i σ H' h => hS h.2) (fun i x U σ H' hx h hU => ?_) (fun σ H' h => ?_)⟩
    · obtain ⟨⟨v4, v5, rfl⟩, g⟩ := h
      obtain ⟨d, t, rfl, ht, hd⟩ := rc.get' hx
      have gU : Grow PT H (upd H' U (.tup [.int (i : Nat), .ref d])) := g.trans (Grow.of (same_upd hU))
      refine ⟨_, _, rfl, SqT.of upd_same, rfl, _, _, rfl, _, _, rfl, rfl, ?_⟩
      refine ⟨_, rfl, d, t, rfl, T3.keep gU.keepT _ _ hd, okc t (List.mem_of_getElem? ht), true, rfl, iteF ?_⟩
      exact ⟨⟨_, _, rfl⟩, gU⟩
    clear g1 H1
    obtain ⟨⟨v4, v5, rfl⟩, g⟩ := h
    refine ⟨_, rfl, _, _, rfl, rfl, _, _, _, rfl, _, rfl, goF (by simp; omega) ?_⟩
    refine ⟨_, rfl, _, rfl, _, _, _, rfl, _, rfl, goF (by simp; omega) ?_⟩
    -- with_more(problem, [(0, 1) for one in columns for side in (0, 1)])
    refine ⟨_, rfl, _, rfl, b, rfl, ⟨_, hS g⟩, fun D hD => loopW cs.length (fun i H2 => Same H' H2 ∧ ∃ us, H2 D = some (.lst us) ∧ Refs T2 H2 us (List.replicate (2 * i) (0, 1))) ⟨same_upd hD, [], upd_same, .nil⟩ (fun i H2 hi h => ?_) (fun H2 h => ?_)⟩
    · obtain ⟨s2, us, hus, rus⟩ := h
      have hS2 := hS (g.trans (Grow.of s2))
      refine ⟨itt_go hS2 (by omega), fun x H3 y => ?_⟩
      obtain ⟨rfl, hx⟩ := itt_yld hS2 y
      refine ⟨rfl, (by show 2 ≤ sizeLine; decide), fun t ht => ⟨t, rfl, ⟨_, SqT.of upd_same⟩, ?_⟩⟩
      refine loopW 2 (fun j H4 => Same H' H4 ∧ H4 t = some (.tup [.int 0, .int 1]) ∧ ∃ us, H4 D = some (.lst us) ∧ Refs T2 H4 us (List.replicate (2 * i + j) (0, 1))) ⟨s2.trans (same_upd ht), upd_same, us, (same_upd ht) _ _ hus, rus.imp (T2.keep (Same.keepT (same_upd ht)))⟩ (fun j H4 hj h => ?_) (fun H4 h => ?_)
      · obtain ⟨s4, ht4, us4, hD4, r4⟩ := h
        have hT4 : SqT K H4 t [.int 0, .int 1] := SqT.of ht4
        refine ⟨itt_go hT4 hj, fun x H5 y => ?_⟩
        obtain ⟨rfl, hx⟩ := itt_yld hT4 y
        refine ⟨rfl, (by show 2 ≤ sizeLine; decide), fun t2 ht2 => ⟨us4, (same_upd ht2) _ _ hD4, ?_, same_mut (s4.trans (same_upd ht2)) hD, ?_, _, upd_same, ?_⟩⟩
        · have := r4.len
          rw [List.length_replicate] at this
          show us4.length < 16777216
          omega
        · rw [keepT_mut ((same_upd ht2) _ _ hD4) t _ ((same_upd ht2) _ _ ht4)]
        · rw [← Nat.add_assoc, replicate_snoc]
          refine Refs.app (r4.imp (T2.keep ((Same.keepT (same_upd ht2)).trans (keepT_mut ((same_upd ht2) _ _ hD4))))) rfl ?_
          exact keepT_mut ((same_upd ht2) _ _ hD4) _ _ upd_same
      · obtain ⟨s4, ht4, us4, hD4, r4⟩ := h
        refine ⟨itt_stop (SqT.of ht4) (Nat.le_refl _), s4, us4, hD4, ?_⟩
        rw [show 2 * (i + 1) = 2 * i + 2 by omega]
        exact r4
    obtain ⟨s2, us, hus, rus⟩ := h
    have g2 : Grow PT H H2 := g.trans (Grow.of s2)
    refine ⟨itt_stop (hS g2) (by omega), ?_⟩
    refine ⟨a, D, p, us, _, rfl, hp.keep g2.keepT, b4, by rw [List.length_replicate]; omega, hus, rus, fun lt H3 d s3 hd => qe (by rw [List.length_replicate] at lt; exact lt) H3 d (g2.trans (Grow.of s3)) hd, fun le H3 q3 s3 _ => ?_⟩
    rw [List.length_replicate] at le
    have g3 : Grow PT H H3 := g2.trans (Grow.of s3)
    clear rus hus us s2 g2
    -- rows, found = [()], None
    refine ⟨Nat.zero_le _, fun t0 ht0 => ⟨(by show 1 ≤ sizeLine; decide), fun r0 hr0 => ⟨_, _, rfl, ?_⟩⟩⟩
    have g4 : Grow PT H (upd (upd H3 t0 (.tup [])) r0 (.lst [.ref t0])) := g3.trans (Grow.of ((same_upd ht0).trans (same_upd hr0)))
    refine ⟨_, rfl, b, rfl, ⟨_, hS g4⟩, for_tup (xs := vcs) (fun i σ H' => (∃ v4 v5 r us, σ = [some (.ref a), some (.ref b), some (.int lo), some (.int hi), v4, v5, some (.ref r), some .non, none, none, none, none, none] ∧ H' r = some (.lst us) ∧ Refs TI H' us (rowsOf lo hi (cs.take i))) ∧ Grow PT H H')
      ⟨⟨_, _, r0, [.ref t0], rfl, upd_same, .cons ⟨t0, rfl, (same_upd hr0) _ _ upd_same⟩ .nil⟩, g4⟩ (fun i σ H' _ h => hS h.2) (fun i x σ H' hx h => ?_) (fun σ H' h => ?_)⟩
    · obtain ⟨⟨v4, v5, r, us, rfl, hr', ru⟩, g⟩ := h
      have hi' : i < cs.length := by
        have := (List.getElem?_eq_some_iff.mp hx).1
        omega
      have hrl := rowsOf_len1 lo hi cs i (by omega) (by omega) (by omega)
      have lus := ru.len
      refine ⟨_, rfl, r, rfl, ⟨_, SqL.of hr'⟩, fun D hD => loopW us.length (fun j H2 => Same H' H2 ∧ ∃ ws, H2 D = some (.lst ws) ∧ Refs TI H2 ws (stepR lo hi ((rowsOf lo hi (cs.take i)).take j))) ⟨same_upd hD, [], upd_same, .nil⟩ (fun j H2 hj h => ?_) (fun H2 h => ?_)⟩
      · obtain ⟨s2, ws, hws, rws⟩ := h
        have hL2 : SqL K H2 r us := SqL.of (s2 _ _ hr')
        refine ⟨itl_go hL2 hj, fun x H3 y => ?_⟩
        obtain ⟨rfl, hx⟩ := itl_yld hL2 y
        obtain ⟨q, row, rfl, hrow, hq⟩ := ru.get' hx
        refine ⟨rfl, _, rfl, _, rfl, _, _, rfl, rfl, lo, hi + 1, rfl, ⟨by omega, by omega, by omega, by omega⟩, ?_⟩
        refine loopW (hi + 1 - lo).toNat (fun k H4 => Same H' H4 ∧ ∃ ws, H4 D = some (.lst ws) ∧ Refs TI H4 ws (stepR lo hi ((rowsOf lo hi (cs.take i)).take j) ++ ((rangeL lo hi).take k).map fun s => row ++ [s])) ⟨s2, ws, hws, by simpa using rws⟩ (fun k H4 hk h => ?_) (fun H4 h => ?_)
        · obtain ⟨s4, ws4, hD4, r4⟩ := h
          refine ⟨hk, fun x H5 y => ?_⟩
          obtain ⟨rfl, rfl⟩ := y
          have hrl2 : row.length ≤ 2 := by
            have := rowsOf_row lo hi cs i (by omega) row (List.mem_of_getElem? hrow)
            omega
          refine ⟨rfl, _, rfl, q, _, rfl, .inl (SqT.of (s4 _ _ hq)), _, rfl, ?_, fun t ht => ⟨ws4, (same_upd ht) _ _ hD4, ?_, same_mut (s4.trans (same_upd ht)) hD, _, upd_same, ?_⟩⟩
          · show (row.map V.int ++ [_]).length ≤ 16777216
            rw [List.length_append, List.length_map]
            show row.length + 1 ≤ _
            omega
          · have h1 := r4.len
            rw [List.length_append, stepR_len, List.length_take, List.length_map, List.length_take, rangeL_len] at h1
            have hn : (hi + 1 - lo).toNat ≤ 101 := by omega
            have h2 : min j (rowsOf lo hi (cs.take i)).length * (hi + 1 - lo).toNat ≤ 101 * 101 := Nat.mul_le_mul (by omega) hn
            show ws4.length < 16777216
            omega
          · rw [take_more (rangeL_get hk), List.map_append, ← List.append_assoc]
            refine Refs.app (r4.imp (TI.keep ((Same.keepT (same_upd ht)).trans (keepT_mut ((same_upd ht) _ _ hD4))))) rfl ?_
            refine keepT_mut ((same_upd ht) _ _ hD4) _ _ ?_
            rw [upd_same, List.map_append]
            rfl
        · obtain ⟨s4, ws4, hD4, r4⟩ := h
          refine ⟨Nat.le_refl _, s4, ws4, hD4, ?_⟩
          rw [show (rangeL lo hi).take (hi + 1 - lo).toNat = rangeL lo hi from List.take_of_length_le (by rw [rangeL_len]; exact Nat.le_refl _)] at r4
          rw [take_more hrow]
          have e : stepR lo hi ((rowsOf lo hi (cs.take i)).take j ++ [row]) = stepR lo hi ((rowsOf lo hi (cs.take i)).take j) ++ (rangeL lo hi).map fun s => row ++ [s] := by
            unfold stepR
            rw [List.flatMap_append]
            simp
          rw [e]
          exact r4
      · obtain ⟨s2, ws, hws, rws⟩ := h
        refine ⟨itl_stop (SqL.of (s2 _ _ hr')) (Nat.le_refl _), ⟨_, _, D, ws, rfl, hws, ?_⟩, g.trans (Grow.of s2)⟩
        rw [take_more (List.getElem?_eq_getElem hi'), rowsOf_snoc]
        rw [List.take_of_length_le (by omega)] at rws
        exact rws
    obtain ⟨⟨v4, v5, r, us, rfl, hr', ru⟩, g⟩ := h
    have ec : cs.take vcs.length = cs := List.take_of_length_le (by omega)
    rw [ec] at ru
    have rowlen : ∀ row ∈ rowsOf lo hi cs, row.length = cs.length := fun row hrow => by
      have := rowsOf_row lo hi cs cs.length (Nat.le_refl _)
      rw [List.take_length] at this
      exact this row hrow
    clear g4 hr0 r0 ht0 t0 g3 hD
    refine ⟨_, rfl, r, rfl, ⟨_, SqL.of hr'⟩, for_list (xs := us) (fun i σ H2 => (∃ v4 v5 v7 v8 v9 v10, σ = [some (.ref a), some (.ref b), some (.int lo), some (.int hi), v4, v5, some (.ref r), some v7, v8, v9, v10, none, none] ∧ FoundAt H2 v7 (((rowsOf lo hi cs).take i).foldl (better p cs) none)) ∧ Grow PT H H2 ∧ Grow PT H' H2)
      ⟨⟨_, _, .non, none, none, none, rfl, .inl ⟨rfl, rfl⟩⟩, g, Grow.refl _ _⟩ (fun i σ H2 _ h => SqL.of (h.2.2.lst hr')) (fun i x σ H2 hx h => ?_) (fun σ H2 h => ?_)⟩
    · obtain ⟨⟨v4, v5, v7, v8, v9, v10, rfl, hf⟩, g2, g12⟩ := h
      obtain ⟨q, row, rfl, hrow, hq⟩ := ru.get' hx
      have hq2 : TI H2 q row := g12.keepT _ _ hq
      have hrl := rowlen row (List.mem_of_getElem? hrow)
      have hstep : ((rowsOf lo hi cs).take (i + 1)).foldl (better p cs) none = better p cs (((rowsOf lo hi cs).take i).foldl (better p cs) none) row := by
        rw [take_more hrow, List.foldl_append]
        rfl
      refine ⟨_, rfl, _, rfl, b, q, cs, row, rfl, ⟨vcs, g2.keepT _ _ eb, rc.imp (T3.keep g2.keepT)⟩, hq2, hrl.symm, n2, fun st H3 s3 => ?_, fun st H3 r3 us3 s3 hr3 ru3 => ?_⟩
      · refine ⟨_, rfl, rfl, _, rfl, goF (by simp) ?_⟩
        refine ⟨⟨_, _, v7, _, _, _, rfl, ?_⟩, g2.trans (Grow.of s3), g12.trans (Grow.of s3)⟩
        rw [hstep]
        have e : better p cs (((rowsOf lo hi cs).take i).foldl (better p cs) none) row = ((rowsOf lo hi cs).take i).foldl (better p cs) none := by
          unfold better
          rw [if_neg (by rw [st]; exact Bool.false_ne_true)]
        rw [e]
        exact hf.keep (Same.keepT s3)
      · have g3 : Grow PT H H3 := g2.trans (Grow.of s3)
        have lb : (boxesOf cs row).length = 2 * cs.length := by
          rw [boxesOf_eq, flatMap_len2, List.length_zip]
          omega
        refine ⟨_, rfl, rfl, _, rfl, goT (by simp) ?_⟩
        refine ⟨_, rfl, _, rfl, a, r3, p, us3, boxesOf cs row, rfl, hp.keep g3.keepT, b4, by omega, hr3, ru3, fun lt => absurd lt (by omega), fun _ H4 q4 s4 hq4 => ?_⟩
        have g4 : Grow PT H H4 := g3.trans (Grow.of s4)
        refine ⟨q4, p.more (boxesOf cs row), rfl, hq4, more_ok ok okc hrl.symm (by omega) st, tb.grow g4, fun H5 g5 => ?_⟩
        have g05 : Grow PT H H5 := g4.trans g5
        have g25 : Grow PT H2 H5 := (Grow.of s3).trans ((Grow.of s4).trans g5)
        have hq5 : TI H5 q row := g25.keepT _ _ hq2
        have hf5 := hf.keep g25.keepT
        have put : ∀ t, H5 t = none → better p cs (((rowsOf lo hi cs).take i).foldl (better p cs) none) row = some (row, (p.more (boxesOf cs row)).heat) →
            FoundAt (upd H5 t (.tup [.ref q, .int (p.more (boxesOf cs row)).heat])) (.ref t) (((rowsOf lo hi cs).take (i + 1)).foldl (better p cs) none) := fun t ht e => by
          rw [hstep, e]
          exact .inr ⟨t, q, row, _, rfl, upd_same, (same_upd ht) _ _ hq5, rfl, by omega⟩
        rcases hf5 with ⟨rfl, hb⟩ | ⟨f, r6, row6, heat6, rfl, hf6, hr6, hb, len6⟩
        · refine ⟨_, rfl, rfl, _, rfl, goT (by simp) ?_⟩
          refine goT rfl ?_
          refine ⟨_, rfl, _, rfl, (by show 2 ≤ sizeLine; decide), fun t ht => ⟨⟨_, _, .ref t, _, _, _, rfl, put t ht ?_⟩, g05.trans (Grow.of (same_upd ht)), g12.trans (g25.trans (Grow.of (same_upd ht)))⟩⟩
          rw [hb]
          unfold better
          rw [if_pos st]
        · refine ⟨_, rfl, rfl, _, rfl, goF (by simp) ?_⟩
          refine ⟨_, rfl, _, rfl, _, _, 1, .int heat6, rfl, rfl, SqT.of hf6, atI_nat (j := 1) rfl, _, _, rfl, rfl, _, rfl, goE (fun z => ?_) (fun z => ?_)⟩
          · have z' : (p.more (boxesOf cs row)).heat < heat6 := by simpa using z
            refine ⟨_, rfl, _, rfl, (by show 2 ≤ sizeLine; decide), fun t ht => ⟨⟨_, _, .ref t, _, _, _, rfl, put t ht ?_⟩, g05.trans (Grow.of (same_upd ht)), g12.trans (g25.trans (Grow.of (same_upd ht)))⟩⟩
            rw [hb]
            unfold better
            rw [if_pos st]
            exact if_pos z'
          · have z' : ¬ (p.more (boxesOf cs row)).heat < heat6 := by simpa using z
            refine ⟨⟨_, _, .ref f, _, _, _, rfl, ?_⟩, g05, g12.trans g25⟩
            rw [hstep, hb]
            unfold better
            rw [if_pos st]
            show FoundAt H5 (.ref f) (if (p.more (boxesOf cs row)).heat < heat6 then some (row, (p.more (boxesOf cs row)).heat) else some (row6, heat6))
            rw [if_neg z']
            exact .inr ⟨f, r6, row6, heat6, rfl, hf6, hr6, rfl, len6⟩
    · obtain ⟨⟨v4, v5, v7, v8, v9, v10, rfl, hf⟩, g2, g12⟩ := h
      refine ⟨_, rfl, qq le H2 v7 g2 ?_⟩
      rw [ru.len, List.take_length] at hf
      exact hf
end
end Q46
namespace Q46
open PySem PySem.Spec PyProof.Rows L2
theorem mx_comm (i j : Int) : mx i j = mx j i := by unfold mx; split <;> split <;> omega
theorem mn_mx (u l : Int) : u - mn u l = mx 0 (u - l) := by unfold mn mx; split <;> split <;> omega
section
variable {P : Program} {w : World} {K : PySem.W.Frag} {mg : Str → Option Value} {base : Heap}
/-! ### _law_span -/
def spLSpan : Sp := fun vs H Q _ => ∃ (a : Addr) (p : Pb) (n : Nat), vs = [.ref a, .int n] ∧ PbAt H a p ∧ n < p.many ∧ ∀ t, H t = none → Q (.ref t) (upd H t (.tup [.bl (p.giver n), .int (p.up n), .int (p.lo n), .int (p.rate n), .int (p.box n)]))
theorem ok_lspan (T : Tx K mg) : FnOk P w K mg base CX0 1 T.fLSpan T.dLSpan ["_law_problem_here", "_law_number"] spLSpan := by
  refine T.DLSpan.F.ok scLSpan (fun vs H Q E h => ?_) (fun cdv A outer s H vs Q E hr h => ?_)
  · obtain ⟨a, p, n, rfl, _⟩ := h
    rfl
  · obtain ⟨a, p, n, rfl, hp, hn, q⟩ := h
    refine ⟨_, (pss_cons (ps_asg (pv 0) (pg_tup (by rfl) (pgs_cons (pg_name (i := 2) scLSpan.nd rfl (.inl rfl)) (pgs_cons (pg_name (i := 3) scLSpan.nd rfl (.inl rfl)) (pgs_cons (pg_name (i := 4) scLSpan.nd rfl (.inl rfl)) pgs_nil))))) (pss_cons (ps_if (pt_cmpR op_lt (pv 1) (pe_callB call_len_seq (by rfl) T.B.len_ PySem.boot_len (pa_cons (pv 2) pa_nil)) (nomark _)) (pss_cons (ps_asg (pe_ix ix_tup (pv 2) (pv 1) (fun _ _ => rfl)) (pg_tup (by rfl) (pgs_cons (pg_name (i := 5) scLSpan.nd rfl (.inl rfl)) (pgs_cons (pg_name (i := 6) scLSpan.nd rfl (.inl rfl)) (pgs_cons (pg_name (i := 7) scLSpan.nd rfl (.inl rfl)) pgs_nil))))) (pss_cons (ps_set (i := 8) scLSpan.nd rfl (.inl rfl) (pe_ifExp (pt_cmpR op_gt (pv 5) (pv 6) (nomark _)) (pv 4) pe_int)) (pss_one (ps_ret (pe_tup (pa_cons (pe_cmpR op_gt (pv 5) (pv 6) (nomark _)) (pa_cons (pe_op op_sub (pe_callB (call_max2 rfl) (by rfl) T.B.max_ (by decide +kernel) (pa_cons (pv 5) (pa_cons (pv 6) pa_nil))) (pv 8)) (pa_cons (pe_op op_sub (pe_callB (call_min2 rfl) (by rfl) T.B.min_ (by decide +kernel) (pa_cons (pv 5) (pa_cons (pv 6) pa_nil))) (pv 8)) (pa_cons (pv 7) (pa_cons pe_int pa_nil)))))))))) pss_nil) (pss_cons (ps_asg (pe_ix ix_tup (pv 3) (pe_op op_sub (pv 1) (pe_callB call_len_seq (by rfl) T.B.len_ PySem.boot_len (pa_cons (pv 2) pa_nil))) (fun _ _ => rfl)) (pg_tup (by rfl) (pgs_cons (pg_name (i := 9) scLSpan.nd rfl (.inl rfl)) (pgs_cons (pg_name (i := 10) scLSpan.nd rfl (.inl rfl)) pgs_nil)))) (pss_one (ps_ret (pe_ifExp (pt_cmpR op_gt (pv 10) pe_int (nomark _)) (pe_tup (pa_cons (pe_cmpR op_gt (pv 10) pe_int (nomark _)) (pa_cons (pe_op op_sub (pv 9) (pv 4)) (pa_cons (pe_op op_sub (pv 9) (pv 4)) (pa_cons pe_int (pa_cons (pv 10) pa_nil)))))) (pe_tup (pa_cons pe_bl (pa_cons (pv 9) (pa_cons (pv 9) (pa_cons pe_int (pa_cons (pe_op op_sub pe_int (pv 10)) pa_nil)))))))))))), ?_⟩
    obtain ⟨ps, pb, e, ⟨vss, es, rs⟩, ⟨vbs, eb, rb⟩⟩ := hp
    have hS : SqT K H a [.ref ps, .ref pb, .int p.gap] := SqT.of e
    have el : vss.length = p.ss.length := rs.len
    refine ⟨_, rfl, _, _, rfl, hS, rfl, _, _, rfl, _, _, rfl, _, _, rfl, rfl, ?_⟩
    refine ⟨_, rfl, _, rfl, _, _, rfl, .inr (SqT.of es), _, _, rfl, rfl, _, rfl, goE (fun z => ?_) (fun z => ?_)⟩
    · have hl : n < p.ss.length := by
        simp at z
        omega
      have et := List.getElem?_eq_getElem hl
      obtain ⟨b, hb, tb⟩ := rs.get et
      have h3 := SqT.of (K := K) tb
      have es' := Pb.span_s et
      have eg := Pb.giver_s et
      refine ⟨_, rfl, _, rfl, _, _, _, _, rfl, rfl, SqT.of es, atI_nat hb, _, _, rfl, h3, rfl, _, _, rfl, _, _, rfl, _, _, rfl, rfl, ?_⟩
      refine ⟨_, rfl, _, rfl, _, _, rfl, rfl, _, rfl, goV (z := .int (p.down n)) rfl (fun z => ?_) (fun z => ?_) ?_⟩
      · unfold Pb.down
        rw [eg, z]
        rfl
      · unfold Pb.down
        rw [eg, z]
        rfl
      refine ⟨_, rfl, _, rfl, _, _, rfl, rfl, _, rfl, _, rfl, _, _, rfl, _, rfl, _, _, rfl, rfl, _, rfl, _, rfl, _, _, rfl, _, rfl, _, _, rfl, rfl, _, rfl, (by show 5 ≤ sizeLine; decide), fun t ht => ?_⟩
      have := q t ht
      rw [show p.up n = (p.span n).1 from rfl, show p.lo n = (p.span n).2.1 from rfl, show p.rate n = (p.span n).2.2.1 from rfl, show p.box n = (p.span n).2.2.2 from rfl, es', eg] at this
      exact this
    · have hl : p.ss.length ≤ n := by
        simp at z
        omega
      obtain ⟨x, hx⟩ := Pb.get_b hl hn
      obtain ⟨b, hb, tb⟩ := rb.get hx
      have h2 := SqT.of (K := K) tb
      have es' := Pb.span_b hl hx
      have eg := Pb.giver_b hl hx
      refine ⟨_, rfl, _, rfl, _, rfl, _, _, rfl, .inr (SqT.of es), _, _, rfl, rfl, _, _, _, _, rfl, rfl, SqT.of eb, ?_, _, _, rfl, h2, rfl, _, _, rfl, _, _, rfl, rfl, ?_⟩
      · have ez : ((n : Int) - (vss.length : Int)) = ((n - p.ss.length : Nat) : Int) := by omega
        rw [ez]
        exact atI_nat hb
      have qq := fun t ht => q t ht
      refine ⟨_, rfl, _, _, rfl, rfl, _, rfl, goE (fun z => ?_) (fun z => ?_)⟩
      · have z' : 0 < x.2 := by simpa using z
        refine ⟨_, rfl, _, _, rfl, rfl, _, rfl, _, rfl, _, _, rfl, rfl, _, rfl, _, rfl, _, _, rfl, rfl, _, rfl, (by show 5 ≤ sizeLine; decide), fun t ht => ?_⟩
        have := q t ht
        have ed : p.down n = p.gap := by unfold Pb.down; rw [eg, z]; rfl
        have ea : ab x.2 = x.2 := by unfold ab; rw [if_neg (by omega)]
        rw [show p.up n = (p.span n).1 from rfl, show p.lo n = (p.span n).2.1 from rfl, show p.rate n = (p.span n).2.2.1 from rfl, show p.box n = (p.span n).2.2.2 from rfl, es', eg, ed, ea] at this
        exact this
      · have z' : ¬ 0 < x.2 := by simpa using z
        refine ⟨_, rfl, _, rfl, _, rfl, _, _, rfl, rfl, (by show 5 ≤ sizeLine; decide), fun t ht => ?_⟩
        have := q t ht
        have ed : p.down n = 0 := by unfold Pb.down; rw [eg, z]; rfl
        have ea : ab x.2 = 0 - x.2 := by unfold ab; split <;> omega
        rw [show p.up n = (p.span n).1 from rfl, show p.lo n = (p.span n).2.1 from rfl, show p.rate n = (p.span n).2.2.1 from rfl, show p.box n = (p.span n).2.2.2 from rfl, es', eg, ed, ea, z] at this
        simp only [Int.sub_zero] at this
        exact this
end
end Q46
namespace Q46
open PySem PySem.Spec PyProof.Rows L2
section
variable {P : Program} {w : World} {K : PySem.W.Frag} {mg : Str → Option Value} {base : Heap}
theorem ok_lheat (T : Tx K mg) : FnOk P w K mg base CX0 2 T.fLHeat T.dLHeat ["_law_problem_here", "_law_number", "_law_level", "_law_is_open"] spHeatA := by
  have Gs : FnOk P w K mg base CX0 1 T.fLSpan T.dLSpan ["_law_problem_here", "_law_number"] spLSpan := ok_lspan T
  refine T.DLHeat.F.ok scLHeat (fun vs H Q E h => ?_) (fun cdv A outer s H vs Q E hr h => ?_)
  · obtain ⟨a, p, n, l, o, rfl, _⟩ := h
    rfl
  · obtain ⟨a, p, n, l, o, rfl, hp, ok, hn, q⟩ := h
    refine ⟨_, (pss_cons (ps_asg (pe_call Gs hr (by rfl) T.DLSpan.g T.DLSpan.F.kp T.DLSpan.b .nil pass0 (pa_cons (pv 0) (pa_cons (pv 1) pa_nil))) (pg_tup (by rfl) (pgs_cons (pg_name (i := 4) scLHeat.nd rfl (.inl rfl)) (pgs_cons (pg_name (i := 5) scLHeat.nd rfl (.inl rfl)) (pgs_cons (pg_name (i := 6) scLHeat.nd rfl (.inl rfl)) (pgs_cons (pg_name (i := 7) scLHeat.nd rfl (.inl rfl)) (pgs_cons (pg_name (i := 8) scLHeat.nd rfl (.inl rfl)) pgs_nil))))))) (pss_cons (ps_if (pt_cmpR op_eq (pv 7) pe_int (nomark _)) (pss_one (ps_ret (pe_ifExp (PW.pt (pw_or (pt_cmpR op_gt (pv 5) (pv 2) (nomark _)) (pw_or1 (PW.pt (pw_and (pt_cmpR op_eq (pv 5) (pv 2) (nomark _)) (pw_and1 (pt_not (pt_val (pv 3))))))))) (pv 8) pe_int))) pss_nil) (pss_one (ps_ret (pe_op op_mul (pv 7) (pe_op op_sub (pv 5) (pe_callB (call_min2 rfl) (by rfl) T.B.min_ (by decide +kernel) (pa_cons (pv 5) (pa_cons (pe_callB (call_max2 rfl) (by rfl) T.B.max_ (by decide +kernel) (pa_cons (pv 6) (pa_cons (pv 2) pa_nil))) pa_nil))))))))), ?_⟩
    refine ⟨_, rfl, _, rfl, a, p, n, rfl, hp, hn, fun t ht => ?_⟩
    have sm : Same H (upd H t (.tup [.bl (p.giver n), .int (p.up n), .int (p.lo n), .int (p.rate n), .int (p.box n)])) := same_upd ht
    refine ⟨_, _, rfl, SqT.of upd_same, rfl, _, _, rfl, _, _, rfl, _, _, rfl, _, _, rfl, _, _, rfl, rfl, ?_⟩
    have qq := q _ sm
    unfold Pb.heatA at qq
    refine ⟨_, rfl, rfl, _, rfl, goE (fun z => ?_) (fun z => ?_)⟩
    · have z' : p.rate n = 0 := by simpa using z
      rw [if_pos z'] at qq
      refine ⟨_, rfl, _, rfl, _, _, rfl, rfl, _, rfl, goE (fun z1 => ?_) (fun z1 => ?_)⟩
      · have c1 : l < p.up n ∨ (p.up n = l ∧ o = false) := .inl (by simpa using z1)
        rw [if_pos c1] at qq
        exact iteT ⟨_, rfl, qq⟩
      · have c0 : ¬ l < p.up n := by simpa using z1
        refine ⟨_, rfl, _, rfl, rfl, _, rfl, goE (fun z2 => ?_) (fun z2 => ?_)⟩
        · have c2 : p.up n = l := by simpa using z2
          refine ⟨_, rfl, _, rfl, ?_⟩
          cases o with
          | true =>
            have c1 : ¬ (l < p.up n ∨ (p.up n = l ∧ true = false)) := by simp [c0]
            rw [if_neg c1] at qq
            exact iteF qq
          | false =>
            have c1 : l < p.up n ∨ (p.up n = l ∧ false = false) := .inr ⟨c2, rfl⟩
            rw [if_pos c1] at qq
            exact iteT ⟨_, rfl, qq⟩
        · have c2 : ¬ p.up n = l := by simpa using z2
          have c1 : ¬ (l < p.up n ∨ (p.up n = l ∧ o = false)) := by simp [c0, c2]
          rw [if_neg c1] at qq
          exact iteF qq
    · have z' : ¬ p.rate n = 0 := by simpa using z
      rw [if_neg z', ← mn_mx, mx_comm l] at qq
      have hb := Pb.rate_bd ok n
      refine ⟨_, rfl, _, rfl, _, rfl, _, rfl, _, rfl, _, _, rfl, _, _, rfl, _, _, rfl, rfl, _, _, rfl, rfl, .inl ⟨by omega, by omega⟩, ?_⟩
      exact qq
/-! ### _law_need -/
def Pb.needTo (p : Pb) (l : Int) (o : Bool) (i : Nat) : Int := ((p.upto false i).map fun n => p.heatA n l o).sum - ((p.upto true i).map fun n => p.heatA n l o).sum
theorem Pb.needTo_succ (p : Pb) (l : Int) (o : Bool) (i : Nat) : p.needTo l o (i + 1) = if p.giver i = true then p.needTo l o i - p.heatA i l o else p.needTo l o i + p.heatA i l o := by
  unfold Pb.needTo
  rw [p.upto_succ false i, p.upto_succ true i]
  cases h : p.giver i
  · simp
    omega
  · simp
    omega
def spLNeed : Sp := fun vs H Q _ => ∃ (a : Addr) (p : Pb) (l : Int) (o : Bool), vs = [.ref a, .int l, .bl o] ∧ PbAt H a p ∧ Ok p ∧ ∀ H', Same H H' → Q (.int (p.needA l o)) H'
theorem ok_lneed (T : Tx K mg) : FnOk P w K mg base CX0 3 T.fLNeed T.dLNeed ["_law_problem_here", "_law_level", "_law_is_open"] spLNeed := by
  have Gs : FnOk P w K mg base CX0 1 T.fLSpan T.dLSpan ["_law_problem_here", "_law_number"] spLSpan := ok_lspan T
  have Gh : FnOk P w K mg base CX0 2 T.fLHeat T.dLHeat ["_law_problem_here", "_law_number", "_law_level", "_law_is_open"] spHeatA := ok_lheat T
  refine T.DLNeed.F.ok scLNeed (fun vs H Q E h => ?_) (fun cdv A outer s H vs Q E hr h => ?_)
  · obtain ⟨a, p, l, o, rfl, _⟩ := h
    rfl
  · obtain ⟨a, p, l, o, rfl, hp, ok, q⟩ := h
    have hr1 : Room 1 _ := hr.mono (by decide)
    refine ⟨_, (pss_cons (ps_set (i := 3) scLNeed.nd rfl (.inl rfl) pe_int) (pss_cons (ps_for PassesOwn.never rfl (pi_range1 (by rfl) T.B.range_ (pa_cons (pe_op op_add (pe_callB call_len_seq (by rfl) T.B.len_ PySem.boot_len (pa_cons (pe_ix ix_tup (pv 0) pe_int (fun _ _ => rfl)) pa_nil)) (pe_callB call_len_seq (by rfl) T.B.len_ PySem.boot_len (pa_cons (pe_ix ix_tup (pv 0) pe_int (fun _ _ => rfl)) pa_nil))) pa_nil)) (pg_name (i := 4) scLNeed.nd rfl (.inl rfl)) (pss_cons (ps_set (i := 5) scLNeed.nd rfl (.inl rfl) (pe_call Gh hr (by rfl) T.DLHeat.g T.DLHeat.F.kp T.DLHeat.b .nil pass0 (pa_cons (pv 0) (pa_cons (pv 4) (pa_cons (pv 1) (pa_cons (pv 2) pa_nil)))))) (pss_one (ps_set (i := 3) scLNeed.nd rfl (.inl rfl) (pe_ifExp (pt_val (pe_ix ix_tup (pe_call Gs hr1 (by rfl) T.DLSpan.g T.DLSpan.F.kp T.DLSpan.b .nil pass0 (pa_cons (pv 0) (pa_cons (pv 4) pa_nil))) pe_int (fun _ _ => rfl))) (pe_op op_sub (pv 3) (pv 5)) (pe_op op_add (pv 3) (pv 5))))))) (pss_one (ps_ret (pv 3))))), ?_⟩
    have hp0 := hp
    obtain ⟨ps, pb, e, ⟨vss, es, rs⟩, ⟨vbs, eb, rb⟩⟩ := hp
    have hS : SqT K H a [.ref ps, .ref pb, .int p.gap] := SqT.of e
    have el : vss.length = p.ss.length := rs.len
    have el2 : vbs.length = p.bs.length := rb.len
    have em : ((vss.length : Int) + (vbs.length : Int)) = ((p.many : Nat) : Int) := by unfold Pb.many; omega
    have hm := Pb.many_le ok
    refine ⟨_, rfl, _, _, 0, .ref ps, rfl, rfl, hS, atI_nat (j := 0) rfl, _, _, rfl, .inr (SqT.of es), _, rfl, _, _, 1, .ref pb, rfl, rfl, hS, atI_nat (j := 1) rfl, _, _, rfl, .inr (SqT.of eb), _, _, rfl, rfl, ?_⟩
    refine ⟨p.many, by rw [← em], by omega, by omega, ?_⟩
    refine for_range (n := p.many) (lo := 0) (fun i σ H' => (∃ v4 v5, σ = [some (.ref a), some (.int l), some (.bl o), some (.int (p.needTo l o i)), v4, v5]) ∧ Same H H') ⟨⟨none, none, rfl⟩, fun _ _ e => e⟩ (fun i σ H' hi h => ?_) (fun σ H' h => ?_)
    · obtain ⟨⟨v4, v5, rfl⟩, sm⟩ := h
      refine ⟨_, rfl, _, rfl, _, rfl, _, rfl, a, p, i, l, o, by simp, hp0.keep (Same.keepT sm), ok, hi, fun H2 s2 => ?_⟩
      have s02 : Same H H2 := fun c x hc => s2 c x (sm c x hc)
      refine ⟨_, rfl, _, rfl, a, p, i, by simp, hp0.keep (Same.keepT s02), hi, fun t ht => ?_⟩
      have s3 : Same H2 (upd H2 t (.tup [.bl (p.giver i), .int (p.up i), .int (p.lo i), .int (p.rate i), .int (p.box i)])) := same_upd ht
      refine ⟨_, _, 0, .bl (p.giver i), rfl, rfl, SqT.of upd_same, atI_nat (j := 0) rfl, _, rfl, goE (fun z => ?_) (fun z => ?_)⟩
      · refine ⟨_, rfl, _, rfl, _, _, rfl, rfl, ⟨some (.int (0 + (i : Int))), some (.int (p.heatA i l o)), ?_⟩, fun c x hc => s3 c x (s02 c x hc)⟩
        rw [p.needTo_succ l o i, if_pos z]
        rfl
      · refine ⟨_, rfl, _, rfl, _, _, rfl, rfl, ⟨some (.int (0 + (i : Int))), some (.int (p.heatA i l o)), ?_⟩, fun c x hc => s3 c x (s02 c x hc)⟩
        rw [p.needTo_succ l o i, if_neg (by rw [z]; exact Bool.false_ne_true)]
        rfl
    · obtain ⟨⟨v4, v5, rfl⟩, sm⟩ := h
      exact ⟨_, rfl, q _ sm⟩
/-! ### _law_levels -/
theorem ok_llevels (T : Tx K mg) : FnOk P w K mg base CX0 2 T.fLLevels T.dLLevels ["_law_problem_here"] spLevels := by
  have Gs : FnOk P w K mg base CX0 1 T.fLSpan T.dLSpan ["_law_problem_here", "_law_number"] spLSpan := ok_lspan T
  refine T.DLLevels.F.ok scLLevels (fun vs H Q E h => ?_) (fun cdv A outer s H vs Q E hr h => ?_)
  · obtain ⟨a, p, rfl, _⟩ := h
    rfl
  · obtain ⟨a, p, rfl, hp, ok, q⟩ := h
    refine ⟨_, (pss_cons (ps_set (i := 1) scLLevels.nd rfl (.inl rfl) (pe_lst pa_nil)) (pss_cons (ps_for PassesOwn.never rfl (pi_range1 (by rfl) T.B.range_ (pa_cons (pe_op op_add (pe_callB call_len_seq (by rfl) T.B.len_ PySem.boot_len (pa_cons (pe_ix ix_tup (pv 0) pe_int (fun _ _ => rfl)) pa_nil)) (pe_callB call_len_seq (by rfl) T.B.len_ PySem.boot_len (pa_cons (pe_ix ix_tup (pv 0) pe_int (fun _ _ => rfl)) pa_nil))) pa_nil)) (pg_name (i := 2) scLLevels.nd rfl (.inl rfl)) (pss_one (ps_set (i := 1) scLLevels.nd rfl (.inl rfl) (pe_op op_cat (pv 1) (pe_callTy call_list_of (by rfl) T.B.list_ (by decide +kernel) (pa_cons (pe_slice sl_tup (pe_call Gs hr (by rfl) T.DLSpan.g T.DLSpan.F.kp T.DLSpan.b .nil pass0 (pa_cons (pv 0) (pa_cons (pv 2) pa_nil))) (po_some pe_int) (po_some pe_int)) pa_nil)))))) (pss_one (ps_ret (pe_revL (pe_callB (cr_sortedSet rfl) (by rfl) T.B.sorted_ (by decide +kernel) (pa_cons (pe_callTy (KX2.cr_setL rfl) (by rfl) T.B.set_ (by decide +kernel) (pa_cons (pv 1) pa_nil)) pa_nil))))))), ?_⟩
    have hp0 := hp
    obtain ⟨ps, pb, e, ⟨vss, es, rs⟩, ⟨vbs, eb, rb⟩⟩ := hp
    have hS : SqT K H a [.ref ps, .ref pb, .int p.gap] := SqT.of e
    have el : vss.length = p.ss.length := rs.len
    have el2 : vbs.length = p.bs.length := rb.len
    have em : ((vss.length : Int) + (vbs.length : Int)) = ((p.many : Nat) : Int) := by unfold Pb.many; omega
    have hm := Pb.many_le ok
    refine ⟨Nat.zero_le _, fun r0 hr0 => ?_⟩
    have sd : Same H (upd H r0 (.lst [])) := same_upd hr0
    have kd := Same.keepT sd
    refine ⟨_, rfl, _, _, 0, .ref ps, rfl, rfl, SqT.of (kd _ _ e), atI_nat (j := 0) rfl, _, _, rfl, .inr (SqT.of (kd _ _ es)), _, rfl, _, _, 1, .ref pb, rfl, rfl, SqT.of (kd _ _ e), atI_nat (j := 1) rfl, _, _, rfl, .inr (SqT.of (kd _ _ eb)), _, _, rfl, rfl, ?_⟩
    refine ⟨p.many, by rw [← em], by omega, by omega, ?_⟩
    refine for_range (n := p.many) (lo := 0) (fun i σ H' => (∃ r v2, σ = [some (.ref a), some (.ref r), v2] ∧ H' r = some (.lst ((p.levsTo i).map V.int))) ∧ Same H H') ⟨⟨r0, none, rfl, upd_same⟩, sd⟩ (fun i σ H' hi h => ?_) (fun σ H' h => ?_)
    · obtain ⟨⟨r, v2, rfl, hr'⟩, sm⟩ := h
      have ll : ∀ j, (p.levsTo j).length = 2 * j := fun j => by
        induction j with
        | zero => rfl
        | succ j ih => rw [p.levsTo_succ j, List.length_append, ih]; show 2 * j + 2 = _; omega
      refine ⟨_, rfl, _, rfl, _, rfl, a, p, i, by simp, hp0.keep (Same.keepT sm), hi, fun t ht => ?_⟩
      refine ⟨_, rfl, _, rfl, t, _, rfl, SqT.of upd_same, (by show ¬(HT.sIx 5 0 (some 1) = 0 ∧ HT.sIx 5 5 (some 3) = 5); decide), fun t2 ht2 => ?_⟩
      refine ⟨t2, _, rfl, .inr (SqT.of upd_same), fun t3 ht3 => ?_⟩
      have s1 : Same H' _ := same_upd (o := .tup [.bl (p.giver i), .int (p.up i), .int (p.lo i), .int (p.rate i), .int (p.box i)]) ht
      have s2 : Same _ _ := same_upd (o := .tup [.int (p.up i), .int (p.lo i)]) ht2
      have s3 : Same _ _ := same_upd (o := .lst [.int (p.up i), .int (p.lo i)]) ht3
      refine ⟨r, t3, _, [.int (p.up i), .int (p.lo i)], rfl, rfl, s3 _ _ (s2 _ _ (s1 _ _ hr')), upd_same, ?_, fun t4 ht4 => ?_⟩
      · rw [List.length_map, ll]
        show 2 * i + 2 ≤ 16777216
        omega
      · have s4 := same_upd (o := .lst ((p.levsTo i).map V.int ++ [.int (p.up i), .int (p.lo i)])) ht4
        refine ⟨⟨t4, _, rfl, ?_⟩, fun c x hc => s4 c x (s3 c x (s2 c x (s1 c x (sm c x hc))))⟩
        rw [upd_same, p.levsTo_succ i, List.map_append]
        rfl
    · obtain ⟨⟨r, v2, rfl, hr'⟩, sm⟩ := h
      have ll : (p.levsTo p.many).length ≤ 24 := by
        have : ∀ j, (p.levsTo j).length = 2 * j := fun j => by
          induction j with
          | zero => rfl
          | succ j ih => rw [p.levsTo_succ j, List.length_append, ih]; show 2 * j + 2 = _; omega
        rw [this]
        omega
      refine ⟨_, rfl, r, p.levsTo p.many, rfl, SqL.of hr', by omega, fun u c hu hc => ?_⟩
      have s1 := same_upd (o := SetO w u (fun j => decide (j ∈ p.levsTo p.many)) c) hu
      refine ⟨u, _, c, rfl, upd_same, by omega, fun ls u2 _ hx hlc hu2 => ?_⟩
      have s2 := same_upd (o := .lst (ls.map V.int)) hu2
      refine ⟨u2, _, rfl, SqL.of upd_same, fun u3 hu3 => ?_⟩
      rw [← List.map_reverse]
      have s3 := same_upd (o := .lst (ls.reverse.map V.int)) hu3
      refine q _ u3 ls.reverse (fun b x hb => s3 b x (s2 b x (s1 b x (sm b x hb)))) ?_ upd_same (fun x => ?_) (by rw [List.length_reverse, hlc]; omega)
      · cases z : H u3 with
        | none => rfl
        | some o =>
          rw [s2 u3 o (s1 u3 o (sm u3 o z))] at hu3
          cases hu3
      · rw [List.mem_reverse, hx, decide_eq_true_eq]
        rfl
def spLHeating : Sp := fun vs H Q _ => ∃ (a : Addr) (p : Pb), vs = [.ref a] ∧ PbAt H a p ∧ Ok p ∧ ∀ H', Same H H' → Q (.int p.heat) H'
theorem ok_lheating (T : Tx K mg) : FnOk P w K mg base CX0 4 T.fLHeating T.dLHeating ["_law_problem_here"] spLHeating := by
  have Gl : FnOk P w K mg base CX0 2 T.fLLevels T.dLLevels ["_law_problem_here"] spLevels := ok_llevels T
  have Gn : FnOk P w K mg base CX0 3 T.fLNeed T.dLNeed ["_law_problem_here", "_law_level", "_law_is_open"] spLNeed := ok_lneed T
  refine T.DLHeating.F.ok scLHeating (fun vs H Q E h => ?_) (fun cdv A outer s H vs Q E hr h => ?_)
  · obtain ⟨a, p, rfl, _⟩ := h
    rfl
  · obtain ⟨a, p, rfl, hp, ok, q⟩ := h
    have hr2 : Room 2 _ := hr.mono (by decide)
    refine ⟨_, (pss_cons (ps_set (i := 1) scLHeating.nd rfl (.inl rfl) (pe_lst (pa_cons pe_int pa_nil))) (pss_cons (ps_for PassesOwn.never rfl (pi_list (pe_call Gl hr2 (by rfl) T.DLLevels.g T.DLLevels.F.kp T.DLLevels.b .nil pass0 (pa_cons (pv 0) pa_nil))) (pg_name (i := 2) scLHeating.nd rfl (.inl rfl)) (pss_one (ps_set (i := 1) scLHeating.nd rfl (.inl rfl) (pe_op op_cat (pv 1) (pe_lst (pa_cons (pe_call Gn hr (by rfl) T.DLNeed.g T.DLNeed.F.kp T.DLNeed.b .nil pass0 (pa_cons (pv 0) (pa_cons (pv 2) (pa_cons pe_bl pa_nil)))) (pa_cons (pe_call Gn hr (by rfl) T.DLNeed.g T.DLNeed.F.kp T.DLNeed.b .nil pass0 (pa_cons (pv 0) (pa_cons (pv 2) (pa_cons pe_bl pa_nil)))) pa_nil))))))) (pss_one (ps_ret (pe_callB (cr_max rfl) (by rfl) T.B.max_ (by decide +kernel) (pa_cons (pv 1) pa_nil)))))), ?_⟩
    refine ⟨(by show 1 ≤ sizeLine; decide), fun r0 hr0 => ?_⟩
    have sd : Same H (upd H r0 (.lst [.int 0])) := same_upd hr0
    refine ⟨_, rfl, a, p, rfl, hp.keep (Same.keepT sd), ok, fun H1 d ls s1 hd hl hx h40 => ⟨d, rfl, ⟨_, SqL.of hl⟩, ?_⟩⟩
    refine for_list (xs := ls.map V.int) (fun i σ H' => (∃ r v2 ns, σ = [some (.ref a), some (.ref r), v2] ∧ H' r = some (.lst (ns.map V.int)) ∧ ns.length = 2 * i + 1 ∧ (∀ k, (∀ y ∈ ns, y ≤ k) ↔ 0 ≤ k ∧ ∀ y ∈ ls.take i, p.both y ≤ k) ∧ 0 < ns.length) ∧ Same H H' ∧ Same H1 H') ⟨⟨r0, none, [0], rfl, s1 _ _ upd_same, rfl, fun k => by simp, by decide⟩, fun c x hc => s1 c x (sd c x hc), fun _ _ e => e⟩ (fun i σ H' _ h => SqL.of (h.2.2 _ _ hl)) (fun i x σ H' hi h => ?_) (fun σ H' h => ?_)
    · obtain ⟨⟨r, v2, ns, rfl, hr', hn, hk, hpos⟩, sm, sm1⟩ := h
      obtain ⟨l, hl', rfl⟩ : ∃ l, ls[i]? = some l ∧ V.int l = x := by
        rw [List.getElem?_map] at hi
        exact Option.map_eq_some_iff.mp hi
      have hil : i < ls.length := (List.getElem?_eq_some_iff.mp hl').1
      refine ⟨_, rfl, _, rfl, _, rfl, a, p, l, true, rfl, hp.keep (Same.keepT sm), ok, fun H2 s2 => ?_⟩
      have s02 : Same H H2 := fun c x hc => s2 c x (sm c x hc)
      refine ⟨_, rfl, _, rfl, a, p, l, false, rfl, hp.keep (Same.keepT s02), ok, fun H3 s3 => ⟨(by show 2 ≤ sizeLine; decide), fun t ht => ?_⟩⟩
      have s4 := same_upd (o := .lst [.int (p.needA l true), .int (p.needA l false)]) ht
      refine ⟨r, t, _, [.int (p.needA l true), .int (p.needA l false)], rfl, rfl, s4 _ _ (s3 _ _ (s2 _ _ hr')), upd_same, ?_, fun t2 ht2 => ?_⟩
      · rw [List.length_map]
        show ns.length + 2 ≤ 16777216
        omega
      · have s5 := same_upd (o := .lst (ns.map V.int ++ [.int (p.needA l true), .int (p.needA l false)])) ht2
        refine ⟨⟨t2, some (.int l), ns ++ [p.needA l true, p.needA l false], rfl, ?_, ?_, fun k => ?_, ?_⟩, fun c x hc => s5 c x (s4 c x (s3 c x (s02 c x hc))), fun c x hc => s5 c x (s4 c x (s3 c x (s2 c x (sm1 c x hc))))⟩
        · rw [upd_same, List.map_append]
          rfl
        · rw [List.length_append]
          show ns.length + 2 = _
          omega
        · rw [List.take_succ, hl']
          have e : p.both l ≤ k ↔ p.needA l true ≤ k ∧ p.needA l false ≤ k := mx_le
          have hk' := hk k
          simp only [Option.toList_some, List.mem_append, List.mem_cons, List.not_mem_nil, or_false]
          constructor
          · intro h
            have h1 := hk'.mp fun y hy => h y (.inl hy)
            refine ⟨h1.1, fun y hy => ?_⟩
            rcases hy with hy | rfl
            · exact h1.2 y hy
            · exact e.mpr ⟨h _ (.inr (.inl rfl)), h _ (.inr (.inr rfl))⟩
          · rintro ⟨h0, h⟩ y hy
            have h1 := hk'.mpr ⟨h0, fun y hy => h y (.inl hy)⟩
            have h2 := e.mp (h l (.inr rfl))
            rcases hy with hy | rfl | rfl
            · exact h1 y hy
            · exact h2.1
            · exact h2.2
        · rw [List.length_append]
          omega
    · obtain ⟨⟨r, v2, ns, rfl, hr', hn, hk, hpos⟩, sm, sm1⟩ := h
      refine ⟨_, rfl, r, ns, rfl, SqL.of hr', hpos, fun m hm hmax => ?_⟩
      have e : m = p.heat := by
        have h1 := (hk m).mp hmax
        rw [List.length_map, List.take_length] at h1 hk
        apply Int.le_antisymm
        · have h2 := (hk p.heat).mpr ⟨(foldmx_le.mp (Int.le_refl p.heat)).1, fun y hy => (foldmx_le.mp (Int.le_refl p.heat)).2 y ((hx y).mp hy)⟩
          exact h2 m hm
        · exact foldmx_le.mpr ⟨h1.1, fun y hy => h1.2 y ((hx y).mpr hy)⟩
      rw [e]
      exact q _ sm
end
end Q46
namespace Q46
open PySem PySem.Spec PyProof.Rows L2
/-- all but r is kept -/
def But (r : Addr) (H H' : Hp) : Prop := ∀ b o, b ≠ r → H b = some o → H' b = some o
theorem But.refl (r : Addr) (H : Hp) : But r H H := fun _ _ _ e => e
theorem But.trans {r : Addr} {H H1 H2 : Hp} (a : But r H H1) (b : But r H1 H2) : But r H H2 := fun c o n e => b c o n (a c o n e)
theorem But.of {r : Addr} {H H' : Hp} (s : Same H H') : But r H H' := fun c o _ e => s c o e
theorem But.upd {r : Addr} {H : Hp} {o : HO} : But r H (upd H r o) := fun c x n e => by rw [upd_ne n]; exact e
theorem But.keepT {r : Addr} {H H' : Hp} {us : List V} (b : But r H H') (h : H r = some (.lst us)) : KeepT H H' := fun c xs e => b c _ (fun z => by rw [z, h] at e; cases e) e
/-- the row at r: script, place, state, rest -/
def RowAt (K : PySem.W.Frag) (H : Hp) (r sc : Addr) (ns : List Int) : Prop := ∃ (i s k : Int), H r = some (.lst [.ref sc, .int i, .int s, .int k]) ∧ SqL K H sc (ns.map V.int) ∧ 0 ≤ i ∧ 0 ≤ s ∧ s < 2147483647
theorem seq_upd {K : PySem.W.Frag} {H : Hp} {r sc : Addr} {t : List V} {ns : List Int} {o : HO} (hr : H r = some (.lst (.ref sc :: t))) (h : SqL K H sc (ns.map V.int)) : SqL K (upd H r o) sc (ns.map V.int) := by
  rcases h with (h | ⟨o', h⟩) | h
  · refine .inl (.inl ?_)
    rw [upd_ne ?_]
    · exact h
    · intro z
      rw [z, hr] at h
      cases ns with
      | nil => cases h
      | cons a b => cases h
  · refine .inl (.inr ⟨o', ?_⟩)
    rw [upd_ne ?_]
    · exact h
    · intro z
      rw [z, hr] at h
      cases h
  · exact .inr h
theorem seq_same {K : PySem.W.Frag} {H H' : Hp} {sc : Addr} {xs : List V} (h : SqL K H sc xs) (s : Same H H') : SqL K H' sc xs := s.seq h
theorem RowAt.same {K : PySem.W.Frag} {H H' : Hp} {r sc : Addr} {ns : List Int} (h : RowAt K H r sc ns) (s : Same H H') : RowAt K H' r sc ns := by
  obtain ⟨i, st, k, hr, hs, a, b, c⟩ := h
  exact ⟨i, st, k, s _ _ hr, s.seq hs, a, b, c⟩
theorem RowAt.lst {K : PySem.W.Frag} {H : Hp} {r sc : Addr} {ns : List Int} (h : RowAt K H r sc ns) : ∃ us, H r = some (.lst us) := let ⟨_, _, _, hr, _⟩ := h; ⟨_, hr⟩
theorem seq_but {K : PySem.W.Frag} {H H' : Hp} {r sc : Addr} {ns : List Int} (h : RowAt K H r sc ns) (b : But r H H') : SqL K H' sc (ns.map V.int) := by
  obtain ⟨i, st, k, hr, hs, _⟩ := h
  rcases hs with (h | ⟨o', h⟩) | h
  · refine .inl (.inl (b _ _ (fun z => ?_) h))
    rw [z, hr] at h
    cases ns with
    | nil => cases h
    | cons a b => cases h
  · refine .inl (.inr ⟨o', b _ _ (fun z => ?_) h⟩)
    rw [z, hr] at h
    cases h
  · exact .inr h
/-- another list is changed, that did not stand at the start -/
theorem RowAt.other {K : PySem.W.Frag} {H0 H : Hp} {r sc l : Addr} {ns : List Int} {o : HO} (h0 : RowAt K H0 r sc ns) (b : But r H0 H) (h : RowAt K H r sc ns) (hl : H0 l = none) : But r H0 (upd H l o) ∧ RowAt K (upd H l o) r sc ns := by
  have b2 : But r H0 (upd H l o) := fun c x n e => by
    rw [upd_ne (ne_of_none e hl)]
    exact b c x n e
  have ne : r ≠ l := by
    obtain ⟨_, _, _, hr, _⟩ := h0
    exact ne_of_none hr hl
  obtain ⟨i, st, k, hr, _, a⟩ := h
  exact ⟨b2, i, st, k, by rw [upd_ne ne]; exact hr, seq_but h0 b2, a⟩
section
variable {P : Program} {w : World} {K : PySem.W.Frag} {mg : Str → Option Value} {base : Heap}
def spTaken (K : PySem.W.Frag) : Sp := fun vs H Q _ => ∃ (r sc : Addr) (ns : List Int) (m : Int), vs = [.ref r, .int m] ∧ RowAt K H r sc ns ∧ 0 < m ∧ m < 1073741824 ∧ ∀ H' x, But r H H' → RowAt K H' r sc ns → 0 ≤ x → x < m → Q (.int x) H'
theorem fmod_pos (x : Int) {m : Int} (h : 0 < m) : 0 ≤ x.fmod m ∧ x.fmod m < m := by
  rw [Int.fmod_eq_emod_of_nonneg x (Int.le_of_lt h)]
  exact ⟨Int.emod_nonneg x (by omega), Int.emod_lt_of_pos x h⟩
theorem ok_taken (T : Tx K mg) : FnOk P w K mg base CX0 1 T.fTaken T.dTaken ["_law_row", "_law_many"] (spTaken K) := by
  refine T.DTaken.F.ok scTaken (fun vs H Q E h => ?_) (fun cdv A outer s H vs Q E hr h => ?_)
  · obtain ⟨r, sc, ns, m, rfl, _⟩ := h
    rfl
  · obtain ⟨r, sc, ns, m, rfl, ⟨i, st, k, hrow, hsc, hi, hs0, hs1⟩, m0, m1, q⟩ := h
    refine ⟨_, (pss_cons (ps_if (pt_cmpR op_gt (pe_ix ix_list (pv 0) pe_int (fun _ _ => rfl)) pe_int (nomark _)) (pss_cons (ps_set (i := 2) scTaken.nd rfl (.inl rfl) (pe_op op_modN (pe_callTy call_int1 (by rfl) T.B.int_ (by decide +kernel) (pa_cons (pe_ix ix_list (pv 0) pe_int (fun _ _ => rfl)) pa_nil)) (pv 1))) (pss_cons (ps_asg (pe_op op_fdivN (pe_ix ix_list (pv 0) pe_int (fun _ _ => rfl)) (pv 1)) (pg_sub (pv 0) pe_int set_list)) (pss_one (ps_ret (pv 2))))) pss_nil) (pss_cons (ps_asg (pe_op op_add (pe_ix ix_list (pv 0) pe_int (fun _ _ => rfl)) pe_int) (pg_sub (pv 0) pe_int set_list)) (pss_cons (ps_if (pt_cmpR op_gt (pe_ix ix_list (pv 0) pe_int (fun _ _ => rfl)) (pe_callB call_len_seq (by rfl) T.B.len_ PySem.boot_len (pa_cons (pe_ix ix_list (pv 0) pe_int (fun _ _ => rfl)) pa_nil)) (nomark _)) (pss_cons (ps_asg (pe_op op_modN (pe_callTy call_int1 (by rfl) T.B.int_ (by decide +kernel) (pa_cons (pe_op op_add (pe_op op_mul (pe_ix ix_list (pv 0) pe_int (fun _ _ => rfl)) pe_int) pe_int) pa_nil)) pe_int) (pg_sub (pv 0) pe_int set_list)) (pss_one (ps_ret (pe_op op_modN (pe_callTy call_int1 (by rfl) T.B.int_ (by decide +kernel) (pa_cons (pe_op op_fdivN (pe_ix ix_list (pv 0) pe_int (fun _ _ => rfl)) pe_int) pa_nil)) (pv 1))))) pss_nil) (pss_cons (ps_set (i := 3) scTaken.nd rfl (.inl rfl) (pe_ix ix_list (pe_ix ix_list (pv 0) pe_int (fun _ _ => rfl)) (pe_op op_sub (pe_ix ix_list (pv 0) pe_int (fun _ _ => rfl)) pe_int) (fun _ _ => rfl))) (pss_cons (ps_asg (pe_op op_modN (pe_callTy call_int1 (by rfl) T.B.int_ (by decide +kernel) (pa_cons (pe_op op_add (pe_op op_add (pe_op op_mul (pe_ix ix_list (pv 0) pe_int (fun _ _ => rfl)) pe_int) (pv 3)) pe_int) pa_nil)) pe_int) (pg_sub (pv 0) pe_int set_list)) (pss_cons (ps_if (pt_cmpR op_ge (pv 3) (pe_op op_pow pe_int pe_int) (nomark _)) (pss_one (ps_asg (pe_op op_fdivN (pv 3) (pv 1)) (pg_sub (pv 0) pe_int set_list))) pss_nil) (pss_one (ps_ret (pe_op op_modN (pe_callTy call_int1 (by rfl) T.B.int_ (by decide +kernel) (pa_cons (pv 3) pa_nil)) (pv 1)))))))))), ?_⟩
    have hm : m ≠ 0 := by omega
    have hm2 : m.natAbs < 1073741824 := by omega
    refine ⟨_, rfl, _, _, 3, .int k, rfl, rfl, SqL.of hrow, atI_nat (j := 3) rfl, _, _, rfl, rfl, _, rfl, goE (fun z => ?_) (fun z => ?_)⟩
    · refine ⟨_, rfl, _, _, 3, .int k, rfl, rfl, SqL.of hrow, atI_nat (j := 3) rfl, .inl ⟨_, rfl, _, rfl, _, _, rfl, rfl, hm, ?_⟩⟩
      refine ⟨_, rfl, _, _, 3, .int k, rfl, rfl, SqL.of hrow, atI_nat (j := 3) rfl, _, rfl, _, _, rfl, rfl, ⟨hm, hm2⟩, _, rfl, r, _, _, 3, rfl, rfl, hrow, rfl, ?_⟩
      refine ⟨_, rfl, q _ _ But.upd ⟨i, st, k.fdiv m, upd_same, seq_upd hrow hsc, hi, hs0, hs1⟩ (fmod_pos k m0).1 (fmod_pos k m0).2⟩
    · refine ⟨_, rfl, _, _, 1, .int i, rfl, rfl, SqL.of hrow, atI_nat (j := 1) rfl, _, _, rfl, rfl, _, rfl, r, _, _, 1, rfl, rfl, hrow, rfl, ?_⟩
      have b1 : But r H (upd H r (.lst [.ref sc, .int (i + 1), .int st, .int k])) := But.upd
      have hrow1 : (upd H r (.lst [.ref sc, .int (i + 1), .int st, .int k])) r = some (.lst [.ref sc, .int (i + 1), .int st, .int k]) := upd_same
      have hsc1 : SqL K (upd H r (.lst [.ref sc, .int (i + 1), .int st, .int k])) sc (ns.map V.int) := seq_upd hrow hsc
      refine ⟨_, rfl, _, _, 1, .int (i + 1), rfl, rfl, SqL.of hrow1, atI_nat (j := 1) rfl, _, rfl, _, _, 0, .ref sc, rfl, rfl, SqL.of hrow1, atI_nat (j := 0) rfl, _, _, rfl, .inl hsc1, _, _, rfl, rfl, _, rfl, goE (fun z2 => ?_) (fun z2 => ?_)⟩
      · refine ⟨_, rfl, _, _, 2, .int st, rfl, rfl, SqL.of hrow1, atI_nat (j := 2) rfl, _, _, rfl, rfl, .inl ⟨by omega, by omega⟩, _, _, rfl, rfl, .inl ⟨_, rfl, _, _, rfl, rfl, (by show (2147483647 : Int) ≠ 0; decide), _, rfl, r, _, _, 2, rfl, rfl, hrow1, rfl, ?_⟩⟩
        have f := fmod_pos (st * 48271 + 11) (m := 2147483647) (by decide)
        have hrow2 : (upd (upd H r (.lst [.ref sc, .int (i + 1), .int st, .int k])) r (.lst [.ref sc, .int (i + 1), .int ((st * 48271 + 11).fmod 2147483647), .int k])) r = some (.lst [.ref sc, .int (i + 1), .int ((st * 48271 + 11).fmod 2147483647), .int k]) := upd_same
        refine ⟨_, rfl, _, _, 2, .int _, rfl, rfl, SqL.of hrow2, atI_nat (j := 2) rfl, _, _, rfl, rfl, ⟨by decide, by decide⟩, .inl ⟨_, rfl, _, rfl, _, _, rfl, rfl, hm, ?_⟩⟩
        refine q _ _ (b1.trans But.upd) ⟨i + 1, _, k, hrow2, seq_upd hrow1 hsc1, by omega, f.1, f.2⟩ (fmod_pos _ m0).1 (fmod_pos _ m0).2
      · have hin : i.toNat < ns.length := by
          simp at z2
          omega
        have hat : atI (ns.map V.int) (i + 1 - 1) = some (.int ns[i.toNat]) := by
          have e : i + 1 - 1 = (i.toNat : Int) := by omega
          rw [e]
          exact atI_nat (by rw [List.getElem?_map, List.getElem?_eq_getElem hin]; rfl)
        refine ⟨_, rfl, _, _, 0, .ref sc, rfl, rfl, SqL.of hrow1, atI_nat (j := 0) rfl, _, rfl, _, _, 1, .int (i + 1), rfl, rfl, SqL.of hrow1, atI_nat (j := 1) rfl, _, _, rfl, rfl, sc, _, _, .int ns[i.toNat], rfl, rfl, hsc1, hat, ?_⟩
        generalize ns[i.toNat] = c
        refine ⟨_, rfl, _, _, 2, .int st, rfl, rfl, SqL.of hrow1, atI_nat (j := 2) rfl, _, _, rfl, rfl, .inl ⟨by omega, by omega⟩, _, rfl, _, _, rfl, rfl, _, _, rfl, rfl, .inl ⟨_, rfl, _, _, rfl, rfl, (by show (2147483647 : Int) ≠ 0; decide), _, rfl, r, _, _, 2, rfl, rfl, hrow1, rfl, ?_⟩⟩
        have f := fmod_pos (st * 48271 + c + 11) (m := 2147483647) (by decide)
        have hrow2 : (upd (upd H r (.lst [.ref sc, .int (i + 1), .int st, .int k])) r (.lst [.ref sc, .int (i + 1), .int ((st * 48271 + c + 11).fmod 2147483647), .int k])) r = some (.lst [.ref sc, .int (i + 1), .int ((st * 48271 + c + 11).fmod 2147483647), .int k]) := upd_same
        have b2 := b1.trans (But.upd (H := upd H r (.lst [.ref sc, .int (i + 1), .int st, .int k])) (o := .lst [.ref sc, .int (i + 1), .int ((st * 48271 + c + 11).fmod 2147483647), .int k]))
        have hsc2 := seq_upd (o := .lst [.ref sc, .int (i + 1), .int ((st * 48271 + c + 11).fmod 2147483647), .int k]) hrow1 hsc1
        refine ⟨_, rfl, _, _, rfl, rfl, ⟨by decide, by decide, by decide⟩, _, _, rfl, rfl, _, rfl, goE (fun z3 => ?_) (fun z3 => ?_)⟩
        · refine ⟨_, rfl, _, rfl, _, _, rfl, rfl, ⟨hm, hm2⟩, _, rfl, r, _, _, 3, rfl, rfl, hrow2, rfl, ?_⟩
          refine ⟨_, rfl, .inl ⟨_, rfl, _, rfl, _, _, rfl, rfl, hm, ?_⟩⟩
          exact q _ _ (b2.trans But.upd) ⟨i + 1, _, _, upd_same, seq_upd hrow2 hsc2, by omega, f.1, f.2⟩ (fmod_pos c m0).1 (fmod_pos c m0).2
        · refine ⟨_, rfl, .inl ⟨_, rfl, _, rfl, _, _, rfl, rfl, hm, ?_⟩⟩
          exact q _ _ b2 ⟨i + 1, _, k, hrow2, hsc2, by omega, f.1, f.2⟩ (fmod_pos c m0).1 (fmod_pos c m0).2
/-! ### _law_pick -/
def spPick (K : PySem.W.Frag) : Sp := fun vs H Q _ => ∃ (r l sc : Addr) (ns xs : List Int), vs = [.ref r, .ref l] ∧ RowAt K H r sc ns ∧ H l = some (.lst (xs.map V.int)) ∧ l ≠ r ∧ 0 < xs.length ∧ xs.length ≤ 100 ∧ ∀ H' x, But r H H' → RowAt K H' r sc ns → x ∈ xs → Q (.int x) H'
theorem ok_pick (T : Tx K mg) : FnOk P w K mg base CX0 2 T.fPick T.dPick ["_law_row", "_law_things"] (spPick K) := by
  have Gt : FnOk P w K mg base CX0 1 T.fTaken T.dTaken ["_law_row", "_law_many"] (spTaken K) := ok_taken T
  refine T.DPick.F.ok scPick (fun vs H Q E h => ?_) (fun cdv A outer s H vs Q E hr h => ?_)
  · obtain ⟨r, l, sc, ns, xs, rfl, _⟩ := h
    rfl
  · obtain ⟨r, l, sc, ns, xs, rfl, hrow, hl, ne, h0, h1, q⟩ := h
    refine ⟨_, (pss_one (ps_ret (pe_ix ix_list (pv 1) (pe_call Gt hr (by rfl) T.DTaken.g T.DTaken.F.kp T.DTaken.b .nil pass0 (pa_cons (pv 0) (pa_cons (pe_callB call_len_seq (by rfl) T.B.len_ PySem.boot_len (pa_cons (pv 1) pa_nil)) pa_nil))) (fun _ _ => rfl)))), ?_⟩
    refine ⟨_, rfl, _, rfl, _, rfl, _, _, rfl, .inl (SqL.of hl), r, sc, ns, _, rfl, hrow, by rw [List.length_map]; omega, by rw [List.length_map]; omega, fun H' x b hrow' x0 x1 => ?_⟩
    have hl' := b l _ ne hl
    rw [List.length_map] at x1
    have hx : x.toNat < xs.length := by omega
    refine ⟨l, _, _, .int xs[x.toNat], rfl, rfl, SqL.of hl', ?_, q H' _ b hrow' (List.getElem_mem hx)⟩
    have key : ∀ j : Nat, j = x.toNat → atI (xs.map V.int) (j : Int) = some (.int xs[x.toNat]) := fun j hj => by
      subst hj
      exact atI_nat (by rw [List.getElem?_map]; simp [hx])
    have e := key x.toNat rfl
    rw [Int.toNat_of_nonneg x0] at e
    exact e
end
end Q46
namespace Q46
open PySem PySem.Spec PyProof.Rows L2
/-- while a problem is drawn: the row at r, the streams so far at ls, the boxes at lb -/
structure Dr (K : PySem.W.Frag) (r sc ls lb : Addr) (ns : List Int) (H0 H : Hp) (ss : List S3) (bs : List (Int × Int)) : Prop where
  row0 : RowAt K H0 r sc ns
  zs : H0 ls = none
  zb : H0 lb = none
  but : But r H0 H
  row : RowAt K H r sc ns
  sb : ls ≠ lb
  s : ∃ us, H ls = some (.lst us) ∧ Refs T3 H us ss
  b : ∃ us, H lb = some (.lst us) ∧ Refs T2 H us bs
section
variable {K : PySem.W.Frag} {r sc ls lb : Addr} {ns : List Int} {H0 H H' : Hp} {ss : List S3} {bs : List (Int × Int)}
theorem Dr.nr (d : Dr K r sc ls lb ns H0 H ss bs) : ls ≠ r ∧ lb ≠ r := by
  obtain ⟨_, _, _, hr, _⟩ := d.row0
  exact ⟨Ne.symm (ne_of_none hr d.zs), Ne.symm (ne_of_none hr d.zb)⟩
theorem Dr.step (d : Dr K r sc ls lb ns H0 H ss bs) (b : But r H H') (row : RowAt K H' r sc ns) : Dr K r sc ls lb ns H0 H' ss bs := by
  obtain ⟨us, e⟩ := d.row.lst
  obtain ⟨us1, e1, r1⟩ := d.s
  obtain ⟨us2, e2, r2⟩ := d.b
  exact ⟨d.row0, d.zs, d.zb, d.but.trans b, row, d.sb, ⟨us1, b _ _ d.nr.1 e1, r1.imp (T3.keep (b.keepT e))⟩, ⟨us2, b _ _ d.nr.2 e2, r2.imp (T2.keep (b.keepT e))⟩⟩
theorem Dr.same (d : Dr K r sc ls lb ns H0 H ss bs) (s : Same H H') : Dr K r sc ls lb ns H0 H' ss bs := d.step (But.of s) (d.row.same s)
theorem Dr.addS {us : List V} {t : S3} {p : Addr} (d : Dr K r sc ls lb ns H0 H ss bs) (hu : H ls = some (.lst us)) (hp : T3 H p t) : Dr K r sc ls lb ns H0 (upd H ls (.lst (us ++ [.ref p]))) (ss ++ [t]) bs := by
  obtain ⟨us1, e1, r1⟩ := d.s
  obtain ⟨us2, e2, r2⟩ := d.b
  rw [hu] at e1
  cases e1
  have k := keepT_mut (o := .lst (us ++ [.ref p])) hu
  obtain ⟨b, row⟩ := d.row0.other d.but d.row (o := .lst (us ++ [.ref p])) d.zs
  exact ⟨d.row0, d.zs, d.zb, b, row, d.sb, ⟨_, upd_same, Refs.app (r1.imp (T3.keep k)) rfl (T3.keep k _ _ hp)⟩, ⟨us2, by rw [upd_ne (Ne.symm d.sb)]; exact e2, r2.imp (T2.keep k)⟩⟩
theorem Dr.addB {us : List V} {t : Int × Int} {p : Addr} (d : Dr K r sc ls lb ns H0 H ss bs) (hu : H lb = some (.lst us)) (hp : T2 H p t) : Dr K r sc ls lb ns H0 (upd H lb (.lst (us ++ [.ref p]))) ss (bs ++ [t]) := by
  obtain ⟨us1, e1, r1⟩ := d.s
  obtain ⟨us2, e2, r2⟩ := d.b
  rw [hu] at e2
  cases e2
  have k := keepT_mut (o := .lst (us ++ [.ref p])) hu
  obtain ⟨b, row⟩ := d.row0.other d.but d.row (o := .lst (us ++ [.ref p])) d.zb
  exact ⟨d.row0, d.zs, d.zb, b, row, d.sb, ⟨us1, by rw [upd_ne d.sb]; exact e1, r1.imp (T3.keep k)⟩, ⟨_, upd_same, Refs.app (r2.imp (T2.keep k)) rfl (T2.keep k _ _ hp)⟩⟩
end
/-! data of the lists -/
def d3 (t : S3) : PyData := .tuple [.int t.1, .int t.2.1, .int t.2.2]
def d2 (t : Int × Int) : PyData := .tuple [.int t.1, .int t.2]
theorem lay3 : ∀ ss : List S3, PyData.canLayAll0 (ss.map d3) = true
  | [] => rfl
  | _ :: r => by simp [PyData.canLayAll0, PyData.canLay0, lay3 r, d3]
theorem lay2 : ∀ ss : List (Int × Int), PyData.canLayAll0 (ss.map d2) = true
  | [] => rfl
  | _ :: r => by simp [PyData.canLayAll0, PyData.canLay0, lay2 r, d2]
theorem dep3 : ∀ ss : List S3, PyData.depthAll (ss.map d3) ≤ 1
  | [] => by simp [PyData.depthAll]
  | _ :: r => by
    have := dep3 r
    simp [PyData.depthAll, PyData.depth, d3]
    omega
theorem dep2 : ∀ ss : List (Int × Int), PyData.depthAll (ss.map d2) ≤ 1
  | [] => by simp [PyData.depthAll]
  | _ :: r => by
    have := dep2 r
    simp [PyData.depthAll, PyData.depth, d2]
    omega
theorem shaped3 (ss : List S3) : SeqAt.shaped (.list (ss.map d3)) = true := by
  have := dep3 ss
  simp [SeqAt.shaped, PyData.canLay0, PyData.depth, lay3]
  omega
theorem shaped2 (ss : List (Int × Int)) : SeqAt.shaped (.list (ss.map d2)) = true := by
  have := dep2 ss
  simp [SeqAt.shaped, PyData.canLay0, PyData.depth, lay2]
  omega
theorem dp3 {K : PySem.W.Frag} {H : Hp} : ∀ {us : List V} {ss : List S3}, Refs T3 H us ss → DpAll K H us (ss.map d3)
  | _, _, .nil => .nil
  | _, _, .cons ⟨a, e, h⟩ t => by
    subst e
    exact .cons (.tup (SqT.of h) (.cons (.int _) (.cons (.int _) (.cons (.int _) .nil)))) (dp3 t)
theorem dp2 {K : PySem.W.Frag} {H : Hp} : ∀ {us : List V} {ss : List (Int × Int)}, Refs T2 H us ss → DpAll K H us (ss.map d2)
  | _, _, .nil => .nil
  | _, _, .cons ⟨a, e, h⟩ t => by
    subst e
    exact .cons (.tup (SqT.of h) (.cons (.int _) (.cons (.int _) .nil))) (dp2 t)
theorem eqv_nil (ds : List PyData) : PyData.eqv (.list ds) (.list []) = ds.isEmpty := by
  cases ds <;> simp [PyData.eqv, PyData.eqvAll]
theorem goW {c : Bool} {σ : L2.St} {H : Hp} {Q : VK} {i j k : Nat} {x a b z : Int} (h : σ[i]? = some (some (.int x))) (ha : σ[j]? = some (some (.int a))) (hb : σ[k]? = some (some (.int b))) (h1 : c = true → x = z) (h2 : c = false → a + b = z) (q : Q (.int z) H) :
    if c = true then tVar i σ H Q else tOp (rI0 fun i j => V.int (i + j)) (tVar j) (tVar k) σ H Q := by
  cases c
  · have e := h2 rfl
    subst e
    exact ⟨_, ha, _, hb, _, _, rfl, rfl, q⟩
  · have e := h1 rfl
    subst e
    exact ⟨_, h, q⟩
theorem goS {c : Bool} {σ : L2.St} {H : Hp} {Q : VK} {i : Nat} {x z : Int} (h : σ[i]? = some (some (.int x))) (h1 : c = true → x = z) (h2 : c = false → 0 - x = z) (q : Q (.int z) H) :
    if c = true then tVar i σ H Q else tOp (rI0 fun i j => V.int (i - j)) (tC (.int 0)) (tVar i) σ H Q := by
  cases c
  · have e := h2 rfl
    subst e
    exact ⟨_, h, _, _, rfl, rfl, q⟩
  · have e := h1 rfl
    subst e
    exact ⟨_, h, q⟩
theorem seq_fin {a rest : TS} {D : Ends} {σ : L2.St} {H : Hp} (Facts : L2.St → Hp → Prop) (hF : ∀ σ' H', Facts σ' H' → rest D σ' H') (h : (∀ σ' H', Facts σ' H' → rest D σ' H') → a { D with nx := rest D } σ H) : tSeq a rest D σ H := h hF
section
variable {P : Program} {w : World} {K : PySem.W.Frag} {mg : Str → Option Value} {base : Heap}
def spProblem (K : PySem.W.Frag) : Sp := fun vs H Q _ => ∃ (r sc : Addr) (ns : List Int), vs = [.ref r] ∧ RowAt K H r sc ns ∧ ∀ H' q pr, But r H H' → RowAt K H' r sc ns → PbAt H' q pr → Ok pr → pr.bs.length ≤ 2 → Q (.ref q) H'
theorem ok_problem (T : Tx K mg) : FnOk P w K mg base CX0 3 T.fProblem T.dProblem ["_law_row"] (spProblem K) := by
  have Gt : FnOk P w K mg base CX0 1 T.fTaken T.dTaken ["_law_row", "_law_many"] (spTaken K) := ok_taken T
  have Gp : FnOk P w K mg base CX0 2 T.fPick T.dPick ["_law_row", "_law_things"] (spPick K) := ok_pick T
  refine T.DProblem.F.ok scProblem (fun vs H Q E h => ?_) (fun cdv A outer s H vs Q E hr h => ?_)
  · obtain ⟨r, sc, ns, rfl, _⟩ := h
    rfl
  · obtain ⟨r, sc, ns, rfl, row0, q⟩ := h
    have hr1 : Room 1 _ := hr.mono (by decide)
    refine ⟨_, (pss_cons (ps_par (i := 1) (j := 2) (by rfl) scProblem.nd rfl rfl (by decide) rfl rfl (pa_cons (pe_lst pa_nil) (pa_cons (pe_lst pa_nil) pa_nil)) (by rfl)) (pss_cons (ps_set (i := 3) scProblem.nd rfl (.inl rfl) (pe_call Gp hr (by rfl) T.DPick.g T.DPick.F.kp T.DPick.b .nil pass0 (pa_cons (pv 0) (pa_cons (pe_lst (pa_cons pe_int (pa_cons pe_int (pa_cons pe_int (pa_cons pe_int pa_nil))))) pa_nil)))) (pss_cons (ps_for PassesOwn.never rfl (pi_range1 (by rfl) T.B.range_ (pa_cons (pe_call Gt hr1 (by rfl) T.DTaken.g T.DTaken.F.kp T.DTaken.b .nil pass0 (pa_cons (pv 0) (pa_cons pe_int pa_nil))) pa_nil)) (pg_name (i := 4) scProblem.nd rfl (.inl rfl)) (pss_cons (ps_set (i := 5) scProblem.nd rfl (.inl rfl) (pe_op op_mul (pv 3) (pe_call Gt hr1 (by rfl) T.DTaken.g T.DTaken.F.kp T.DTaken.b .nil pass0 (pa_cons (pv 0) (pa_cons pe_int pa_nil))))) (pss_cons (ps_set (i := 6) scProblem.nd rfl (.inl rfl) (pe_op op_mul (pv 3) (pe_call Gt hr1 (by rfl) T.DTaken.g T.DTaken.F.kp T.DTaken.b .nil pass0 (pa_cons (pv 0) (pa_cons pe_int pa_nil))))) (pss_one (ps_expr (pe_bm PySem.F.plainAttrs_list PySem.F.slot_list_append PySem.F.type_list_append mt_append (pv 1) (pa_cons (pe_tup (pa_cons (pv 5) (pa_cons (pe_ifExp (pt_cmpR op_ne (pv 6) (pv 5) (nomark _)) (pv 6) (pe_op op_add (pv 5) (pv 3))) (pa_cons (pe_op op_add pe_int (pe_call Gt hr1 (by rfl) T.DTaken.g T.DTaken.F.kp T.DTaken.b .nil pass0 (pa_cons (pv 0) (pa_cons (pe_call Gp hr (by rfl) T.DPick.g T.DPick.F.kp T.DPick.b .nil pass0 (pa_cons (pv 0) (pa_cons (pe_lst (pa_cons pe_int (pa_cons pe_int (pa_cons pe_int pa_nil)))) pa_nil))) pa_nil)))) pa_nil)))) pa_nil))))))) (pss_cons (ps_for PassesOwn.never rfl (pi_range1 (by rfl) T.B.range_ (pa_cons (pe_call Gp hr (by rfl) T.DPick.g T.DPick.F.kp T.DPick.b .nil pass0 (pa_cons (pv 0) (pa_cons (pe_lst (pa_cons pe_int (pa_cons pe_int (pa_cons pe_int (pa_cons pe_int pa_nil))))) pa_nil))) pa_nil)) (pg_name (i := 4) scProblem.nd rfl (.inl rfl)) (pss_cons (ps_set (i := 7) scProblem.nd rfl (.inl rfl) (pe_call Gp hr (by rfl) T.DPick.g T.DPick.F.kp T.DPick.b .nil pass0 (pa_cons (pv 0) (pa_cons (pe_lst (pa_cons pe_int (pa_cons pe_int (pa_cons pe_int (pa_cons pe_int (pa_cons (pe_op op_add pe_int (pe_call Gt hr1 (by rfl) T.DTaken.g T.DTaken.F.kp T.DTaken.b .nil pass0 (pa_cons (pv 0) (pa_cons pe_int pa_nil)))) pa_nil)))))) pa_nil)))) (pss_one (ps_expr (pe_bm PySem.F.plainAttrs_list PySem.F.slot_list_append PySem.F.type_list_append mt_append (pv 2) (pa_cons (pe_tup (pa_cons (pe_op op_mul (pv 3) (pe_call Gt hr1 (by rfl) T.DTaken.g T.DTaken.F.kp T.DTaken.b .nil pass0 (pa_cons (pv 0) (pa_cons pe_int pa_nil)))) (pa_cons (pe_ifExp (pt_cmpR op_eq (pe_call Gt hr1 (by rfl) T.DTaken.g T.DTaken.F.kp T.DTaken.b .nil pass0 (pa_cons (pv 0) (pa_cons pe_int pa_nil))) pe_int (nomark _)) (pv 7) (pe_op op_sub pe_int (pv 7))) pa_nil))) pa_nil)))))) (pss_cons (ps_if (PW.pt (pw_and (pt_cmpR (op_eqD (Room.units hr)) (pv 1) (pe_lst pa_nil) (nomark _)) (pw_and1 (pt_cmpR (op_eqD (Room.units hr)) (pv 2) (pe_lst pa_nil) (nomark _))))) (pss_one (ps_set (i := 1) scProblem.nd rfl (.inl rfl) (pe_lst (pa_cons (pe_tup (pa_cons pe_int (pa_cons (pv 3) (pa_cons pe_int pa_nil)))) pa_nil)))) pss_nil) (pss_one (ps_ret (pe_tup (pa_cons (pe_callTy call_tuple_of (by rfl) T.B.tuple_ (by decide +kernel) (pa_cons (pv 1) pa_nil)) (pa_cons (pe_callTy call_tuple_of (by rfl) T.B.tuple_ (by decide +kernel) (pa_cons (pv 2) pa_nil)) (pa_cons (pe_call Gp hr (by rfl) T.DPick.g T.DPick.F.kp T.DPick.b .nil pass0 (pa_cons (pv 0) (pa_cons (pe_lst (pa_cons pe_int (pa_cons (pv 3) (pa_cons (pv 3) (pa_cons (pe_op op_mul pe_int (pv 3)) (pa_cons (pe_call Gt hr1 (by rfl) T.DTaken.g T.DTaken.F.kp T.DTaken.b .nil pass0 (pa_cons (pv 0) (pa_cons pe_int pa_nil))) pa_nil)))))) pa_nil))) pa_nil))))))))))), ?_⟩
    refine ⟨Nat.zero_le _, fun ls hls => ⟨Nat.zero_le _, fun lb hlb => ⟨_, _, rfl, ?_⟩⟩⟩
    have sb : ls ≠ lb := fun z => by
      rw [← z, upd_same] at hlb
      cases hlb
    have hlb0 : H lb = none := by
      rw [upd_ne (Ne.symm sb)] at hlb
      exact hlb
    have s0 := (same_upd (o := .lst []) hls).trans (same_upd (o := .lst []) hlb)
    have D0 : Dr K r sc ls lb ns H (upd (upd H ls (.lst [])) lb (.lst [])) [] [] := ⟨row0, hls, hlb0, But.of s0, row0.same s0, sb, ⟨[], by rw [upd_ne sb]; exact upd_same, .nil⟩, ⟨[], upd_same, .nil⟩⟩
    clear s0
    generalize (upd (upd H ls (.lst [])) lb (.lst [])) = H1 at D0
    -- scale
    refine ⟨_, rfl, (by show 4 ≤ sizeLine; decide), fun l hl => ?_⟩
    have D1 := D0.same (same_upd (o := .lst [.int 1, .int 10, .int 10, .int 50]) hl)
    have nl : ∀ {H : Hp} {l : Addr}, RowAt K H r sc ns → H l = none → l ≠ r := fun h e => by
      obtain ⟨_, _, _, hr, _⟩ := h
      exact Ne.symm (ne_of_none hr e)
    refine ⟨r, l, sc, ns, [1, 10, 10, 50], rfl, D1.row, upd_same, nl D0.row hl, by decide, by decide, fun H2 scale b2 row2 hsc => ?_⟩
    have hs : scale = 1 ∨ scale = 10 ∨ scale = 50 := by
      simp at hsc
      omega
    have D2 := D1.step b2 row2
    clear D0 D1 hsc b2 row2 hl
    -- streams
    refine ⟨_, rfl, r, sc, ns, 5, rfl, D2.row, by decide, by decide, fun H3 m b3 row3 m0 m1 => ⟨m, rfl, by omega, by omega, ?_⟩⟩
    have D3 := D2.step b3 row3
    clear D2 b3 row3
    refine for_range (n := m.toNat) (lo := 0) (fun i σ H' => (∃ v4 v5 v6, σ = [some (.ref r), some (.ref ls), some (.ref lb), some (.int scale), v4, v5, v6, none]) ∧ ∃ ss, Dr K r sc ls lb ns H H' ss [] ∧ ss.length = i ∧ ∀ t ∈ ss, okS t) ⟨⟨none, none, none, rfl⟩, [], D3, rfl, fun t ht => absurd ht (by simp)⟩ (fun i σ H' hi h => ?_) (fun σ H' h => ?_)
    · obtain ⟨⟨v4, v5, v6, rfl⟩, ss, D, hlen, hok⟩ := h
      refine ⟨_, rfl, _, rfl, r, sc, ns, 20, rfl, D.row, by decide, by decide, fun H5 x b5 row5 x0 x1 => ⟨_, _, rfl, rfl, .inl ⟨by omega, by omega⟩, ?_⟩⟩
      have D5 := D.step b5 row5
      refine ⟨_, rfl, _, rfl, r, sc, ns, 20, rfl, D5.row, by decide, by decide, fun H6 y b6 row6 y0 y1 => ⟨_, _, rfl, rfl, .inl ⟨by omega, by omega⟩, ?_⟩⟩
      have D6 := D5.step b6 row6
      have hx : 0 ≤ scale * x ∧ scale * x ≤ 950 := by rcases hs with rfl | rfl | rfl <;> omega
      have hy : 0 ≤ scale * y ∧ scale * y ≤ 950 := by rcases hs with rfl | rfl | rfl <;> omega
      have hs0 : 1 ≤ scale ∧ scale ≤ 50 := by omega
      obtain ⟨us, hus, rus⟩ := D6.s
      refine ⟨_, rfl, .inl ⟨rfl, _, SqL.of hus⟩, _, rfl, _, rfl, _, rfl, rfl, _, rfl, goW (z := if scale * y ≠ scale * x then scale * y else scale * x + scale) rfl rfl rfl (fun c => ?_) (fun c => ?_) ?_⟩
      · have c' : scale * y ≠ scale * x := by simpa using c
        rw [if_pos c']
      · have c' : ¬ scale * y ≠ scale * x := by simpa using c
        rw [if_neg c']
      obtain ⟨g, hg⟩ : ∃ g, g = if scale * y ≠ scale * x then scale * y else scale * x + scale := ⟨_, rfl⟩
      rw [← hg]
      have hg2 : (0 ≤ g ∧ g ≤ 1000) ∧ scale * x ≠ g := by
        rw [hg]
        split <;> omega
      clear hg
      refine ⟨_, rfl, _, rfl, (by show 3 ≤ sizeLine; decide), fun l hl => ?_⟩
      have D7 := D6.same (same_upd (o := .lst [.int 3, .int 10, .int 100]) hl)
      refine ⟨r, l, sc, ns, [3, 10, 100], rfl, D7.row, upd_same, nl D6.row hl, by decide, by decide, fun H8 z b8 row8 hz => ?_⟩
      have hz' : 0 < z ∧ z ≤ 100 := by
        simp at hz
        omega
      have D8 := D7.step b8 row8
      refine ⟨r, sc, ns, z, rfl, row8, by omega, by omega, fun H9 u b9 row9 u0 u1 => ⟨_, _, rfl, rfl, (by show 3 ≤ sizeLine; decide), fun t ht => ?_⟩⟩
      have D9 := (D8.step b9 row9).same (same_upd (o := .tup [.int (scale * x), .int g, .int (1 + u)]) ht)
      obtain ⟨us9, hus9, rus9⟩ := D9.s
      refine ⟨ls, us9, _, rfl, rfl, hus9, ?_, ?_⟩
      · rw [rus9.len, hlen]
        show i < 16777216
        omega
      · refine ⟨⟨_, _, _, rfl⟩, ss ++ [(scale * x, g, 1 + u)], D9.addS hus9 upd_same, by rw [List.length_append, hlen]; rfl, fun t ht => ?_⟩
        rcases List.mem_append.mp ht with ht | ht
        · exact hok t ht
        · have e : t = (scale * x, g, 1 + u) := by simpa using ht
          rw [e]
          exact ⟨⟨hx.1, by show scale * x ≤ 1000; omega⟩, hg2.1, hg2.2, by show 1 ≤ 1 + u; omega, by show 1 + u ≤ 100; omega⟩
    -- boxes
    obtain ⟨⟨v4, v5, v6, rfl⟩, ss, D, hlen, hok⟩ := h
    clear D3 H3
    refine ⟨_, rfl, (by show 4 ≤ sizeLine; decide), fun l hl => ?_⟩
    have D1 := D.same (same_upd (o := .lst [.int 0, .int 0, .int 1, .int 2]) hl)
    refine ⟨r, l, sc, ns, [0, 0, 1, 2], rfl, D1.row, upd_same, nl D.row hl, by decide, by decide, fun H3 k b3 row3 hk => ?_⟩
    have hk' : 0 ≤ k ∧ k ≤ 2 := by
      simp at hk
      omega
    refine ⟨k, rfl, by omega, by omega, ?_⟩
    have D3 := D1.step b3 row3
    clear D D1 hk b3 row3 hl
    refine for_range (n := k.toNat) (lo := 0) (fun i σ H' => (∃ v4 v5 v6 v7, σ = [some (.ref r), some (.ref ls), some (.ref lb), some (.int scale), v4, v5, v6, v7]) ∧ ∃ bs, Dr K r sc ls lb ns H H' ss bs ∧ bs.length = i ∧ ∀ t ∈ bs, okB t) ⟨⟨_, _, _, none, rfl⟩, [], D3, rfl, fun t ht => absurd ht (by simp)⟩ (fun i σ H' hi h => ?_) (fun σ H' h => ?_)
    · obtain ⟨⟨v4, v5, v6, v7, rfl⟩, bs, D, hlenb, hokb⟩ := h
      refine ⟨_, rfl, _, rfl, r, sc, ns, 500, rfl, D.row, by decide, by decide, fun H5 x b5 row5 x0 x1 => ⟨_, _, rfl, rfl, (by show 5 ≤ sizeLine; decide), fun l hl => ?_⟩⟩
      have D5 := D.step b5 row5
      have D6 := D5.same (same_upd (o := .lst [.int 1, .int 20, .int 100, .int 10000, .int (1 + x)]) hl)
      refine ⟨r, l, sc, ns, [1, 20, 100, 10000, 1 + x], rfl, D6.row, upd_same, nl D5.row hl, by show 0 < 5; decide, by show 5 ≤ 100; decide, fun H7 ht7 b7 row7 hh => ?_⟩
      have hh' : 1 ≤ ht7 ∧ ht7 ≤ 10000 := by
        simp at hh
        omega
      have D7 := D6.step b7 row7
      obtain ⟨us, hus, rus⟩ := D7.b
      refine ⟨_, rfl, .inl ⟨rfl, _, SqL.of hus⟩, _, rfl, _, rfl, r, sc, ns, 20, rfl, D7.row, by decide, by decide, fun H8 y b8 row8 y0 y1 => ⟨_, _, rfl, rfl, .inl ⟨by omega, by omega⟩, ?_⟩⟩
      have D8 := D7.step b8 row8
      have hy : 0 ≤ scale * y ∧ scale * y ≤ 950 := by rcases hs with rfl | rfl | rfl <;> omega
      refine ⟨_, rfl, r, sc, ns, 2, rfl, D8.row, by decide, by decide, fun H9 z b9 row9 z0 z1 => ⟨rfl, _, rfl, goS (z := if z = 0 then ht7 else 0 - ht7) rfl (fun c => ?_) (fun c => ?_) ?_⟩⟩
      · have c' : z = 0 := by simpa using c
        rw [if_pos c']
      · have c' : ¬ z = 0 := by simpa using c
        rw [if_neg c']
      obtain ⟨g, hg⟩ : ∃ g, g = if z = 0 then ht7 else 0 - ht7 := ⟨_, rfl⟩
      rw [← hg]
      have hg2 : (-10000 ≤ g ∧ g ≤ 10000) ∧ g ≠ 0 := by
        rw [hg]
        split <;> omega
      clear hg
      refine ⟨(by show 2 ≤ sizeLine; decide), fun t ht => ?_⟩
      have D9 := (D8.step b9 row9).same (same_upd (o := .tup [.int (scale * y), .int g]) ht)
      obtain ⟨us9, hus9, rus9⟩ := D9.b
      refine ⟨lb, us9, _, rfl, rfl, hus9, ?_, ?_⟩
      · rw [rus9.len, hlenb]
        show i < 16777216
        omega
      · refine ⟨⟨_, _, _, _, rfl⟩, bs ++ [(scale * y, g)], D9.addB hus9 upd_same, by rw [List.length_append, hlenb]; rfl, fun t ht => ?_⟩
        rcases List.mem_append.mp ht with ht | ht
        · exact hokb t ht
        · have e : t = (scale * y, g) := by simpa using ht
          rw [e]
          exact ⟨⟨hy.1, by show scale * y ≤ 1000; omega⟩, hg2.1, hg2.2⟩
    obtain ⟨⟨v4, v5, v6, v7, rfl⟩, bs, D, hlenb, hokb⟩ := h
    clear D3 H3
    have row0 := D.row0
    obtain ⟨us, hus, rus⟩ := D.s
    obtain ⟨ub, hub, rub⟩ := D.b
    have lb2 : bs.length ≤ 2 := by omega
    have ls4 : ss.length ≤ 4 := by omega
    dsimp only
    refine seq_fin (rest := tRet _) (fun σ' H3 => ∃ l1 us1 ss', σ' = [some (.ref r), some (.ref l1), some (.ref lb), some (.int scale), v4, v5, v6, v7] ∧ But r H H3 ∧ RowAt K H3 r sc ns ∧ l1 ≠ r ∧ H3 l1 = some (.lst us1) ∧ Refs T3 H3 us1 ss' ∧ ss'.length ≤ 4 ∧ (∀ t ∈ ss', okS t) ∧ H3 lb = some (.lst ub) ∧ Refs T2 H3 ub bs ∧ (ss' ≠ [] ∨ bs ≠ [])) (fun σ' H3 h => ?_) (fun fin => ?_)
    · obtain ⟨l1, us1, ss', rfl, but, row, n1, h1, r1, len1, ok1, h2, r2, ne⟩ := h
      refine ⟨_, rfl, l1, us1, rfl, .inl ⟨SqL.of h1, fun t1 ht1 => ?_⟩⟩
      have s1 : Same H3 (upd H3 t1 (.tup us1)) := same_upd ht1
      refine ⟨_, rfl, lb, ub, rfl, .inl ⟨SqL.of (s1 _ _ h2), fun t2 ht2 => ?_⟩⟩
      have s2 : Same (upd H3 t1 (.tup us1)) (upd (upd H3 t1 (.tup us1)) t2 (.tup ub)) := same_upd ht2
      have s12 : Same H3 (upd (upd H3 t1 (.tup us1)) t2 (.tup ub)) := s1.trans s2
      have e1 : (upd (upd H3 t1 (.tup us1)) t2 (.tup ub)) t1 = some (.tup us1) := s2 _ _ upd_same
      have e2 : (upd (upd H3 t1 (.tup us1)) t2 (.tup ub)) t2 = some (.tup ub) := upd_same
      have k12 := Same.keepT s12
      have row2 := row.same s12
      have but2 := but.trans (But.of s12)
      generalize (upd (upd H3 t1 (.tup us1)) t2 (.tup ub)) = Hb at *
      refine ⟨_, rfl, _, rfl, _, rfl, _, rfl, _, _, rfl, rfl, .inl ⟨by decide, by decide⟩, _, rfl, r, sc, ns, 30, rfl, row2, by decide, by decide, fun H4 x b4 row4 x0 x1 => ⟨(by show 5 ≤ sizeLine; decide), fun l hl => ?_⟩⟩
      have s4 := same_upd (o := .lst [.int 0, .int scale, .int scale, .int (2 * scale), .int x]) hl
      refine ⟨r, l, sc, ns, [0, scale, scale, 2 * scale, x], rfl, row4.same s4, upd_same, nl row4 hl, by show 0 < 5; decide, by show 5 ≤ 100; decide, fun H5 g b5 row5 hg => ⟨(by show 3 ≤ sizeLine; decide), fun q0 hq0 => ?_⟩⟩
      have hg' : 0 ≤ g ∧ g ≤ 100 := by
        simp at hg
        omega
      have s5 := same_upd (o := .tup [.ref t1, .ref t2, .int g]) hq0
      have k4 : KeepT Hb H4 := by
        obtain ⟨_, e⟩ := row2.lst
        exact b4.keepT e
      have k5 : KeepT (upd H4 l (.lst [.int 0, .int scale, .int scale, .int (2 * scale), .int x])) H5 := by
        obtain ⟨_, e⟩ := (row4.same s4).lst
        exact b5.keepT e
      have kk : KeepT Hb (upd H5 q0 (.tup [.ref t1, .ref t2, .int g])) := k4.trans ((Same.keepT s4).trans (k5.trans (Same.keepT s5)))
      have k3 : KeepT H3 (upd H5 q0 (.tup [.ref t1, .ref t2, .int g])) := k12.trans kk
      exact q _ q0 ⟨ss', bs, g⟩ (but2.trans (b4.trans ((But.of s4).trans (b5.trans (But.of s5))))) (row5.same s5)
        ⟨t1, t2, upd_same, ⟨us1, kk _ _ e1, r1.imp (T3.keep k3)⟩, ⟨ub, kk _ _ e2, r2.imp (T2.keep k3)⟩⟩
        ⟨by show ss'.length ≤ 6; omega, by show bs.length ≤ 6; omega, ok1, hokb, hg'.1, hg'.2, ne⟩ lb2
    · have sh : ∀ {e1 : Addr}, H' e1 = none → Same H' (upd H' e1 (.lst [])) := fun h => same_upd h
      refine ⟨_, rfl, Nat.zero_le _, fun e1 he1 => ⟨.list (ss.map d3), .list [], .lst (SqL.of (sh he1 _ _ hus)) (dp3 (rus.imp (T3.keep (Same.keepT (sh he1))))), .lst (SqL.of upd_same) .nil, shaped3 ss, shaped3 [], _, rfl, goE (fun z => ?_) (fun z => ?_)⟩⟩
      · rw [eqv_nil] at z
        have z0 : ss = [] := by simpa using z
        subst z0
        have s1 := sh he1
        refine ⟨_, rfl, Nat.zero_le _, fun e2 he2 => ?_⟩
        have s2 := same_upd (o := .lst []) he2
        have s12 := s1.trans s2
        refine ⟨.list (bs.map d2), .list [], .lst (SqL.of (s12 _ _ hub)) (dp2 (rub.imp (T2.keep (Same.keepT s12)))), .lst (SqL.of upd_same) .nil, shaped2 bs, shaped2 [], _, rfl, goE (fun z2 => ?_) (fun z2 => ?_)⟩
        · have s1 := s12
          refine ⟨_, rfl, (by show 3 ≤ sizeLine; decide), fun t ht => ⟨(by show 1 ≤ sizeLine; decide), fun l1 hl1 => ?_⟩⟩
          have s3 := same_upd (o := .tup [.int 0, .int scale, .int 1]) ht
          have s4 := same_upd (o := .lst [.ref t]) hl1
          have s14 := s12.trans (s3.trans s4)
          refine fin _ _ ⟨l1, [.ref t], [(0, scale, 1)], rfl, D.but.trans (But.of s14), D.row.same s14, nl ((D.row.same s12).same s3) hl1, upd_same, .cons ⟨t, rfl, s4 _ _ upd_same⟩ .nil, by show 1 ≤ 4; decide, fun t ht => ?_, s14 _ _ hub, rub.imp (T2.keep (Same.keepT s14)), .inl (by simp)⟩
          have e : t = (0, scale, 1) := by simpa using ht
          rw [e]
          exact ⟨⟨by show (0 : Int) ≤ 0; decide, by show (0 : Int) ≤ 1000; decide⟩, ⟨by show 0 ≤ scale; omega, by show scale ≤ 1000; omega⟩, by show 0 ≠ scale; omega, by show (1 : Int) ≤ 1; decide, by show (1 : Int) ≤ 100; decide⟩
        · rw [eqv_nil] at z2
          exact fin _ _ ⟨ls, us, [], rfl, D.but.trans (But.of s12), D.row.same s12, D.nr.1, s12 _ _ hus, rus.imp (T3.keep (Same.keepT s12)), by decide, hok, s12 _ _ hub, rub.imp (T2.keep (Same.keepT s12)), .inr (by simpa using z2)⟩
      · rw [eqv_nil] at z
        have s1 := sh he1
        exact fin _ _ ⟨ls, us, ss, rfl, D.but.trans (But.of s1), D.row.same s1, D.nr.1, s1 _ _ hus, rus.imp (T3.keep (Same.keepT s1)), ls4, hok, s1 _ _ hub, rub.imp (T2.keep (Same.keepT s1)), .inl (by simpa using z)⟩
end
end Q46
namespace Q46
open PySem PySem.Spec PyProof.Rows L2
/-- the same plain value -/
def Al0 (x y : V) : Prop := (∃ i, x = .int i ∧ y = .int i) ∨ (x = .non ∧ y = .non) ∨ ∃ z, x = .str z ∧ y = .str z
def AlT (R : Hp → V → V → Prop) (H : Hp) (x y : V) : Prop := ∃ a b xs ys, x = .ref a ∧ y = .ref b ∧ H a = some (.tup xs) ∧ H b = some (.tup ys) ∧ xs.length = ys.length ∧ ys.length ≤ 1000 ∧ ∀ (i : Nat) x' y', xs[i]? = some x' → ys[i]? = some y' → R H x' y'
/-- the same data, by values, in tuples at most n deep -/
def Al : Nat → Hp → V → V → Prop
  | 0 => fun _ x y => Al0 x y
  | n + 1 => fun H x y => Al0 x y ∨ AlT (Al n) H x y
theorem Al.keep : ∀ {n : Nat} {H H' : Hp} {x y : V}, Al n H x y → KeepT H H' → Al n H' x y := by
  intro n
  induction n with
  | zero => exact fun h _ => h
  | succ n ih =>
    intro H H' x y h k
    have h : Al0 x y ∨ AlT (Al n) H x y := h
    rcases h with h | ⟨a, b, xs, ys, e1, e2, h1, h2, h3, h4, h5⟩
    · exact .inl h
    · exact .inr ⟨a, b, xs, ys, e1, e2, k _ _ h1, k _ _ h2, h3, h4, fun i x' y' p q => ih (h5 i x' y' p q) k⟩
section
variable {P : Program} {w : World} {K : PySem.W.Frag} {mg : Str → Option Value} {base : Heap}
def spAlike (n : Nat) : Sp := fun vs H Q _ => ∃ x y : V, vs = [x, y] ∧ Al n H x y ∧ ∀ H', Same H H' → Q (.bl true) H'
theorem kit_tl {K : PySem.W.Frag} {a : String} {r1 r2 : Bool} (h1 : kitB a "tuple" = some r1) (h2 : kitB a "list" = some r2) : PySem.W.kitAny K (.type a) [.type "tuple", .type "list"] = some (r1 || r2) :=
  kitAny_cons (kit_ty h1) (fun e => by
    rw [e, Bool.false_or]
    exact kitAny_cons (kit_ty h2) (fun e => by rw [e]; exact kitAny_nil) (fun e => e)) (fun e => by rw [e]; rfl)
theorem prd : Paired ClsV [.ty "tuple", .ty "list"] [.type "tuple", .type "list"] := .cons (.ty _) (.cons (.ty _) .nil)
theorem ok_alike (T : Tx K mg) : ∀ n : Nat, FnOk P w K mg base CX0 (n + 1) T.fAlike T.dAlike ["_law_found", "_law_due"] (spAlike n) := by
  intro n
  induction n with
  | zero =>
    refine T.DAlike.F.ok scAlike (fun vs H Q E h => ?_) (fun cdv A outer s H vs Q E hr h => ?_)
    · obtain ⟨x, y, rfl, _⟩ := h
      rfl
    · obtain ⟨x, y, rfl, h, q⟩ := h
      refine ⟨_, (pss_cons (ps_if (pt_val (pe_callB call_isiT (by rfl) T.B.isinstance_ (by decide +kernel) (pa_cons (pv 1) (pa_cons (pe_tup (pa_cons (pe_bltn (v := .ty "tuple") (by rfl) T.B.tuple_ (by decide +kernel) rfl) (pa_cons (pe_bltn (v := .ty "list") (by rfl) T.B.list_ (by decide +kernel) rfl) pa_nil))) pa_nil)))) pss_never pss_nil) (pss_cons (ps_if (PW.pt (pw_or (pt_cmpR op_isN (pv 1) pe_non (nomark _)) (pw_or1 (pt_val (pe_callB call_isi (by rfl) T.B.isinstance_ (by decide +kernel) (pa_cons (pv 1) (pa_cons (pe_bltn (v := .ty "str") (by rfl) T.B.str_ (by decide +kernel) rfl) pa_nil))))))) (pss_one (ps_ret (pe_and (pe_cmpR op_eq (pv 0) (pv 1) (nomark _)) (pe_one (pe_cmpR op_eq (pe_callB call_isi (by rfl) T.B.isinstance_ (by decide +kernel) (pa_cons (pv 0) (pa_cons (pe_bltn (v := .ty "str") (by rfl) T.B.str_ (by decide +kernel) rfl) pa_nil))) (pe_callB call_isi (by rfl) T.B.isinstance_ (by decide +kernel) (pa_cons (pv 1) (pa_cons (pe_bltn (v := .ty "str") (by rfl) T.B.str_ (by decide +kernel) rfl) pa_nil))) (nomark _)))))) pss_nil) (pss_one (ps_ret (pe_and (pe_callB call_isi (by rfl) T.B.isinstance_ (by decide +kernel) (pa_cons (pv 0) (pa_cons (pe_bltn (v := .ty "int") (by rfl) T.B.int_ (by decide +kernel) rfl) pa_nil))) (pe_and (pe_cmpR op_eq (pe_callB call_isi (by rfl) T.B.isinstance_ (by decide +kernel) (pa_cons (pv 0) (pa_cons (pe_bltn (v := .ty "bool") (by rfl) T.B.bool_ (by decide +kernel) rfl) pa_nil))) (pe_callB call_isi (by rfl) T.B.isinstance_ (by decide +kernel) (pa_cons (pv 1) (pa_cons (pe_bltn (v := .ty "bool") (by rfl) T.B.bool_ (by decide +kernel) rfl) pa_nil))) (nomark _)) (pe_one (pe_cmpR op_eq (pv 0) (pv 1) (nomark _))))))))), ?_⟩
      refine ⟨_, rfl, (by show 2 ≤ sizeLine; decide), fun tp htp => ?_⟩
      have s1 := same_upd (o := .tup [.ty "tuple", .ty "list"]) htp
      have h : Al0 x y := h
      rcases h with ⟨i, rfl, rfl⟩ | ⟨rfl, rfl⟩ | ⟨z, rfl, rfl⟩
      · refine ⟨.int i, tp, _, .type "int", _, false, rfl, upd_same, prd, .base (.int i), kit_tl (r1 := false) (r2 := false) (by decide +kernel) (by decide +kernel), _, rfl, goF rfl ?_⟩
        refine ⟨_, rfl, rfl, _, rfl, goF (by simp) ?_⟩
        refine ⟨_, rfl, _, _, .type "int", .type "str", false, rfl, .ty "str", .base (.int _), kit_ty (by decide +kernel), _, rfl, goF rfl ?_⟩
        refine ⟨_, rfl, _, _, .type "int", .type "int", true, rfl, .ty "int", .base (.int _), kit_ty (by decide +kernel), _, rfl, goT rfl ?_⟩
        refine ⟨_, rfl, _, _, .type "int", .type "bool", false, rfl, .ty "bool", .base (.int _), kit_ty (by decide +kernel), _, rfl, _, _, .type "int", .type "bool", false, rfl, .ty "bool", .base (.int _), kit_ty (by decide +kernel), rfl, _, rfl, goT (by simp) ?_⟩
        refine ⟨_, rfl, _, rfl, rfl, ?_⟩
        rw [show decide (V.int i = V.int i) = true by simp]
        exact q _ s1
      · refine ⟨.non, tp, _, .type "NoneType", _, false, rfl, upd_same, prd, .base .non, kit_tl (r1 := false) (r2 := false) (by decide +kernel) (by decide +kernel), _, rfl, goF rfl ?_⟩
        refine ⟨_, rfl, rfl, _, rfl, goT (by simp) ?_⟩
        refine iteT ?_
        refine ⟨_, rfl, _, rfl, rfl, _, rfl, goT (by simp) ?_⟩
        refine ⟨_, rfl, _, _, .type "NoneType", .type "str", false, rfl, .ty "str", .base .non, kit_ty (by decide +kernel), _, rfl, _, _, .type "NoneType", .type "str", false, rfl, .ty "str", .base .non, kit_ty (by decide +kernel), rfl, ?_⟩
        rw [show decide (V.bl false = V.bl false) = true by simp]
        exact q _ s1
      · refine ⟨.str z, tp, _, .type "str", _, false, rfl, upd_same, prd, .base (.str z), kit_tl (r1 := false) (r2 := false) (by decide +kernel) (by decide +kernel), _, rfl, goF rfl ?_⟩
        refine ⟨_, rfl, rfl, _, rfl, goF (by simp) ?_⟩
        refine ⟨_, rfl, _, _, .type "str", .type "str", true, rfl, .ty "str", .base (.str _), kit_ty (by decide +kernel), _, rfl, goT rfl ?_⟩
        refine ⟨_, rfl, _, rfl, rfl, _, rfl, goT (by simp) ?_⟩
        refine ⟨_, rfl, _, _, .type "str", .type "str", true, rfl, .ty "str", .base (.str _), kit_ty (by decide +kernel), _, rfl, _, _, .type "str", .type "str", true, rfl, .ty "str", .base (.str _), kit_ty (by decide +kernel), rfl, ?_⟩
        rw [show decide (V.bl true = V.bl true) = true by simp]
        exact q _ s1
  | succ n ih =>
    refine T.DAlike.F.ok scAlike (fun vs H Q E h => ?_) (fun cdv A outer s H vs Q E hr h => ?_)
    · obtain ⟨x, y, rfl, _⟩ := h
      rfl
    · obtain ⟨x, y, rfl, h, q⟩ := h
      refine ⟨_, (pss_cons (ps_if (pt_val (pe_callB call_isiT (by rfl) T.B.isinstance_ (by decide +kernel) (pa_cons (pv 1) (pa_cons (pe_tup (pa_cons (pe_bltn (v := .ty "tuple") (by rfl) T.B.tuple_ (by decide +kernel) rfl) (pa_cons (pe_bltn (v := .ty "list") (by rfl) T.B.list_ (by decide +kernel) rfl) pa_nil))) pa_nil)))) (pss_cons (ps_if (PW.pt (pw_or (pt_not (pt_val (pe_callB call_isiT (by rfl) T.B.isinstance_ (by decide +kernel) (pa_cons (pv 0) (pa_cons (pe_tup (pa_cons (pe_bltn (v := .ty "tuple") (by rfl) T.B.tuple_ (by decide +kernel) rfl) (pa_cons (pe_bltn (v := .ty "list") (by rfl) T.B.list_ (by decide +kernel) rfl) pa_nil))) pa_nil))))) (pw_or1 (pt_cmpR op_ne (pe_callB call_isi (by rfl) T.B.isinstance_ (by decide +kernel) (pa_cons (pv 0) (pa_cons (pe_bltn (v := .ty "list") (by rfl) T.B.list_ (by decide +kernel) rfl) pa_nil))) (pe_callB call_isi (by rfl) T.B.isinstance_ (by decide +kernel) (pa_cons (pv 1) (pa_cons (pe_bltn (v := .ty "list") (by rfl) T.B.list_ (by decide +kernel) rfl) pa_nil))) (nomark _))))) pss_never pss_nil) (pss_cons (ps_if (pt_cmpR op_ne (pe_callB call_len_seq (by rfl) T.B.len_ PySem.boot_len (pa_cons (pv 0) pa_nil)) (pe_callB call_len_seq (by rfl) T.B.len_ PySem.boot_len (pa_cons (pv 1) pa_nil)) (nomark _)) pss_never pss_nil) (pss_one (ps_ret (pe_cmpR (op_eqD (Room.units hr)) (pe_lc (own := [("_law_k", 2)]) (g := gName 2) (tt := tNot (tB (tCall (spAlike n) [] E0 (tCons (tOp (rIxT K) (tVar 0) (tVar 2)) (tCons (tOp (rIxT K) (tVar 1) (tVar 2)) tNil))))) (by rfl) scAlike.nd (pi_range1 (by rfl) T.B.range_ (pa_cons (pe_callB call_len_seq (by rfl) T.B.len_ PySem.boot_len (pa_cons (pv 1) pa_nil)) pa_nil)) (blkOk_by (own := [("_law_k", 2)]) (N := ["_law_found", "_law_due", "_law_k"]) (sc := defScope sAlike) (by decide +kernel)) (fun _ _ _ _ _ => (pg_name (i := 2) scAlike.nd rfl (Or.inl rfl))) (fun _ _ _ _ _ => (pts_one (pt_not (pt_val (pe_call ih hr (by rfl) T.DAlike.g T.DAlike.F.kp T.DAlike.b .nil pass0 (pa_cons (pe_ix ix_tup (pv 0) (pv 2) (fun _ _ => rfl)) (pa_cons (pe_ix ix_tup (pv 1) (pv 2) (fun _ _ => rfl)) pa_nil))))))) (fun _ _ _ _ _ => (pv 2))) (pe_lst pa_nil) (nomark _)))))) pss_nil) (pss_cons (ps_if (PW.pt (pw_or (pt_cmpR op_isN (pv 1) pe_non (nomark _)) (pw_or1 (pt_val (pe_callB call_isi (by rfl) T.B.isinstance_ (by decide +kernel) (pa_cons (pv 1) (pa_cons (pe_bltn (v := .ty "str") (by rfl) T.B.str_ (by decide +kernel) rfl) pa_nil))))))) (pss_one (ps_ret (pe_and (pe_cmpR op_eq (pv 0) (pv 1) (nomark _)) (pe_one (pe_cmpR op_eq (pe_callB call_isi (by rfl) T.B.isinstance_ (by decide +kernel) (pa_cons (pv 0) (pa_cons (pe_bltn (v := .ty "str") (by rfl) T.B.str_ (by decide +kernel) rfl) pa_nil))) (pe_callB call_isi (by rfl) T.B.isinstance_ (by decide +kernel) (pa_cons (pv 1) (pa_cons (pe_bltn (v := .ty "str") (by rfl) T.B.str_ (by decide +kernel) rfl) pa_nil))) (nomark _)))))) pss_nil) (pss_one (ps_ret (pe_and (pe_callB call_isi (by rfl) T.B.isinstance_ (by decide +kernel) (pa_cons (pv 0) (pa_cons (pe_bltn (v := .ty "int") (by rfl) T.B.int_ (by decide +kernel) rfl) pa_nil))) (pe_and (pe_cmpR op_eq (pe_callB call_isi (by rfl) T.B.isinstance_ (by decide +kernel) (pa_cons (pv 0) (pa_cons (pe_bltn (v := .ty "bool") (by rfl) T.B.bool_ (by decide +kernel) rfl) pa_nil))) (pe_callB call_isi (by rfl) T.B.isinstance_ (by decide +kernel) (pa_cons (pv 1) (pa_cons (pe_bltn (v := .ty "bool") (by rfl) T.B.bool_ (by decide +kernel) rfl) pa_nil))) (nomark _)) (pe_one (pe_cmpR op_eq (pv 0) (pv 1) (nomark _))))))))), ?_⟩
      refine ⟨_, rfl, (by show 2 ≤ sizeLine; decide), fun tp htp => ?_⟩
      have s1 := same_upd (o := .tup [.ty "tuple", .ty "list"]) htp
      have h : Al0 x y ∨ AlT (Al n) H x y := h
      rcases h with h | ⟨a, b, xs, ys, rfl, rfl, h1, h2, h3, h4, h5⟩
      · rcases h with ⟨i, rfl, rfl⟩ | ⟨rfl, rfl⟩ | ⟨z, rfl, rfl⟩
        · refine ⟨.int i, tp, _, .type "int", _, false, rfl, upd_same, prd, .base (.int i), kit_tl (r1 := false) (r2 := false) (by decide +kernel) (by decide +kernel), _, rfl, goF rfl ?_⟩
          refine ⟨_, rfl, rfl, _, rfl, goF (by simp) ?_⟩
          refine ⟨_, rfl, _, _, .type "int", .type "str", false, rfl, .ty "str", .base (.int _), kit_ty (by decide +kernel), _, rfl, goF rfl ?_⟩
          refine ⟨_, rfl, _, _, .type "int", .type "int", true, rfl, .ty "int", .base (.int _), kit_ty (by decide +kernel), _, rfl, goT rfl ?_⟩
          refine ⟨_, rfl, _, _, .type "int", .type "bool", false, rfl, .ty "bool", .base (.int _), kit_ty (by decide +kernel), _, rfl, _, _, .type "int", .type "bool", false, rfl, .ty "bool", .base (.int _), kit_ty (by decide +kernel), rfl, _, rfl, goT (by simp) ?_⟩
          refine ⟨_, rfl, _, rfl, rfl, ?_⟩
          rw [show decide (V.int i = V.int i) = true by simp]
          exact q _ s1
        · refine ⟨.non, tp, _, .type "NoneType", _, false, rfl, upd_same, prd, .base .non, kit_tl (r1 := false) (r2 := false) (by decide +kernel) (by decide +kernel), _, rfl, goF rfl ?_⟩
          refine ⟨_, rfl, rfl, _, rfl, goT (by simp) ?_⟩
          refine iteT ?_
          refine ⟨_, rfl, _, rfl, rfl, _, rfl, goT (by simp) ?_⟩
          refine ⟨_, rfl, _, _, .type "NoneType", .type "str", false, rfl, .ty "str", .base .non, kit_ty (by decide +kernel), _, rfl, _, _, .type "NoneType", .type "str", false, rfl, .ty "str", .base .non, kit_ty (by decide +kernel), rfl, ?_⟩
          rw [show decide (V.bl false = V.bl false) = true by simp]
          exact q _ s1
        · refine ⟨.str z, tp, _, .type "str", _, false, rfl, upd_same, prd, .base (.str z), kit_tl (r1 := false) (r2 := false) (by decide +kernel) (by decide +kernel), _, rfl, goF rfl ?_⟩
          refine ⟨_, rfl, rfl, _, rfl, goF (by simp) ?_⟩
          refine ⟨_, rfl, _, _, .type "str", .type "str", true, rfl, .ty "str", .base (.str _), kit_ty (by decide +kernel), _, rfl, goT rfl ?_⟩
          refine ⟨_, rfl, _, rfl, rfl, _, rfl, goT (by simp) ?_⟩
          refine ⟨_, rfl, _, _, .type "str", .type "str", true, rfl, .ty "str", .base (.str _), kit_ty (by decide +kernel), _, rfl, _, _, .type "str", .type "str", true, rfl, .ty "str", .base (.str _), kit_ty (by decide +kernel), rfl, ?_⟩
          rw [show decide (V.bl true = V.bl true) = true by simp]
          exact q _ s1
      · refine ⟨.ref b, tp, _, .type "tuple", _, true, rfl, upd_same, prd, .base (.tup (s1 _ _ h2)), kit_tl (r1 := true) (r2 := false) (by decide +kernel) (by decide +kernel), _, rfl, goT rfl ?_⟩
        refine ⟨_, rfl, (by show 2 ≤ sizeLine; decide), fun tq htq => ?_⟩
        have s2 := s1.trans (same_upd (o := .tup [.ty "tuple", .ty "list"]) htq)
        refine ⟨.ref a, tq, _, .type "tuple", _, true, rfl, upd_same, prd, .base (.tup (s2 _ _ h1)), kit_tl (r1 := true) (r2 := false) (by decide +kernel) (by decide +kernel), _, rfl, iteF ?_⟩
        refine ⟨_, rfl, _, _, .type "tuple", .type "list", false, rfl, .ty "list", .base (.tup (s2 _ _ h1)), kit_ty (by decide +kernel), _, rfl, _, _, .type "tuple", .type "list", false, rfl, .ty "list", .base (.tup (s2 _ _ h2)), kit_ty (by decide +kernel), rfl, _, rfl, goF (by simp) ?_⟩
        refine ⟨_, rfl, _, _, rfl, .inr (SqT.of (s2 _ _ h1)), _, rfl, _, _, rfl, .inr (SqT.of (s2 _ _ h2)), rfl, _, rfl, goF (by simp [h3]) ?_⟩
        refine ⟨_, rfl, _, _, rfl, .inr (SqT.of (s2 _ _ h2)), ys.length, rfl, by omega, by omega, fun D hD => ?_⟩
        generalize (upd (upd H tp (.tup [.ty "tuple", .ty "list"])) tq (.tup [.ty "tuple", .ty "list"])) = H1 at *
        refine lc_range (n := ys.length) (lo := 0) (fun i H' => H' D = some (.lst []) ∧ Same H1 H') ⟨upd_same, same_upd hD⟩ (fun i H' hi h => ?_) (fun H' h => ?_)
        · obtain ⟨hd, sm⟩ := h
          have sH := s2.trans sm
          have hx : xs[i]? = some xs[i] := List.getElem?_eq_getElem (by omega)
          have hy : ys[i]? = some ys[i] := List.getElem?_eq_getElem hi
          refine ⟨rfl, _, rfl, _, rfl, _, _, _, _, rfl, rfl, SqT.of (sH _ _ h1), by rw [Int.zero_add]; exact atI_nat hx, _, rfl, _, rfl, _, _, _, _, rfl, rfl, SqT.of (sH _ _ h2), by rw [Int.zero_add]; exact atI_nat hy, _, _, rfl, (h5 i _ _ hx hy).keep (Same.keepT sH), fun H2 s3 => ⟨_, rfl, iteF ⟨s3 _ _ hd, sm.trans s3⟩⟩⟩
        · obtain ⟨hd, sm⟩ := h
          refine ⟨Nat.zero_le _, fun e1 he1 => ⟨.list [], .list [], .lst (SqL.of ((same_upd he1) _ _ hd)) .nil, .lst (SqL.of upd_same) .nil, by decide, by decide, ?_⟩⟩
          rw [eqv_nil]
          exact q _ (s2.trans (sm.trans (same_upd he1)))
end
end Q46
namespace Q46
open PySem PySem.Spec PyProof.Rows L2
/-- isinstance(e, C), e the exception that the suite holds, of the class C, with its dict -/
def rIsX (C a : Addr) (cls : Value) (d : Option Addr) : List V → Hp → VK → Prop := fun xs H Q => xs = [.ref a, .ref C] ∧ cls = .ref C ∧ ∃ (dd : Addr) (fs : List (Str × V)), d = some dd ∧ H dd = some (.xd fs) ∧ Q (.bl true) H
theorem call_isX {X : Cx} {a C : Addr} {oe : Obj} {cls : Value} {d : Option Addr} {pn : List (Addr × Obj)} (T : ExcC X.K C) (kit : PySem.W.kitOne X.K (.ref C) (.ref C) = some true) (hz : Zc cls d oe) (hf : ∃ vs, oe.data = .fields vs) : CallR (X.suite a ((a, oe) :: pn)) (.builtin "isinstance") (rIsX C a cls d) := by
  intro pins s σ H xs us Q I r h
  obtain ⟨rfl, rfl, dd, fs, rfl, ea, q⟩ := h
  cases r with
  | cons rx rr =>
    cases rr with
    | cons rt rr =>
      cases rr
      cases rx
      cases rt
      obtain ⟨hget, _⟩ := I.pin (a, oe) (List.mem_append.mpr (.inl List.mem_cons_self))
      obtain ⟨vs, hv⟩ := hf
      have hx : ObjOk X.prog X.w H s.heap dd (.xd fs) := I.hok dd _ ea
      obtain ⟨mA, hns, hr⟩ := hx
      obtain ⟨od, ho, hl⟩ := lookIn_ns hns
      have J : PySem.W.InstAt s.heap a oe C (some od) := ⟨hget, hz.1, by unfold PySem.W.notCls; rw [hv] <;> rfl, by rw [hz.2]; exact ho⟩
      have hcl : (PySem.W.clsIn X.K C).isSome = true := by
        obtain ⟨cd, hc, _⟩ := PySem.W.any_some T.hd
        rw [hc]
        rfl
      exact PySem.W.kia_one (PySem.W.kitx_exc (od := some od) hcl T.hg T.hk T.hs T.ha T.hn T.ht T.hm) I.kIn J kit (fun z => nomatch z) fun tk => ⟨.bl true, H, I.kept (t' := tk) fun _ _ z => z, rfl, q⟩
theorem pss_len {X : Cx} {st : List Stmt} {t : TS} (h : PSs X st t) : PSs X st (fun D σ H => σ.length = X.N.length → t D σ H) := ⟨fun pins s σ H D I hw => h.run pins s σ H D I (hw I.len)⟩
/-- what _law_told makes of the lambda's reading -/
def TTmany (C : Addr) : (XK → Hp → VK → Prop) → Hp → VK → Prop := fun tl H Q => tl (fun cls d H' => cls = .ref C ∧ ∃ dd, d = some dd ∧ H' dd = some (.xd [("most", .int 4)]) ∧ Q (.str "many") H') H Q
theorem told_many {X : Cx} {C fI CH : Addr} {fdI : FuncData} (M : TMk X.K X.mg C fI CH fdI) (hisi : X.mg "isinstance" = none) {q : Str} {g : Addr} {cdg : Value} :
    LamX.GivesTo X ["_law_work", "e"] "_law_told" (defScope sTold) g cdg (defBody sTold) "_law_work" q (TTmany C) := by
  intro f c' s H Q tl act hc h
  refine ⟨_, pss_one (ps_try_as (i := 1) (X := (cxOf C8.CX0 X.prog X.w X.K X.mg X.base ["_law_work", "e"] "_law_told" (defScope sTold) g cdg X.A X.stack s H C8.E0).nox) (c := .ref CH) (Wout := fun _ _ _ _ => False)
      (tb := fun W D σ H => ∃ Ech : XK, (∀ cls d σ' H', Ech cls d H' → W cls d σ' H') ∧ σ[0]? = some (some (.ref f)) ∧ H c' = some (LamX.CodeO c' q) ∧ tl Ech H D.rt)
      (ts := fun a cls d D σ H => σ.length = 2 → tRet (tIf (tAnd (tB (tCB (rIsX C a cls d) (tCons (tVar 1) (tCons (tC (.ref C)) tNil)))) (tTest (tOp rEq (tXf a cls d C "most" (tVar 1)) (tC (.int 4))))) (tC (.str "many")) (tC (.str "other"))) D σ H)
      rfl rfl scTold.nd rfl rfl ⟨by rfl, by decide, .inl M.gH⟩ LamX.takes0 (fun W pn xe tk _ => ?_) (fun a oe cls d pn hz hf => ?_)), ?_⟩
  · refine ⟨fun pins s' σ H' D I h' => ?_⟩
    obtain ⟨Ech, hW, h1, h2, h3⟩ := h'
    exact (pss_one (ps_ret (act W pn xe Ech _ _ tk hW))).run pins s' σ H' D I ⟨h1, h2, h3⟩
  · refine pss_len ?_
    exact pss_one (ps_ret (pe_ifExp (PW.pt (pw_and (pt_val (pe_callB (call_isX M.ec M.kit hz hf) (by rfl) hisi (by decide +kernel) (pa_cons (pv 1) (pa_cons (pe_glob (by rfl) M.g rfl) pa_nil)))) (pw_and1 (pt_cmpR op_eq (pe_xf M.xf M.no hz hf (pv 1)) pe_int (nomark _))))) pe_str pe_str))
  · refine ⟨fun cls d H' => cls = .ref C ∧ ∃ dd, d = some dd ∧ H' dd = some (.xd [("most", .int 4)]) ∧ Q (.str "many") H', fun cls d σ' H' h' => ?_, rfl, hc, h⟩
    obtain ⟨rfl, dd, rfl, hd, q⟩ := h'
    refine ⟨true, M.te, fun _ a ha hlen => ?_, fun z => Bool.noConfusion z⟩
    obtain ⟨x, y, rfl⟩ : ∃ x y, σ' = [x, y] := by
      rw [List.length_set] at hlen
      match σ', hlen with
      | [x, y], _ => exact ⟨x, y, rfl⟩
    refine ⟨_, rfl, rfl, rfl, dd, _, rfl, hd, _, rfl, goT rfl ?_⟩
    refine ⟨_, rfl, rfl, rfl, dd, _, .int 4, rfl, hd, by decide, rfl, _, rfl, goT (by simp) q⟩
end Q46
namespace Q46
open PySem PySem.Spec PyProof.Rows L2
abbrev qL (f c : Addr) : Str := (envOfC "law" (defScope sLaw) 0 f (.ref c)).qual ++ "<lambda>"
theorem stays_of {cs : List S3} {sh : List Int} (h0 : ∀ b ∈ boxesOf cs sh, 0 ≤ b.1) (h1 : ∀ b ∈ boxesOf cs sh, b.1 ≤ 1000) : stays cs sh = true := by
  rw [stays_eq]
  refine List.all_eq_true.mpr fun q hq => ?_
  have m1 : (q.1.1 + q.2, 0 - q.1.2.2) ∈ boxesOf cs sh := by
    rw [boxesOf_eq]
    exact List.mem_flatMap.mpr ⟨q, hq, by simp [bx]⟩
  have m2 : (q.1.2.1 + q.2, q.1.2.2) ∈ boxesOf cs sh := by
    rw [boxesOf_eq]
    exact List.mem_flatMap.mpr ⟨q, hq, by simp [bx]⟩
  have a := h1 _ m1
  have b := h0 _ m2
  simp only [sy, Bool.and_eq_true, decide_eq_true_eq]
  exact ⟨b, a⟩
theorem stays_to {cs : List S3} {sh : List Int} (hc : ∀ c ∈ cs, okC c) (st : stays cs sh = true) : ∀ b ∈ boxesOf cs sh, 0 ≤ b.1 ∧ b.1 ≤ 1000 := by
  intro b hb
  rw [boxesOf_eq] at hb
  obtain ⟨q, hq, hb⟩ := List.mem_flatMap.mp hb
  rw [stays_eq] at st
  have s := List.all_eq_true.mp st q hq
  obtain ⟨⟨c1, c2⟩, ⟨c3, c4⟩, c5, c6⟩ := hc q.1 (List.of_mem_zip (a := q.1) (b := q.2) hq).1
  simp [sy] at s
  have hb' : b = (q.1.1 + q.2, 0 - q.1.2.2) ∨ b = (q.1.2.1 + q.2, q.1.2.2) := by simpa [bx] using hb
  rcases hb' with rfl | rfl
  · exact ⟨by show 0 ≤ q.1.1 + q.2; omega, by show q.1.1 + q.2 ≤ 1000; omega⟩
  · exact ⟨by show 0 ≤ q.1.2.1 + q.2; omega, by show q.1.2.1 + q.2 ≤ 1000; omega⟩
theorem found_al {H : Hp} {v u : V} {best : Option (List Int × Int)} (h1 : FoundAt H v best) (h2 : FoundAt H u best) : Al 2 H v u := by
  rcases h1 with ⟨rfl, b1⟩ | ⟨f, r, row, heat, rfl, hf, hr, b1, l1⟩
  · rcases h2 with ⟨rfl, b2⟩ | ⟨f', r', row', heat', rfl, hf', hr', b2, l2⟩
    · exact .inl (.inr (.inl ⟨rfl, rfl⟩))
    · rw [b1] at b2
      cases b2
  · rcases h2 with ⟨rfl, b2⟩ | ⟨f', r', row', heat', rfl, hf', hr', b2, l2⟩
    · rw [b1] at b2
      cases b2
    · rw [b1] at b2
      cases b2
      refine .inr ⟨f, f', _, _, rfl, rfl, hf, hf', rfl, by show 2 ≤ 1000; decide, fun i x y hx hy => ?_⟩
      match i, hx, hy with
      | 0, hx, hy =>
        have ex : x = .ref r := (Option.some.inj hx).symm
        have ey : y = .ref r' := (Option.some.inj hy).symm
        subst ex
        subst ey
        refine .inr ⟨r, r', _, _, rfl, rfl, hr, hr', rfl, by rw [List.length_map]; omega, fun i x y hx hy => ?_⟩
        rw [List.getElem?_map] at hx hy
        rw [hx] at hy
        have e := Option.some.inj hy
        obtain ⟨k, _, rfl⟩ := Option.map_eq_some_iff.mp hx
        exact .inl ⟨k, rfl, e.symm⟩
      | 1, hx, hy =>
        have ex : x = .int heat := (Option.some.inj hx).symm
        have ey : y = .int heat := (Option.some.inj hy).symm
        subst ex
        subst ey
        exact .inl (.inl ⟨heat, rfl, rfl⟩)
      | i + 2, hx, hy => simp at hx
/-- while the columns are drawn: the row at r, the columns so far at lc -/
structure Dc (K : PySem.W.Frag) (r sc lc : Addr) (ns : List Int) (H0 H : Hp) (cs : List S3) : Prop where
  row0 : RowAt K H0 r sc ns
  zs : H0 lc = none
  but : But r H0 H
  row : RowAt K H r sc ns
  s : ∃ us, H lc = some (.lst us) ∧ Refs T3 H us cs
section
variable {K : PySem.W.Frag} {r sc lc : Addr} {ns : List Int} {H0 H H' : Hp} {cs : List S3}
theorem nl_row {l : Addr} (h : RowAt K H r sc ns) (e : H l = none) : l ≠ r := by
  obtain ⟨_, _, _, hr, _⟩ := h
  exact Ne.symm (ne_of_none hr e)
theorem Dc.nr (d : Dc K r sc lc ns H0 H cs) : lc ≠ r := nl_row d.row0 d.zs
theorem Dc.step (d : Dc K r sc lc ns H0 H cs) (b : But r H H') (row : RowAt K H' r sc ns) : Dc K r sc lc ns H0 H' cs := by
  obtain ⟨us, e⟩ := d.row.lst
  obtain ⟨us1, e1, r1⟩ := d.s
  exact ⟨d.row0, d.zs, d.but.trans b, row, ⟨us1, b _ _ d.nr e1, r1.imp (T3.keep (b.keepT e))⟩⟩
theorem Dc.same (d : Dc K r sc lc ns H0 H cs) (s : Same H H') : Dc K r sc lc ns H0 H' cs := d.step (But.of s) (d.row.same s)
theorem Dc.add {us : List V} {t : S3} {p : Addr} (d : Dc K r sc lc ns H0 H cs) (hu : H lc = some (.lst us)) (hp : T3 H p t) : Dc K r sc lc ns H0 (upd H lc (.lst (us ++ [.ref p]))) (cs ++ [t]) := by
  obtain ⟨us1, e1, r1⟩ := d.s
  rw [hu] at e1
  cases e1
  have k := keepT_mut (o := .lst (us ++ [.ref p])) hu
  obtain ⟨b, row⟩ := d.row0.other d.but d.row (o := .lst (us ++ [.ref p])) d.zs
  exact ⟨d.row0, d.zs, b, row, ⟨_, upd_same, Refs.app (r1.imp (T3.keep k)) rfl (T3.keep k _ _ hp)⟩⟩
end
section
variable {P : Program} {w : World} {K : PySem.W.Frag} {mg : Str → Option Value} {base : Heap}
def spLaw (K : PySem.W.Frag) (PL : List Addr) : Sp := fun vs H Q _ => ∃ (a : Addr) (ns : List Int), vs = [.ref a] ∧ SqL K H a (ns.map V.int) ∧ (∀ P ∈ PL, H P = some (.tbl #[])) ∧ ∀ H', Q (.bl true) H'
theorem ok_law (T : Tx K mg) {C fI CH : Addr} {fd : FuncData} (M : TMk K mg C fI CH fd) {c1 P1 c2 P2 c3 P3 : Addr} (TB1 : GxR.TabB base mg c1 P1) (hcode1 : T.dIsStream.code = .ref c1) (TB2 : GxR.TabB base mg c2 P2) (hcode2 : T.dNeedAbove.code = .ref c2)
    (TB3 : LamX.TabB base mg c3 P3) (hcode3 : T.dLaw.code = .ref c3) : FnOk P w K mg base CX0 10 T.fLaw T.dLaw ["_law_script"] (spLaw K [P1, P2, P3]) := by
  have Gt : FnOk P w K mg base CX0 1 T.fTaken T.dTaken ["_law_row", "_law_many"] (spTaken K) := ok_taken T
  have Gp : FnOk P w K mg base CX0 2 T.fPick T.dPick ["_law_row", "_law_things"] (spPick K) := ok_pick T
  have Gr : FnOk P w K mg base CX0 3 T.fProblem T.dProblem ["_law_row"] (spProblem K) := ok_problem T
  have Gh : FnOk P w K mg base CX0 4 T.fLHeating T.dLHeating ["_law_problem_here"] spLHeating := ok_lheating T
  have Ga : FnOk P w K mg base CX0 3 T.fAlike T.dAlike ["_law_found", "_law_due"] (spAlike 2) := ok_alike T 2
  have Gb : FnOk P w K mg base (L2.CX P w) 7 T.fBestShifts T.dBestShifts ["problem", "columns", "low", "high"] (spBest [P1, P2] C) := ok_best T M (by simp) TB1 hcode1 (by simp) TB2 hcode2
  obtain ⟨oc, od, kV, doc, pm, an, cdv, ct, osl, etold, lk, hcd⟩ := T.DTold.F.ex
  have btold := T.DTold.b
  rw [etold] at lk btold
  refine Fun.okC T.DLaw.F hcode3 scLaw (fun vs H Q E h => ?_) (fun A outer s H vs Q E hr h => ?_)
  · obtain ⟨a, ns, rfl, _⟩ := h
    rfl
  · obtain ⟨a, ns, rfl, hS, htab, q⟩ := h
    have hr1 : Room 1 _ := hr.mono (by decide)
    have hr2 : Room 2 _ := hr.mono (by decide)
    have hr3 : Room 3 _ := hr.mono (by decide)
    have hr4 : Room 4 _ := hr.mono (by decide)
    have hu : ∀ p ∈ [(P3, qL T.fLaw c3), (P1, qL T.fLaw c3), (P2, qL T.fLaw c3)], p.1 = P3 → p.2 = qL T.fLaw c3 := fun p hp _ => by
      simp at hp
      rcases hp with rfl | rfl | rfl <;> rfl
    refine ⟨_, (pss_cons (ps_set (i := 1) scLaw.nd rfl (.inl rfl) (pe_lst (pa_cons (pv 0) (pa_cons pe_int (pa_cons pe_int (pa_cons pe_int pa_nil)))))) (pss_cons (ps_asg (pe_tup (pa_cons (pe_call Gr hr3 (by rfl) T.DProblem.g T.DProblem.F.kp T.DProblem.b .nil pass0 (pa_cons (pv 1) pa_nil)) (pa_cons (pe_lst pa_nil) (pa_cons pe_non pa_nil)))) (pg_tup (by rfl) (pgs_cons (pg_name (i := 14) scLaw.nd rfl (.inr rfl)) (pgs_cons (pg_name (i := 11) scLaw.nd rfl (.inr rfl)) (pgs_cons (pg_name (i := 2) scLaw.nd rfl (.inl rfl)) pgs_nil))))) (pss_cons (ps_for PassesOwn.never rfl (pi_range1 (by rfl) T.B.range_ (pa_cons (pe_op op_add pe_int (pe_call Gt hr1 (by rfl) T.DTaken.g T.DTaken.F.kp T.DTaken.b .nil pass0 (pa_cons (pv 1) (pa_cons pe_int pa_nil)))) pa_nil)) (pg_name (i := 3) scLaw.nd rfl (.inl rfl)) (pss_cons (ps_set (i := 4) scLaw.nd rfl (.inl rfl) (pe_op op_add pe_int (pe_call Gp hr2 (by rfl) T.DPick.g T.DPick.F.kp T.DPick.b .nil pass0 (pa_cons (pv 1) (pa_cons (pe_lst (pa_cons (pe_call Gt hr1 (by rfl) T.DTaken.g T.DTaken.F.kp T.DTaken.b .nil pass0 (pa_cons (pv 1) (pa_cons pe_int pa_nil))) (pa_cons pe_int (pa_cons pe_int pa_nil)))) pa_nil))))) (pss_one (ps_expr (pe_bm PySem.F.plainAttrs_list PySem.F.slot_list_append PySem.F.type_list_append mt_append (pv 11) (pa_cons (pe_tup (pa_cons (pv 4) (pa_cons (pe_call Gt hr1 (by rfl) T.DTaken.g T.DTaken.F.kp T.DTaken.b .nil pass0 (pa_cons (pv 1) (pa_cons (pv 4) pa_nil))) (pa_cons (pe_call Gp hr2 (by rfl) T.DPick.g T.DPick.F.kp T.DPick.b .nil pass0 (pa_cons (pv 1) (pa_cons (pe_lst (pa_cons pe_int (pa_cons pe_int (pa_cons pe_int (pa_cons (pe_op op_add pe_int (pe_call Gt hr1 (by rfl) T.DTaken.g T.DTaken.F.kp T.DTaken.b .nil pass0 (pa_cons (pv 1) (pa_cons pe_int pa_nil)))) pa_nil))))) pa_nil))) pa_nil)))) pa_nil)))))) (pss_cons (ps_asg (pe_op op_sub (pe_call Gt hr1 (by rfl) T.DTaken.g T.DTaken.F.kp T.DTaken.b .nil pass0 (pa_cons (pv 1) (pa_cons pe_int pa_nil))) pe_int) (pg_name (i := 13) scLaw.nd rfl (.inr rfl))) (pss_cons (ps_asg (pe_tup (pa_cons (pe_callB (call_min2 rfl) (by rfl) T.B.min_ (by decide +kernel) (pa_cons pe_int (pa_cons (pe_op op_add (pv 13) (pe_call Gt hr1 (by rfl) T.DTaken.g T.DTaken.F.kp T.DTaken.b .nil pass0 (pa_cons (pv 1) (pa_cons pe_int pa_nil)))) pa_nil))) (pa_cons (pe_callTy call_tuple_of (by rfl) T.B.tuple_ (by decide +kernel) (pa_cons (pv 11) pa_nil)) pa_nil))) (pg_tup (by rfl) (pgs_cons (pg_name (i := 12) scLaw.nd rfl (.inr rfl)) (pgs_cons (pg_name (i := 11) scLaw.nd rfl (.inr rfl)) pgs_nil)))) (pss_cons (ps_set (i := 5) scLaw.nd rfl (.inl rfl) (pe_lst (pa_cons (pe_tup pa_nil) pa_nil))) (pss_cons (ps_for PassesOwn.never rfl (pi_tup (pv 11)) (pg_name (i := 6) scLaw.nd rfl (.inl rfl)) (pss_cons (ps_set (i := 7) scLaw.nd rfl (.inl rfl) (pe_lst pa_nil)) (pss_cons (ps_for PassesOwn.never rfl (pi_list (pv 5)) (pg_name (i := 8) scLaw.nd rfl (.inr rfl)) (pss_one (ps_set (i := 7) scLaw.nd rfl (.inl rfl) (pe_op op_cat (pv 7) (pe_lc (own := [("_law_shift", 15)]) (g := gName 15) (tt := tYes) (te := tOp (rCatA K) (tVar 8) (tTup (tCons (tVar 15) tNil))) (by rfl) scLaw.nd (pi_range2 (by rfl) T.B.range_ (pa_cons (pv 13) (pa_cons (pe_op op_add (pv 12) pe_int) pa_nil))) (blkOk_by (own := [("_law_shift", 15)]) (N := ["_law_script", "_law_row", "_law_due", "_law_k", "_law_top", "_law_rows", "_law_one", "_law_more", "_law_some", "_law_boxes", "_law_here", "_law_columns", "_law_high", "_law_low", "_law_problem_here", "_law_shift"]) (sc := defScope sLaw) (by decide +kernel)) (fun _ _ _ _ _ => (pg_name (i := 15) scLaw.nd rfl (Or.inl rfl))) (fun _ _ _ _ _ => pts_nil) (fun _ _ _ _ _ => (pe_op op_catA (pv 8) (pe_tup (pa_cons (pv 15) pa_nil))))))))) (pss_one (ps_set (i := 5) scLaw.nd rfl (.inl rfl) (pv 7)))))) (pss_cons (ps_for PassesOwn.never rfl (pi_list (pv 5)) (pg_name (i := 8) scLaw.nd rfl (.inr rfl)) (pss_cons (ps_set (i := 9) scLaw.nd rfl (.inl rfl) (pe_lst pa_nil)) (pss_cons (ps_for PassesOwn.never rfl (pi_range1 (by rfl) T.B.range_ (pa_cons (pe_callB call_len_seq (by rfl) T.B.len_ PySem.boot_len (pa_cons (pv 11) pa_nil)) pa_nil)) (pg_name (i := 3) scLaw.nd rfl (.inl rfl)) (pss_one (ps_set (i := 9) scLaw.nd rfl (.inl rfl) (pe_op op_cat (pv 9) (pe_lst (pa_cons (pe_tup (pa_cons (pe_op op_add (pe_ix ix_tup (pe_ix ix_tup (pv 11) (pv 3) (fun _ _ => rfl)) pe_int (fun _ _ => rfl)) (pe_ix ix_tup (pv 8) (pv 3) (fun _ _ => rfl))) (pa_cons (pe_op op_sub pe_int (pe_ix ix_tup (pe_ix ix_tup (pv 11) (pv 3) (fun _ _ => rfl)) pe_int (fun _ _ => rfl))) pa_nil))) (pa_cons (pe_tup (pa_cons (pe_op op_add (pe_ix ix_tup (pe_ix ix_tup (pv 11) (pv 3) (fun _ _ => rfl)) pe_int (fun _ _ => rfl)) (pe_ix ix_tup (pv 8) (pv 3) (fun _ _ => rfl))) (pa_cons (pe_ix ix_tup (pe_ix ix_tup (pv 11) (pv 3) (fun _ _ => rfl)) pe_int (fun _ _ => rfl)) pa_nil))) pa_nil))))))) (pss_one (ps_if (PW.pt (pw_and (pt_cmpR op_ge (pe_callB (cr_min rfl) (by rfl) T.B.min_ (by decide +kernel) (pa_cons (pe_lc (own := [("_law_one", 6)]) (g := gName 6) (tt := tYes) (te := tOp (rIxT K) (tVar 6) (tC (.int 0))) (by rfl) scLaw.nd (pi_list (pv 9)) (blkOk_by (own := [("_law_one", 6)]) (N := ["_law_script", "_law_row", "_law_due", "_law_k", "_law_top", "_law_rows", "_law_one", "_law_more", "_law_some", "_law_boxes", "_law_here", "_law_columns", "_law_high", "_law_low", "_law_problem_here", "_law_shift"]) (sc := defScope sLaw) (by decide +kernel)) (fun _ _ _ _ _ => (pg_name (i := 6) scLaw.nd rfl (Or.inl rfl))) (fun _ _ _ _ _ => pts_nil) (fun _ _ _ _ _ => (pe_ix ix_tup (pv 6) pe_int (fun _ _ => rfl)))) pa_nil)) pe_int (nomark _)) (pw_and1 (pt_cmpR op_le (pe_callB (cr_max rfl) (by rfl) T.B.max_ (by decide +kernel) (pa_cons (pe_lc (own := [("_law_one", 6)]) (g := gName 6) (tt := tYes) (te := tOp (rIxT K) (tVar 6) (tC (.int 0))) (by rfl) scLaw.nd (pi_list (pv 9)) (blkOk_by (own := [("_law_one", 6)]) (N := ["_law_script", "_law_row", "_law_due", "_law_k", "_law_top", "_law_rows", "_law_one", "_law_more", "_law_some", "_law_boxes", "_law_here", "_law_columns", "_law_high", "_law_low", "_law_problem_here", "_law_shift"]) (sc := defScope sLaw) (by decide +kernel)) (fun _ _ _ _ _ => (pg_name (i := 6) scLaw.nd rfl (Or.inl rfl))) (fun _ _ _ _ _ => pts_nil) (fun _ _ _ _ _ => (pe_ix ix_tup (pv 6) pe_int (fun _ _ => rfl)))) pa_nil)) pe_int (nomark _))))) (pss_cons (ps_set (i := 10) scLaw.nd rfl (.inl rfl) (pe_call Gh hr4 (by rfl) T.DLHeating.g T.DLHeating.F.kp T.DLHeating.b .nil pass0 (pa_cons (pe_tup (pa_cons (pe_ix ix_tup (pv 14) pe_int (fun _ _ => rfl)) (pa_cons (pe_op op_catA (pe_ix ix_tup (pv 14) pe_int (fun _ _ => rfl)) (pe_callTy call_tuple_of (by rfl) T.B.tuple_ (by decide +kernel) (pa_cons (pv 9) pa_nil))) (pa_cons (pe_ix ix_tup (pv 14) pe_int (fun _ _ => rfl)) pa_nil)))) pa_nil))) (pss_one (ps_set (i := 2) scLaw.nd rfl (.inl rfl) (pe_ifExp (PW.pt (pw_or (pt_cmpR op_isN (pv 2) pe_non (nomark _)) (pw_or1 (pt_cmpR op_lt (pv 10) (pe_ix ix_tup (pv 2) pe_int (fun _ _ => rfl)) (nomark _))))) (pe_tup (pa_cons (pv 8) (pa_cons (pv 10) pa_nil))) (pv 2))))) pss_nil))))) (pss_cons (ps_if (pt_cmpR op_gt (pe_op op_add (pe_callB call_len_seq (by rfl) T.B.len_ PySem.boot_len (pa_cons (pe_ix ix_tup (pv 14) pe_int (fun _ _ => rfl)) pa_nil)) (pe_op op_mul pe_int (pe_callB call_len_seq (by rfl) T.B.len_ PySem.boot_len (pa_cons (pv 11) pa_nil)))) pe_int (nomark _)) (pss_one (ps_set (i := 2) scLaw.nd rfl (.inl rfl) pe_str)) pss_nil) (pss_one (ps_ret (pe_call Ga hr3 (by rfl) T.DAlike.g T.DAlike.F.kp T.DAlike.b .nil pass0 (pa_cons (LamX.pe_lamcall (T := [(P3, qL T.fLaw c3), (P1, qL T.fLaw c3), (P2, qL T.fLaw c3)]) (t := fun E => tCall (spBest [P1, P2] C) [] E (tCons (tVar 14) (tCons (tVar 11) (tCons (tVar 13) (tCons (tVar 12) tNil))))) (k := 7) (by rfl) T.DTold.g T.DTold.F.kp lk hcd btold scTold rfl (.inl rfl) (told_many M T.B.isinstance_) TB3 rfl (List.mem_cons_self ..) hu hr (LamX.lamS_by (sc := defScope sLaw) (by decide +kernel)) rfl (fun _ _ _ _ _ => rfl) (fun A outer s H E f c' hr' => (pe_call Gb hr' (by rfl) T.DBestShifts.g T.DBestShifts.F.kp T.DBestShifts.b .nil (passes_call (W := fun cls d _ H => E cls d H) (takes_of rfl rfl rfl rfl) (fun _ _ _ _ h => h)) (pa_cons (pv 14) (pa_cons (pv 11) (pa_cons (pv 13) (pa_cons (pv 12) pa_nil))))))) (pa_cons (pv 2) pa_nil)))))))))))))), ?_⟩
    refine ⟨_, rfl, (by show 4 ≤ sizeLine; decide), fun r hr0 => ?_⟩
    have s0 := same_upd (o := .lst [.ref a, .int 0, .int 4046, .int 0]) hr0
    have row0 : RowAt K (upd H r (.lst [.ref a, .int 0, .int 4046, .int 0])) r a ns := ⟨0, 4046, 0, upd_same, s0.seq hS, by decide, by decide, by decide⟩
    have tab0 : ∀ P ∈ [P1, P2, P3], (upd H r (.lst [.ref a, .int 0, .int 4046, .int 0])) P = some (.tbl #[]) := fun P hP => s0 _ _ (htab P hP)
    have nr0 : ∀ P ∈ [P1, P2, P3], P ≠ r := fun P hP => ne_of_none (htab P hP) hr0
    generalize (upd H r (.lst [.ref a, .int 0, .int 4046, .int 0])) = H1 at *
    clear s0 htab hS
    -- the problem
    refine ⟨_, rfl, r, a, ns, rfl, row0, fun H2 qp pr b2 row2 hp ok pb2 => ⟨Nat.zero_le _, fun lc hlc => ⟨(by show 3 ≤ sizeLine; decide), fun t0 ht0 => ?_⟩⟩⟩
    have tab2 : ∀ P ∈ [P1, P2, P3], H2 P = some (.tbl #[]) := fun P hP => b2 _ _ (nr0 P hP) (tab0 P hP)
    refine ⟨_, _, rfl, SqT.of upd_same, rfl, _, _, rfl, _, _, rfl, _, _, rfl, rfl, ?_⟩
    have s3 := (same_upd (o := .lst []) hlc).trans (same_upd (o := .tup [.ref qp, .ref lc, .non]) ht0)
    have D0 : Dc K r a lc ns H2 (upd (upd H2 lc (.lst [])) t0 (.tup [.ref qp, .ref lc, .non])) [] := ⟨row2, hlc, But.of s3, row2.same s3, ⟨[], (same_upd ht0) _ _ upd_same, .nil⟩⟩
    clear s3 row0 tab0 b2
    generalize (upd (upd H2 lc (.lst [])) t0 (.tup [.ref qp, .ref lc, .non])) = H3 at *
    -- the columns
    refine ⟨_, rfl, r, a, ns, 2, rfl, D0.row, by decide, by decide, fun H4 m b4 row4 m0 m1 => ⟨_, _, rfl, rfl, 1 + m, rfl, by omega, by omega, ?_⟩⟩
    have D4 := D0.step b4 row4
    clear D0 b4 row4
    refine for_range (n := (1 + m).toNat) (lo := 0) (fun i σ H' => (∃ v3 v4, σ = [some (.ref a), some (.ref r), some .non, v3, v4, none, none, none, none, none, none, some (.ref lc), none, none, some (.ref qp), none]) ∧ ∃ cs, Dc K r a lc ns H2 H' cs ∧ cs.length = i ∧ ∀ t ∈ cs, okC t) ⟨⟨none, none, rfl⟩, [], D4, rfl, fun t ht => absurd ht (by simp)⟩ (fun i σ H' hi h => ?_) (fun σ H' h => ?_)
    · obtain ⟨⟨v3, v4, rfl⟩, cs, D, hlen, hok⟩ := h
      refine ⟨_, rfl, _, rfl, r, a, ns, 200, rfl, D.row, by decide, by decide, fun H5 x b5 row5 x0 x1 => ⟨(by show 3 ≤ sizeLine; decide), fun l hl => ?_⟩⟩
      have D5 := D.step b5 row5
      have D6 := D5.same (same_upd (o := .lst [.int x, .int 999, .int 0]) hl)
      refine ⟨r, l, a, ns, [x, 999, 0], rfl, D6.row, upd_same, nl_row row5 hl, by show 0 < 3; decide, by show 3 ≤ 100; decide, fun H7 y b7 row7 hy => ⟨_, _, rfl, rfl, ?_⟩⟩
      have hy' : 0 ≤ y ∧ y ≤ 999 := by
        simp at hy
        omega
      have D7 := D6.step b7 row7
      obtain ⟨us, hus, rus⟩ := D7.s
      refine ⟨_, rfl, .inl ⟨rfl, _, SqL.of hus⟩, _, rfl, _, rfl, _, rfl, r, a, ns, 1 + y, rfl, D7.row, by omega, by omega, fun H8 z b8 row8 z0 z1 => ?_⟩
      have D8 := D7.step b8 row8
      refine ⟨_, rfl, _, rfl, r, a, ns, 500, rfl, D8.row, by decide, by decide, fun H9 u b9 row9 u0 u1 => ⟨_, _, rfl, rfl, (by show 4 ≤ sizeLine; decide), fun l2 hl2 => ?_⟩⟩
      have D9 := D8.step b9 row9
      have D10 := D9.same (same_upd (o := .lst [.int 1, .int 100, .int 10000, .int (1 + u)]) hl2)
      refine ⟨r, l2, a, ns, [1, 100, 10000, 1 + u], rfl, D10.row, upd_same, nl_row row9 hl2, by show 0 < 4; decide, by show 4 ≤ 100; decide, fun H11 g b11 row11 hg => ⟨(by show 3 ≤ sizeLine; decide), fun t ht => ?_⟩⟩
      have hg' : 1 ≤ g ∧ g ≤ 10000 := by
        simp at hg
        omega
      have D12 := (D10.step b11 row11).same (same_upd (o := .tup [.int (1 + y), .int z, .int g]) ht)
      obtain ⟨us2, hus2, rus2⟩ := D12.s
      refine ⟨lc, us2, _, rfl, rfl, hus2, ?_, ?_⟩
      · rw [rus2.len, hlen]
        show i < 16777216
        omega
      · refine ⟨⟨_, _, rfl⟩, cs ++ [(1 + y, z, g)], D12.add hus2 upd_same, by rw [List.length_append, hlen]; rfl, fun t ht => ?_⟩
        rcases List.mem_append.mp ht with ht | ht
        · exact hok t ht
        · have e : t = (1 + y, z, g) := by simpa using ht
          rw [e]
          exact ⟨⟨by show 0 ≤ 1 + y; omega, by show 1 + y ≤ 1000; omega⟩, ⟨by show 0 ≤ z; omega, by show z ≤ 1 + y - 1; omega⟩, by show 1 ≤ g; omega, by show g ≤ 10000; omega⟩
    obtain ⟨⟨v3, v4, rfl⟩, cs, D, hlen, okc⟩ := h
    clear D4 H4 H3
    have n1 : 1 ≤ cs.length := by omega
    have n2 : cs.length ≤ 2 := by omega
    -- low, high
    refine ⟨_, rfl, r, a, ns, 20, rfl, D.row, by decide, by decide, fun H5 x b5 row5 x0 x1 => ⟨_, _, rfl, rfl, ?_⟩⟩
    have D5 := D.step b5 row5
    refine ⟨_, rfl, _, rfl, r, a, ns, 8, rfl, D5.row, by decide, by decide, fun H6 y b6 row6 y0 y1 => ⟨_, _, rfl, rfl, _, _, rfl, ?_⟩⟩
    have D6 := D5.step b6 row6
    obtain ⟨us, hus, rus⟩ := D6.s
    refine ⟨_, rfl, lc, us, rfl, .inl ⟨SqL.of hus, fun tc htc => ⟨(by show 2 ≤ sizeLine; decide), fun t1 ht1 => ⟨_, _, rfl, SqT.of upd_same, rfl, _, _, rfl, _, _, rfl, rfl, ?_⟩⟩⟩⟩
    obtain ⟨hi, hhi⟩ : ∃ hi, hi = if x - 10 + y < 50 then x - 10 + y else 50 := ⟨_, rfl⟩
    obtain ⟨lo, hlo⟩ : ∃ lo, lo = x - 10 := ⟨_, rfl⟩
    have hb : -10 ≤ lo ∧ lo ≤ 9 ∧ lo ≤ hi ∧ hi ≤ lo + 7 := by
      rw [hhi, hlo]
      rw [if_pos (by omega)]
      omega
    have s7 := (same_upd (o := .tup us) htc).trans (same_upd (o := .tup [.int (if x - 10 + y < 50 then x - 10 + y else 50), .ref tc]) ht1)
    have b27 := D6.but.trans (But.of s7)
    have k27 : KeepT H2 (upd (upd H6 tc (.tup us)) t1 (.tup [.int (if x - 10 + y < 50 then x - 10 + y else 50), .ref tc])) := by
      obtain ⟨_, e⟩ := row2.lst
      exact b27.keepT e
    have hp7 := hp.keep k27
    have tab7 : ∀ P ∈ [P1, P2, P3], (upd (upd H6 tc (.tup us)) t1 (.tup [.int (if x - 10 + y < 50 then x - 10 + y else 50), .ref tc])) P = some (.tbl #[]) := fun P hP => b27 _ _ (nr0 P hP) (tab2 P hP)
    have etc : (upd (upd H6 tc (.tup us)) t1 (.tup [.int (if x - 10 + y < 50 then x - 10 + y else 50), .ref tc])) tc = some (.tup us) := (same_upd ht1) _ _ upd_same
    have rc : Refs T3 (upd (upd H6 tc (.tup us)) t1 (.tup [.int (if x - 10 + y < 50 then x - 10 + y else 50), .ref tc])) us cs := rus.imp (T3.keep (Same.keepT s7))
    clear s7 b27 k27 ht1 htc hus rus D6 D5 D b5 row5 b6 row6 hp tab2 row2 hlc ht0 nr0
    have lus : us.length = cs.length := rc.len
    -- rows
    refine ⟨Nat.zero_le _, fun t2 ht2 => ⟨(by show 1 ≤ sizeLine; decide), fun r5 hr5 => ?_⟩⟩
    generalize (upd (upd H6 tc (.tup us)) t1 (.tup [.int (if x - 10 + y < 50 then x - 10 + y else 50), .ref tc])) = H7 at *
    have s8 := (same_upd (o := .tup []) ht2).trans (same_upd (o := .lst [.ref t2]) hr5)
    refine ⟨_, rfl, tc, rfl, ⟨_, SqT.of (s8 _ _ etc)⟩, for_tup (xs := us) (fun i σ H' => ∃ v3 v4 v6 v7 v8 rr ws, σ = [some (.ref a), some (.ref r), some .non, v3, v4, some (.ref rr), v6, v7, v8, none, none, some (.ref tc), some (.int hi), some (.int lo), some (.ref qp), none] ∧ Same H7 H' ∧ H' rr = some (.lst ws) ∧ Refs TI H' ws (rowsOf lo hi (cs.take i)))
      ⟨_, _, none, none, none, r5, [.ref t2], by rw [hhi, hlo]; rfl, s8, upd_same, .cons ⟨t2, rfl, (same_upd hr5) _ _ upd_same⟩ .nil⟩ (fun i σ H' _ ⟨_, _, _, _, _, _, _, _, h, _⟩ => SqT.of (h _ _ etc)) (fun i x σ H' hx h => ?_) (fun σ H' h => ?_)⟩
    · obtain ⟨v3, v4, v6, v7, v8, rr, ws, rfl, s', hrr, rws⟩ := h
      have hic : i < cs.length := by
        have := (List.getElem?_eq_some_iff.mp hx).1
        omega
      have hrl := rowsOf_len1 lo hi cs i (by omega) (by omega) (by omega)
      have lws := rws.len
      refine ⟨Nat.zero_le _, fun m0 hm0 => ?_⟩
      have sm := same_upd (o := .lst []) hm0
      refine ⟨_, rfl, rr, rfl, ⟨_, SqL.of (sm _ _ hrr)⟩, for_list (xs := ws) (fun j σ H2 => ∃ v8 mm wm, σ = [some (.ref a), some (.ref r), some .non, v3, v4, some (.ref rr), some x, some (.ref mm), v8, none, none, some (.ref tc), some (.int hi), some (.int lo), some (.ref qp), none] ∧ Same H' H2 ∧ H2 mm = some (.lst wm) ∧ Refs TI H2 wm (stepR lo hi ((rowsOf lo hi (cs.take i)).take j)))
        ⟨_, m0, [], rfl, sm, upd_same, .nil⟩ (fun j σ H2 _ ⟨_, _, _, _, h, _⟩ => SqL.of (h _ _ hrr)) (fun j z σ H2 hz h => ?_) (fun σ H2 h => ?_)⟩
      · obtain ⟨v8, mm, wm, rfl, s2, hmm, rwm⟩ := h
        obtain ⟨q, row, rfl, hrow, hq⟩ := rws.get' hz
        have hq2 : TI H2 q row := s2 _ _ hq
        have hrow2 : row.length ≤ 2 := by
          have := rowsOf_row lo hi cs i (by omega) row (List.mem_of_getElem? hrow)
          omega
        have hjl : j < (rowsOf lo hi (cs.take i)).length := (List.getElem?_eq_some_iff.mp hrow).1
        refine ⟨_, rfl, _, rfl, _, rfl, _, _, rfl, rfl, lo, hi + 1, rfl, ⟨by omega, by omega, by omega, by omega⟩, fun D hD => lc_range (lo := lo) (n := (hi + 1 - lo).toNat) (fun k H4 => Same H2 H4 ∧ ∃ wd, H4 D = some (.lst wd) ∧ Refs TI H4 wd (((rangeL lo hi).take k).map fun s => row ++ [s])) ⟨same_upd hD, [], upd_same, .nil⟩ (fun k H4 hk h => ?_) (fun H4 h => ?_)⟩
        · obtain ⟨s4, wd, hwd, rwd⟩ := h
          have lwd : wd.length ≤ 8 := by
            have := rwd.len
            rw [List.length_map, List.length_take, rangeL_len] at this
            omega
          refine ⟨rfl, _, rfl, _, rfl, (by show 1 ≤ sizeLine; decide), fun t ht => ?_⟩
          have st := same_upd (o := .tup [.int (lo + (k : Int))]) ht
          refine ⟨q, t, row.map V.int, [.int (lo + (k : Int))], rfl, rfl, SqT.of (st _ _ (s4 _ _ hq2)), SqT.of upd_same, ?_, fun e0 => ⟨wd, st _ _ hwd, ?_, same_mut (s4.trans st) hD, _, upd_same, ?_⟩, fun _ e1 => ?_, fun _ _ p hp => ⟨wd, ((same_upd hp) _ _ (st _ _ hwd)), ?_, same_mut ((s4.trans st).trans (same_upd hp)) hD, _, upd_same, ?_⟩⟩
          · rw [List.length_map]
            show row.length + 1 ≤ 16777216
            omega
          · show wd.length < 16777216
            omega
          · have er : row = [] := by simpa using e0
            rw [take_more (rangeL_get hk), List.map_append]
            refine Refs.app (rwd.imp (TI.keep ((Same.keepT st).trans (keepT_mut (st _ _ hwd))))) rfl ?_
            refine keepT_mut (st _ _ hwd) _ _ ?_
            rw [upd_same, er]
            rfl
          · cases e1
          · show wd.length < 16777216
            omega
          · have sp := same_upd (o := .tup (row.map V.int ++ [.int (lo + (k : Int))])) hp
            rw [take_more (rangeL_get hk), List.map_append]
            refine Refs.app (rwd.imp (TI.keep ((Same.keepT (st.trans sp)).trans (keepT_mut (sp _ _ (st _ _ hwd)))))) rfl ?_
            refine keepT_mut (sp _ _ (st _ _ hwd)) _ _ ?_
            rw [upd_same, List.map_append]
            rfl
        · obtain ⟨s4, wd, hwd, rwd⟩ := h
          rw [show (rangeL lo hi).take (hi + 1 - lo).toNat = rangeL lo hi from List.take_of_length_le (by rw [rangeL_len]; exact Nat.le_refl _)] at rwd
          refine ⟨mm, D, wm, wd, rfl, rfl, s4 _ _ hmm, hwd, ?_, fun p hp => ?_⟩
          · have h1 := rwm.len
            have h2 := rwd.len
            rw [stepR_len, List.length_take] at h1
            rw [List.length_map, rangeL_len] at h2
            have h3 : min j (rowsOf lo hi (cs.take i)).length * (hi + 1 - lo).toNat ≤ 101 * 101 := Nat.mul_le_mul (by omega) (by omega)
            show wm.length + wd.length ≤ 16777216
            omega
          · have sp := same_upd (o := .lst (wm ++ wd)) hp
            refine ⟨_, p, wm ++ wd, rfl, (s2.trans s4).trans sp, upd_same, ?_⟩
            rw [take_more hrow]
            have e : stepR lo hi ((rowsOf lo hi (cs.take i)).take j ++ [row]) = stepR lo hi ((rowsOf lo hi (cs.take i)).take j) ++ (rangeL lo hi).map fun s => row ++ [s] := by
              unfold stepR
              rw [List.flatMap_append]
              simp
            rw [e]
            exact (rwm.imp (TI.keep (Same.keepT (s4.trans sp)))).append (rwd.imp (TI.keep (Same.keepT sp)))
      · obtain ⟨v8, mm, wm, rfl, s2, hmm, rwm⟩ := h
        rw [List.take_of_length_le (by omega)] at rwm
        refine ⟨_, rfl, _, _, _, _, _, mm, wm, rfl, s'.trans s2, hmm, ?_⟩
        rw [take_more (List.getElem?_eq_getElem hic), rowsOf_snoc]
        exact rwm
    obtain ⟨v3, v4, v6, v7, v8, rr, ws, rfl, s9, hrr, rws⟩ := h
    have ec : cs.take us.length = cs := List.take_of_length_le (by omega)
    rw [ec] at rws
    have rowlen : ∀ row ∈ rowsOf lo hi cs, row.length = cs.length := fun row hrow => by
      have := rowsOf_row lo hi cs cs.length (Nat.le_refl _)
      rw [List.take_length] at this
      exact this row hrow
    clear s8 hr5 ht2 hhi hlo
    have TC : ∀ {Hx}, Same H' Hx → SqT K Hx tc us := fun s => SqT.of (s _ _ (s9 _ _ etc))
    refine ⟨_, rfl, rr, rfl, ⟨_, SqL.of hrr⟩, for_list (xs := ws) (fun i σ H2 => (∃ v2 v3 v4 v6 v7 v8 v9 v10, σ = [some (.ref a), some (.ref r), some v2, v3, v4, some (.ref rr), v6, v7, v8, v9, v10, some (.ref tc), some (.int hi), some (.int lo), some (.ref qp), none] ∧ FoundAt H2 v2 (((rowsOf lo hi cs).take i).foldl (better pr cs) none)) ∧ Same H' H2)
      ⟨⟨.non, _, _, _, _, _, none, none, rfl, .inl ⟨rfl, rfl⟩⟩, fun _ _ e => e⟩ (fun i σ H2 _ h => SqL.of (h.2 _ _ hrr)) (fun i z σ H2 hz h => ?_) (fun σ H2 h => ?_)⟩
    · obtain ⟨⟨v2, v3, v4, v6, v7, v8, v9, v10, rfl, hf⟩, s2⟩ := h
      obtain ⟨q, row, rfl, hrow, hq⟩ := rws.get' hz
      have TQ : ∀ {Hx}, Same H' Hx → SqT K Hx q (row.map V.int) := fun s => SqT.of (s _ _ hq)
      have hrl := rowlen row (List.mem_of_getElem? hrow)
      have hstep : ((rowsOf lo hi cs).take (i + 1)).foldl (better pr cs) none = better pr cs (((rowsOf lo hi cs).take i).foldl (better pr cs) none) row := by
        rw [take_more hrow, List.foldl_append]
        rfl
      have hzl : (cs.zip row).length = cs.length := by rw [List.length_zip]; omega
      refine ⟨Nat.zero_le _, fun b0 hb0 => ?_⟩
      have s3 := s2.trans (same_upd (o := .lst []) hb0)
      refine ⟨_, rfl, _, _, rfl, .inr (TC s3), (us.length : Int), rfl, by omega, by omega, ?_⟩
      refine for_range (n := us.length) (lo := 0) (fun j σ H4 => (∃ v3 bb wb, σ = [some (.ref a), some (.ref r), some v2, v3, v4, some (.ref rr), v6, v7, some (.ref q), some (.ref bb), v10, some (.ref tc), some (.int hi), some (.int lo), some (.ref qp), none] ∧ H4 bb = some (.lst wb) ∧ Refs T2 H4 wb (((cs.zip row).take j).flatMap bx)) ∧ Same H2 H4) ⟨⟨_, b0, [], rfl, upd_same, .nil⟩, same_upd hb0⟩ (fun j σ H4 hj h => ?_) (fun σ H4 h => ?_)
      · obtain ⟨⟨v3, bb, wb, rfl, hbb, rwb⟩, s4⟩ := h
        have s04 := s2.trans s4
        have hcj : cs[j]? = some cs[j] := List.getElem?_eq_getElem (by omega)
        obtain ⟨d, hd, td⟩ := rc.get hcj
        have hrj : row[j]? = some row[j] := List.getElem?_eq_getElem (by omega)
        have hqz : (cs.zip row)[j]? = some (cs[j], row[j]) := List.getElem?_zip_eq_some.mpr ⟨hcj, hrj⟩
        generalize cs[j] = c at *
        generalize row[j] = sh at *
        have TD : ∀ {Hx}, Same H' Hx → SqT K Hx d [.int c.1, .int c.2.1, .int c.2.2] := fun s => SqT.of (s _ _ (s9 _ _ td))
        have AT : atI us (0 + (j : Int)) = some (.ref d) := by rw [Int.zero_add]; exact atI_nat hd
        have AR : atI (row.map V.int) (0 + (j : Int)) = some (.int sh) := by rw [Int.zero_add]; exact atI_nat (by rw [List.getElem?_map, hrj]; rfl)
        refine ⟨_, rfl, _, rfl, _, rfl, _, _, _, _, rfl, rfl, TC s04, AT, _, _, 0, .int c.1, rfl, rfl, TD s04, atI_nat (j := 0) rfl, _, rfl, _, rfl, _, _, _, _, rfl, rfl, TQ s04, AR, _, _, rfl, rfl, _, rfl, _, rfl, _, _, _, _, rfl, rfl, TC s04, AT, _, _, 2, .int c.2.2, rfl, rfl, TD s04, atI_nat (j := 2) rfl, _, _, rfl, rfl, (by show 2 ≤ sizeLine; decide), fun p1 n1 => ?_⟩
        have u1 := same_upd (o := .tup [.int (c.1 + sh), .int (0 - c.2.2)]) n1
        have s05 := s04.trans u1
        refine ⟨_, rfl, _, rfl, _, _, _, _, rfl, rfl, TC s05, AT, _, _, 1, .int c.2.1, rfl, rfl, TD s05, atI_nat (j := 1) rfl, _, rfl, _, rfl, _, _, _, _, rfl, rfl, TQ s05, AR, _, _, rfl, rfl, _, rfl, _, rfl, _, _, _, _, rfl, rfl, TC s05, AT, _, _, 2, .int c.2.2, rfl, rfl, TD s05, atI_nat (j := 2) rfl, (by show 2 ≤ sizeLine; decide), fun p2 n2 => ?_⟩
        have u2 := same_upd (o := .tup [.int (c.2.1 + sh), .int c.2.2]) n2
        refine ⟨(by show 2 ≤ sizeLine; decide), fun p3 n3 => ?_⟩
        have u3 := same_upd (o := .lst [.ref p1, .ref p2]) n3
        have u13 := u1.trans (u2.trans u3)
        refine ⟨bb, p3, wb, [.ref p1, .ref p2], rfl, rfl, u13 _ _ hbb, upd_same, ?_, fun p4 n4 => ?_⟩
        · have := rwb.len
          rw [flatMap_len2, List.length_take] at this
          show wb.length + 2 ≤ 16777216
          omega
        · have u4 := same_upd (o := .lst (wb ++ [.ref p1, .ref p2])) n4
          refine ⟨⟨_, p4, wb ++ [.ref p1, .ref p2], rfl, upd_same, ?_⟩, s4.trans (u13.trans u4)⟩
          rw [take_more hqz, List.flatMap_append]
          refine (rwb.imp (T2.keep (Same.keepT (u13.trans u4)))).append ?_
          show Refs T2 _ [.ref p1, .ref p2] [(c.1 + sh, 0 - c.2.2), (c.2.1 + sh, c.2.2)]
          exact .cons ⟨p1, rfl, u4 _ _ (u3 _ _ (u2 _ _ upd_same))⟩ (.cons ⟨p2, rfl, u4 _ _ (u3 _ _ upd_same)⟩ .nil)
      · obtain ⟨⟨v3, bb, wb, rfl, hbb, rwb⟩, s4⟩ := h
        rw [List.take_of_length_le (by omega), ← boxesOf_eq] at rwb
        have s04 := s2.trans s4
        have lb : (boxesOf cs row).length = 2 * cs.length := by
          rw [boxesOf_eq, flatMap_len2]
          omega
        have lwb := rwb.len
        have keepB : stays cs row = false → better pr cs (((rowsOf lo hi cs).take i).foldl (better pr cs) none) row = ((rowsOf lo hi cs).take i).foldl (better pr cs) none := fun st => by
          unfold better
          rw [if_neg (by rw [st]; exact Bool.false_ne_true)]
        have noStay : ∀ b ∈ boxesOf cs row, (b.1 < 0 ∨ 1000 < b.1) → stays cs row = false := fun b hb hx => by
          refine Bool.eq_false_iff.mpr fun st => ?_
          have := stays_to okc st b hb
          omega
        -- min(..) >= 0 and max(..) <= 1000
        refine ⟨_, rfl, bb, rfl, ⟨_, SqL.of hbb⟩, fun D hD => lc_list (xs := wb) (fun k H6 => Same H4 H6 ∧ H6 D = some (.lst (((boxesOf cs row).take k).map fun b => V.int b.1))) ⟨same_upd hD, upd_same⟩ (fun k H6 _ h => SqL.of (h.1 _ _ hbb)) (fun k z H6 hz h => ?_) (fun H6 h => ?_)⟩
        · obtain ⟨s6, hd6⟩ := h
          obtain ⟨e, b, rfl, hb, he⟩ := rwb.get' hz
          refine ⟨rfl, _, rfl, _, _, 0, .int b.1, rfl, rfl, SqT.of (s6 _ _ he), atI_nat (j := 0) rfl, _, hd6, ?_, same_mut s6 hD, ?_⟩
          · rw [List.length_map, List.length_take]
            show _ < 16777216
            omega
          · rw [upd_same, take_more hb, List.map_append]
            rfl
        obtain ⟨s6, hd6⟩ := h
        have s06 := s04.trans s6
        rw [List.take_of_length_le (by omega), show ((boxesOf cs row).map fun b => V.int b.1) = ((boxesOf cs row).map (·.1)).map V.int by rw [List.map_map]; rfl] at hd6
        refine ⟨D, _, rfl, SqL.of hd6, by rw [List.length_map]; omega, fun m hm hmin => ⟨_, _, rfl, rfl, _, rfl, goE (fun c1 => ?_) (fun c1 => ?_)⟩⟩
        · have c1' : 0 ≤ m := by simpa using c1
          refine ⟨_, rfl, bb, rfl, ⟨_, SqL.of (s6 _ _ hbb)⟩, fun D2 hD2 => lc_list (xs := wb) (fun k H7' => Same H6 H7' ∧ H7' D2 = some (.lst (((boxesOf cs row).take k).map fun b => V.int b.1))) ⟨same_upd hD2, upd_same⟩ (fun k H7' _ h => SqL.of (h.1 _ _ (s6 _ _ hbb))) (fun k z H7' hz h => ?_) (fun H7' h => ?_)⟩
          · obtain ⟨s7, hd7⟩ := h
            obtain ⟨e, b, rfl, hb, he⟩ := rwb.get' hz
            refine ⟨rfl, _, rfl, _, _, 0, .int b.1, rfl, rfl, SqT.of (s7 _ _ (s6 _ _ he)), atI_nat (j := 0) rfl, _, hd7, ?_, same_mut s7 hD2, ?_⟩
            · rw [List.length_map, List.length_take]
              show _ < 16777216
              omega
            · rw [upd_same, take_more hb, List.map_append]
              rfl
          obtain ⟨s7, hd7⟩ := h
          rw [List.take_of_length_le (by omega), show ((boxesOf cs row).map fun b => V.int b.1) = ((boxesOf cs row).map (·.1)).map V.int by rw [List.map_map]; rfl] at hd7
          have s07 := s06.trans s7
          have s47 := s6.trans s7
          refine ⟨D2, _, rfl, SqL.of hd7, by rw [List.length_map]; omega, fun m2 hm2 hmax => ⟨_, _, rfl, rfl, _, rfl, goE (fun c2 => ?_) (fun c2 => ?_)⟩⟩
          · have c2' : m2 ≤ 1000 := by simpa using c2
            have st : stays cs row = true := stays_of (fun b hb => by have := hmin b.1 (List.mem_map_of_mem hb); omega) (fun b hb => by have := hmax b.1 (List.mem_map_of_mem hb); omega)
            have hf7 := hf.keep (Same.keepT (s4.trans s47))
            clear hf
            refine seq_fin (rest := tAsg _ _) (fun σ' Hn => σ' = [some (.ref a), some (.ref r), some v2, v3, v4, some (.ref rr), v6, v7, some (.ref q), some (.ref bb), some (.int (pr.more (boxesOf cs row)).heat), some (.ref tc), some (.int hi), some (.int lo), some (.ref qp), none] ∧ Same H7' Hn) (fun σ' Hn h => ?_) (fun fin => ?_)
            · obtain ⟨rfl, sn⟩ := h
              have s0n := s07.trans sn
              have hfn := hf7.keep (Same.keepT sn)
              have put : ∀ t, Hn t = none → better pr cs (((rowsOf lo hi cs).take i).foldl (better pr cs) none) row = some (row, (pr.more (boxesOf cs row)).heat) →
                  FoundAt (upd Hn t (.tup [.ref q, .int (pr.more (boxesOf cs row)).heat])) (.ref t) (((rowsOf lo hi cs).take (i + 1)).foldl (better pr cs) none) := fun t ht e => by
                rw [hstep, e]
                exact .inr ⟨t, q, row, _, rfl, upd_same, (same_upd ht) _ _ (s0n _ _ hq), rfl, by omega⟩
              rcases hfn with ⟨rfl, hb⟩ | ⟨f, r6, row6, heat6, rfl, hf6, hr6, hb, len6⟩
              · refine ⟨_, rfl, rfl, _, rfl, goT (by simp) ?_⟩
                refine goT rfl ?_
                refine ⟨_, rfl, _, rfl, (by show 2 ≤ sizeLine; decide), fun t ht => ⟨⟨.ref t, _, _, _, _, _, _, _, rfl, put t ht ?_⟩, s0n.trans (same_upd ht)⟩⟩
                rw [hb]
                unfold better
                rw [if_pos st]
              · refine ⟨_, rfl, rfl, _, rfl, goF (by simp) ?_⟩
                refine ⟨_, rfl, _, rfl, _, _, 1, .int heat6, rfl, rfl, SqT.of hf6, atI_nat (j := 1) rfl, _, _, rfl, rfl, _, rfl, goE (fun z => ?_) (fun z => ?_)⟩
                · have z' : (pr.more (boxesOf cs row)).heat < heat6 := by simpa using z
                  refine ⟨_, rfl, _, rfl, (by show 2 ≤ sizeLine; decide), fun t ht => ⟨⟨.ref t, _, _, _, _, _, _, _, rfl, put t ht ?_⟩, s0n.trans (same_upd ht)⟩⟩
                  rw [hb]
                  unfold better
                  rw [if_pos st]
                  exact if_pos z'
                · have z' : ¬ (pr.more (boxesOf cs row)).heat < heat6 := by simpa using z
                  refine ⟨_, rfl, ⟨.ref f, _, _, _, _, _, _, _, rfl, ?_⟩, s0n⟩
                  rw [hstep, hb]
                  unfold better
                  rw [if_pos st]
                  show FoundAt Hn (.ref f) (if (pr.more (boxesOf cs row)).heat < heat6 then some (row, (pr.more (boxesOf cs row)).heat) else some (row6, heat6))
                  rw [if_neg z']
                  exact .inr ⟨f, r6, row6, heat6, rfl, hf6, hr6, rfl, len6⟩
            · obtain ⟨ps, pb, e, ⟨vss, es, rs⟩, ⟨vbs, eb, rb⟩⟩ := hp7.keep (Same.keepT (s9.trans s07))
              have hbb7 := s47 _ _ hbb
              have rwb7 := rwb.imp (T2.keep (Same.keepT s47))
              have el2 := rb.len
              refine ⟨_, rfl, _, _, 0, .ref ps, rfl, rfl, SqT.of e, atI_nat (j := 0) rfl, _, rfl, _, _, 1, .ref pb, rfl, rfl, SqT.of e, atI_nat (j := 1) rfl, _, rfl, bb, wb, rfl, .inl ⟨SqL.of hbb7, fun t ht => ?_⟩⟩
              have s1 := same_upd (o := .tup wb) ht
              have mk : ∀ (Hx : Hp) (q2 : Addr) (vs2 : List V), Same H7' Hx → Hx q2 = some (.tup vs2) → Refs T2 Hx vs2 (pr.bs ++ boxesOf cs row) → ∀ r2, Hx r2 = none → PbAt (upd Hx r2 (.tup [.ref ps, .ref q2, .int pr.gap])) r2 (pr.more (boxesOf cs row)) := fun Hx q2 vs2 sx hq2 rq2 r2 hr2 => by
                have s3 := same_upd (o := .tup [.ref ps, .ref q2, .int pr.gap]) hr2
                have s4 := sx.trans s3
                exact ⟨ps, q2, upd_same, ⟨vss, s4 _ _ es, rs.imp (T3.keep (Same.keepT s4))⟩, ⟨vs2, s3 _ _ hq2, rq2.imp (T2.keep (Same.keepT s3))⟩⟩
              have okm := more_ok ok okc hrl.symm (by omega) st
              refine ⟨pb, t, vbs, wb, rfl, rfl, SqT.of (s1 _ _ eb), SqT.of upd_same, by show _ ≤ 16777216; omega, fun z1 => ?_, fun _ z2 => ?_, fun z1 z2 q2 hq2 => ?_⟩
              · have hb0 : pr.bs = [] := by
                  cases h : pr.bs with
                  | nil => rfl
                  | cons x y => rw [h, z1] at el2; simp at el2
                refine ⟨_, rfl, _, _, 2, .int pr.gap, rfl, rfl, SqT.of (s1 _ _ e), atI_nat (j := 2) rfl, (by show 3 ≤ sizeLine; decide), fun r2 hr2 => ⟨r2, _, rfl, mk _ t wb s1 upd_same ?_ r2 hr2, okm, fun Hn sn => fin _ _ ⟨rfl, s1.trans ((same_upd hr2).trans sn)⟩⟩⟩
                rw [hb0, List.nil_append]
                exact rwb7.imp (T2.keep (Same.keepT s1))
              · rw [z2] at lwb
                simp at lwb
                omega
              · have s2' := same_upd (o := .tup (vbs ++ wb)) hq2
                have s12 := s1.trans s2'
                refine ⟨_, rfl, _, _, 2, .int pr.gap, rfl, rfl, SqT.of (s12 _ _ e), atI_nat (j := 2) rfl, (by show 3 ≤ sizeLine; decide), fun r2 hr2 => ⟨r2, _, rfl, mk _ q2 _ s12 upd_same ?_ r2 hr2, okm, fun Hn sn => fin _ _ ⟨rfl, s12.trans ((same_upd hr2).trans sn)⟩⟩⟩
                exact (rb.imp (T2.keep (Same.keepT s12))).append (rwb7.imp (T2.keep (Same.keepT s12)))
          · have c2' : 1000 < m2 := by simpa using c2
            obtain ⟨b, hb, rfl⟩ := List.mem_map.mp hm2
            refine ⟨⟨v2, _, _, _, _, _, _, _, rfl, ?_⟩, s07⟩
            rw [hstep, keepB (noStay b hb (.inr c2'))]
            exact hf.keep (Same.keepT (s4.trans s47))
        · have c1' : m < 0 := by simpa using c1
          obtain ⟨b, hb, rfl⟩ := List.mem_map.mp hm
          refine iteF ?_
          refine ⟨⟨v2, _, _, _, _, _, _, _, rfl, ?_⟩, s06⟩
          rw [hstep, keepB (noStay b hb (.inl c1'))]
          exact hf.keep (Same.keepT (s4.trans s6))
    obtain ⟨⟨v2, v3, v4, v6, v7, v8, v9, v10, rfl, hf⟩, s2⟩ := h
    rw [rws.len, List.take_length] at hf
    have hf : FoundAt H2 v2 (bestOf pr cs lo hi) := hf
    have s72 := s9.trans s2
    dsimp only
    refine seq_fin (rest := tRet _) (fun σ' Hn => (∃ vd, σ' = [some (.ref a), some (.ref r), some vd, v3, v4, some (.ref rr), v6, v7, v8, v9, v10, some (.ref tc), some (.int hi), some (.int lo), some (.ref qp), none] ∧ (4 < pr.bs.length + 2 * cs.length → vd = .str "many") ∧ (pr.bs.length + 2 * cs.length ≤ 4 → FoundAt Hn vd (bestOf pr cs lo hi))) ∧ Same H7 Hn) (fun σ' Hn h => ?_) (fun fin => ?_)
    · obtain ⟨⟨vd, rfl, hd1, hd2⟩, sn⟩ := h
      have tabn : ∀ P ∈ [P1, P2, P3], Hn P = some (.tbl #[]) := fun P hP => sn _ _ (tab7 P hP)
      refine ⟨fun p hp => ?_, fun H3 eN TT3 => ?_⟩
      · have hp' : p.1 ∈ [P1, P2, P3] := by
          simp at hp
          rcases hp with rfl | rfl | rfl <;> simp
        exact LamX.TabS.nil (tabn _ hp')
      have k3 : KeepT H7 H3 := fun b xs e => eN b _ (sn _ _ e) fun ps z => by cases z
      have tb3 : Tbs [P1, P2] H3 := fun P hP => by
        have hm : (P, qL T.fLaw c3) ∈ [(P3, qL T.fLaw c3), (P1, qL T.fLaw c3), (P2, qL T.fLaw c3)] := by
          simp at hP
          rcases hP with rfl | rfl <;> simp
        obtain ⟨ps, h1, h2, _⟩ := TT3 _ hm
        exact ⟨ps, h1, h2⟩
      refine ⟨_, rfl, _, rfl, _, rfl, _, rfl, qp, tc, pr, cs, lo, hi, rfl, hp7.keep k3, ok, by omega, ⟨us, k3 _ _ etc, rc.imp (T3.keep k3)⟩, n1, n2, okc, ⟨by omega, by omega, by omega⟩, tb3, fun lt H4 d g hd => ?_, fun le H4 v g hfv => ?_⟩
      · refine ⟨rfl, d, rfl, hd, _, rfl, _, _, rfl, .inl (.inr (.inr ⟨"many", rfl, ?_⟩)), fun H5 _ => q H5⟩
        exact hd1 lt
      · refine ⟨_, rfl, _, _, rfl, found_al hfv ((hd2 le).keep ?_), fun H5 _ => q H5⟩
        intro b xs e
        exact g.keepT b xs (eN b _ e fun ps z => by cases z)
    · have hpH := hp7.keep (Same.keepT s72)
      obtain ⟨ps, pb, e, _, ⟨vbs, eb, rb⟩⟩ := hpH
      have el2 := rb.len
      refine ⟨_, rfl, _, _, 1, .ref pb, rfl, rfl, SqT.of e, atI_nat (j := 1) rfl, _, _, rfl, .inr (SqT.of eb), _, rfl, _, _, rfl, .inr (TC s2), _, _, rfl, rfl, .inl ⟨by decide, by decide⟩, _, _, rfl, rfl, _, _, rfl, rfl, _, rfl, goE (fun z => ?_) (fun z => ?_)⟩
      · have z' : 4 < pr.bs.length + 2 * cs.length := by
          simp at z
          omega
        exact fin _ _ ⟨⟨.str "many", rfl, fun _ => rfl, fun le => absurd z' (by omega)⟩, s72⟩
      · have z' : ¬ 4 < pr.bs.length + 2 * cs.length := by
          simp at z
          omega
        exact fin _ _ ⟨⟨v2, rfl, fun lt => absurd lt z', fun _ => hf⟩, s72⟩
end
end Q46
/-! The end: the facts of the top gathered (printed by gen_w19.py). -/
namespace Q46
open PySem PySem.Spec PyProof.Rows L2
/-- what the head tells of the tables -/
def TabAll (q : Program) (mg : Str → Option Value) (h : Heap) : Prop := ∀ d ∈ recsOf q, ∃ a o fd c P, mg d.name = some (.ref a) ∧ h.get? a = some o ∧ o.data = .func fd ∧ fd.code = .ref c ∧ h.IsCode c P #[] ∧ h.TableAt c P #[]
theorem walk_tabs {l : PySem.W.OpenLaw} {n k : Nat} {q : Program} {loose : List Str} {XP : (Str → Option Value) → Heap → Prop} {YP : World → Heap → Prop} {d : DefRec} {K : Params → PySem.W.Frag} {CX : World → CXT} {x : Str}
    (hn : l.most = some n) (hn2 : n ≤ sizeLine) (hdf : d.params.defaults = []) (hr : Room k callerA) (hY : ∀ (w : World) (h : Heap), YP w h → (K w.params).In h)
    (F : ∀ (w : World) (mg : Str → Option Value) (fa : Addr) (h : Heap), YP w h → (K w.params).In h → h.Ns mainGlobals mg → mg d.name = some (.ref fa) → TabAll q mg h → LamX.LawAtS l w (K w.params) (CX w) k n x mg fa h)
    (hCX : ∀ (w : World) (H : Hp) (s : Shared) (e : Value) (s' : Shared), CX w [] H s (fun _ _ _ => False) e s' → False) :
    PySem.W.WalkO q loose XP YP l.row.toRowW d [] (fun f vs => PySem.call f vs) := by
  refine Att.attach_callB hn hdf fun w s₀ s₁ mg mb fa o pm cd doc a vs ns G Y ho hd hcd hmg hobj hints hlen hbits hg => ?_
  have KX := hY w _ Y
  obtain ⟨fd, cs, sp, hT, nT, C, hb, hsp, hF⟩ := F w mg fa _ Y KX G.T.g hmg G.T.tab
  exact LamX.law_callTs KX G.T.g G.T.b G.T.builtins G.T.nolimit hg hT nT C G.T.bmain hobj hints (Nat.le_trans hlen hn2) hr hF hb (fun H hH hS => hsp H a ns hlen hbits hH hS) fun H e s' => hCX w H s₁ e s'
theorem tab_of {q : Program} {mg : Str → Option Value} {h : Heap} {K : PySem.W.Frag} {x : Str} {f c P : Addr} {o : Obj} {fd : FuncData} {e : Value} {dd : Option Addr} {vs : Array Value} {sl : Array (Option Value)} (A : TabAll q mg h) (hrec : ((recsOf q).any fun e => e.name == x) = true) (X : K.In h)
    (g : mg x = some (.ref f)) (l : K.lookup f = some o) (hd : o.data = .func fd) (hc : fd.code = .ref c) (lc : K.lookup c = some ⟨e, dd, .fields vs, sl⟩) (h11 : vs[11]? = some (.ref P)) : h.get? P = some { cls := .none, data := .fields #[] } ∧ PySem.W.CodeHd h c P := by
  obtain ⟨dL, hm, hn1⟩ := List.any_eq_true.mp hrec
  have hn2 : dL.name = x := beq_iff_eq.mp hn1
  obtain ⟨a', o', fd', c', P', h1, h2, h3, h4, h5, h6⟩ := A dL hm
  rw [hn2, g] at h1
  cases h1
  have g1 := X _ _ l
  rw [g1] at h2
  cases h2
  rw [hd] at h3
  cases h3
  rw [hc] at h4
  cases h4
  have hh := PySem.W.CodeHd.of h5 h6
  obtain ⟨⟨oc, vc, e1, _, e3, e4⟩, hP⟩ := h6
  have g2 := X _ _ lc
  rw [g2] at e1
  cases e1
  cases e3
  rw [h11] at e4
  cases e4
  exact ⟨hP, hh⟩
set_option maxHeartbeats 16000000 in
theorem all_mk {l : PySem.W.OpenLaw} {qq : Program} {w : World} {K : PySem.W.Frag} {h : Heap} {mg : Str → Option Value} {fa : Addr} (X : K.In h) (G : h.Ns mainGlobals mg) (hfa : mg "law" = some (.ref fa)) (TA : TabAll qq mg h)
    (r1 : ((recsOf qq).any fun e => e.name == "is_stream") = true) (r2 : ((recsOf qq).any fun e => e.name == "need_above") = true) (r3 : ((recsOf qq).any fun e => e.name == "law") = true)
    {cdIsIn : Value}
    {fIsIn : Addr} {ocIsIn kVIsIn dcIsIn pmIsIn ctIsIn : Value} {odIsIn anIsIn : Option Addr} {slIsIn : Array (Option Value)}
    {fIsStream : Addr} {ocIsStream kVIsStream dcIsStream pmIsStream ctIsStream : Value} {odIsStream anIsStream : Option Addr} {slIsStream : Array (Option Value)}
    {cdIsBox : Value}
    {fIsBox : Addr} {ocIsBox kVIsBox dcIsBox pmIsBox ctIsBox : Value} {odIsBox anIsBox : Option Addr} {slIsBox : Array (Option Value)}
    {cdNeedProblem : Value}
    {fNeedProblem : Addr} {ocNeedProblem kVNeedProblem dcNeedProblem pmNeedProblem ctNeedProblem : Value} {odNeedProblem anNeedProblem : Option Addr} {slNeedProblem : Array (Option Value)}
    {cdIsGiver : Value}
    {fIsGiver : Addr} {ocIsGiver kVIsGiver dcIsGiver pmIsGiver ctIsGiver : Value} {odIsGiver anIsGiver : Option Addr} {slIsGiver : Array (Option Value)}
    {cdSpanOf : Value}
    {fSpanOf : Addr} {ocSpanOf kVSpanOf dcSpanOf pmSpanOf ctSpanOf : Value} {odSpanOf anSpanOf : Option Addr} {slSpanOf : Array (Option Value)}
    {cdNumbersOf : Value}
    {fNumbersOf : Addr} {ocNumbersOf kVNumbersOf dcNumbersOf pmNumbersOf ctNumbersOf : Value} {odNumbersOf anNumbersOf : Option Addr} {slNumbersOf : Array (Option Value)}
    {cdHeatAbove : Value}
    {fHeatAbove : Addr} {ocHeatAbove kVHeatAbove dcHeatAbove pmHeatAbove ctHeatAbove : Value} {odHeatAbove anHeatAbove : Option Addr} {slHeatAbove : Array (Option Value)}
    {cdLevelsOf : Value}
    {fLevelsOf : Addr} {ocLevelsOf kVLevelsOf dcLevelsOf pmLevelsOf ctLevelsOf : Value} {odLevelsOf anLevelsOf : Option Addr} {slLevelsOf : Array (Option Value)}
    {fNeedAbove : Addr} {ocNeedAbove kVNeedAbove dcNeedAbove pmNeedAbove ctNeedAbove : Value} {odNeedAbove anNeedAbove : Option Addr} {slNeedAbove : Array (Option Value)}
    {cdHeatingOf : Value}
    {fHeatingOf : Addr} {ocHeatingOf kVHeatingOf dcHeatingOf pmHeatingOf ctHeatingOf : Value} {odHeatingOf anHeatingOf : Option Addr} {slHeatingOf : Array (Option Value)}
    {cdWithMore : Value}
    {fWithMore : Addr} {ocWithMore kVWithMore dcWithMore pmWithMore ctWithMore : Value} {odWithMore anWithMore : Option Addr} {slWithMore : Array (Option Value)}
    {cdIsColumn : Value}
    {fIsColumn : Addr} {ocIsColumn kVIsColumn dcIsColumn pmIsColumn ctIsColumn : Value} {odIsColumn anIsColumn : Option Addr} {slIsColumn : Array (Option Value)}
    {cdShifted : Value}
    {fShifted : Addr} {ocShifted kVShifted dcShifted pmShifted ctShifted : Value} {odShifted anShifted : Option Addr} {slShifted : Array (Option Value)}
    {cdBestShifts : Value}
    {fBestShifts : Addr} {ocBestShifts kVBestShifts dcBestShifts pmBestShifts ctBestShifts : Value} {odBestShifts anBestShifts : Option Addr} {slBestShifts : Array (Option Value)}
    {cdTaken : Value}
    {fTaken : Addr} {ocTaken kVTaken dcTaken pmTaken ctTaken : Value} {odTaken anTaken : Option Addr} {slTaken : Array (Option Value)}
    {cdPick : Value}
    {fPick : Addr} {ocPick kVPick dcPick pmPick ctPick : Value} {odPick anPick : Option Addr} {slPick : Array (Option Value)}
    {cdAlike : Value}
    {fAlike : Addr} {ocAlike kVAlike dcAlike pmAlike ctAlike : Value} {odAlike anAlike : Option Addr} {slAlike : Array (Option Value)}
    {cdProblem : Value}
    {fProblem : Addr} {ocProblem kVProblem dcProblem pmProblem ctProblem : Value} {odProblem anProblem : Option Addr} {slProblem : Array (Option Value)}
    {cdLSpan : Value}
    {fLSpan : Addr} {ocLSpan kVLSpan dcLSpan pmLSpan ctLSpan : Value} {odLSpan anLSpan : Option Addr} {slLSpan : Array (Option Value)}
    {cdLHeat : Value}
    {fLHeat : Addr} {ocLHeat kVLHeat dcLHeat pmLHeat ctLHeat : Value} {odLHeat anLHeat : Option Addr} {slLHeat : Array (Option Value)}
    {cdLNeed : Value}
    {fLNeed : Addr} {ocLNeed kVLNeed dcLNeed pmLNeed ctLNeed : Value} {odLNeed anLNeed : Option Addr} {slLNeed : Array (Option Value)}
    {cdLLevels : Value}
    {fLLevels : Addr} {ocLLevels kVLLevels dcLLevels pmLLevels ctLLevels : Value} {odLLevels anLLevels : Option Addr} {slLLevels : Array (Option Value)}
    {cdLHeating : Value}
    {fLHeating : Addr} {ocLHeating kVLHeating dcLHeating pmLHeating ctLHeating : Value} {odLHeating anLHeating : Option Addr} {slLHeating : Array (Option Value)}
    {cdTold : Value}
    {fTold : Addr} {ocTold kVTold dcTold pmTold ctTold : Value} {odTold anTold : Option Addr} {slTold : Array (Option Value)}
    {fLaw : Addr} {ocLaw kVLaw dcLaw pmLaw ctLaw : Value} {odLaw anLaw : Option Addr} {slLaw : Array (Option Value)}
    {c1 P1 : Addr} {tc1 : Value} {dd1 : Option Addr} {vs1 : Array Value} {ts1 : Array (Option Value)}
    {c2 P2 : Addr} {tc2 : Value} {dd2 : Option Addr} {vs2 : Array Value} {ts2 : Array (Option Value)}
    {c3 P3 : Addr} {tc3 : Value} {dd3 : Option Addr} {vs3 : Array Value} {ts3 : Array (Option Value)}
    {tkMOST_TEMPERATURE : Tok}
    {tkMOST_RATE : Tok}
    {tkMOST_HEAT : Tok}
    {tkMOST_STREAMS : Tok}
    {tkMOST_BOXES : Tok}
    {tkMOST_GAP : Tok}
    {tkMOST_COLUMNS : Tok}
    {tkMOST_SHIFT : Tok}
    {C CH fI : Addr} {nm q : Str} {N : Addr} {bs : List Value} {sn : List Str} {sub : List Value} {ab : Bool} {col : Option Bool} {dd : Option Addr} {m0 m1 m2 m3 m5 : Option Value} {oi ki di pi cdi cti : Value} {odi ani : Option Addr} {sli : Array (Option Value)}
    (aIsIn : PySem.W.nsIn K mainGlobals "is_in" = some (some (.ref fIsIn)))
    (lIsIn : K.lookup fIsIn = some ⟨ocIsIn, odIsIn, .func (PySem.W.fnOf "is_in" "is_in" (defArgs sIsIn) (defBody sIsIn) (defScope sIsIn) .none kVIsIn dcIsIn pmIsIn anIsIn (cdIsIn) ctIsIn), slIsIn⟩)
    (cIsIn : PySem.W.codeIn K (cdIsIn) "is_in" = true)
    (kIsIn : PySem.W.keepIn K (.ref fIsIn) = true)
    (aIsStream : PySem.W.nsIn K mainGlobals "is_stream" = some (some (.ref fIsStream)))
    (lIsStream : K.lookup fIsStream = some ⟨ocIsStream, odIsStream, .func (PySem.W.fnOf "is_stream" "is_stream" (defArgs sIsStream) (defBody sIsStream) (defScope sIsStream) .none kVIsStream dcIsStream pmIsStream anIsStream (.ref c1) ctIsStream), slIsStream⟩)
    (cIsStream : PySem.W.codeIn K (.ref c1) "is_stream" = true)
    (kIsStream : PySem.W.keepIn K (.ref fIsStream) = true)
    (aIsBox : PySem.W.nsIn K mainGlobals "is_box" = some (some (.ref fIsBox)))
    (lIsBox : K.lookup fIsBox = some ⟨ocIsBox, odIsBox, .func (PySem.W.fnOf "is_box" "is_box" (defArgs sIsBox) (defBody sIsBox) (defScope sIsBox) .none kVIsBox dcIsBox pmIsBox anIsBox (cdIsBox) ctIsBox), slIsBox⟩)
    (cIsBox : PySem.W.codeIn K (cdIsBox) "is_box" = true)
    (kIsBox : PySem.W.keepIn K (.ref fIsBox) = true)
    (aNeedProblem : PySem.W.nsIn K mainGlobals "need_problem" = some (some (.ref fNeedProblem)))
    (lNeedProblem : K.lookup fNeedProblem = some ⟨ocNeedProblem, odNeedProblem, .func (PySem.W.fnOf "need_problem" "need_problem" (defArgs sNeedProblem) (defBody sNeedProblem) (defScope sNeedProblem) .none kVNeedProblem dcNeedProblem pmNeedProblem anNeedProblem (cdNeedProblem) ctNeedProblem), slNeedProblem⟩)
    (cNeedProblem : PySem.W.codeIn K (cdNeedProblem) "need_problem" = true)
    (kNeedProblem : PySem.W.keepIn K (.ref fNeedProblem) = true)
    (aIsGiver : PySem.W.nsIn K mainGlobals "is_giver" = some (some (.ref fIsGiver)))
    (lIsGiver : K.lookup fIsGiver = some ⟨ocIsGiver, odIsGiver, .func (PySem.W.fnOf "is_giver" "is_giver" (defArgs sIsGiver) (defBody sIsGiver) (defScope sIsGiver) .none kVIsGiver dcIsGiver pmIsGiver anIsGiver (cdIsGiver) ctIsGiver), slIsGiver⟩)
    (cIsGiver : PySem.W.codeIn K (cdIsGiver) "is_giver" = true)
    (kIsGiver : PySem.W.keepIn K (.ref fIsGiver) = true)
    (aSpanOf : PySem.W.nsIn K mainGlobals "span_of" = some (some (.ref fSpanOf)))
    (lSpanOf : K.lookup fSpanOf = some ⟨ocSpanOf, odSpanOf, .func (PySem.W.fnOf "span_of" "span_of" (defArgs sSpanOf) (defBody sSpanOf) (defScope sSpanOf) .none kVSpanOf dcSpanOf pmSpanOf anSpanOf (cdSpanOf) ctSpanOf), slSpanOf⟩)
    (cSpanOf : PySem.W.codeIn K (cdSpanOf) "span_of" = true)
    (kSpanOf : PySem.W.keepIn K (.ref fSpanOf) = true)
    (aNumbersOf : PySem.W.nsIn K mainGlobals "numbers_of" = some (some (.ref fNumbersOf)))
    (lNumbersOf : K.lookup fNumbersOf = some ⟨ocNumbersOf, odNumbersOf, .func (PySem.W.fnOf "numbers_of" "numbers_of" (defArgs sNumbersOf) (defBody sNumbersOf) (defScope sNumbersOf) .none kVNumbersOf dcNumbersOf pmNumbersOf anNumbersOf (cdNumbersOf) ctNumbersOf), slNumbersOf⟩)
    (cNumbersOf : PySem.W.codeIn K (cdNumbersOf) "numbers_of" = true)
    (kNumbersOf : PySem.W.keepIn K (.ref fNumbersOf) = true)
    (aHeatAbove : PySem.W.nsIn K mainGlobals "heat_above" = some (some (.ref fHeatAbove)))
    (lHeatAbove : K.lookup fHeatAbove = some ⟨ocHeatAbove, odHeatAbove, .func (PySem.W.fnOf "heat_above" "heat_above" (defArgs sHeatAbove) (defBody sHeatAbove) (defScope sHeatAbove) .none kVHeatAbove dcHeatAbove pmHeatAbove anHeatAbove (cdHeatAbove) ctHeatAbove), slHeatAbove⟩)
    (cHeatAbove : PySem.W.codeIn K (cdHeatAbove) "heat_above" = true)
    (kHeatAbove : PySem.W.keepIn K (.ref fHeatAbove) = true)
    (aLevelsOf : PySem.W.nsIn K mainGlobals "levels_of" = some (some (.ref fLevelsOf)))
    (lLevelsOf : K.lookup fLevelsOf = some ⟨ocLevelsOf, odLevelsOf, .func (PySem.W.fnOf "levels_of" "levels_of" (defArgs sLevelsOf) (defBody sLevelsOf) (defScope sLevelsOf) .none kVLevelsOf dcLevelsOf pmLevelsOf anLevelsOf (cdLevelsOf) ctLevelsOf), slLevelsOf⟩)
    (cLevelsOf : PySem.W.codeIn K (cdLevelsOf) "levels_of" = true)
    (kLevelsOf : PySem.W.keepIn K (.ref fLevelsOf) = true)
    (aNeedAbove : PySem.W.nsIn K mainGlobals "need_above" = some (some (.ref fNeedAbove)))
    (lNeedAbove : K.lookup fNeedAbove = some ⟨ocNeedAbove, odNeedAbove, .func (PySem.W.fnOf "need_above" "need_above" (defArgs sNeedAbove) (defBody sNeedAbove) (defScope sNeedAbove) .none kVNeedAbove dcNeedAbove pmNeedAbove anNeedAbove (.ref c2) ctNeedAbove), slNeedAbove⟩)
    (cNeedAbove : PySem.W.codeIn K (.ref c2) "need_above" = true)
    (kNeedAbove : PySem.W.keepIn K (.ref fNeedAbove) = true)
    (aHeatingOf : PySem.W.nsIn K mainGlobals "heating_of" = some (some (.ref fHeatingOf)))
    (lHeatingOf : K.lookup fHeatingOf = some ⟨ocHeatingOf, odHeatingOf, .func (PySem.W.fnOf "heating_of" "heating_of" (defArgs sHeatingOf) (defBody sHeatingOf) (defScope sHeatingOf) .none kVHeatingOf dcHeatingOf pmHeatingOf anHeatingOf (cdHeatingOf) ctHeatingOf), slHeatingOf⟩)
    (cHeatingOf : PySem.W.codeIn K (cdHeatingOf) "heating_of" = true)
    (kHeatingOf : PySem.W.keepIn K (.ref fHeatingOf) = true)
    (aWithMore : PySem.W.nsIn K mainGlobals "with_more" = some (some (.ref fWithMore)))
    (lWithMore : K.lookup fWithMore = some ⟨ocWithMore, odWithMore, .func (PySem.W.fnOf "with_more" "with_more" (defArgs sWithMore) (defBody sWithMore) (defScope sWithMore) .none kVWithMore dcWithMore pmWithMore anWithMore (cdWithMore) ctWithMore), slWithMore⟩)
    (cWithMore : PySem.W.codeIn K (cdWithMore) "with_more" = true)
    (kWithMore : PySem.W.keepIn K (.ref fWithMore) = true)
    (aIsColumn : PySem.W.nsIn K mainGlobals "is_column" = some (some (.ref fIsColumn)))
    (lIsColumn : K.lookup fIsColumn = some ⟨ocIsColumn, odIsColumn, .func (PySem.W.fnOf "is_column" "is_column" (defArgs sIsColumn) (defBody sIsColumn) (defScope sIsColumn) .none kVIsColumn dcIsColumn pmIsColumn anIsColumn (cdIsColumn) ctIsColumn), slIsColumn⟩)
    (cIsColumn : PySem.W.codeIn K (cdIsColumn) "is_column" = true)
    (kIsColumn : PySem.W.keepIn K (.ref fIsColumn) = true)
    (aShifted : PySem.W.nsIn K mainGlobals "shifted" = some (some (.ref fShifted)))
    (lShifted : K.lookup fShifted = some ⟨ocShifted, odShifted, .func (PySem.W.fnOf "shifted" "shifted" (defArgs sShifted) (defBody sShifted) (defScope sShifted) .none kVShifted dcShifted pmShifted anShifted (cdShifted) ctShifted), slShifted⟩)
    (cShifted : PySem.W.codeIn K (cdShifted) "shifted" = true)
    (kShifted : PySem.W.keepIn K (.ref fShifted) = true)
    (aBestShifts : PySem.W.nsIn K mainGlobals "best_shifts" = some (some (.ref fBestShifts)))
    (lBestShifts : K.lookup fBestShifts = some ⟨ocBestShifts, odBestShifts, .func (PySem.W.fnOf "best_shifts" "best_shifts" (defArgs sBestShifts) (defBody sBestShifts) (defScope sBestShifts) .none kVBestShifts dcBestShifts pmBestShifts anBestShifts (cdBestShifts) ctBestShifts), slBestShifts⟩)
    (cBestShifts : PySem.W.codeIn K (cdBestShifts) "best_shifts" = true)
    (kBestShifts : PySem.W.keepIn K (.ref fBestShifts) = true)
    (aTaken : PySem.W.nsIn K mainGlobals "_law_taken" = some (some (.ref fTaken)))
    (lTaken : K.lookup fTaken = some ⟨ocTaken, odTaken, .func (PySem.W.fnOf "_law_taken" "_law_taken" (defArgs sTaken) (defBody sTaken) (defScope sTaken) .none kVTaken dcTaken pmTaken anTaken (cdTaken) ctTaken), slTaken⟩)
    (cTaken : PySem.W.codeIn K (cdTaken) "_law_taken" = true)
    (kTaken : PySem.W.keepIn K (.ref fTaken) = true)
    (aPick : PySem.W.nsIn K mainGlobals "_law_pick" = some (some (.ref fPick)))
    (lPick : K.lookup fPick = some ⟨ocPick, odPick, .func (PySem.W.fnOf "_law_pick" "_law_pick" (defArgs sPick) (defBody sPick) (defScope sPick) .none kVPick dcPick pmPick anPick (cdPick) ctPick), slPick⟩)
    (cPick : PySem.W.codeIn K (cdPick) "_law_pick" = true)
    (kPick : PySem.W.keepIn K (.ref fPick) = true)
    (aAlike : PySem.W.nsIn K mainGlobals "_law_alike" = some (some (.ref fAlike)))
    (lAlike : K.lookup fAlike = some ⟨ocAlike, odAlike, .func (PySem.W.fnOf "_law_alike" "_law_alike" (defArgs sAlike) (defBody sAlike) (defScope sAlike) .none kVAlike dcAlike pmAlike anAlike (cdAlike) ctAlike), slAlike⟩)
    (cAlike : PySem.W.codeIn K (cdAlike) "_law_alike" = true)
    (kAlike : PySem.W.keepIn K (.ref fAlike) = true)
    (aProblem : PySem.W.nsIn K mainGlobals "_law_problem" = some (some (.ref fProblem)))
    (lProblem : K.lookup fProblem = some ⟨ocProblem, odProblem, .func (PySem.W.fnOf "_law_problem" "_law_problem" (defArgs sProblem) (defBody sProblem) (defScope sProblem) .none kVProblem dcProblem pmProblem anProblem (cdProblem) ctProblem), slProblem⟩)
    (cProblem : PySem.W.codeIn K (cdProblem) "_law_problem" = true)
    (kProblem : PySem.W.keepIn K (.ref fProblem) = true)
    (aLSpan : PySem.W.nsIn K mainGlobals "_law_span" = some (some (.ref fLSpan)))
    (lLSpan : K.lookup fLSpan = some ⟨ocLSpan, odLSpan, .func (PySem.W.fnOf "_law_span" "_law_span" (defArgs sLSpan) (defBody sLSpan) (defScope sLSpan) .none kVLSpan dcLSpan pmLSpan anLSpan (cdLSpan) ctLSpan), slLSpan⟩)
    (cLSpan : PySem.W.codeIn K (cdLSpan) "_law_span" = true)
    (kLSpan : PySem.W.keepIn K (.ref fLSpan) = true)
    (aLHeat : PySem.W.nsIn K mainGlobals "_law_heat" = some (some (.ref fLHeat)))
    (lLHeat : K.lookup fLHeat = some ⟨ocLHeat, odLHeat, .func (PySem.W.fnOf "_law_heat" "_law_heat" (defArgs sLHeat) (defBody sLHeat) (defScope sLHeat) .none kVLHeat dcLHeat pmLHeat anLHeat (cdLHeat) ctLHeat), slLHeat⟩)
    (cLHeat : PySem.W.codeIn K (cdLHeat) "_law_heat" = true)
    (kLHeat : PySem.W.keepIn K (.ref fLHeat) = true)
    (aLNeed : PySem.W.nsIn K mainGlobals "_law_need" = some (some (.ref fLNeed)))
    (lLNeed : K.lookup fLNeed = some ⟨ocLNeed, odLNeed, .func (PySem.W.fnOf "_law_need" "_law_need" (defArgs sLNeed) (defBody sLNeed) (defScope sLNeed) .none kVLNeed dcLNeed pmLNeed anLNeed (cdLNeed) ctLNeed), slLNeed⟩)
    (cLNeed : PySem.W.codeIn K (cdLNeed) "_law_need" = true)
    (kLNeed : PySem.W.keepIn K (.ref fLNeed) = true)
    (aLLevels : PySem.W.nsIn K mainGlobals "_law_levels" = some (some (.ref fLLevels)))
    (lLLevels : K.lookup fLLevels = some ⟨ocLLevels, odLLevels, .func (PySem.W.fnOf "_law_levels" "_law_levels" (defArgs sLLevels) (defBody sLLevels) (defScope sLLevels) .none kVLLevels dcLLevels pmLLevels anLLevels (cdLLevels) ctLLevels), slLLevels⟩)
    (cLLevels : PySem.W.codeIn K (cdLLevels) "_law_levels" = true)
    (kLLevels : PySem.W.keepIn K (.ref fLLevels) = true)
    (aLHeating : PySem.W.nsIn K mainGlobals "_law_heating" = some (some (.ref fLHeating)))
    (lLHeating : K.lookup fLHeating = some ⟨ocLHeating, odLHeating, .func (PySem.W.fnOf "_law_heating" "_law_heating" (defArgs sLHeating) (defBody sLHeating) (defScope sLHeating) .none kVLHeating dcLHeating pmLHeating anLHeating (cdLHeating) ctLHeating), slLHeating⟩)
    (cLHeating : PySem.W.codeIn K (cdLHeating) "_law_heating" = true)
    (kLHeating : PySem.W.keepIn K (.ref fLHeating) = true)
    (aTold : PySem.W.nsIn K mainGlobals "_law_told" = some (some (.ref fTold)))
    (lTold : K.lookup fTold = some ⟨ocTold, odTold, .func (PySem.W.fnOf "_law_told" "_law_told" (defArgs sTold) (defBody sTold) (defScope sTold) .none kVTold dcTold pmTold anTold (cdTold) ctTold), slTold⟩)
    (cTold : PySem.W.codeIn K (cdTold) "_law_told" = true)
    (kTold : PySem.W.keepIn K (.ref fTold) = true)
    (aLaw : PySem.W.nsIn K mainGlobals "law" = some (some (.ref fLaw)))
    (lLaw : K.lookup fLaw = some ⟨ocLaw, odLaw, .func (PySem.W.fnOf "law" "law" (defArgs sLaw) (defBody sLaw) (defScope sLaw) .none kVLaw dcLaw pmLaw anLaw (.ref c3) ctLaw), slLaw⟩)
    (cLaw : PySem.W.codeIn K (.ref c3) "law" = true)
    (kLaw : PySem.W.keepIn K (.ref fLaw) = true)
    (t1 : K.lookup c1 = some ⟨tc1, dd1, .fields vs1, ts1⟩)
    (v1 : vs1[11]? = some (.ref P1))
    (n1 : K.lookup P1 = none)
    (t2 : K.lookup c2 = some ⟨tc2, dd2, .fields vs2, ts2⟩)
    (v2 : vs2[11]? = some (.ref P2))
    (n2 : K.lookup P2 = none)
    (t3 : K.lookup c3 = some ⟨tc3, dd3, .fields vs3, ts3⟩)
    (v3 : vs3[11]? = some (.ref P3))
    (n3 : K.lookup P3 = none)
    (z_isinstance : PySem.W.nsIn K mainGlobals "isinstance" = some none)
    (z_int : PySem.W.nsIn K mainGlobals "int" = some none)
    (z_bool : PySem.W.nsIn K mainGlobals "bool" = some none)
    (z_tuple : PySem.W.nsIn K mainGlobals "tuple" = some none)
    (z_len : PySem.W.nsIn K mainGlobals "len" = some none)
    (z_all : PySem.W.nsIn K mainGlobals "all" = some none)
    (z_list : PySem.W.nsIn K mainGlobals "list" = some none)
    (z_range : PySem.W.nsIn K mainGlobals "range" = some none)
    (z_enumerate : PySem.W.nsIn K mainGlobals "enumerate" = some none)
    (z_max : PySem.W.nsIn K mainGlobals "max" = some none)
    (z_min : PySem.W.nsIn K mainGlobals "min" = some none)
    (z_abs : PySem.W.nsIn K mainGlobals "abs" = some none)
    (z_sum : PySem.W.nsIn K mainGlobals "sum" = some none)
    (z_sorted : PySem.W.nsIn K mainGlobals "sorted" = some none)
    (z_zip : PySem.W.nsIn K mainGlobals "zip" = some none)
    (z_set : PySem.W.nsIn K mainGlobals "set" = some none)
    (z_str : PySem.W.nsIn K mainGlobals "str" = some none)
    (z_MOST_TEMPERATURE : PySem.W.nsIn K mainGlobals "MOST_TEMPERATURE" = some (some (.int 1000 tkMOST_TEMPERATURE)))
    (z_MOST_RATE : PySem.W.nsIn K mainGlobals "MOST_RATE" = some (some (.int 100 tkMOST_RATE)))
    (z_MOST_HEAT : PySem.W.nsIn K mainGlobals "MOST_HEAT" = some (some (.int 10000 tkMOST_HEAT)))
    (z_MOST_STREAMS : PySem.W.nsIn K mainGlobals "MOST_STREAMS" = some (some (.int 6 tkMOST_STREAMS)))
    (z_MOST_BOXES : PySem.W.nsIn K mainGlobals "MOST_BOXES" = some (some (.int 4 tkMOST_BOXES)))
    (z_MOST_GAP : PySem.W.nsIn K mainGlobals "MOST_GAP" = some (some (.int 100 tkMOST_GAP)))
    (z_MOST_COLUMNS : PySem.W.nsIn K mainGlobals "MOST_COLUMNS" = some (some (.int 2 tkMOST_COLUMNS)))
    (z_MOST_SHIFT : PySem.W.nsIn K mainGlobals "MOST_SHIFT" = some (some (.int 50 tkMOST_SHIFT)))
    (aT : PySem.W.nsIn K mainGlobals "TooMany" = some (some (.ref C)))
    (aH : PySem.W.nsIn K mainGlobals "HeatError" = some (some (.ref CH)))
    (xT : K.lookup C = some (excClassObj nm q C N bs [.ref CH, .type "ValueError", .type "Exception", .type "BaseException", .type "object"] true sn sub ab col dd m0 m1 m2 m3 m5 "ValueError.__new__"))
    (sa : PySem.W.findIn K (.ref C) "__setattr__" = some (some (.builtin "object.__setattr__")))
    (exC : PySem.W.subIn K (.ref C) (.type "BaseException") = some true)
    (tyC : PySem.W.typeIn K (.ref C) = some (.type "type"))
    (kC : PySem.W.keepIn K (.ref C) = true)
    (no : PySem.W.findIn K (.ref C) "most" = some none)
    (iC : PySem.W.findIn K (.ref C) "__init__" = some (some (.ref fI)))
    (tI : PySem.W.typeIn K (.ref fI) = some (.type "function"))
    (lI : K.lookup fI = some ⟨oi, odi, .func (PySem.W.fnOf "__init__" "TooMany.__init__" (defArgs sInit) (defBody sInit) (defScope sInit) .none ki di pi ani cdi cti), sli⟩)
    (cI : PySem.W.codeIn K cdi "TooMany.__init__" = true)
    (kI : PySem.W.keepIn K (.ref fI) = true)
    (ga : PySem.W.findIn K (.ref C) "__getattribute__" = some (some (.builtin "BaseException.__getattribute__")))
    (gg : PySem.W.findIn K (.ref C) "__getattr__" = some none)
    (ud : PySem.W.hasDictIn K C = true)
    (uc : PySem.W.findIn K (.ref C) "__class__" = some (some (.builtin "object.__class__")))
    (un : PySem.W.specialIn K (.builtin "object.__class__") "__get__" = some (some (.builtin "getset_descriptor.__get__")))
    (ut : PySem.W.takesIn K (.builtin "object.__class__") = some true)
    (um : PySem.W.mroIn K C (.type "object") = some true)
    (exH : PySem.W.subIn K (.ref CH) (.type "BaseException") = some true)
    (hdH : PySem.W.hasDictIn K CH = true)
    (tyH : PySem.W.typeIn K (.ref CH) = some (.type "type"))
    (sH : PySem.W.subIn K (.ref C) (.ref CH) = some true)
    : LamX.LawAtS l w K CX0 10 63 "_law_script" mg fa h := by
  have e := hfa.symm.trans (PySem.W.mg_of X G aLaw)
  cases e
  have FIsIn := fun_mk (st := sIsIn) lIsIn cIsIn kIsIn
  have DIsIn : Df K mg "is_in" sIsIn ["value", "least", "most"] fIsIn _ := ⟨FIsIn, PySem.W.mg_of X G aIsIn, FIsIn.binds (ps := ["value", "least", "most"]) fun _ _ _ _ _ _ us hl => match us, hl with | [_, _, _], _ => rfl⟩
  have FIsStream := fun_mk (st := sIsStream) lIsStream cIsStream kIsStream
  have DIsStream : Df K mg "is_stream" sIsStream ["value"] fIsStream _ := ⟨FIsStream, PySem.W.mg_of X G aIsStream, FIsStream.binds (ps := ["value"]) fun _ _ _ _ _ _ us hl => match us, hl with | [_], _ => rfl⟩
  have FIsBox := fun_mk (st := sIsBox) lIsBox cIsBox kIsBox
  have DIsBox : Df K mg "is_box" sIsBox ["value"] fIsBox _ := ⟨FIsBox, PySem.W.mg_of X G aIsBox, FIsBox.binds (ps := ["value"]) fun _ _ _ _ _ _ us hl => match us, hl with | [_], _ => rfl⟩
  have FNeedProblem := fun_mk (st := sNeedProblem) lNeedProblem cNeedProblem kNeedProblem
  have DNeedProblem : Df K mg "need_problem" sNeedProblem ["problem"] fNeedProblem _ := ⟨FNeedProblem, PySem.W.mg_of X G aNeedProblem, FNeedProblem.binds (ps := ["problem"]) fun _ _ _ _ _ _ us hl => match us, hl with | [_], _ => rfl⟩
  have FIsGiver := fun_mk (st := sIsGiver) lIsGiver cIsGiver kIsGiver
  have DIsGiver : Df K mg "is_giver" sIsGiver ["problem", "number"] fIsGiver _ := ⟨FIsGiver, PySem.W.mg_of X G aIsGiver, FIsGiver.binds (ps := ["problem", "number"]) fun _ _ _ _ _ _ us hl => match us, hl with | [_, _], _ => rfl⟩
  have FSpanOf := fun_mk (st := sSpanOf) lSpanOf cSpanOf kSpanOf
  have DSpanOf : Df K mg "span_of" sSpanOf ["problem", "number"] fSpanOf _ := ⟨FSpanOf, PySem.W.mg_of X G aSpanOf, FSpanOf.binds (ps := ["problem", "number"]) fun _ _ _ _ _ _ us hl => match us, hl with | [_, _], _ => rfl⟩
  have FNumbersOf := fun_mk (st := sNumbersOf) lNumbersOf cNumbersOf kNumbersOf
  have DNumbersOf : Df K mg "numbers_of" sNumbersOf ["problem", "are_givers"] fNumbersOf _ := ⟨FNumbersOf, PySem.W.mg_of X G aNumbersOf, FNumbersOf.binds (ps := ["problem", "are_givers"]) fun _ _ _ _ _ _ us hl => match us, hl with | [_, _], _ => rfl⟩
  have FHeatAbove := fun_mk (st := sHeatAbove) lHeatAbove cHeatAbove kHeatAbove
  have DHeatAbove : Df K mg "heat_above" sHeatAbove ["problem", "number", "level", "is_open"] fHeatAbove _ := ⟨FHeatAbove, PySem.W.mg_of X G aHeatAbove, FHeatAbove.binds (ps := ["problem", "number", "level", "is_open"]) fun _ _ _ _ _ _ us hl => match us, hl with | [_, _, _, _], _ => rfl⟩
  have FLevelsOf := fun_mk (st := sLevelsOf) lLevelsOf cLevelsOf kLevelsOf
  have DLevelsOf : Df K mg "levels_of" sLevelsOf ["problem"] fLevelsOf _ := ⟨FLevelsOf, PySem.W.mg_of X G aLevelsOf, FLevelsOf.binds (ps := ["problem"]) fun _ _ _ _ _ _ us hl => match us, hl with | [_], _ => rfl⟩
  have FNeedAbove := fun_mk (st := sNeedAbove) lNeedAbove cNeedAbove kNeedAbove
  have DNeedAbove : Df K mg "need_above" sNeedAbove ["problem", "level", "is_open"] fNeedAbove _ := ⟨FNeedAbove, PySem.W.mg_of X G aNeedAbove, FNeedAbove.binds (ps := ["problem", "level", "is_open"]) fun _ _ _ _ _ _ us hl => match us, hl with | [_, _, _], _ => rfl⟩
  have FHeatingOf := fun_mk (st := sHeatingOf) lHeatingOf cHeatingOf kHeatingOf
  have DHeatingOf : Df K mg "heating_of" sHeatingOf ["problem"] fHeatingOf _ := ⟨FHeatingOf, PySem.W.mg_of X G aHeatingOf, FHeatingOf.binds (ps := ["problem"]) fun _ _ _ _ _ _ us hl => match us, hl with | [_], _ => rfl⟩
  have FWithMore := fun_mk (st := sWithMore) lWithMore cWithMore kWithMore
  have DWithMore : Df K mg "with_more" sWithMore ["problem", "boxes"] fWithMore _ := ⟨FWithMore, PySem.W.mg_of X G aWithMore, FWithMore.binds (ps := ["problem", "boxes"]) fun _ _ _ _ _ _ us hl => match us, hl with | [_, _], _ => rfl⟩
  have FIsColumn := fun_mk (st := sIsColumn) lIsColumn cIsColumn kIsColumn
  have DIsColumn : Df K mg "is_column" sIsColumn ["value"] fIsColumn _ := ⟨FIsColumn, PySem.W.mg_of X G aIsColumn, FIsColumn.binds (ps := ["value"]) fun _ _ _ _ _ _ us hl => match us, hl with | [_], _ => rfl⟩
  have FShifted := fun_mk (st := sShifted) lShifted cShifted kShifted
  have DShifted : Df K mg "shifted" sShifted ["columns", "shifts"] fShifted _ := ⟨FShifted, PySem.W.mg_of X G aShifted, FShifted.binds (ps := ["columns", "shifts"]) fun _ _ _ _ _ _ us hl => match us, hl with | [_, _], _ => rfl⟩
  have FBestShifts := fun_mk (st := sBestShifts) lBestShifts cBestShifts kBestShifts
  have DBestShifts : Df K mg "best_shifts" sBestShifts ["problem", "columns", "low", "high"] fBestShifts _ := ⟨FBestShifts, PySem.W.mg_of X G aBestShifts, FBestShifts.binds (ps := ["problem", "columns", "low", "high"]) fun _ _ _ _ _ _ us hl => match us, hl with | [_, _, _, _], _ => rfl⟩
  have FTaken := fun_mk (st := sTaken) lTaken cTaken kTaken
  have DTaken : Df K mg "_law_taken" sTaken ["_law_row", "_law_many"] fTaken _ := ⟨FTaken, PySem.W.mg_of X G aTaken, FTaken.binds (ps := ["_law_row", "_law_many"]) fun _ _ _ _ _ _ us hl => match us, hl with | [_, _], _ => rfl⟩
  have FPick := fun_mk (st := sPick) lPick cPick kPick
  have DPick : Df K mg "_law_pick" sPick ["_law_row", "_law_things"] fPick _ := ⟨FPick, PySem.W.mg_of X G aPick, FPick.binds (ps := ["_law_row", "_law_things"]) fun _ _ _ _ _ _ us hl => match us, hl with | [_, _], _ => rfl⟩
  have FAlike := fun_mk (st := sAlike) lAlike cAlike kAlike
  have DAlike : Df K mg "_law_alike" sAlike ["_law_found", "_law_due"] fAlike _ := ⟨FAlike, PySem.W.mg_of X G aAlike, FAlike.binds (ps := ["_law_found", "_law_due"]) fun _ _ _ _ _ _ us hl => match us, hl with | [_, _], _ => rfl⟩
  have FProblem := fun_mk (st := sProblem) lProblem cProblem kProblem
  have DProblem : Df K mg "_law_problem" sProblem ["_law_row"] fProblem _ := ⟨FProblem, PySem.W.mg_of X G aProblem, FProblem.binds (ps := ["_law_row"]) fun _ _ _ _ _ _ us hl => match us, hl with | [_], _ => rfl⟩
  have FLSpan := fun_mk (st := sLSpan) lLSpan cLSpan kLSpan
  have DLSpan : Df K mg "_law_span" sLSpan ["_law_problem_here", "_law_number"] fLSpan _ := ⟨FLSpan, PySem.W.mg_of X G aLSpan, FLSpan.binds (ps := ["_law_problem_here", "_law_number"]) fun _ _ _ _ _ _ us hl => match us, hl with | [_, _], _ => rfl⟩
  have FLHeat := fun_mk (st := sLHeat) lLHeat cLHeat kLHeat
  have DLHeat : Df K mg "_law_heat" sLHeat ["_law_problem_here", "_law_number", "_law_level", "_law_is_open"] fLHeat _ := ⟨FLHeat, PySem.W.mg_of X G aLHeat, FLHeat.binds (ps := ["_law_problem_here", "_law_number", "_law_level", "_law_is_open"]) fun _ _ _ _ _ _ us hl => match us, hl with | [_, _, _, _], _ => rfl⟩
  have FLNeed := fun_mk (st := sLNeed) lLNeed cLNeed kLNeed
  have DLNeed : Df K mg "_law_need" sLNeed ["_law_problem_here", "_law_level", "_law_is_open"] fLNeed _ := ⟨FLNeed, PySem.W.mg_of X G aLNeed, FLNeed.binds (ps := ["_law_problem_here", "_law_level", "_law_is_open"]) fun _ _ _ _ _ _ us hl => match us, hl with | [_, _, _], _ => rfl⟩
  have FLLevels := fun_mk (st := sLLevels) lLLevels cLLevels kLLevels
  have DLLevels : Df K mg "_law_levels" sLLevels ["_law_problem_here"] fLLevels _ := ⟨FLLevels, PySem.W.mg_of X G aLLevels, FLLevels.binds (ps := ["_law_problem_here"]) fun _ _ _ _ _ _ us hl => match us, hl with | [_], _ => rfl⟩
  have FLHeating := fun_mk (st := sLHeating) lLHeating cLHeating kLHeating
  have DLHeating : Df K mg "_law_heating" sLHeating ["_law_problem_here"] fLHeating _ := ⟨FLHeating, PySem.W.mg_of X G aLHeating, FLHeating.binds (ps := ["_law_problem_here"]) fun _ _ _ _ _ _ us hl => match us, hl with | [_], _ => rfl⟩
  have FTold := fun_mk (st := sTold) lTold cTold kTold
  have DTold : Df K mg "_law_told" sTold ["_law_work"] fTold _ := ⟨FTold, PySem.W.mg_of X G aTold, FTold.binds (ps := ["_law_work"]) fun _ _ _ _ _ _ us hl => match us, hl with | [_], _ => rfl⟩
  have FLaw := fun_mk (st := sLaw) lLaw cLaw kLaw
  have DLaw : Df K mg "law" sLaw ["_law_script"] fa _ := ⟨FLaw, PySem.W.mg_of X G aLaw, FLaw.binds (ps := ["_law_script"]) fun _ _ _ _ _ _ us hl => match us, hl with | [_], _ => rfl⟩
  have B : Bl mg := { isinstance_ := PySem.W.mg_none_of X G z_isinstance, int_ := PySem.W.mg_none_of X G z_int, bool_ := PySem.W.mg_none_of X G z_bool, tuple_ := PySem.W.mg_none_of X G z_tuple, len_ := PySem.W.mg_none_of X G z_len, all_ := PySem.W.mg_none_of X G z_all, list_ := PySem.W.mg_none_of X G z_list, range_ := PySem.W.mg_none_of X G z_range, enumerate_ := PySem.W.mg_none_of X G z_enumerate, max_ := PySem.W.mg_none_of X G z_max, min_ := PySem.W.mg_none_of X G z_min, abs_ := PySem.W.mg_none_of X G z_abs, sum_ := PySem.W.mg_none_of X G z_sum, sorted_ := PySem.W.mg_none_of X G z_sorted, zip_ := PySem.W.mg_none_of X G z_zip, set_ := PySem.W.mg_none_of X G z_set, str_ := PySem.W.mg_none_of X G z_str, cMOST_TEMPERATURE := ⟨_, PySem.W.mg_of X G z_MOST_TEMPERATURE⟩, cMOST_RATE := ⟨_, PySem.W.mg_of X G z_MOST_RATE⟩, cMOST_HEAT := ⟨_, PySem.W.mg_of X G z_MOST_HEAT⟩, cMOST_STREAMS := ⟨_, PySem.W.mg_of X G z_MOST_STREAMS⟩, cMOST_BOXES := ⟨_, PySem.W.mg_of X G z_MOST_BOXES⟩, cMOST_GAP := ⟨_, PySem.W.mg_of X G z_MOST_GAP⟩, cMOST_COLUMNS := ⟨_, PySem.W.mg_of X G z_MOST_COLUMNS⟩, cMOST_SHIFT := ⟨_, PySem.W.mg_of X G z_MOST_SHIFT⟩ }
  let T : Tx K mg := { B := B, fIsIn := fIsIn, dIsIn := _, DIsIn := DIsIn, fIsStream := fIsStream, dIsStream := _, DIsStream := DIsStream, fIsBox := fIsBox, dIsBox := _, DIsBox := DIsBox, fNeedProblem := fNeedProblem, dNeedProblem := _, DNeedProblem := DNeedProblem, fIsGiver := fIsGiver, dIsGiver := _, DIsGiver := DIsGiver, fSpanOf := fSpanOf, dSpanOf := _, DSpanOf := DSpanOf, fNumbersOf := fNumbersOf, dNumbersOf := _, DNumbersOf := DNumbersOf, fHeatAbove := fHeatAbove, dHeatAbove := _, DHeatAbove := DHeatAbove, fLevelsOf := fLevelsOf, dLevelsOf := _, DLevelsOf := DLevelsOf, fNeedAbove := fNeedAbove, dNeedAbove := _, DNeedAbove := DNeedAbove, fHeatingOf := fHeatingOf, dHeatingOf := _, DHeatingOf := DHeatingOf, fWithMore := fWithMore, dWithMore := _, DWithMore := DWithMore, fIsColumn := fIsColumn, dIsColumn := _, DIsColumn := DIsColumn, fShifted := fShifted, dShifted := _, DShifted := DShifted, fBestShifts := fBestShifts, dBestShifts := _, DBestShifts := DBestShifts, fTaken := fTaken, dTaken := _, DTaken := DTaken, fPick := fPick, dPick := _, DPick := DPick, fAlike := fAlike, dAlike := _, DAlike := DAlike, fProblem := fProblem, dProblem := _, DProblem := DProblem, fLSpan := fLSpan, dLSpan := _, DLSpan := DLSpan, fLHeat := fLHeat, dLHeat := _, DLHeat := DLHeat, fLNeed := fLNeed, dLNeed := _, DLNeed := DLNeed, fLLevels := fLLevels, dLLevels := _, DLLevels := DLLevels, fLHeating := fLHeating, dLHeating := _, DLHeating := DLHeating, fTold := fTold, dTold := _, DTold := DTold, fLaw := fa, dLaw := _, DLaw := DLaw }
  have FI := fun_mk (st := sInit) lI cI kI
  have M : TMk K mg C fI CH _ :=
    { g := PySem.W.mg_of X G aT, O := { cls := ⟨nm, q, N, bs, _, sn, sub, ab, col, dd, m0, m1, m2, m3, m5, xT, by rfl⟩, sa := sa, exC := exC, tyC := tyC, kC := kC }, no := no, iC := iC, tI := tI, F := FI,
      b := FI.binds (ps := ["self", "most"]) fun _ _ _ _ _ _ us hl => match us, hl with | [_, _], _ => rfl
      xf := ⟨ga, gg, exC, ud⟩, ec := ⟨ga, gg, exC, ud, uc, un, ut, um⟩, gH := PySem.W.mg_of X G aH, te := PySem.W.exm_ref exH hdH tyH sH,
      kit := by unfold PySem.W.kitOne; exact if_pos (beq_iff_eq.mpr rfl) }
  obtain ⟨e1, h1⟩ := tab_of TA r1 X (PySem.W.mg_of X G aIsStream) lIsStream rfl rfl t1 v1
  obtain ⟨e2, h2⟩ := tab_of TA r2 X (PySem.W.mg_of X G aNeedAbove) lNeedAbove rfl rfl t2 v2
  obtain ⟨e3, h3⟩ := tab_of TA r3 X (PySem.W.mg_of X G aLaw) lLaw rfl rfl t3 v3
  have each : ∀ {p : Addr × Addr} {R : Addr × Addr → Prop}, p ∈ [(c1, P1), (c2, P2), (c3, P3)] → R (c1, P1) → R (c2, P2) → R (c3, P3) → R p := fun {p R} hp a b c => by
    simp at hp
    rcases hp with rfl | rfl | rfl
    · exact a
    · exact b
    · exact c
  refine ⟨T.dLaw, [(c1, P1), (c2, P2), (c3, P3)], spLaw K [P1, P2, P3], fun p hp => each (R := fun p => h.get? p.2 = some { cls := .none, data := .fields #[] }) hp e1 e2 e3, fun p hp => each (R := fun p => K.lookup p.2 = none) hp n1 n2 n3, fun p hp => each (R := fun p => PySem.W.CodeHd h p.1 p.2) hp h1 h2 h3,
    fun s v => .of_eq rfl, fun H a ns _ _ hT hS => ⟨a, ns, rfl, hS, fun P hP => ?_, fun _ => rfl⟩, fun base _ _ TB => ?_⟩
  · simp at hP
    rcases hP with rfl | rfl | rfl
    · exact hT (c1, _) (by simp)
    · exact hT (c2, _) (by simp)
    · exact hT (c3, _) (by simp)
  · have b1 := TB (c1, P1) (by simp)
    have b2 := TB (c2, P2) (by simp)
    have b3 := TB (c3, P3) (by simp)
    exact ok_law T M ⟨b1.code, b1.bm, b1.gP⟩ rfl ⟨b2.code, b2.bm, b2.gP⟩ rfl b3 rfl
end Q46
open PySem PySem.W PyProof.Rows
set_option maxRecDepth 100000 in
set_option maxHeartbeats 0 in
theorem PySem.Challenge.cw_pinchworks_k46_whole_moved_columns_holds : PySem.Challenge.rw_pinchworks_k46_whole_moved_columns.Holds := by
  w_on; o_law; k_head; (case hw => w_witness2)
  k_fill
  refine Q46.walk_tabs (l := PySem.Challenge.rw_pinchworks_k46_whole_moved_columns) (n := 63) (k := 10) (CX := fun _ => L2.CX0) (x := "_law_script") rfl (by decide) rfl ⟨rfl, by decide, by decide⟩ (fun w h Y => PySem.W.km_in_of Y) ?F (fun _ _ _ _ _ z => z)
  case F =>
    intro w mg fa h Y KX G hmg TA
    refine' Q46.all_mk KX G hmg TA ?r1 ?r2 ?r3 ?aIsIn ?lIsIn ?cIsIn ?kIsIn ?aIsStream ?lIsStream ?cIsStream ?kIsStream ?aIsBox ?lIsBox ?cIsBox ?kIsBox ?aNeedProblem ?lNeedProblem ?cNeedProblem ?kNeedProblem ?aIsGiver ?lIsGiver ?cIsGiver ?kIsGiver ?aSpanOf ?lSpanOf ?cSpanOf ?kSpanOf ?aNumbersOf ?lNumbersOf ?cNumbersOf ?kNumbersOf ?aHeatAbove ?lHeatAbove ?cHeatAbove ?kHeatAbove ?aLevelsOf ?lLevelsOf ?cLevelsOf ?kLevelsOf ?aNeedAbove ?lNeedAbove ?cNeedAbove ?kNeedAbove ?aHeatingOf ?lHeatingOf ?cHeatingOf ?kHeatingOf ?aWithMore ?lWithMore ?cWithMore ?kWithMore ?aIsColumn ?lIsColumn ?cIsColumn ?kIsColumn ?aShifted ?lShifted ?cShifted ?kShifted ?aBestShifts ?lBestShifts ?cBestShifts ?kBestShifts ?aTaken ?lTaken ?cTaken ?kTaken ?aPick ?lPick ?cPick ?kPick ?aAlike ?lAlike ?cAlike ?kAlike ?aProblem ?lProblem ?cProblem ?kProblem ?aLSpan ?lLSpan ?cLSpan ?kLSpan ?aLHeat ?lLHeat ?cLHeat ?kLHeat ?aLNeed ?lLNeed ?cLNeed ?kLNeed ?aLLevels ?lLLevels ?cLLevels ?kLLevels ?aLHeating ?lLHeating ?cLHeating ?kLHeating ?aTold ?lTold ?cTold ?kTold ?aLaw ?lLaw ?cLaw ?kLaw ?t1 ?v1 ?n1 ?t2 ?v2 ?n2 ?t3 ?v3 ?n3 ?z_isinstance ?z_int ?z_bool ?z_tuple ?z_len ?z_all ?z_list ?z_range ?z_enumerate ?z_max ?z_min ?z_abs ?z_sum ?z_sorted ?z_zip ?z_set ?z_str ?z_MOST_TEMPERATURE ?z_MOST_RATE ?z_MOST_HEAT ?z_MOST_STREAMS ?z_MOST_BOXES ?z_MOST_GAP ?z_MOST_COLUMNS ?z_MOST_SHIFT ?aT ?aH ?xT ?sa ?exC ?tyC ?kC ?no ?iC ?tI ?lI ?cI ?kI ?ga ?gg ?ud ?uc ?un ?ut ?um ?exH ?hdH ?tyH ?sH
    (case r1 => decide +kernel); (case r2 => decide +kernel); (case r3 => decide +kernel)
    (case aIsIn => k_is)
    (case lIsIn => k_is)
    (case cIsIn => k_is)
    (case kIsIn => k_is)
    (case aIsStream => k_is)
    (case lIsStream => k_is)
    (case cIsStream => k_is)
    (case kIsStream => k_is)
    (case aIsBox => k_is)
    (case lIsBox => k_is)
    (case cIsBox => k_is)
    (case kIsBox => k_is)
    (case aNeedProblem => k_is)
    (case lNeedProblem => k_is)
    (case cNeedProblem => k_is)
    (case kNeedProblem => k_is)
    (case aIsGiver => k_is)
    (case lIsGiver => k_is)
    (case cIsGiver => k_is)
    (case kIsGiver => k_is)
    (case aSpanOf => k_is)
    (case lSpanOf => k_is)
    (case cSpanOf => k_is)
    (case kSpanOf => k_is)
    (case aNumbersOf => k_is)
    (case lNumbersOf => k_is)
    (case cNumbersOf => k_is)
    (case kNumbersOf => k_is)
    (case aHeatAbove => k_is)
    (case lHeatAbove => k_is)
    (case cHeatAbove => k_is)
    (case kHeatAbove => k_is)
    (case aLevelsOf => k_is)
    (case lLevelsOf => k_is)
    (case cLevelsOf => k_is)
    (case kLevelsOf => k_is)
    (case aNeedAbove => k_is)
    (case lNeedAbove => k_is)
    (case cNeedAbove => k_is)
    (case kNeedAbove => k_is)
    (case aHeatingOf => k_is)
    (case lHeatingOf => k_is)
    (case cHeatingOf => k_is)
    (case kHeatingOf => k_is)
    (case aWithMore => k_is)
    (case lWithMore => k_is)
    (case cWithMore => k_is)
    (case kWithMore => k_is)
    (case aIsColumn => k_is)
    (case lIsColumn => k_is)
    (case cIsColumn => k_is)
    (case kIsColumn => k_is)
    (case aShifted => k_is)
    (case lShifted => k_is)
    (case cShifted => k_is)
    (case kShifted => k_is)
    (case aBestShifts => k_is)
    (case lBestShifts => k_is)
    (case cBestShifts => k_is)
    (case kBestShifts => k_is)
    (case aTaken => k_is)
    (case lTaken => k_is)
    (case cTaken => k_is)
    (case kTaken => k_is)
    (case aPick => k_is)
    (case lPick => k_is)
    (case cPick => k_is)
    (case kPick => k_is)
    (case aAlike => k_is)
    (case lAlike => k_is)
    (case cAlike => k_is)
    (case kAlike => k_is)
    (case aProblem => k_is)
    (case lProblem => k_is)
    (case cProblem => k_is)
    (case kProblem => k_is)
    (case aLSpan => k_is)
    (case lLSpan => k_is)
    (case cLSpan => k_is)
    (case kLSpan => k_is)
    (case aLHeat => k_is)
    (case lLHeat => k_is)
    (case cLHeat => k_is)
    (case kLHeat => k_is)
    (case aLNeed => k_is)
    (case lLNeed => k_is)
    (case cLNeed => k_is)
    (case kLNeed => k_is)
    (case aLLevels => k_is)
    (case lLLevels => k_is)
    (case cLLevels => k_is)
    (case kLLevels => k_is)
    (case aLHeating => k_is)
    (case lLHeating => k_is)
    (case cLHeating => k_is)
    (case kLHeating => k_is)
    (case aTold => k_is)
    (case lTold => k_is)
    (case cTold => k_is)
    (case kTold => k_is)
    (case aLaw => k_is)
    (case lLaw => k_is)
    (case cLaw => k_is)
    (case kLaw => k_is)
    (case t1 => k_is)
    (case v1 => rfl)
    (case n1 => first | k_is | rfl)
    (case t2 => k_is)
    (case v2 => rfl)
    (case n2 => first | k_is | rfl)
    (case t3 => k_is)
    (case v3 => rfl)
    (case n3 => first | k_is | rfl)
    (case z_isinstance => k_is)
    (case z_int => k_is)
    (case z_bool => k_is)
    (case z_tuple => k_is)
    (case z_len => k_is)
    (case z_all => k_is)
    (case z_list => k_is)
    (case z_range => k_is)
    (case z_enumerate => k_is)
    (case z_max => k_is)
    (case z_min => k_is)
    (case z_abs => k_is)
    (case z_sum => k_is)
    (case z_sorted => k_is)
    (case z_zip => k_is)
    (case z_set => k_is)
    (case z_str => k_is)
    (case z_MOST_TEMPERATURE => k_is)
    (case z_MOST_RATE => k_is)
    (case z_MOST_HEAT => k_is)
    (case z_MOST_STREAMS => k_is)
    (case z_MOST_BOXES => k_is)
    (case z_MOST_GAP => k_is)
    (case z_MOST_COLUMNS => k_is)
    (case z_MOST_SHIFT => k_is)
    (case aT => k_is)
    (case aH => k_is)
    (case xT => k_is)
    (case sa => k_is)
    (case exC => k_is)
    (case tyC => k_is)
    (case kC => k_is)
    (case no => k_is)
    (case iC => k_is)
    (case tI => k_is)
    (case lI => k_is)
    (case cI => k_is)
    (case kI => k_is)
    (case ga => k_is)
    (case gg => k_is)
    (case ud => k_is)
    (case uc => k_is)
    (case un => k_is)
    (case ut => k_is)
    (case um => k_is)
    (case exH => k_is)
    (case hdH => k_is)
    (case tyH => k_is)
    (case sH => k_is)
