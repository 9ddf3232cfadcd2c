import PyProof.Rows.All
import Wide.All
import OpenK.AllK
import Wide.FinOn
import HandS.ForMost
import HandS.Exc
import HandS.TryOnly
import HandS.ExcOwn
import HandS.WordsExc
import HandS.GenList
import KE.KNest
import PyProof.SumAny
import PyProof.WalkInts
import PyProof.CollectWalk
import PyProof.TupleOfGen
import HandS.Lambda
import KE.SortData
import HandS.TupAny
import HandS.Style
import HandS.Iter
import HandS.Zip
import HandS.HeadHook4
import HandS.Zip0
import KE.DatumOrd
import KE.DatumMoreOrd
import KE.KIndexOf
import KE.KRevSl
import KE.KIndexWalk
import HandS.SortKw
import HandS.Dict
import HandS.DictComp
import HandS.More
import HandS.Small
import HandS.WordsDict
import KE.DataCmp
import PySem.Challenge.RW_tidestack_k04_watches_and_rests
import HandS.HeadWalk
import HandS.Head2
set_option Elab.async false
set_option linter.all false
set_option maxRecDepth 100000
set_option maxHeartbeats 4000000
/-! Generator expressions that a built-in draws out: any element, any source that the hand layer walks. -/
namespace Gx
open PySem PySem.Spec PyProof.Rows L2 GenW

/-! ### the body's run, from yield to yield -/
/-- between two turns the consumer may change what stands at zs, and nothing else that stood -/
structure Rest (zs : List Addr) (s s' : Shared) : Prop where
  os : s'.os = s.os
  bare : AllBare s'.gens
  keep : ∀ b o, b ∉ zs → s.heap.get? b = some o → s'.heap.get? b = some o
  there : ∀ b ∈ zs, ∃ o, s'.heap.get? b = some o ∧ ∀ v, o.data ≠ .cell v
/-- the consumer's objects while the body runs -/
def ZOk (Y : Cx) (zs : List Addr) (H : Hp) (s : Shared) : Prop := ∀ b ∈ zs, FpOk Y [] H b ∧ ∃ o, s.heap.get? b = some o ∧ ∀ v, o.data ≠ .cell v
def Held (zs : List Addr) (s s' : Shared) : Prop := ∀ z ∈ zs, ∀ o, s.heap.get? z = some o → s'.heap.get? z = some o
theorem Held.trans {zs : List Addr} {a b c : Shared} (x : Held zs a b) (y : Held zs b c) : Held zs a c := fun z hz o e => y z hz o (x z hz o e)
/-- woken again -/
theorem woken {Y : Cx} {zs : List Addr} {σ : L2.St} {H : Hp} {s s' : Shared} (I : Inv Y [] σ H s) (z : ZOk Y zs H s) (r : Rest zs s s') : Inv Y [] σ H s' ∧ ZOk Y zs H s' := by
  obtain ⟨hh, g, d, t, o⟩ := s'
  obtain ⟨r1, r2, r3, r4⟩ := r
  have e : o = s.os := r1
  subst e
  have nt : ∀ b u, H b = some u → b ∉ zs := fun b u q hb => by rw [(z b hb).1.1] at q; cases q
  refine ⟨?_, fun b hb => ⟨(z b hb).1, r4 b hb⟩⟩
  refine I.step (g' := g) (t' := t) (d' := d) (ch := zs) (fun b hb => ?_) (fun b ob _ _ hc q _ => r3 b ob hc q) (fun b ob _ _ hc q _ => ⟨ob.slots, r3 b ob hc q⟩) (fun _ _ _ _ n => n) (fun b ob hc q => ⟨ob, r3 b ob hc q⟩)
    (fun _ _ q => q) (fun _ _ _ q => q) (fun b ps q => ⟨#[], by rw [q]; simp⟩) (fun m hm => ?_) (fun b u q => ?_) r2
  · obtain ⟨_, f1, f2, f3, f4, f5⟩ := (z b hb).1
    exact ⟨f3, f1, f4, f5⟩
  · obtain ⟨ob, es, ep, ho, r⟩ := hm
    exact ⟨ob, es, ep, r3 _ ob (fun hb => (z _ hb).1.2.1 rfl) ho, r⟩
  · refine (I.hok b u q).stay (fun c v hc y => r3 c v ?_ y) (fun _ y => y) fun _ _ y => y
    rcases hc with y | y
    · rw [y]; exact nt b u q
    · exact nt c _ y

/-- what the reading asks: fin at the end, yk at a yield (its last letter: what is needed to go on) -/
structure Want where
  fin : List V → Hp → Prop
  yk : List V → V → Hp → Prop → Prop
  lk : List V → Shared → Prop
/-- the consumer's link between what came and its own objects leans on these objects alone -/
def Want.Linked (K : Want) (zs : List Addr) : Prop := ∀ ys s s', Held zs s s' → K.lk ys s → K.lk ys s'
def REnd (Y : Cx) (σ : L2.St) (zs : List Addr) (K : Want) : GenEnd := fun _ s₀ r s => (r = .ok (.ret .none) ∨ r = .ok .next) ∧ ∃ ys H, K.fin ys H ∧ Inv Y [] σ H s ∧ ZOk Y zs H s ∧ Held zs s₀ s ∧ K.lk ys s
def YItem (Y : Cx) (σ : L2.St) (zs : List Addr) (K : Want) : Protocol := fun _ s₀ v s kap => ∃ ys y H σ' Wn, RelV y v ∧ K.yk ys y H Wn ∧ Inv Y [] σ' H s ∧ σ'.length = σ.length ∧ (∀ (i : Nat) x, σ[i]? = some (some x) → σ'[i]? = some (some x)) ∧ ZOk Y zs H s ∧ Held zs s₀ s ∧ K.lk ys s ∧
  ∀ s', Rest zs s s' → K.lk (ys ++ [y]) s' → Wn → kap (.send .none) s'

/-- the loop of the reading -/
def Loop (J : It) (g : TG) (te : TE) (vs : List Nat) (K : Want) (σ : L2.St) (W : Nat → Nat → List V → Hp → Prop) : Prop := ∀ i m ys H, W i m ys H →
  (J.stop i H ∧ K.fin ys H) ∨ (J.go i H ∧ ∀ x H', J.yld i H x H' → g x σ H' fun σ2 H2 => wipe σ2 vs = σ ∧ te σ2 H2 fun y H3 => K.yk ys y H3 (∃ m', m' < m ∧ W (i + 1) m' (ys ++ [y]) H3))

theorem seg_yieldN {M : Model} {A : Around} {R : GenEnd} {Y : Protocol} {n : Nat} {s₀ : Shared} {c : Code} {fs : List Frame} {s : Shared} {v : Value} {g : Bool} {l : List Value} {k : Resume → Sem PySem.Fin} (hfs : splitAtGen fs = none) (hg : g = false) (hfg : fs.any Frame.guarded = false)
    (h : Y (n - 1) s₀ v s fun r s'' => Seg.next M A R Y n c (k r) fs s'') : Seg M A R Y n s₀ c (.yield v g l k) fs s := by
  rw [seg_iff]
  rintro Γ p rfl _
  exact ⟨_, s, Runs.yield' fs hfs, And.intro (by simp [End.quiet, hg, hfg]) h⟩
theorem over_gen {A : Around} {elt : Expr} {gs : List Comprehension} {scope : Scope} {pos : Pos} {it acc : Value} {env : Env} : A.over (.compLoop (.GeneratorExp elt gs scope pos) 0 it acc env) [] = A.deeper env := by
  obtain ⟨hd, d, fr, gu, u⟩ := A
  simp [Around.over, Around.deeper, marksOver, frameCount, unitsOf, envsOf, guardsOf, pushEnvs, pushGuards, Code.envs, Code.env?, Code.isFrame, Code.guards, Code.isGuard, Code.weight, Code.frames, Code.isCreation, Code.isCaller, Code.cUnits]
theorem over_gen0 {A : Around} {elt : Expr} {gs : List Comprehension} {scope : Scope} {pos : Pos} {it acc : Value} {env : Env} : A.over (.compStart (.GeneratorExp elt gs scope pos) 0 it acc env) [] = A.deeper env := by
  obtain ⟨hd, d, fr, gu, u⟩ := A
  simp [Around.over, Around.deeper, marksOver, frameCount, unitsOf, envsOf, guardsOf, pushEnvs, pushGuards, Code.envs, Code.env?, Code.isFrame, Code.guards, Code.isGuard, Code.weight, Code.frames, Code.isCreation, Code.isCaller, Code.cUnits]
section
variable {Y : Cx} {A : Around} {tg elt iter : Expr} {scope : Scope} {pos : Pos} {J : It} {fp : List Addr} {it : Addr} {tn : Nat → Heap → Prop} {g : TG} {te : TE} {vs : List Nat} {zs : List Addr} {K : Want} {σ : L2.St} {W : Nat → Nat → List V → Hp → Prop}
theorem held_pins {pins : List (Addr × Obj)} {σ' : L2.St} {H H' : Hp} {s s' : Shared} (I : Inv Y (pins ++ pinsAt zs s.heap) σ' H' s') (z : ZOk Y zs H s) : Held zs s s' ∧ ZOk Y zs H' s' := by
  have key : ∀ b ∈ zs, ∀ o, s.heap.get? b = some o → s'.heap.get? b = some o ∧ H' b = none := fun b hb o e =>
    let q := I.pin (b, o) (List.mem_append_right _ (List.mem_append_right _ (mem_pinsAt hb e)))
    ⟨q.1, q.2.1⟩
  refine ⟨fun b hb o e => (key b hb o e).1, fun b hb => ?_⟩
  obtain ⟨f, o, e, d⟩ := z b hb
  obtain ⟨k1, k2⟩ := key b hb o e
  exact ⟨⟨k2, f.2⟩, o, k1, d⟩
theorem seg_loop (hA : Y.A = A.deeper Y.env) (hc : Y.calm = true) (hx : ∀ u s, ¬ Y.xe u s) (hco : Y.env.scope.isCoroutine = false) (T : Turn Y.prog Y.w Y.K tg J fp it tn) (fex : ∀ b ∈ fp, b ∈ Y.ex ∨ Y.s_0.heap.objs.size ≤ b)
    (fpx : ∀ b ∈ fp, b ≠ Y.env.locals ∧ b ∉ Y.fs ∧ (∀ x c, Y.env.cells.lookup x = some c → c ≠ b) ∧ ∀ p ∈ Y.pn, p.1 ≠ b) (zf : ∀ b ∈ zs, b ∉ fp) (pg : PG Y tg g) (pe : PE Y elt te) (hl : K.Linked zs) (hL : Loop J g te vs K σ W) (hσ : σ = wipe σ vs) :
    ∀ (n m i : Nat) (ys : List V) (s₀ s : Shared) (H : Hp), m ≤ n → W i m ys H → Inv Y [] σ H s → tn i s.heap → (∀ b ∈ fp, H b = none) → ZOk Y zs H s → Held zs s₀ s → K.lk ys s →
      Seg (model Y.prog Y.w) A (REnd Y σ zs K) (YItem Y σ zs K) n s₀ (.compLoop (.GeneratorExp elt [⟨tg, iter, [], 0⟩] scope pos) 0 (.ref it) .none Y.env)
        ((model Y.prog Y.w).den (.compLoop (.GeneratorExp elt [⟨tg, iter, [], 0⟩] scope pos) 0 (.ref it) .none Y.env)) [] s := by
  have ov : A.over (.compLoop (.GeneratorExp elt [⟨tg, iter, [], 0⟩] scope pos) 0 (.ref it) .none Y.env) [] = Y.A := over_gen.trans hA.symm
  have noE : ∀ {α : Type} {t : Sem α} {Q Q' : α → Shared → Prop} {E' : Value → Shared → Prop} {s : Shared}, wpAny (model Y.prog Y.w) Y.A t Q Y.xe s → (∀ a s', Q a s' → Q' a s') → wpAny (model Y.prog Y.w) Y.A t Q' E' s := fun h hq => wpAny_mono h hq fun u s' z => (hx u s' z).elim
  intro n
  induction n using Nat.strongRecOn with
  | ind n ih =>
    intro m i ys s₀ s H hmn hW I st fr zo he lk
    have statF : ∀ {H' : Hp}, (∀ b ∈ fp, H' b = none) → ∀ b ∈ fp, FpOk Y (pinsAt zs s.heap) H' b := fun hn b hb => by
      obtain ⟨p1, p2, p3, p4⟩ := fpx b hb
      refine ⟨hn b hb, p1, p2, fex b hb, p3, fun p hp z => ?_⟩
      rcases List.mem_append.mp hp with hp | hp
      · exact p4 p hp z
      · exact zf p.1 (of_pinsAt hp).1 (by rw [z]; exact hb)
    have I1 : Inv Y ([] ++ pinsAt zs s.heap) σ H s := I.pinned (fun b hb => (zo b hb).1) fun b hb => (zo b hb).2
    rw [List.nil_append] at I1
    show Seg _ A _ _ _ s₀ _ ((compTurn (.GeneratorExp elt [⟨tg, iter, [], 0⟩] scope pos) 0 (.ref it) .none Y.env).onRaise (leaving Y.env)) [] s
    rw [compTurn_gen, Sem.onRaise_eq_wrap]
    refine seg_bind_wrap (wpAny_standAt ?_)
    rcases hL i m ys H hW with ⟨stop, qf⟩ | ⟨go, step⟩
    · refine seg_bind_wrap ?_
      rw [ov]
      refine wpAny_mono (T.done Y rfl rfl rfl hc i (pinsAt zs s.heap) s σ H (fun _ _ => False) I1 (statF fr) st stop) (fun r s1 hr => ?_) fun _ _ z => z.elim
      obtain ⟨hr, I2⟩ := hr
      subst hr
      have I2' : Inv Y ([] ++ pinsAt zs s.heap) σ H s1 := by rw [List.nil_append]; exact I2
      obtain ⟨h1, z1⟩ := held_pins I2' zo
      exact seg_end (.ok .next) ⟨.inr rfl, ys, H, qf, I2'.unpinned, z1, he.trans h1, hl ys _ _ h1 lk⟩
    · refine seg_bind_wrap ?_
      rw [ov]
      refine wpAny_mono (T.item Y rfl rfl rfl hc i (pinsAt zs s.heap) s σ H (fun _ _ => False) I1 (statF fr) st go) (fun r s1 hr => ?_) fun _ _ z => z.elim
      obtain ⟨u, hr, h1⟩ := hr
      subst hr
      refine seg_bind_wrap ?_
      rw [ov]
      refine wpAny_mono h1 (fun _ s2 h2 => ?_) fun _ _ z => z.elim
      obtain ⟨x, H2, I2, rx, hy, st2, fr2⟩ := h2
      have I3 := I2.pinned (statF fr2) (T.obj _ _ st2)
      refine seg_bind_wrap ?_
      rw [ov]
      refine noE (pg.run _ s2 σ H2 x u _ I3 rx (step x H2 hy)) fun _ s3 h3 => ?_
      obtain ⟨σ3, H3, I4, hw, q3⟩ := h3
      refine seg_bind_wrap ?_
      simp only [List.forIn_nil]
      refine wpAny_pure ?_
      simp only [if_true]
      have hyo : ∀ v, yieldOut Y.env v = yieldValue v := fun v => by simp only [yieldOut, hco, Bool.false_eq_true, if_false]
      simp only [hyo]
      rw [Sem.bind_eq_wrap', Sem.bind_eq_wrap', Sem.wrap_wrap, Sem.wrap_wrap]
      refine seg_wrap ?_
      rw [ov]
      refine noE (pe.run _ s3 σ3 H3 _ I4 q3) fun v s4 h4 => ?_
      obtain ⟨y, H4, I5, ry, q4⟩ := h4
      have pinF : ∀ b ∈ fp, ∀ o, s2.heap.get? b = some o → s4.heap.get? b = some o ∧ H4 b = none := fun b hb o e =>
        let q := I5.pin (b, o) (List.mem_append_right _ (List.mem_append_right _ (mem_pinsAt hb e)))
        ⟨q.1, q.2.1⟩
      have I6 : Inv Y ([] ++ pinsAt zs s.heap) σ3 H4 s4 := by rw [List.nil_append]; exact I5.unpinned
      obtain ⟨h6, z6⟩ := held_pins I6 zo
      have I7 : Inv Y [] σ3 H4 s4 := I6.unpinned
      have len3 : σ3.length = σ.length := by rw [← hw, wipe_length]
      have sub3 : ∀ (j : Nat) v, σ[j]? = some (some v) → σ3[j]? = some (some v) := fun j v e => by
        rw [← hw] at e
        exact (wipe_some e).1
      have st4 : tn (i + 1) s4.heap := T.keep _ _ _ st2 fun b hb o e => (pinF b hb o e).1
      have fr4 : ∀ b ∈ fp, H4 b = none := fun b hb => by
        obtain ⟨o, e, _⟩ := T.obj _ _ st2 b hb
        exact (pinF b hb o e).2
      refine seg_at (seg_yieldN rfl rfl rfl ?_)
      refine ⟨ys, y, H4, σ3, _, ry, q4, I7, len3, sub3, z6, he.trans h6, hl ys _ _ h6 lk, fun s' rs lk' wn => ?_⟩
      obtain ⟨m', hm', hW'⟩ := wn
      cases n with
      | zero => exact absurd hm' (by omega)
      | succ n' =>
        obtain ⟨I8, z8⟩ := woken I7 z6 rs
        exact seg_again rfl (ih n' (Nat.lt_succ_self _) m' (i + 1) (ys ++ [y]) s' s' H4 (by omega) hW' (I8.weak len3.symm fun j v e => sub3 j v e)
          (T.keep _ _ _ st4 fun b hb o e => rs.keep b o (fun hz => zf b hz hb) e) fr4 z8 (fun _ _ _ e => e) lk')
end
end Gx

set_option maxRecDepth 100000
set_option maxHeartbeats 4000000
namespace Gx
open PySem PySem.Spec PyProof.Rows L2 GenW
section
variable {Y : Cx} {A : Around} {tg elt iter : Expr} {scope : Scope} {pos : Pos} {J : It} {fp : List Addr} {it : Addr} {tn : Nat → Heap → Prop} {g : TG} {te : TE} {vs : List Nat} {zs : List Addr} {K : Want} {σ : L2.St} {W : Nat → Nat → List V → Hp → Prop}
theorem seg_start (hA : Y.A = A.deeper Y.env) (hc : Y.calm = true) (hx : ∀ u s, ¬ Y.xe u s) (hco : Y.env.scope.isCoroutine = false) (T : Turn Y.prog Y.w Y.K tg J fp it tn) (fex : ∀ b ∈ fp, b ∈ Y.ex ∨ Y.s_0.heap.objs.size ≤ b)
    (fpx : ∀ b ∈ fp, b ≠ Y.env.locals ∧ b ∉ Y.fs ∧ (∀ x c, Y.env.cells.lookup x = some c → c ≠ b) ∧ ∀ p ∈ Y.pn, p.1 ≠ b) (zf : ∀ b ∈ zs, b ∉ fp) (pg : PG Y tg g) (pe : PE Y elt te) (hl : K.Linked zs) (hL : Loop J g te vs K σ W) (hσ : σ = wipe σ vs)
    (n : Nat) (ys : List V) (s₀ s : Shared) (H : Hp) (hW : W 0 n ys H) (I : Inv Y [] σ H s) (st : tn 0 s.heap) (fr : ∀ b ∈ fp, H b = none) (zo : ZOk Y zs H s) (he : Held zs s₀ s) (lk : K.lk ys s) :
    Seg (model Y.prog Y.w) A (REnd Y σ zs K) (YItem Y σ zs K) n s₀ (.compStart (.GeneratorExp elt [⟨tg, iter, [], 0⟩] scope pos) 0 (.ref it) .none Y.env)
        ((model Y.prog Y.w).den (.compStart (.GeneratorExp elt [⟨tg, iter, [], 0⟩] scope pos) 0 (.ref it) .none Y.env)) [] s := by
  have loop := seg_loop (iter := iter) (scope := scope) (pos := pos) hA hc hx hco T fex fpx zf pg pe hl hL hσ n n 0 ys s₀ s H (Nat.le_refl _) hW I st fr zo he lk
  show Seg _ A _ _ _ s₀ _ ((compStart (.GeneratorExp elt [⟨tg, iter, [], 0⟩] scope pos) 0 (.ref it) .none Y.env).onRaise (leaving Y.env)) [] s
  unfold compStart
  rw [Sem.onRaise_eq_wrap]
  show Seg _ A _ _ _ s₀ _ ((ask >>= _).wrap _ _ _ _) [] s
  refine seg_bind_wrap (wpAny_askSetting ?_)
  split
  · exact seg_again rfl loop
  · refine seg_bind_wrap (wpAny_rule ?_)
    show Seg _ A _ _ _ s₀ _ ((standAt iter.pos >>= _).wrap _ _ _ _) [] s
    exact seg_bind_wrap (wpAny_standAt (seg_bind_wrap (T.self _ 0 _ _ _ st (seg_again rfl loop))))
end

/-! ### the body's context -/
def gcx (X : Cx) (A : Around) (s : Shared) (H : Hp) (cenv : Env) (fp : List Addr) (pn : List (Addr × Obj)) : Cx where
  prog := X.prog
  w := X.w
  K := X.K
  mg := X.mg
  base := X.base
  A := A.deeper cenv
  N := X.N
  s_0 := s
  H_0 := H
  env := cenv
  outer := X.stack
  stack := cenv :: X.stack
  ex := fp
  fn := fun _ => false
  calm := true
  pn := pn
  xe := fun _ _ => False
section
variable {X : Cx} {pins : List (Addr × Obj)} {σ : L2.St} {H : Hp} {s s' : Shared} {scope : Scope} {own : List (Str × Nat)} {fp : List Addr} {A : Around} {code : Value} {a : Addr} {go : Obj} {it : Value}
theorem gen_start (I : Inv X pins σ H s) (ok : BlkOk X.N X.env.scope scope own) (hN : X.N.Nodup) (nc : ∀ y ∈ scope.names, y.2 ≠ .cell) (hfp : ∀ b ∈ fp, FpOk X pins H b ∧ b < s.heap.objs.size) (hd : A.handled = none) (hfr : A.frames = some X.stack)
    (hn : s'.heap.Ns s.heap.objs.size (fun y => if y = ".0" then some it else none)) (kp : ∀ b o, s.heap.get? b = some o → s'.heap.get? b = some o) (os : s'.os = s.os) (ba : AllBare s'.gens)
    (ha : s'.heap.get? a = some go) (hag : s.heap.objs.size < a) (hgo : ∀ v, go.data ≠ .cell v) :
    Inv (gcx X A s H (genEnv scope (cloFrom X.env.cells scope.names []) s.heap.objs.size code builtinsNs X.env) fp [(a, go)]) [] (wipe σ (own.map (·.2))) H s' := by
  have hfree : ∀ y ∈ scope.names, y.2 = .free → ∃ c, X.env.cells.lookup y.1 = some c := fun y hy e => by
    rcases ok.free y hy e with k | k
    · exact I.ok.has _ (.inl k)
    · exact I.ok.has _ (.inr k)
  have cm : ∀ {y c}, (cloFrom X.env.cells scope.names []).lookup y = some c → X.env.cells.lookup y = some c ∧ c < s.heap.objs.size := fun {y c} e => by
    rcases cloFrom_mem (PySem.mem_of_lookup e) with hm | ⟨h1, h2⟩
    · cases hm
    · obtain ⟨c1, hc⟩ := hfree _ h1 rfl
      have e2 : c = c1 := by rw [h2]; show (X.env.cells.lookup y).getD 0 = c1; rw [show X.env.cells.lookup y = some c1 from hc]; rfl
      rw [e2]
      obtain ⟨w, z⟩ := I.cell _ _ hc
      exact ⟨hc, z.lt⟩
  have look : ∀ {y}, scope.names.lookup y = some .free → ∃ c, (cloFrom X.env.cells scope.names []).lookup y = some c := fun {y} hl => mem_lookup (cloFrom_has (cells := X.env.cells) (acc := []) (PySem.mem_of_lookup hl))
  have notcell : ∀ {y}, scope.names.lookup y ≠ some .cell := fun {y} e => nc _ (PySem.mem_of_lookup e) rfl
  have visf : ∀ {y} {i : Nat}, X.N[i]? = some y → i ∉ own.map (·.2) → Vis scope y → scope.names.lookup y = some .free := fun {y i} e1 hne h3 => by
    have no : ∀ k, scope.names.lookup y = some k → k = .local ∨ k = .cell → False := fun k e hh => by
      rcases ok.own _ (PySem.mem_of_lookup e) hh with e' | e'
      · obtain ⟨p, hp, hpy⟩ := List.mem_map.mp e'
        have e3 := ok.ix p hp
        have e4 : p.1 = y := hpy
        rw [e4] at e3
        exact hne (List.mem_map.mpr ⟨p, hp, nodup_ix hN e3 e1⟩)
      · exact e' (List.mem_of_getElem? e1)
    rcases h3 with e | e | e
    · exact (no _ e (.inl rfl)).elim
    · exact (no _ e (.inr rfl)).elim
    · exact e
  refine ⟨⟨I.ok.mod, ok.kind, I.ok.glob, rfl, Nat.le_refl _, fun y z c e1 e2 => I.ok.inj y z c (cm e1).1 (cm e2).1, fun y hy => ?_, fun y c z _ => ?_, fun _ => hd, Around.frames_deeper hfr, .inr ⟨rfl, rfl⟩, fun b hb => ⟨?_, fun y c e z => ?_⟩, I.bs, Nat.le_trans I.ok.bsz I.sz, fun b o e hb => ?_, fun b hb z => ?_, I.stack, I.stkFree⟩,
    os, ba, Un.kept kp, ⟨_, hn, fun i y v e1 e2 e3 => ?_⟩, fun y c e => ?_, I.hok.fresh (Nat.le_refl _), fun y c e => I.freeC y c (cm e).1, fun p hp => ?_, I.hok.kept kp, by rw [wipe_length]; exact I.len⟩
  · rcases hy with hy | hy
    · exact (notcell hy).elim
    · exact look hy
  · cases (show false = true from z)
  · exact Nat.ne_of_lt (hfp b hb).2
  · exact (hfp b hb).1.2.2.2.2.1 y c (cm e).1 z
  · rcases (hfp b hb).1.2.2.2.1 with z | z
    · exact I.ok.noex b o e z
    · exact absurd (Nat.lt_of_lt_of_le (Heap.lt_size e) (Nat.le_trans I.ok.bsz z)) (Nat.lt_irrefl _)
  · rcases List.mem_cons.mp (I.stkSub b z) with z | z
    · exact (hfp b hb).1.2.1 z
    · exact (hfp b hb).1.2.2.1 z
  · obtain ⟨e2, hne⟩ := wipe_some e2
    have hf := visf e1 hne e3
    obtain ⟨m, hm, hl⟩ := I.loc
    have hvis : Vis X.env.scope y := (ok.free _ (PySem.mem_of_lookup hf) rfl).elim (fun k => .inr (.inl k)) (fun k => .inr (.inr k))
    obtain ⟨w, r, q⟩ := hl i y v e1 e2 hvis
    obtain ⟨c, h1⟩ := look hf
    refine ⟨w, r, .inr ⟨.inr hf, c, h1, ?_⟩⟩
    rcases q with ⟨k, _⟩ | ⟨_, c', e', z⟩
    · have k : X.env.scope.names.lookup y = some .local := k
      rcases ok.free _ (PySem.mem_of_lookup hf) rfl with k' | k' <;> rw [show X.env.scope.names.lookup y = _ from k'] at k <;> cases k
    · rw [(cm h1).1] at e'
      cases e'
      exact z.keeps kp
  · obtain ⟨w, z⟩ := I.cell y c (cm e).1
    exact ⟨w, z.keeps kp⟩
  · have hp : p = (a, go) := by simpa [gcx] using hp
    subst hp
    refine ⟨ha, I.hok.fresh (Nat.le_of_lt hag), Nat.ne_of_gt hag, fun hb => ?_, hgo⟩
    obtain ⟨_, o, ho, _⟩ := I.stack.mem hb
    exact absurd (Heap.lt_size ho) (Nat.not_lt.mpr (Nat.le_of_lt hag))
/-- behind the body's run, back where it was made -/
theorem gen_back {Hs : Hp} {σ' : L2.St} {cenv : Env} {pn : List (Addr × Obj)} (I : Inv X pins σ H s) (hfp : ∀ b ∈ fp, FpOk X pins H b ∧ b < s.heap.objs.size) (J : Inv (gcx X A s H cenv fp pn) [] σ' Hs s') : Inv X pins σ Hs s' :=
  I.call' (ch := fp) J.os J.base J.hok J.bare fun b hb => ⟨(hfp b hb).1.2.2.2.1, (hfp b hb).1.2.1, (hfp b hb).1.2.2.2.2.1, (hfp b hb).1.2.2.2.2.2⟩
end

/-! ### where the codes of a def's expressions lie -/
def TbO (P : Addr) : HO := .ext fun h => ∃ ps : Array Value, h.get? P = some (PySem.W.tabObj ps) ∧ TriplesOk ps.toList
def CdO (c P : Addr) : HO := .ext fun h => PySem.W.CodeHd h c P
/-- the module's builtins -/
def Bm (base : Heap) (mg : Str → Option Value) : Prop := ∃ bm o, mg "__builtins__" = some (.ref bm) ∧ bm ≠ builtinsNs ∧ bm ≠ mainGlobals ∧ base.get? bm = some o ∧ o.cls = .type "module" ∧ o.dict = some builtinsNs ∧ o.data = .plain
structure Site (X : Cx) (H : Hp) (c P : Addr) : Prop where
  code : X.env.code = .ref c
  hd : PySem.W.CodeHd X.base c P ∨ H c = some (CdO c P)
  bm : Bm X.base X.mg
section
variable {X : Cx} {pins : List (Addr × Obj)} {σ : L2.St} {H : Hp} {s s' : Shared} {c P : Addr}
theorem Site.cd (S : Site X H c P) (I : Inv X pins σ H s) : PySem.W.CodeHd s.heap c P := by
  rcases S.hd with h | h
  · exact h.keeps I.bk
  · exact (I.hok c _ h).1
theorem tbO_get (I : Inv X pins σ H s) (h : H P = some (TbO P)) : ∃ ps : Array Value, s.heap.get? P = some (PySem.W.tabObj ps) ∧ TriplesOk ps.toList := (I.hok P _ h).1
theorem tbO_ok {h : Heap} {ps : Array Value} (e : h.get? P = some (PySem.W.tabObj ps)) (t : TriplesOk ps.toList) (Pr : Program) (w : World) (H : Hp) : ObjOk Pr w H h P (TbO P) :=
  ⟨⟨ps, e, t⟩, ⟨_, e⟩, fun _ _ ⟨ps, e, t⟩ k => ⟨ps, k _ e, t⟩⟩
theorem cdO_ok {h : Heap} (e : PySem.W.CodeHd h c P) (Pr : Program) (w : World) (H : Hp) : ObjOk Pr w H h c (CdO c P) := by
  refine ⟨e, ?_, fun h1 h2 x k => ?_⟩
  · obtain ⟨o, _, _, _, _, _, _, _, _, h1, _⟩ := e
    exact ⟨o, h1⟩
  · obtain ⟨o, vs, file, tf, flags, tg, inF, text, tt, e1, r⟩ := x
    exact ⟨o, vs, file, tf, flags, tg, inF, text, tt, k _ e1, r⟩
theorem upd_self {H : Hp} {a : Addr} {o : HO} (h : H a = some o) : upd H a o = H := by
  funext b
  by_cases hb : b = a
  · rw [hb, upd_same, h]
  · rw [upd_ne hb]
/-- the code of an expression: the def's table may grow -/
theorem code_site {Q : Value → Shared → Prop} {qual : Str} {scope : Scope} {gpos : Pos} (S : Site X H c P) (hP : H P = some (TbO P)) (I : Inv X pins σ H s)
    (h : ∀ cv s', Inv X pins σ H s' → s.heap.objs.size ≤ s'.heap.objs.size → (∀ b o, b ≠ P → s.heap.get? b = some o → s'.heap.get? b = some o) → s'.gens = s.gens → Q cv s') :
    wpAny (model X.prog X.w) X.A (genexprCode X.env gpos qual scope) Q X.xe s := by
  obtain ⟨ps, hPs, ht⟩ := tbO_get I hP
  have cd := S.cd I
  cases hf : codeAmong gpos ps.toList with
  | none =>
    refine wpAny_genexprCodeX S.code (cd.code hPs ht) (cd.tab hPs) hf fun c' h' tk hx hge hlt hco' _ htab' _ => ?_
    obtain ⟨o1, vs, f1, tf, fl, tg, inF, tx, tt, op, _, _, _, _, _, _, _, _, _, htr, _⟩ := hco'
    have J : Inv X pins σ (upd H P (TbO P)) { s with heap := h', toks := tk } := I.write (e := P) (by rw [hP]; trivial) (.inl rfl) (fun b u hb e => hx b u hb e) ⟨_, htab'.2⟩ (tbO_ok htab'.2 htr _ _ _)
    rw [upd_self hP] at J
    exact h _ _ J (Nat.le_of_lt (Nat.lt_of_le_of_lt hge hlt)) (fun b o hb e => hx b o hb e) rfl
  | some cv =>
    exact wpAny_genexprCode_hit S.code (cd.code hPs ht) hf (h cv s I (Nat.le_refl _) (fun _ _ _ e => e) rfl)
theorem blt_site {Q : Addr → Shared → Prop} {E : Value → Shared → Prop} (B : Bm X.base X.mg) (I : Inv X pins σ H s) (h : Q builtinsNs s) : wpAny (model X.prog X.w) X.A (builtinsFor X.env.globals X.env.builtins) Q E s := by
  obtain ⟨bm, ob, e1, e2, e3, e5, e6, e7, e8⟩ := B
  exact wpAny_builtinsFor (m := X.mg) (by rw [I.ok.glob]; exact I.mod.glob.keeps I.bk) e1 e2 (I.bk _ _ e5) e6 e7 e8 h
end
end Gx

set_option maxRecDepth 100000
set_option maxHeartbeats 4000000
namespace Gx
open PySem PySem.Spec PyProof.Rows L2 GenW
abbrev in3 (A : Around) : Around := A.in1.in1.in1
/-- made, and not begun -/
def Ready (X : Cx) (pins : List (Addr × Obj)) (σ : L2.St) (fin : List V → Hp → Prop) (yk : List V → V → Hp → Prop → Prop) (u : Value) (s : Shared) : Prop :=
  ∃ (a : Addr) (g : Nat) (c : Code) (Y : Cx) (σ' : L2.St) (n : Nat), u = .ref a ∧ s.heap.IsGen a g ∧ s.gens[g]? = some (.fresh c) ∧ s.heap.NoLimit ∧ AllBare s.gens ∧ (∀ σ1 H1 s1, Inv Y [] σ1 H1 s1 → Inv X pins σ H1 s1 ∧ s1.heap.IsGen a g) ∧
    ∀ (zs : List Addr) (lk : List V → Shared → Prop) (s2 : Shared), (∀ z ∈ zs, s.heap.objs.size ≤ z ∧ ∃ o, s2.heap.get? z = some o ∧ ∀ v, o.data ≠ .cell v) → (∀ b o, s.heap.get? b = some o → s2.heap.get? b = some o) → s2.os = s.os → AllBare s2.gens →
      (Want.mk fin yk lk).Linked zs → lk [] s2 → Seg (model X.prog X.w) (in3 X.A).in1 (REnd Y σ' zs ⟨fin, yk, lk⟩) (YItem Y σ' zs ⟨fin, yk, lk⟩) n s2 c ((model X.prog X.w).den c) [] s2
/-- asleep: ys has come -/
structure Sleep (P : Program) (w : World) (A : Around) (Y : Cx) (σ : L2.St) (zs : List Addr) (K : Want) (a : Addr) (g n : Nat) (s : Shared) : Prop where
  gen : s.heap.IsGen a g
  lim : s.heap.NoLimit
  bare : AllBare s.gens
  out : a ∉ zs ∧ cStatics ∉ zs
  go : ∃ (ys : List V) (gs : GenState) (s1 : Shared), s.gens[g]? = some gs ∧ s.os = s1.os ∧ (∀ b o, b ∉ zs → s1.heap.get? b = some o → s.heap.get? b = some o) ∧
    K.lk ys s ∧ ∀ s', Rest zs s1 s' → K.lk ys s' → gs.Goes (model P w) A.in1 (REnd Y σ zs K) (YItem Y σ zs K) n (.send .none) s'
theorem lk_heap {zs : List Addr} {K : Want} (hl : K.Linked zs) {ys : List V} {s s' : Shared} (h : ∀ z ∈ zs, ∀ o, s.heap.get? z = some o → s'.heap.get? z = some o) (k : K.lk ys s) : K.lk ys s' := hl ys s s' h k
section
variable {P : Program} {w : World} {A : Around} {Y : Cx} {σ : L2.St} {zs : List Addr} {K : Want} {a : Addr} {g n : Nat} {s : Shared} {E : Value → Shared → Prop} {Q : Option Value → Shared → Prop}
theorem isGen_keep {h h' : Heap} {a : Addr} {g : Nat} (x : h.IsGen a g) (k : ∀ o, h.get? a = some o → h'.get? a = some o) : h'.IsGen a g := by
  obtain ⟨o, nm, qn, ho, r⟩ := x
  exact ⟨o, nm, qn, k o ho, r⟩
/-- the consumer's own step: only what stands at zs, and new things -/
theorem Sleep.then {s' : Shared} (x : Sleep P w A Y σ zs K a g n s) (os : s'.os = s.os) (gens : s'.gens = s.gens) (k : ∀ b o, b ∉ zs → s.heap.get? b = some o → s'.heap.get? b = some o) (hl : K.Linked zs) (hz : ∀ z ∈ zs, ∀ o, s.heap.get? z = some o → s'.heap.get? z = some o) : Sleep P w A Y σ zs K a g n s' := by
  obtain ⟨ys, gs, s1, h1, h2, h3, h4, h5⟩ := x.go
  refine ⟨isGen_keep x.gen fun o e => k a o x.out.1 e, ?_, by rw [gens]; exact x.bare, x.out, ys, gs, s1, by rw [gens]; exact h1, os.trans h2, fun b o hb e => k b o hb (h3 b o hb e), lk_heap hl hz h4, h5⟩
  obtain ⟨mc, hns, hnn⟩ := x.lim
  exact ⟨mc, hns.at' fun o e => k _ o x.out.2 e, hnn⟩
theorem goes_imp {M : Model} {A : Around} {R R' : GenEnd} {Y : Protocol} (hR : ∀ n s₀ r s, R n s₀ r s → R' n s₀ r s) (hY : ∀ n s₀ v s kap kap', (∀ r s', kap r s' → kap' r s') → Y n s₀ v s kap → Y n s₀ v s kap') {n : Nat} {r : Resume} {gs : GenState} {s : Shared}
    (h : gs.Goes M A R Y n r s) : gs.Goes M A R' Y n r s := by
  cases gs with
  | fresh c => exact ⟨h.1, seg_imp hR hY n h.2⟩
  | suspended k l c p fs cl => exact seg_imp hR hY n h
  | running => exact h
  | finished => exact h
theorem yitem_mono {Y : Cx} {σ : L2.St} {zs : List Addr} {K : Want} : ∀ n s₀ v s (kap kap' : Resume → Shared → Prop), (∀ r s', kap r s' → kap' r s') → YItem Y σ zs K n s₀ v s kap → YItem Y σ zs K n s₀ v s kap' :=
  fun n s₀ v s kap kap' hk ⟨ys, y, H, σ', Wn, q1, q2, q3, q4, q5, q6, q7, q8, q9⟩ => ⟨ys, y, H, σ', Wn, q1, q2, q3, q4, q5, q6, q7, q8, fun s' a b c => hk _ _ (q9 s' a b c)⟩
/-- one item more -/
theorem pull (hh : A.handled = none) (hr : A.depth < recursionLimit) (hI : ∀ σ1 H1 s1, Inv Y [] σ1 H1 s1 → s1.heap.IsGen a g) (x : Sleep P w A Y σ zs K a g n s) (hl : K.Linked zs) (zt : ∀ z ∈ zs, ∃ o, s.heap.get? z = some o ∧ ∀ v, o.data ≠ .cell v)
    (hY : ∀ v s1 ys y σ1 H Wn, RelV y v → K.yk ys y H Wn → Inv Y [] σ1 H s1 → ZOk Y zs H s1 → Held zs s s1 → K.lk ys s1 →
      (∀ s', s'.os = s1.os → s'.gens = s1.gens → (∀ b o, b ∉ zs → s1.heap.get? b = some o → s'.heap.get? b = some o) → (∀ b ∈ zs, ∃ o, s'.heap.get? b = some o ∧ ∀ v, o.data ≠ .cell v) → K.lk (ys ++ [y]) s' → Wn → ∃ m, m < n ∧ Sleep P w A Y σ zs K a g m s') → Q (some v) s1)
    (hP : ∀ s1 ys H, K.fin ys H → Inv Y [] σ H s1 → ZOk Y zs H s1 → Held zs s s1 → K.lk ys s1 → Q none s1) : wpAny (model P w) A (pyNext (.ref a)) Q E s := by
  obtain ⟨ys0, gs, s1, h1, h2, h3, h4, h5⟩ := x.go
  have hgl : g < s.gens.size := (Array.getElem?_eq_some_iff.mp h1).1
  have rs : Rest zs s1 (s.setGen g .running) := ⟨h2, allBare_setGen x.bare rfl, h3, zt⟩
  have lk0 : K.lk ys0 (s.setGen g .running) := hl ys0 s _ (fun z _ o e => e) h4
  refine wpAny_gsz (n := g + 1) hgl (next_genG (F := fun n s₀ s₁ => REnd Y σ zs K n s₀ (.ok .next) s₁) (Er := fun _ _ => False) hh x.lim hr x.gen h1
    (goes_imp (fun n s₀ r s1 hR => .inl ⟨hR.1, .inr rfl, hR.2⟩) yitem_mono (h5 _ rs lk0)) (fun v s₁ gs' hb hv => ?_) (fun s₁ hp h' hk => ?_) fun e s₁ z => z.elim)
  · intro hsz
    obtain ⟨ys, y, H, σ1, Wn, q1, q2, q3, q4, q5, q6, q7, q8, q9⟩ := hv
    have hsz1 : g < s₁.gens.size := by
      have e : (s₁.setGen g gs').gens.size = s₁.gens.size := setGen_size _ _ _
      have e2 : g + 1 ≤ (s₁.setGen g gs').gens.size := hsz
      omega
    have ba : AllBare (s₁.setGen g gs').gens := allBare_setGen q3.bare hb
    have J : Inv Y [] σ1 H (s₁.setGen g gs') := q3.call' (ch := []) rfl (Un.kept fun _ _ e => e) q3.hok ba fun b z => by simp at z
    have gen1 := hI _ _ _ q3
    refine hY v (s₁.setGen g gs') ys y σ1 H Wn q1 q2 J (fun b hb => q6 b hb) (fun z hz o e => q7 z hz o e) (hl ys s₁ _ (fun z _ o e => e) q8) fun s' o1 g1 k1 t1 l1 wn => ?_
    have bs' : AllBare s'.gens := by rw [g1]; exact ba
    cases n with
    | zero => exact (q9 s' ⟨o1, bs', k1, t1⟩ l1 wn).elim
    | succ m =>
      refine ⟨m, Nat.lt_succ_self m, isGen_keep gen1 fun o e => k1 a o x.out.1 e, ?_, bs', x.out, ys ++ [y], gs', s₁, by rw [g1]; exact setGen_at hsz1, o1, k1, l1, fun s'' r'' l'' => ?_⟩
      · obtain ⟨mc, hns, hnn⟩ := q3.nolimit
        exact ⟨mc, hns.at' fun o e => k1 _ o x.out.2 e, hnn⟩
      · exact goes_imp (fun n s₀ r s1 hR => by
          rcases hR with ⟨q, h⟩ | ⟨e, _, z⟩
          · exact ⟨q, h.2⟩
          · exact z.elim) yitem_mono (q9 s'' r'' l'' wn)
  · intro hsz
    obtain ⟨_, ys, H, f1, f2, f3, f4, f5⟩ := hp
    have ba : AllBare (s₁.setGen g .finished).gens := allBare_setGen f2.bare rfl
    have J0 : Inv Y [] σ H { s₁.setGen g .finished with heap := h' } := f2.call' (ch := []) rfl (Un.kept hk) (f2.hok.kept hk) ba fun b z => by simp at z
    refine hP { s₁.setGen g .finished with heap := h' } ys H f1 J0 (fun b hb => ?_) (fun z hz o e => hk z o (f4 z hz o e)) (hl ys s₁ _ (fun z _ o e => hk z o e) f5)
    obtain ⟨q, o, e, d⟩ := f3 b hb
    exact ⟨q, o, hk b o e, d⟩
end
end Gx

set_option maxRecDepth 100000
set_option maxHeartbeats 4000000
namespace Gx
open PySem PySem.Spec PyProof.Rows L2 GenW
/-- a generator expression drawn out: its source, the target, the element; Pre: what is known of the code's place -/
def tGx (wi : TI) (g : TG) (te : TE) (vs : List Nat) (Pre : Hp → Prop) (fin : List V → Hp → Prop) (yk : List V → V → Hp → Prop → Prop) : L2.St → Hp → Prop := fun σ H => wi σ H fun J H1 => Pre H1 ∧ ∃ W : Nat → Nat → List V → Hp → Prop, (∃ m, W 0 m [] H1) ∧ Loop J g te vs ⟨fin, yk, fun _ _ => True⟩ (wipe σ vs) W
theorem wipe_wipe (σ : L2.St) : ∀ vs : List Nat, wipe (wipe σ vs) vs = wipe σ vs := by
  have key : ∀ (us vs : List Nat), (∀ v ∈ us, v ∈ vs) → wipe (wipe σ vs) us = wipe σ vs := by
    intro us
    induction us with
    | nil => intro vs _; rfl
    | cons u r ih =>
      intro vs h
      show (wipe (wipe σ vs) r).set u none = wipe σ vs
      rw [ih vs fun v hv => h v (List.mem_cons_of_mem _ hv)]
      have set_wipe : ∀ (vs : List Nat), u ∈ vs → (wipe σ vs).set u none = wipe σ vs := by
        intro vs
        induction vs with
        | nil => intro hu; cases hu
        | cons w t ihw =>
          intro hu
          show ((wipe σ t).set w none).set u none = (wipe σ t).set w none
          by_cases e : w = u
          · subst e
            rw [List.set_set]
          · rw [List.set_comm _ _ e]
            have : u ∈ t := by
              rcases List.mem_cons.mp hu with z | z
              · exact absurd z.symm e
              · exact z
            rw [ihw this]
      exact set_wipe vs (h u List.mem_cons_self)
  intro vs
  exact key vs vs fun _ h => h
/-- a generator expression's scope -/
structure GScope1 (scope : Scope) : Prop where
  co : scope.isCoroutine = false
  nocell : ∀ y ∈ scope.names, y.2 ≠ .cell
  dot : scope.names.lookup (".0" : Str) = some NameKind.local
def gscB (scope : Scope) : Bool := !scope.isCoroutine && (scope.names.all fun y => !decide (y.2 = .cell)) && decide (scope.names.lookup (".0" : Str) = some NameKind.local)
theorem gsc_by {scope : Scope} (h : gscB scope = true) : GScope1 scope := by
  unfold gscB at h
  simp only [Bool.and_eq_true, Bool.not_eq_true', List.all_eq_true, decide_eq_true_eq, decide_eq_false_iff_not] at h
  exact ⟨h.1.1, h.1.2, h.2⟩
section
variable {X : Cx} {pins : List (Addr × Obj)} {σ : L2.St} {H : Hp} {s : Shared} {tg elt iter : Expr} {scope : Scope} {own : List (Str × Nat)} {gpos : Pos} {wi : TI} {g : TG} {te : TE} {k : Nat} {c P : Addr} {Pre : Hp → Prop} {fin : List V → Hp → Prop} {yk : List V → V → Hp → Prop → Prop}
abbrev gEnv (X : Cx) (scope : Scope) (s : Shared) (code : Value) : Env := genEnv scope (cloFrom X.env.cells scope.names []) s.heap.objs.size code builtinsNs X.env
theorem gen_ready {Q' : Value → Shared → Prop} (hc : X.calm = true) (hN : X.N.Nodup) (hi : PI X tg iter wi) (ok : BlkOk X.N X.env.scope scope own) (G : GScope1 scope) (hr : Room (k + 1) X.A)
    (hs : ∀ H, Pre H → Site X H c P ∧ H P = some (TbO P))
    (hg : ∀ (A : Around) (s : Shared) (H : Hp) (code : Value) (fp : List Addr) (pn : List (Addr × Obj)), Room k (A.deeper (gEnv X scope s code)) → PG (gcx X A s H (gEnv X scope s code) fp pn) tg g)
    (he : ∀ (A : Around) (s : Shared) (H : Hp) (code : Value) (fp : List Addr) (pn : List (Addr × Obj)), Room k (A.deeper (gEnv X scope s code)) → PE (gcx X A s H (gEnv X scope s code) fp pn) elt te)
    (hf : ∀ v, genFold iter X.env v = pure v) (I : Inv X pins σ H s) (h : tGx wi g te (own.map (·.2)) Pre fin yk σ H) (hQ : ∀ u s', Ready X pins σ fin yk u s' → Q' u s') :
    wpAny (model X.prog X.w) X.A (eval (.GeneratorExp elt [⟨tg, iter, [], 0⟩] scope gpos) X.env) Q' X.xe s := by
  have hfree : ∀ y ∈ scope.names, y.2 = .free → ∃ c, X.env.cells.lookup y.1 = some c := fun y hy e => by
    rcases ok.free y hy e with k | k
    · exact I.ok.has _ (.inl k)
    · exact I.ok.has _ (.inr k)
  refine wpAny_GeneratorExp_make G.co (closure_ok hfree) G.nocell G.dot ok.kind hr.depth (thn (hi.run pins s σ H _ I h) fun xv s1 hx => thn hx fun itv s2 h2 => ?_) hf
  obtain ⟨it, fp, tn, J, H2, e, I2, T, st2, f2, hp, W, ⟨m0, w0⟩, hL⟩ := h2
  subst e
  obtain ⟨S, hP⟩ := hs H2 hp
  refine ⟨I2.nolimit, code_site S hP I2 fun cv s3 I3 hsz hk3 hg3 => blt_site S.bm I3 fun h' hn' hs' => hQ _ _ ?_⟩
  have nP : ∀ b, H2 b = none → b ≠ P := fun b e z => by rw [z, hP] at e; cases e
  have f3 : ∀ b ∈ fp, FpOk X pins H2 b ∧ b < s3.heap.objs.size := fun b hb => by
    obtain ⟨o, e, _⟩ := T.obj _ _ st2 b hb
    exact ⟨f2 b hb, Heap.lt_size (hk3 b o (nP b (f2 b hb).1) e)⟩
  have st3 : tn 0 s3.heap := T.keep _ _ _ st2 fun b hb o e => hk3 b o (nP b (f2 b hb).1) e
  have sz' : h'.objs.size = s3.heap.objs.size + 1 := by rw [hs'.1, Heap.size_push]
  have kp' : ∀ b o, s3.heap.get? b = some o → h'.get? b = some o := fun b o e => hs'.extBut b o (Nat.ne_of_lt (Heap.lt_size e)) (Heap.get?_push_of_some _ e)
  generalize hgo : ({ cls := .type "generator", data := .fields #[.int s3.gens.size 0, .str "<genexpr>" (s3.toks + 1), .str (X.env.qual ++ "<genexpr>") (s3.toks + 1 + 1)] } : Obj) = go
  have gpush : (h'.push go).get? h'.objs.size = some go := Heap.get?_push_size _ (by subst hgo; rfl)
  have isg : ∀ {h : Heap}, h.get? h'.objs.size = some go → h.IsGen h'.objs.size s3.gens.size := fun {h} e => ⟨go, _, _, e, by subst hgo; rfl, by subst hgo; rfl, by subst hgo; rfl⟩
  have hlt : s3.heap.objs.size < h'.objs.size := by rw [sz']; exact Nat.lt_succ_self _
  have kp : ∀ b o, s3.heap.get? b = some o → (h'.push go).get? b = some o := fun b o e => Heap.get?_push_of_some _ (kp' b o e)
  refine ⟨h'.objs.size, s3.gens.size, _, gcx X (in3 X.A).in1 s3 H2 (gEnv X scope s3 cv) fp [(h'.objs.size, go)], wipe σ (own.map (·.2)), m0, rfl, isg gpush, Array.getElem?_push_size .., I3.nolimit.keeps kp, I3.bare.push rfl, fun σ1 H1 s1 J1 => ⟨gen_back I3 f3 J1, ?_⟩, fun zs lk s4 hz hk4 os4 ba4 hlk lk0 => ?_⟩
  · exact isg (J1.pin (h'.objs.size, go) (List.mem_append_left _ (List.mem_singleton.mpr rfl))).1
  · have kk : ∀ b o, s3.heap.get? b = some o → s4.heap.get? b = some o := fun b o e => hk4 b o (kp b o e)
    have hns : s4.heap.Ns s3.heap.objs.size (fun y => if y = ".0" then some (.ref it) else none) := (hn'.push go).at' fun o e => hk4 _ o e
    have szp : (h'.push go).objs.size = h'.objs.size + 1 := Heap.size_push ..
    have J0 := gen_start (A := (in3 X.A).in1) (code := cv) (go := go) I3 ok hN G.nocell f3 (show ((in3 X.A).in1).handled = none from hr.hd) (show ((in3 X.A).in1).frames = some X.stack from I3.ok.frames) hns kk os4 ba4 (hk4 _ _ gpush) hlt (fun v q => by subst hgo; cases q)
    have hroom : Room k ((in3 X.A).in1.deeper (gEnv X scope s3 cv)) := ⟨hr.hd, by have := hr.dp; show X.A.depth + 1 + 3 * k + 5 < _; omega, by have := hr.un; show X.A.units + 1 + 1 + 1 + 1 + 3 + 16 * k + 200 < _; omega⟩
    have big : ∀ z ∈ zs, h'.objs.size < z := fun z hz' => by
      have h1 := (hz z hz').1
      have h2 : h'.objs.size + 1 ≤ z := by rw [← szp]; exact h1
      exact h2
    refine seg_start (Y := gcx X (in3 X.A).in1 s3 H2 (gEnv X scope s3 cv) fp [(h'.objs.size, go)]) rfl rfl (fun _ _ z => z) G.co T (fun b hb => .inl hb) (fun b hb => ⟨?_, ?_, ?_, ?_⟩) (fun b hb hb2 => ?_) (hg _ _ _ _ _ _ hroom) (he _ _ _ _ _ _ hroom) hlk
      (fun i m ys H' hW => hL i m ys H' hW) (wipe_wipe σ _).symm m0 [] s4 s4 H2 w0 J0 (T.keep _ _ _ st3 fun b _ o e => kk b o e) (fun b hb => (f3 b hb).1.1) (fun z hz' => ⟨⟨?_, ?_, ?_, .inr ?_, fun x c e => ?_, fun p hp => ?_⟩, (hz z hz').2⟩) (fun _ _ _ e => e) lk0
    · exact Nat.ne_of_lt (f3 b hb).2
    · exact J0.ok.exfs b hb
    · exact (J0.ok.exf b hb).2
    · intro p hp
      have hp : p = (h'.objs.size, go) := by simpa [gcx] using hp
      rw [hp]
      exact Nat.ne_of_gt (Nat.lt_trans (f3 b hb).2 hlt)
    · exact absurd (Nat.lt_trans (f3 b hb2).2 (Nat.lt_trans hlt (big b hb))) (Nat.lt_irrefl _)
    · exact I3.hok.fresh (Nat.le_of_lt (Nat.lt_trans hlt (big z hz')))
    · exact Nat.ne_of_gt (Nat.lt_trans hlt (big z hz'))
    · intro hm
      obtain ⟨_, o, ho, _⟩ := I3.stack.mem hm
      exact absurd (Nat.lt_trans (Heap.lt_size ho) (Nat.lt_trans hlt (big z hz'))) (Nat.lt_irrefl _)
    · exact Nat.le_of_lt (Nat.lt_trans hlt (big z hz'))
    · obtain ⟨v, o, ho, _⟩ := J0.cell x c e
      intro ez
      have hcl : c < s3.heap.objs.size := by
        have e' : (cloFrom X.env.cells scope.names []).lookup x = some c := e
        rcases cloFrom_mem (PySem.mem_of_lookup e') with hm | ⟨h1, h2⟩
        · cases hm
        · obtain ⟨c1, hc1⟩ := hfree _ h1 rfl
          have hc1 : X.env.cells.lookup x = some c1 := hc1
          have e2 : c = c1 := by rw [h2, hc1]; rfl
          obtain ⟨w', z'⟩ := I3.cell x c1 hc1
          rw [e2]
          exact z'.lt
      rw [ez] at hcl
      exact absurd (Nat.lt_trans hcl (Nat.lt_trans hlt (big z hz'))) (Nat.lt_irrefl _)
    · have hp : p = (h'.objs.size, go) := by simpa [gcx] using hp
      rw [hp]
      exact Nat.ne_of_lt (big z hz')
end
end Gx

set_option maxRecDepth 100000
set_option maxHeartbeats 4000000
namespace Gx
open PySem PySem.Spec PyProof.Rows L2 GenW
section
variable {X : Cx} {pins : List (Addr × Obj)} {σ : L2.St} {H : Hp} {s : Shared} {fin : List V → Hp → Prop} {yk : List V → V → Hp → Prop → Prop}
/-- what a consumer gets -/
structure Src (X : Cx) (pins : List (Addr × Obj)) (σ : L2.St) (fin : List V → Hp → Prop) (yk : List V → V → Hp → Prop → Prop) (a : Addr) (g n : Nat) (Y : Cx) (σ' : L2.St) (s : Shared) : Prop where
  gen : s.heap.IsGen a g
  lim : s.heap.NoLimit
  bare : AllBare s.gens
  back : ∀ σ1 H1 s1, Inv Y [] σ1 H1 s1 → Inv X pins σ H1 s1 ∧ s1.heap.IsGen a g
  begin_ : ∀ (zs : List Addr) (lk : List V → Shared → Prop) (s2 : Shared), (∀ z ∈ zs, s.heap.objs.size ≤ z) → (Want.mk fin yk lk).Linked zs → s2.os = s.os → s2.gens = s.gens → (∀ b o, s.heap.get? b = some o → s2.heap.get? b = some o) → lk [] s2 →
    Sleep X.prog X.w (in3 X.A) Y σ' zs ⟨fin, yk, lk⟩ a g n s2
theorem Ready.src {u : Value} (R : Ready X pins σ fin yk u s) : ∃ a g n Y σ', u = .ref a ∧ Src X pins σ fin yk a g n Y σ' s := by
  obtain ⟨a, g, c, Y, σ', n, rfl, hg, hgs, hl, hb, hback, hgo⟩ := R
  refine ⟨a, g, n, Y, σ', rfl, hg, hl, hb, hback, fun zs lk s2 hz hlk os gs hk lk0 => ?_⟩
  have ha : a < s.heap.objs.size := by obtain ⟨o, _, _, e, _⟩ := hg; exact Heap.lt_size e
  have hcl : cStatics < s.heap.objs.size := let ⟨_, hns, _⟩ := hl; hns.lt
  refine ⟨isGen_keep hg fun o e => hk a o e, ?_, by rw [gs]; exact hb, ⟨fun h => Nat.not_lt.mpr (hz a h) ha, fun h => Nat.not_lt.mpr (hz _ h) hcl⟩, [], .fresh c, s, by rw [gs]; exact hgs, os, fun b o _ e => hk b o e, lk0, fun s' r l => ⟨rfl, ?_⟩⟩
  · obtain ⟨mc, hns, hnn⟩ := hl
    exact ⟨mc, hns.at' fun o e => hk _ o e, hnn⟩
  · exact hgo zs lk s' (fun z hzz => ⟨hz z hzz, r.there z hzz⟩) (fun b o e => r.keep b o (fun h => Nat.not_lt.mpr (hz b h) (Heap.lt_size e)) e) r.os r.bare hlk l
theorem map_int_inj : ∀ {a b : List Int}, a.map V.int = b.map V.int → a = b
  | [], [], _ => rfl
  | [], _ :: _, h => by cases h
  | _ :: _, [], h => by cases h
  | x :: xs, y :: ys, h => by
    injection h with h1 h2
    injection h1 with h1
    rw [h1, map_int_inj h2]

/-! ### sum -/
def finSum (Q : VK) : List V → Hp → Prop := fun ys H => ∃ ns : List Int, ys = ns.map V.int ∧ Q (.int ns.sum) H
def ykInt : List V → V → Hp → Prop → Prop := fun _ y _ Wn => (∃ k, y = .int k) ∧ Wn
def lkSum (S : Addr) : List V → Shared → Prop := fun ys s => ∃ (ns : List Int) (t : Tok) (c : Nat), ys = ns.map V.int ∧ s.heap.get? S = some { cls := .type "list", dict := none, data := .seq #[.int ns.sum t] c, slots := #[] }
theorem lkSum_linked {S : Addr} {fin : List V → Hp → Prop} {yk : List V → V → Hp → Prop → Prop} : (Want.mk fin yk (lkSum S)).Linked [S] := fun ys s s' h ⟨ns, t, c, e, q⟩ => ⟨ns, t, c, e, h S (by simp) _ q⟩
theorem sum_drain {Q : VK} {a S : Addr} {g : Nat} {Y : Cx} {σ' : L2.St} {R : Result → Shared → Prop} (hh : X.A.handled = none) (hd : X.A.depth < recursionLimit) (hback : ∀ σ1 H1 s1, Inv Y [] σ1 H1 s1 → Inv X pins σ H1 s1 ∧ s1.heap.IsGen a g)
    (hR : ∀ z t H s', Q (.int z) H → Inv X pins σ H s' → R (.ok (.ret (.int z t))) s') :
    ∀ (n : Nat) (s : Shared) (z : Int) (t : Tok) (c : Nat) (st : Int), (st = 0 ∨ st = 2) → Sleep X.prog X.w (in3 X.A) Y σ' [S] ⟨finSum Q, ykInt, lkSum S⟩ a g n s →
      s.heap.get? S = some { cls := .type "list", dict := none, data := .seq #[.int z t] c, slots := #[] } → codeAny (model X.prog X.w) X.A (.builtin "sum.loop" ⟨[.ref a, .ref S, rawInt st, rawInt 0], []⟩) R s := by
  intro n
  induction n using Nat.strongRecOn with
  | ind n ih =>
    intro s z t c st hst sl hS
    refine codeAny_builtin F.entry_sum_loop ?_
    rw [Around.under_plainId F.plain_sum_loop _]
    show wpAny _ X.A.in1 (seqItems? (.ref S) >>= _) _ _ s
    refine wpAny_bind (wpAny_seqItems hS rfl ?_)
    show wpAny _ X.A.in1 (tryCatch (pyNext (.ref a)) _ >>= _) _ _ s
    refine wpAny_bind (wpAny_tryCatch (wpAny_of_in1 (wpAny_of_in1 (pull (A := in3 X.A) hh hd (fun σ1 H1 s1 J => (hback σ1 H1 s1 J).2) sl lkSum_linked (fun b hb => ?_) (fun v s1 ys y σ1 H Wn rv yk J zo he lk cont => ?_) (fun s1 ys H fn J zo he lk => ?_)))))
    · have e : b = S := by simpa using hb
      subst e
      exact ⟨_, hS, fun v q => by cases q⟩
    · obtain ⟨⟨k, rfl⟩, wn⟩ := yk
      obtain ⟨tk, rfl⟩ := rv
      have hS' := he S (by simp) _ hS
      obtain ⟨ns, t2, c2, rfl, q2⟩ := lk
      rw [hS'] at q2
      have ez : z = ns.sum := by
        injection q2 with q2
        injection q2 with _ _ q2
        injection q2 with q2
        have q3 := congrArg Array.toList q2
        simp at q3
        exact q3.1
      subst ez
      have next : ∀ (s2 : Shared) (c3 : Nat) (t3 : Tok) (st' : Int), (st' = 0 ∨ st' = 2) → s2.os = s1.os → s2.gens = s1.gens → (∀ b o, b ≠ S → s1.heap.get? b = some o → s2.heap.get? b = some o) → s2.heap.get? S = some { cls := .type "list", dict := none, data := .seq #[.int (ns.sum + k) t3] c3, slots := #[] } →
          codeAny (model X.prog X.w) X.A (.builtin "sum.loop" ⟨[.ref a, .ref S, rawInt st', rawInt 0], []⟩) R s2 := fun s2 c3 t3 st' h1 h2 h3 h4 h5 => by
        have e : (ns ++ [k]).sum = ns.sum + k := by simp
        obtain ⟨m, hm, sl'⟩ := cont s2 h2 h3 (fun b o hb e => h4 b o (fun z => hb (by simp [z])) e) (fun b hb => by
          have e : b = S := by simpa using hb
          subst e
          exact ⟨_, h5, fun v q => by cases q⟩) ⟨ns ++ [k], t3, c3, by simp, by rw [e]; exact h5⟩ wn
        exact ih m hm s2 (ns.sum + k) t3 c3 st' h1 sl' h5
      rcases hst with rfl | rfl
      · show wpAny _ X.A.in1 (if (_ : Bool) = true then (mkInt (ns.sum + k) >>= _) else _) _ _ _
        split
        · refine wpAny_bind (wpAny_mkInt ?_)
          show wpAny _ X.A.in1 (updateSeq S (fun _ => #[.int (ns.sum + k) s1.toks]) >>= _) _ _ _
          refine wpAny_bind ?_
          refine wpAny_updateSeq hS' rfl (wpAny_pure ⟨plainId_quiet F.plain_sum_loop _, next _ _ s1.toks 0 (.inl rfl) rfl rfl (fun b o hb e => (Heap.get?_update_other _ _ (Ne.symm hb)).trans e) (Heap.get?_update_self _ hS' rfl)⟩)
        · refine wpAny_bind (wpAny_rule ?_)
          refine wpAny_bind (wpAny_attempt (wpAny_holding (wpAny_add_int ?_)))
          show wpAny _ X.A.in1 (updateSeq S (fun _ => #[.int (ns.sum + k) s1.toks]) >>= _) _ _ _
          refine wpAny_bind (wpAny_updateSeq hS' rfl ?_)
          have hS2 := Heap.get?_update_self (Obj.mapSeq fun _ => #[Value.int (ns.sum + k) s1.toks]) hS' rfl
          refine wpAny_bind (wpAny_letGo ?_)
          refine wpAny_bind (wpAny_updateSeq hS2 rfl (wpAny_pure ⟨plainId_quiet F.plain_sum_loop _, next _ _ s1.toks 2 (.inr rfl) rfl rfl (fun b o hb e => (Heap.get?_update_other _ _ (Ne.symm hb)).trans ((Heap.get?_update_other _ _ (Ne.symm hb)).trans e)) (Heap.get?_update_self _ hS2 rfl)⟩))
      · show wpAny _ X.A.in1 ((holding [Value.int k tk] (binaryOp .Add (.int ns.sum t) (.int k tk))).attempt >>= _) _ _ _
        refine wpAny_bind (wpAny_attempt (wpAny_holding (wpAny_add_int ?_)))
        show wpAny _ X.A.in1 (updateSeq S (fun _ => #[.int (ns.sum + k) s1.toks]) >>= _) _ _ _
        refine wpAny_bind (wpAny_updateSeq hS' rfl ?_)
        have hS2 := Heap.get?_update_self (Obj.mapSeq fun _ => #[Value.int (ns.sum + k) s1.toks]) hS' rfl
        refine wpAny_bind (wpAny_letGo ?_)
        refine wpAny_bind (wpAny_updateSeq hS2 rfl (wpAny_pure ⟨plainId_quiet F.plain_sum_loop _, next _ _ s1.toks 2 (.inr rfl) rfl rfl (fun b o hb e => (Heap.get?_update_other _ _ (Ne.symm hb)).trans ((Heap.get?_update_other _ _ (Ne.symm hb)).trans e)) (Heap.get?_update_self _ hS2 rfl)⟩))
    · have hS' := he S (by simp) _ hS
      obtain ⟨ns, t2, c2, rfl, q2⟩ := lk
      rw [hS'] at q2
      have ez : z = ns.sum := by
        injection q2 with q2
        injection q2 with _ _ q2
        injection q2 with q2
        have q3 := congrArg Array.toList q2
        simp at q3
        exact q3.1
      obtain ⟨ns', e1, q⟩ := fn
      rw [map_int_inj e1] at ez
      refine wpAny_pure (hR z t H s1 (by rw [ez]; exact q) (hback _ _ _ J).1)
theorem call_sumG {Q : VK} {u : Value} {E : Value → Shared → Prop} (hr : Room 0 X.A) (R : Ready X pins σ (finSum Q) ykInt u s) : wpAny (model X.prog X.w) X.A (call (.builtin "sum") [u]) (EP X pins σ Q) E s := by
  obtain ⟨a, g, n, Y, σ', rfl, S⟩ := R.src
  refine call_function_tree F.kind_sum F.plain_sum F.entry_sum (F.args_sum1 _) ?_
  unfold Builtin.«sum»
  simp only [List.length_cons, List.length_nil]
  rw [if_neg (by decide)]
  refine wpAny_bind (wpAny_of_eq (show Builtin.Builtins.bindParams "sum" ["start"] 0 { } = pure [none] from rfl) ?_)
  refine wpAny_bind (wpAny_pyIter_gen S.gen ?_)
  refine wpAny_bind (wpAny_mkInt ?_)
  refine wpAny_bind (wpAny_pure ?_)
  simp only [List.forIn_cons, List.forIn_nil]
  refine wpAny_bind (wpAny_bind (wpAny_bind (wpAny_isInstance (T := "int") (b := false) (typeIs_int _ _ _) PySem.sub_int_str ?_)))
  simp only [Bool.false_eq_true, if_false]
  refine wpAny_pure (wpAny_bind (wpAny_bind (wpAny_isInstance (T := "int") (b := false) (typeIs_int _ _ _) PySem.sub_int_bytes ?_)))
  simp only [Bool.false_eq_true, if_false]
  refine wpAny_pure (wpAny_bind (wpAny_bind (wpAny_isInstance (T := "int") (b := false) (typeIs_int _ _ _) PySem.sub_int_bytearray ?_)))
  simp only [Bool.false_eq_true, if_false]
  refine wpAny_pure (wpAny_pure ?_)
  refine wpAny_bind (wpAny_newObj_type ?_)
  have hS := Heap.get?_push_size s.heap (o := { cls := .type "list", data := .seq #[.int 0 s.toks] }) rfl
  refine wpAny_pure ⟨plainId_quiet F.plain_sum_loop _, sum_drain (S := s.heap.objs.size) hr.hd hr.depth S.back (fun z t H s' q J => ⟨.int z, H, J, ⟨t, rfl⟩, q⟩) n _ 0 s.toks 0 0 (.inl rfl)
    (S.begin_ [s.heap.objs.size] (lkSum s.heap.objs.size) _ (fun z hz => ?_) lkSum_linked rfl rfl (fun b o e => Heap.get?_push_of_some _ e) ⟨[], s.toks, 0, rfl, hS⟩) hS⟩
  have e : z = s.heap.objs.size := by simpa using hz
  rw [e]
  exact Nat.le_refl _
end
end Gx

set_option maxRecDepth 100000
set_option maxHeartbeats 4000000
namespace Gx
open PySem PySem.Spec PyProof.Rows L2 GenW
section
variable {X : Cx} {pins : List (Addr × Obj)} {σ : L2.St} {H : Hp} {s : Shared} {fin : List V → Hp → Prop} {yk : List V → V → Hp → Prop → Prop}
/-! ### all, any -/
def lk0 : List V → Shared → Prop := fun _ _ => True
theorem lk0_linked {zs : List Addr} {fin : List V → Hp → Prop} {yk : List V → V → Hp → Prop → Prop} : (Want.mk fin yk lk0).Linked zs := fun _ _ _ _ _ => trivial
def finB (b : Bool) (Q : VK) : List V → Hp → Prop := fun _ H => Q (.bl b) H
/-- b: what ends it early -/
def ykB (b : Bool) (Q : VK) : List V → V → Hp → Prop → Prop := fun _ y H Wn => ∃ k, y = .bl k ∧ (k = b → Q (.bl b) H) ∧ (k = (!b) → Wn)
theorem any_drain {Q : VK} {a : Addr} {g : Nat} {Y : Cx} {σ' : L2.St} {R : Result → Shared → Prop} (hh : X.A.handled = none) (hd : X.A.depth < recursionLimit) (hback : ∀ σ1 H1 s1, Inv Y [] σ1 H1 s1 → Inv X pins σ H1 s1 ∧ s1.heap.IsGen a g)
    (hR : ∀ b H s', Q (.bl b) H → Inv X pins σ H s' → R (.ok (.ret (.bool b))) s') :
    ∀ (n : Nat) (s : Shared), Sleep X.prog X.w (in3 X.A) Y σ' [] ⟨finB false Q, ykB true Q, lk0⟩ a g n s → codeAny (model X.prog X.w) X.A (.builtin "any.loop" ⟨[.ref a], []⟩) R s := by
  intro n
  induction n using Nat.strongRecOn with
  | ind n ih =>
    intro s sl
    refine codeAny_builtin F.entry_any_loop ?_
    rw [Around.under_plainId F.plain_any_loop _]
    show wpAny _ X.A.in1 (pyNext (.ref a) >>= _) _ _ s
    refine wpAny_bind (wpAny_of_in1 (wpAny_of_in1 (pull (A := in3 X.A) hh hd (fun σ1 H1 s1 J => (hback σ1 H1 s1 J).2) sl lk0_linked (fun b hb => by cases hb) (fun v s1 ys y σ1 H Wn rv yk J zo he lk cont => ?_) (fun s1 ys H fn J zo he lk => ?_))))
    · obtain ⟨k, rfl, q1, q2⟩ := yk
      cases rv
      refine wpAny_bind (wpAny_holding (wpAny_truthy_bool ?_))
      refine wpAny_bind (wpAny_letGo ?_)
      cases k with
      | false =>
        simp only [Bool.false_eq_true, if_false]
        obtain ⟨m, hm, sl'⟩ := cont s1 rfl rfl (fun _ _ _ e => e) (fun b hb => by cases hb) trivial (q2 rfl)
        exact wpAny_pure ⟨plainId_quiet F.plain_any_loop _, ih m hm s1 sl'⟩
      | true =>
        simp only [if_true]
        exact wpAny_bind (wpAny_rule (wpAny_pure (hR true H s1 (q1 rfl) (hback _ _ _ J).1)))
    · exact wpAny_bind (wpAny_rule (wpAny_pure (hR false H s1 fn (hback _ _ _ J).1)))
theorem all_drain {Q : VK} {a : Addr} {g : Nat} {Y : Cx} {σ' : L2.St} {R : Result → Shared → Prop} (hh : X.A.handled = none) (hd : X.A.depth < recursionLimit) (hback : ∀ σ1 H1 s1, Inv Y [] σ1 H1 s1 → Inv X pins σ H1 s1 ∧ s1.heap.IsGen a g)
    (hR : ∀ b H s', Q (.bl b) H → Inv X pins σ H s' → R (.ok (.ret (.bool b))) s') :
    ∀ (n : Nat) (s : Shared), Sleep X.prog X.w (in3 X.A) Y σ' [] ⟨finB true Q, ykB false Q, lk0⟩ a g n s → codeAny (model X.prog X.w) X.A (.builtin "all.loop" ⟨[.ref a], []⟩) R s := by
  intro n
  induction n using Nat.strongRecOn with
  | ind n ih =>
    intro s sl
    refine codeAny_builtin F.entry_all_loop ?_
    rw [Around.under_plainId F.plain_all_loop _]
    show wpAny _ X.A.in1 (pyNext (.ref a) >>= _) _ _ s
    refine wpAny_bind (wpAny_of_in1 (wpAny_of_in1 (pull (A := in3 X.A) hh hd (fun σ1 H1 s1 J => (hback σ1 H1 s1 J).2) sl lk0_linked (fun b hb => by cases hb) (fun v s1 ys y σ1 H Wn rv yk J zo he lk cont => ?_) (fun s1 ys H fn J zo he lk => ?_))))
    · obtain ⟨k, rfl, q1, q2⟩ := yk
      cases rv
      refine wpAny_bind (wpAny_holding (wpAny_truthy_bool ?_))
      refine wpAny_bind (wpAny_letGo ?_)
      cases k with
      | true =>
        simp only [if_true]
        obtain ⟨m, hm, sl'⟩ := cont s1 rfl rfl (fun _ _ _ e => e) (fun b hb => by cases hb) trivial (q2 rfl)
        exact wpAny_pure ⟨plainId_quiet F.plain_all_loop _, ih m hm s1 sl'⟩
      | false =>
        simp only [Bool.false_eq_true, if_false]
        exact wpAny_bind (wpAny_rule (wpAny_pure (hR false H s1 (q1 rfl) (hback _ _ _ J).1)))
    · exact wpAny_bind (wpAny_rule (wpAny_pure (hR true H s1 fn (hback _ _ _ J).1)))
theorem call_anyG {Q : VK} {u : Value} {E : Value → Shared → Prop} (hr : Room 0 X.A) (R : Ready X pins σ (finB false Q) (ykB true Q) u s) : wpAny (model X.prog X.w) X.A (call (.builtin "any") [u]) (EP X pins σ Q) E s := by
  obtain ⟨a, g, n, Y, σ', rfl, S⟩ := R.src
  refine call_function_tree F.kind_any F.plain_any F.entry_any (F.args_any1 _) ?_
  unfold Builtin.«any»
  refine wpAny_bind (m := oneArg "any" _) (wpAny_pure ?_)
  refine wpAny_bind (wpAny_pyIter_gen S.gen ?_)
  exact wpAny_pure ⟨plainId_quiet F.plain_any_loop _, any_drain hr.hd hr.depth S.back (fun b H s' q J => ⟨.bl b, H, J, rfl, q⟩) n s (S.begin_ [] lk0 s (fun z hz => by cases hz) lk0_linked rfl rfl (fun _ _ e => e) trivial)⟩
theorem call_allG {Q : VK} {u : Value} {E : Value → Shared → Prop} (hr : Room 0 X.A) (R : Ready X pins σ (finB true Q) (ykB false Q) u s) : wpAny (model X.prog X.w) X.A (call (.builtin "all") [u]) (EP X pins σ Q) E s := by
  obtain ⟨a, g, n, Y, σ', rfl, S⟩ := R.src
  refine call_function_tree F.kind_all F.plain_all F.entry_all (F.args_all1 _) ?_
  unfold Builtin.«all»
  refine wpAny_bind (m := oneArg "all" _) (wpAny_pure ?_)
  refine wpAny_bind (wpAny_pyIter_gen S.gen ?_)
  exact wpAny_pure ⟨plainId_quiet F.plain_all_loop _, all_drain hr.hd hr.depth S.back (fun b H s' q J => ⟨.bl b, H, J, rfl, q⟩) n s (S.begin_ [] lk0 s (fun z hz => by cases hz) lk0_linked rfl rfl (fun _ _ e => e) trivial)⟩

/-! ### all items, into a list of the machine's own -/
def finL (Q : List V → Hp → Prop) : List V → Hp → Prop := fun ys H => Q ys H
def ykL : List V → V → Hp → Prop → Prop := fun ys _ _ Wn => ys.length < sizeLine ∧ Wn
def lkL (S : Addr) : List V → Shared → Prop := fun ys s => ys.length ≤ sizeLine ∧ ∃ (acc : Array Value) (c : Nat), Vals ys acc.toList ∧ s.heap.get? S = some { cls := .type "list", dict := none, data := .seq acc c, slots := #[] }
theorem lkL_linked {S : Addr} {fin : List V → Hp → Prop} {yk : List V → V → Hp → Prop → Prop} : (Want.mk fin yk (lkL S)).Linked [S] := fun ys s s' h ⟨z, acc, c, e, q⟩ => ⟨z, acc, c, e, h S (by simp) _ q⟩
theorem extend_drain {Q : List V → Hp → Prop} {B : Around} {a S : Addr} {g : Nat} {Y : Cx} {σ' : L2.St} {res : Value} {R : Result → Shared → Prop} (hB : B.in1 = in3 X.A) (hh : X.A.handled = none) (hd : X.A.depth < recursionLimit) (hback : ∀ σ1 H1 s1, Inv Y [] σ1 H1 s1 → Inv X pins σ H1 s1 ∧ s1.heap.IsGen a g)
    (hR : ∀ ys acc c H s', Q ys H → Vals ys acc.toList → ys.length ≤ sizeLine → s'.heap.get? S = some { cls := .type "list", dict := none, data := .seq acc c, slots := #[] } → H S = none → Inv X pins σ H s' → R (.ok (.ret res)) s') :
    ∀ (n : Nat) (s : Shared), (∃ o, s.heap.get? S = some o ∧ ∀ v, o.data ≠ .cell v) → Sleep X.prog X.w (in3 X.A) Y σ' [S] ⟨finL Q, ykL, lkL S⟩ a g n s →
      codeAny (model X.prog X.w) B (.builtin "list.extend.loop" ⟨[.ref S, .ref a, res], []⟩) R s := by
  intro n
  induction n using Nat.strongRecOn with
  | ind n ih =>
    intro s hS sl
    refine codeAny_builtin F.entry_extend_loop ?_
    rw [Around.under_plainId F.plain_extend_loop _, hB]
    show wpAny _ (in3 X.A) (pyNext (.ref a) >>= _) _ _ s
    refine wpAny_bind (pull (A := in3 X.A) hh hd (fun σ1 H1 s1 J => (hback σ1 H1 s1 J).2) sl lkL_linked (fun b hb => ?_) (fun v s1 ys y σ1 H Wn rv yk J zo he lk cont => ?_) (fun s1 ys H fn J zo he lk => ?_))
    · have e : b = S := by simpa using hb
      subst e
      exact hS
    · obtain ⟨hlt, wn⟩ := yk
      obtain ⟨hle, acc, c, rva, q⟩ := lk
      have hasz : acc.size = ys.length := by
        have e1 := rva.length
        have e2 : acc.toList.length = acc.size := by simp
        omega
      show wpAny _ (in3 X.A) (updateSeq S (·.push v) >>= _) _ _ _
      have hS2 := Heap.get?_update_self (Obj.mapSeq (·.push v)) q rfl
      refine wpAny_bind ?_
      refine wpAny_updateSeq q rfl (wpAny_pure ⟨plainId_quiet F.plain_extend_loop _, ?_⟩) (by omega) (by show (acc.push v).size ≤ sizeLine + 1; rw [Array.size_push]; omega)
      obtain ⟨m, hm, sl'⟩ := cont { s1 with heap := s1.heap.update S (Obj.mapSeq (·.push v)) } rfl rfl (fun b o hb e => (Heap.get?_update_other _ _ (fun z => hb (by simp [← z]))).trans e) (fun b hb => by
        have e : b = S := by simpa using hb
        subst e
        exact ⟨_, hS2, fun v q => by cases q⟩) ⟨by rw [List.length_append]; exact hlt, acc.push v, _, by rw [Array.toList_push]; exact rva.append (.cons rv .nil), hS2⟩ wn
      exact ih m hm _ ⟨_, hS2, fun v q => by cases q⟩ sl'
    · obtain ⟨hle, acc, c, rva, q⟩ := lk
      exact wpAny_pure (hR ys acc c H s1 fn rva hle q (zo S (by simp)).1.1 (hback _ _ _ J).1)
theorem collectG {Q : List V → Hp → Prop} {a : Addr} {g n : Nat} {Y : Cx} {σ' : L2.St} {Q' : List Value → Shared → Prop} {E : Value → Shared → Prop} (hr : Room 0 X.A) (Sr : Src X pins σ (finL Q) ykL a g n Y σ' s)
    (hQ : ∀ ys (us : List Value) H s', Q ys H → Vals ys us → ys.length ≤ sizeLine → Inv X pins σ H s' → Q' us s') : wpAny (model X.prog X.w) X.A.in1.in1 (collect (.ref a)) Q' E s := by
  have hga : a < s.heap.objs.size := by obtain ⟨o, _, _, e, _⟩ := Sr.gen; exact Heap.lt_size e
  have hSa : s.heap.objs.size ≠ a := Nat.ne_of_gt hga
  unfold collect
  refine wpAny_bind (wpAny_runValue (codeAny_builtin F.entry_proto_collect ?_))
  rw [Around.under_plainId F.plain_proto_collect _]
  show wpAny _ (in3 X.A) (newList [] >>= fun l => again (.builtin "list.__iadd__" ⟨[l, .ref a], []⟩)) _ _ s
  refine wpAny_bind (wpAny_newObj_type ?_)
  refine wpAny_pure ⟨plainId_quiet F.plain_list_iadd _, codeAny_builtin F.entry_list_iadd ?_⟩
  rw [Around.under_plainId F.plain_list_iadd _]
  have gen1 : (s.heap.push { cls := .type "list", data := .seq ([] : List Value).toArray }).IsGen a g := Sr.gen.push _
  have ty : ({ s with heap := s.heap.push { cls := .type "list", data := .seq ([] : List Value).toArray } } : Shared).TypeIs (.ref a) "generator" := Heap.IsGen.typeIs (s := { s with heap := _ }) gen1
  show wpAny _ (in3 X.A) (Builtin.List.listExtendWith (.ref s.heap.objs.size) (.ref a) (.ref s.heap.objs.size)) _ _ _
  unfold Builtin.List.listExtendWith
  refine wpAny_bind (wpAny_typeOf ty ?_)
  have h1 : Builtin.List.listSameRef (.ref s.heap.objs.size) (.ref a) = false := by simp [Builtin.List.listSameRef, hSa]
  have h2 : (Value.type "generator" == Value.type "list") = false := by decide
  have h3 : (Value.type "generator" == Value.type "tuple") = false := by decide
  simp only [h1, h2, h3, Bool.or_false, Bool.false_eq_true, if_false]
  refine wpAny_bind (wpAny_pyIter_gen (s := { s with heap := _ }) gen1 ?_)
  refine wpAny_bind (wpAny_holding ?_)
  unfold Builtin.List.listLengthHint
  refine wpAny_bind (wpAny_specialOf ty F.gen_no_len ?_)
  show wpAny _ (in3 X.A) (specialOf (Value.ref a) (Str.ofString "__length_hint__") >>= _) _ _ _
  refine wpAny_bind (wpAny_specialOf ty F.gen_no_hint ?_)
  refine wpAny_pure ?_
  show wpAny _ (in3 X.A) (rule "list.extend.makes-room" >>= fun _ => Builtin.List.listTouch (.ref s.heap.objs.size) >>= fun _ =>
    again (.builtin "list.extend.loop" ⟨[.ref s.heap.objs.size, .ref a, .ref s.heap.objs.size], []⟩)) _ _ _
  refine wpAny_bind (wpAny_rule ?_)
  have hS1 : (s.heap.push { cls := .type "list", data := .seq ([] : List Value).toArray }).get? s.heap.objs.size = some { cls := .type "list", data := .seq ([] : List Value).toArray } := Heap.get?_push_size _ rfl
  refine wpAny_bind ?_
  show wpAny _ (in3 X.A) (updateSeq s.heap.objs.size (·.push .none) >>= fun _ => updateSeq s.heap.objs.size (·.pop)) _ _ _
  refine wpAny_bind (wpAny_updateSeq hS1 rfl ?_)
  have hS2 := Heap.get?_update_self (Obj.mapSeq (·.push Value.none)) hS1 rfl
  refine wpAny_updateSeq hS2 rfl ?_
  have hS3 := Heap.get?_update_self (Obj.mapSeq (·.pop)) hS2 rfl
  refine wpAny_pure ⟨plainId_quiet F.plain_extend_loop _, extend_drain (X := X) (B := X.A.in1.in1) (S := s.heap.objs.size) rfl hr.hd hr.depth Sr.back (fun ys acc c H s' q rv hle e hn J => ?_) n _ ⟨_, hS3, fun v q => by cases q⟩ (Sr.begin_ [s.heap.objs.size] (lkL s.heap.objs.size) _ (fun z hz => ?_) lkL_linked rfl rfl (fun b o e => ?_) ⟨Nat.zero_le _, #[], _, .nil, hS3⟩)⟩
  · show wpAny _ X.A.in1.in1 (load s.heap.objs.size >>= _) _ _ s'
    exact wpAny_bind (wpAny_load e (wpAny_pure (hQ ys _ H s' q rv hle J)))
  · have e : z = s.heap.objs.size := by simpa using hz
    rw [e]
    exact Nat.le_refl _
  · have hb : s.heap.objs.size ≠ b := Nat.ne_of_gt (Heap.lt_size e)
    exact (Heap.get?_update_other _ _ hb).trans ((Heap.get?_update_other _ _ hb).trans (Heap.get?_push_of_some _ e))
def finT (Q : VK) : List V → Hp → Prop := finL fun ys H => ∀ p, H p = none → Q (.ref p) (upd H p (.tup ys))
theorem call_tupleG {Q : VK} {u : Value} {E : Value → Shared → Prop} (hr : Room 0 X.A) (R : Ready X pins σ (finT Q) ykL u s) : wpAny (model X.prog X.w) X.A (call (.type "tuple") [u]) (EP X pins σ Q) E s := by
  obtain ⟨a, g, n, Y, σ', rfl, Sr⟩ := R.src
  have hTI : s.TypeIs (.ref a) "generator" := Sr.gen.typeIs
  refine callType_codes (Q₁ := fun obj s₁ => s₁.TypeIs obj "tuple" ∧ EP X pins σ Q obj s₁) F.called_tuple (F.typeCall_tuple_1 _) F.entry_object_init ?_ fun obj s₁ h₁ => ?_
  · refine codeAny_of_tree ?_
    show wpAny _ X.A.in1.in1 (do checkBuiltinCall "tuple.__new__" ⟨[.type "tuple", .ref a], []⟩; again (.builtin "tuple.__new__" ⟨[.type "tuple", .ref a], []⟩)) _ _ s
    refine wpAny_bind (wpAny_of_eq (F.newCall_tuple_1 _) (wpAny_pure ⟨plainId_quiet F.plain_tuple_new _, codeAny_builtin F.entry_tuple_new ?_⟩))
    rw [Around.under_plainId F.plain_tuple_new _]
    have hsub := sub_tuple_self
    have hinit := init_tuple_lookup
    have hmh := madeHere_tuple
    wp_walk using wpAny_typeOf hTI, collectG hr Sr
    intro ys us H s' q rv hle J
    show wpAny _ _ (Builtin.Tuple.tupleExact us.toArray >>= fun v => ret v) _ _ _
    unfold Builtin.Tuple.tupleExact
    refine wpAny_bind (wpAny_newObj_type ?_ (by show us.toArray.size ≤ sizeLine; rw [List.size_toArray, ← rv.length]; exact hle))
    have hf : H s'.heap.objs.size = none := J.hok.fresh (Nat.le_refl _)
    refine wpAny_pure ⟨⟨_, Heap.get?_push_size _ rfl, rfl⟩, .ref s'.heap.objs.size, upd H s'.heap.objs.size (.tup ys), J.laid (t' := s'.toks) (fun b o e => Heap.get?_push_of_some _ e) (Nat.le_refl _) ?_, rfl, q _ hf⟩
    exact ⟨hle, us, rv, ⟨_, Heap.get?_push_size _ rfl, rfl, _, rfl⟩⟩
  · exact ⟨h₁.1, F.args_object_init_2 obj _, object_init_meets F.called_tuple.init.lookup F.called_tuple.made (by decide) X.prog X.w X.A.in1 _ s₁ ⟨h₁.1, rfl, h₁.2⟩⟩
end
end Gx

set_option maxRecDepth 100000
set_option maxHeartbeats 4000000
namespace Gx
open PySem PySem.Spec PyProof.Rows L2 GenW
section
variable {X : Cx} {pins : List (Addr × Obj)} {σ : L2.St} {H : Hp} {s : Shared} {fin : List V → Hp → Prop} {yk : List V → V → Hp → Prop → Prop}
/-! ### max of ints -/
def finMax (Q : VK) : List V → Hp → Prop := fun ys H => ∃ ns : List Int, ys = ns.map V.int ∧ ns ≠ [] ∧ ∀ m, m ∈ ns → (∀ x ∈ ns, x ≤ m) → Q (.int m) H
def lkMax (S : Addr) : List V → Shared → Prop := fun ys s => ∃ (ns : List Int), ys = ns.map V.int ∧ ((ns = [] ∧ ∃ c, s.heap.get? S = some { cls := .type "list", dict := none, data := .seq #[] c, slots := #[] }) ∨
  ∃ (z : Int) (t : Tok) (c : Nat), z ∈ ns ∧ (∀ x ∈ ns, x ≤ z) ∧ s.heap.get? S = some { cls := .type "list", dict := none, data := .seq #[.int z t, .int z t] c, slots := #[] })
theorem lkMax_linked {S : Addr} {fin : List V → Hp → Prop} {yk : List V → V → Hp → Prop → Prop} : (Want.mk fin yk (lkMax S)).Linked [S] := fun ys s s' h ⟨ns, e, q⟩ => ⟨ns, e, by
  rcases q with ⟨e1, c, q⟩ | ⟨z, t, c, q1, q2, q⟩
  · exact .inl ⟨e1, c, h S (by simp) _ q⟩
  · exact .inr ⟨z, t, c, q1, q2, h S (by simp) _ q⟩⟩
theorem max_drain {Q : VK} {a S : Addr} {g : Nat} {Y : Cx} {σ' : L2.St} {R : Result → Shared → Prop} (hh : X.A.handled = none) (hd : X.A.depth < recursionLimit) (hback : ∀ σ1 H1 s1, Inv Y [] σ1 H1 s1 → Inv X pins σ H1 s1 ∧ s1.heap.IsGen a g)
    (hR : ∀ z t H s', Q (.int z) H → Inv X pins σ H s' → R (.ok (.ret (.int z t))) s') :
    ∀ (n : Nat) (s : Shared) (acc : Array Value) (c : Nat), (acc = #[] ∨ ∃ z t, acc = #[.int z t, .int z t]) → Sleep X.prog X.w (in3 X.A) Y σ' [S] ⟨finMax Q, ykInt, lkMax S⟩ a g n s →
      s.heap.get? S = some { cls := .type "list", dict := none, data := .seq acc c, slots := #[] } → codeAny (model X.prog X.w) X.A (.builtin "max.loop" ⟨[.ref a, .none, .ref S], []⟩) R s := by
  have hname : (toString "max" ++ toString ".loop" : String) = "max.loop" := by decide
  intro n
  induction n using Nat.strongRecOn with
  | ind n ih =>
    intro s acc c hacc sl hS
    have tS : ∀ {s' : Shared} {o : Obj}, s'.heap.get? S = some o → (∀ v, o.data ≠ .cell v) → ∀ b ∈ [S], ∃ o, s'.heap.get? b = some o ∧ ∀ v, o.data ≠ .cell v := fun e d b hb => by
      have e2 : b = S := by simpa using hb
      subst e2
      exact ⟨_, e, d⟩
    refine codeAny_builtin F.entry_max_loop ?_
    rw [Around.under_plainId F.plain_max_loop _]
    show wpAny _ X.A.in1 (seqItems? (.ref S) >>= _) _ _ s
    refine wpAny_bind (wpAny_seqItems hS rfl ?_)
    show wpAny _ X.A.in1 (tryCatch (pyNext (.ref a)) _ >>= _) _ _ s
    refine wpAny_bind (wpAny_tryCatch (wpAny_of_in1 (wpAny_of_in1 (pull (A := in3 X.A) hh hd (fun σ1 H1 s1 J => (hback σ1 H1 s1 J).2) sl lkMax_linked (tS hS (fun v q => by cases q)) (fun v s1 ys y σ1 H Wn rv yk J zo he lk cont => ?_) (fun s1 ys H fn J zo he lk => ?_)))))
    · obtain ⟨⟨k, rfl⟩, wn⟩ := yk
      obtain ⟨tk, rfl⟩ := rv
      have hS' := he S (by simp) _ hS
      obtain ⟨ns, rfl, lk⟩ := lk
      have stepk : ∀ (s2 : Shared) (z : Int) (t : Tok) (c3 : Nat), s2.os = s1.os → s2.gens = s1.gens → (∀ b o, b ≠ S → s1.heap.get? b = some o → s2.heap.get? b = some o) → z ∈ ns ++ [k] → (∀ x ∈ ns ++ [k], x ≤ z) →
          s2.heap.get? S = some { cls := .type "list", dict := none, data := .seq #[.int z t, .int z t] c3, slots := #[] } → codeAny (model X.prog X.w) X.A (.builtin "max.loop" ⟨[.ref a, .none, .ref S], []⟩) R s2 := fun s2 z t c3 h2 h3 h4 h5 h6 h7 => by
        obtain ⟨m, hm, sl'⟩ := cont s2 h2 h3 (fun b o hb e => h4 b o (fun z => hb (by simp [z])) e) (tS h7 (fun v q => by cases q)) ⟨ns ++ [k], by simp, .inr ⟨z, t, c3, h5, h6, h7⟩⟩ wn
        exact ih m hm s2 _ c3 (.inr ⟨z, t, rfl⟩) sl' h7
      rcases hacc with rfl | ⟨z, t, rfl⟩
      · have en : ns = [] := by
          rcases lk with ⟨e, _⟩ | ⟨z2, t2, c2, _, _, q⟩
          · exact e
          · rw [hS'] at q
            injection q with q
            injection q with _ _ q
            injection q with q
            exact absurd (congrArg Array.size q) (by simp)
        subst en
        have hone : ∀ x ∈ ([] : List Int) ++ [k], x ≤ k := fun x hx => by
          have e : x = k := by simpa using hx
          rw [e]
          exact Int.le_refl _
        show wpAny _ X.A.in1 (updateSeq S (fun _ => #[.int k tk, .int k tk]) >>= _) _ _ _
        refine wpAny_bind ?_
        refine wpAny_updateSeq hS' rfl ?_
        rw [hname]
        exact wpAny_pure ⟨plainId_quiet F.plain_max_loop _, stepk _ k tk _ rfl rfl (fun b o hb e => (Heap.get?_update_other _ _ (Ne.symm hb)).trans e) (by simp) (fun x hx => hone x hx) (Heap.get?_update_self _ hS' rfl)⟩
      · have hz : z ∈ ns ∧ ∀ x ∈ ns, x ≤ z := by
          rcases lk with ⟨_, c2, q⟩ | ⟨z2, t2, c2, m1, m2, q⟩
          · rw [hS'] at q
            injection q with q
            injection q with _ _ q
            injection q with q
            exact absurd (congrArg Array.size q) (by simp)
          · rw [hS'] at q
            injection q with q
            injection q with _ _ q
            injection q with q
            have q3 := congrArg Array.toList q
            simp at q3
            rw [q3.1]
            exact ⟨m1, m2⟩
        show wpAny _ X.A.in1 (tryCatch (holding [Value.int k tk, Value.int k tk] (richCompare .Gt (Value.int k tk) (.int z t) >>= _)) _ >>= _) _ _ _
        refine wpAny_bind (wpAny_tryCatch (wpAny_holding (wpAny_bind (CmpOf.ints_gt (P := fun (i : Nat) v => (i = 0 → v = .int z t) ∧ (i ≠ 0 → v = .int k tk)) (fun i => if i = 0 then z else k) (fun i v h => ?_) 1 0 _ _ _ _ _ ⟨fun h => absurd h (by decide), fun _ => rfl⟩ ⟨fun _ => rfl, fun h => absurd rfl h⟩ ?_))))
        · by_cases hi : i = 0
          · rw [if_pos hi]
            exact ⟨t, h.1 hi⟩
          · rw [if_neg hi]
            exact ⟨tk, h.2 hi⟩
        refine wpAny_bind (wpAny_holding (wpAny_truthy_bool ?_))
        refine wpAny_bind (wpAny_letGo (wpAny_pure ?_))
        by_cases hb : k > z
        · have eb : decide ((if (1 : Nat) = 0 then z else k) > (if (0 : Nat) = 0 then z else k)) = true := by simpa using hb
          rw [if_pos eb]
          refine wpAny_bind ?_
          refine wpAny_updateSeq hS' rfl (wpAny_bind (wpAny_letGo ?_))
          rw [hname]
          refine wpAny_pure ⟨plainId_quiet F.plain_max_loop _, stepk _ k tk _ rfl rfl (fun b o hb e => (Heap.get?_update_other _ _ (Ne.symm hb)).trans e) (by simp) (fun x hx => ?_) (Heap.get?_update_self _ hS' rfl)⟩
          rcases List.mem_append.mp hx with hx | hx
          · have := hz.2 x hx
            omega
          · have : x = k := by simpa using hx
            omega
        · have eb : decide ((if (1 : Nat) = 0 then z else k) > (if (0 : Nat) = 0 then z else k)) = false := by simpa using hb
          rw [if_neg (fun q => Bool.false_ne_true (eb.symm.trans q))]
          refine wpAny_bind (wpAny_letGo ?_)
          rw [hname]
          refine wpAny_pure ⟨plainId_quiet F.plain_max_loop _, stepk s1 z t c rfl rfl (fun _ _ _ e => e) (List.mem_append_left _ hz.1) (fun x hx => ?_) hS'⟩
          rcases List.mem_append.mp hx with hx | hx
          · exact hz.2 x hx
          · have : x = k := by simpa using hx
            omega
    · have hS' := he S (by simp) _ hS
      obtain ⟨ns, rfl, lk⟩ := lk
      obtain ⟨ns', e1, hne, fq⟩ := fn
      have e2 := map_int_inj e1
      subst e2
      rcases lk with ⟨e, _⟩ | ⟨z, t, c2, m1, m2, q⟩
      · exact absurd e hne
      · have ea : acc = #[.int z t, .int z t] := by
          rw [hS'] at q
          injection q with q
          injection q with _ _ q
          injection q
        subst ea
        show wpAny _ X.A.in1 (updateSeq S (fun _ => #[]) >>= _) _ _ _
        refine wpAny_bind ?_
        refine wpAny_updateSeq hS' rfl (wpAny_bind (wpAny_letGo (wpAny_pure ?_)))
        have hS2 := Heap.get?_update_self (Obj.mapSeq fun _ => (#[] : Array Value)) hS' rfl
        obtain ⟨J2, _⟩ := woken (s' := { s1 with heap := s1.heap.update S (Obj.mapSeq fun _ => #[]) }) J zo ⟨rfl, J.bare, fun b o hb e => (Heap.get?_update_other _ _ (fun z => hb (by simp [← z]))).trans e, tS hS2 (fun v q => by cases q)⟩
        exact hR z t H _ (fq z m1 m2) (hback _ _ _ J2).1
theorem call_maxG {Q : VK} {u : Value} {E : Value → Shared → Prop} (hr : Room 0 X.A) (R : Ready X pins σ (finMax Q) ykInt u s) : wpAny (model X.prog X.w) X.A (call (.builtin "max") [u]) (EP X pins σ Q) E s := by
  have hname : (toString "max" ++ toString ".loop" : String) = "max.loop" := by decide
  obtain ⟨a, g, n, Y, σ', rfl, Sr⟩ := R.src
  refine call_function_tree F.kind_max F.plain_max F.entry_max (F.args_max1 _) ?_
  show wpAny _ X.A.in1 (Builtin.Builtins.bindParams "max" ["key", "default"] 0 ⟨[], []⟩ >>= _) _ _ s
  refine wpAny_bind (wpAny_of_eq (show Builtin.Builtins.bindParams "max" ["key", "default"] 0 ⟨[], []⟩ = pure [none, none] from rfl) ?_)
  refine wpAny_bind (wpAny_pure ?_)
  refine wpAny_bind (wpAny_pyIter_gen Sr.gen ?_)
  refine wpAny_bind (wpAny_newObj_type ?_)
  rw [hname]
  have hS := Heap.get?_push_size s.heap (o := { cls := .type "list", data := .seq #[] }) rfl
  refine wpAny_pure ⟨plainId_quiet F.plain_max_loop _, max_drain (S := s.heap.objs.size) hr.hd hr.depth Sr.back (fun z t H s' q J => ⟨.int z, H, J, ⟨t, rfl⟩, q⟩) n _ #[] 0 (.inl rfl)
    (Sr.begin_ [s.heap.objs.size] (lkMax s.heap.objs.size) _ (fun z hz => ?_) lkMax_linked rfl rfl (fun b o e => Heap.get?_push_of_some _ e) ⟨[], rfl, .inl ⟨rfl, 0, hS⟩⟩) hS⟩
  have e : z = s.heap.objs.size := by simpa using hz
  rw [e]
  exact Nat.le_refl _
/-! ### min of ints -/
def finMin (Q : VK) : List V → Hp → Prop := fun ys H => ∃ ns : List Int, ys = ns.map V.int ∧ ns ≠ [] ∧ ∀ m, m ∈ ns → (∀ x ∈ ns, m ≤ x) → Q (.int m) H
def lkMin (S : Addr) : List V → Shared → Prop := fun ys s => ∃ (ns : List Int), ys = ns.map V.int ∧ ((ns = [] ∧ ∃ c, s.heap.get? S = some { cls := .type "list", dict := none, data := .seq #[] c, slots := #[] }) ∨
  ∃ (z : Int) (t : Tok) (c : Nat), z ∈ ns ∧ (∀ x ∈ ns, z ≤ x) ∧ s.heap.get? S = some { cls := .type "list", dict := none, data := .seq #[.int z t, .int z t] c, slots := #[] })
theorem lkMin_linked {S : Addr} {fin : List V → Hp → Prop} {yk : List V → V → Hp → Prop → Prop} : (Want.mk fin yk (lkMin S)).Linked [S] := fun ys s s' h ⟨ns, e, q⟩ => ⟨ns, e, by
  rcases q with ⟨e1, c, q⟩ | ⟨z, t, c, q1, q2, q⟩
  · exact .inl ⟨e1, c, h S (by simp) _ q⟩
  · exact .inr ⟨z, t, c, q1, q2, h S (by simp) _ q⟩⟩
theorem min_drain {Q : VK} {a S : Addr} {g : Nat} {Y : Cx} {σ' : L2.St} {R : Result → Shared → Prop} (hh : X.A.handled = none) (hd : X.A.depth < recursionLimit) (hback : ∀ σ1 H1 s1, Inv Y [] σ1 H1 s1 → Inv X pins σ H1 s1 ∧ s1.heap.IsGen a g)
    (hR : ∀ z t H s', Q (.int z) H → Inv X pins σ H s' → R (.ok (.ret (.int z t))) s') :
    ∀ (n : Nat) (s : Shared) (acc : Array Value) (c : Nat), (acc = #[] ∨ ∃ z t, acc = #[.int z t, .int z t]) → Sleep X.prog X.w (in3 X.A) Y σ' [S] ⟨finMin Q, ykInt, lkMin S⟩ a g n s →
      s.heap.get? S = some { cls := .type "list", dict := none, data := .seq acc c, slots := #[] } → codeAny (model X.prog X.w) X.A (.builtin "min.loop" ⟨[.ref a, .none, .ref S], []⟩) R s := by
  have hname : (toString "min" ++ toString ".loop" : String) = "min.loop" := by decide
  intro n
  induction n using Nat.strongRecOn with
  | ind n ih =>
    intro s acc c hacc sl hS
    have tS : ∀ {s' : Shared} {o : Obj}, s'.heap.get? S = some o → (∀ v, o.data ≠ .cell v) → ∀ b ∈ [S], ∃ o, s'.heap.get? b = some o ∧ ∀ v, o.data ≠ .cell v := fun e d b hb => by
      have e2 : b = S := by simpa using hb
      subst e2
      exact ⟨_, e, d⟩
    refine codeAny_builtin F.entry_min_loop ?_
    rw [Around.under_plainId F.plain_min_loop _]
    show wpAny _ X.A.in1 (seqItems? (.ref S) >>= _) _ _ s
    refine wpAny_bind (wpAny_seqItems hS rfl ?_)
    show wpAny _ X.A.in1 (tryCatch (pyNext (.ref a)) _ >>= _) _ _ s
    refine wpAny_bind (wpAny_tryCatch (wpAny_of_in1 (wpAny_of_in1 (pull (A := in3 X.A) hh hd (fun σ1 H1 s1 J => (hback σ1 H1 s1 J).2) sl lkMin_linked (tS hS (fun v q => by cases q)) (fun v s1 ys y σ1 H Wn rv yk J zo he lk cont => ?_) (fun s1 ys H fn J zo he lk => ?_)))))
    · obtain ⟨⟨k, rfl⟩, wn⟩ := yk
      obtain ⟨tk, rfl⟩ := rv
      have hS' := he S (by simp) _ hS
      obtain ⟨ns, rfl, lk⟩ := lk
      have stepk : ∀ (s2 : Shared) (z : Int) (t : Tok) (c3 : Nat), s2.os = s1.os → s2.gens = s1.gens → (∀ b o, b ≠ S → s1.heap.get? b = some o → s2.heap.get? b = some o) → z ∈ ns ++ [k] → (∀ x ∈ ns ++ [k], z ≤ x) →
          s2.heap.get? S = some { cls := .type "list", dict := none, data := .seq #[.int z t, .int z t] c3, slots := #[] } → codeAny (model X.prog X.w) X.A (.builtin "min.loop" ⟨[.ref a, .none, .ref S], []⟩) R s2 := fun s2 z t c3 h2 h3 h4 h5 h6 h7 => by
        obtain ⟨m, hm, sl'⟩ := cont s2 h2 h3 (fun b o hb e => h4 b o (fun z => hb (by simp [z])) e) (tS h7 (fun v q => by cases q)) ⟨ns ++ [k], by simp, .inr ⟨z, t, c3, h5, h6, h7⟩⟩ wn
        exact ih m hm s2 _ c3 (.inr ⟨z, t, rfl⟩) sl' h7
      rcases hacc with rfl | ⟨z, t, rfl⟩
      · have en : ns = [] := by
          rcases lk with ⟨e, _⟩ | ⟨z2, t2, c2, _, _, q⟩
          · exact e
          · rw [hS'] at q
            injection q with q
            injection q with _ _ q
            injection q with q
            exact absurd (congrArg Array.size q) (by simp)
        subst en
        have hone : ∀ x ∈ ([] : List Int) ++ [k], k ≤ x := fun x hx => by
          have e : x = k := by simpa using hx
          rw [e]
          exact Int.le_refl _
        show wpAny _ X.A.in1 (updateSeq S (fun _ => #[.int k tk, .int k tk]) >>= _) _ _ _
        refine wpAny_bind ?_
        refine wpAny_updateSeq hS' rfl ?_
        rw [hname]
        exact wpAny_pure ⟨plainId_quiet F.plain_min_loop _, stepk _ k tk _ rfl rfl (fun b o hb e => (Heap.get?_update_other _ _ (Ne.symm hb)).trans e) (by simp) (fun x hx => hone x hx) (Heap.get?_update_self _ hS' rfl)⟩
      · have hz : z ∈ ns ∧ ∀ x ∈ ns, z ≤ x := by
          rcases lk with ⟨_, c2, q⟩ | ⟨z2, t2, c2, m1, m2, q⟩
          · rw [hS'] at q
            injection q with q
            injection q with _ _ q
            injection q with q
            exact absurd (congrArg Array.size q) (by simp)
          · rw [hS'] at q
            injection q with q
            injection q with _ _ q
            injection q with q
            have q3 := congrArg Array.toList q
            simp at q3
            rw [q3.1]
            exact ⟨m1, m2⟩
        show wpAny _ X.A.in1 (tryCatch (holding [Value.int k tk, Value.int k tk] (richCompare .Lt (Value.int k tk) (.int z t) >>= _)) _ >>= _) _ _ _
        refine wpAny_bind (wpAny_tryCatch (wpAny_holding (wpAny_bind (CmpOf.ints_lt (P := fun (i : Nat) v => (i = 0 → v = .int z t) ∧ (i ≠ 0 → v = .int k tk)) (fun i => if i = 0 then z else k) (fun i v h => ?_) 1 0 _ _ _ _ _ ⟨fun h => absurd h (by decide), fun _ => rfl⟩ ⟨fun _ => rfl, fun h => absurd rfl h⟩ ?_))))
        · by_cases hi : i = 0
          · rw [if_pos hi]
            exact ⟨t, h.1 hi⟩
          · rw [if_neg hi]
            exact ⟨tk, h.2 hi⟩
        refine wpAny_bind (wpAny_holding (wpAny_truthy_bool ?_))
        refine wpAny_bind (wpAny_letGo (wpAny_pure ?_))
        by_cases hb : k < z
        · have eb : decide ((if (1 : Nat) = 0 then z else k) < (if (0 : Nat) = 0 then z else k)) = true := by simpa using hb
          rw [if_pos eb]
          refine wpAny_bind ?_
          refine wpAny_updateSeq hS' rfl (wpAny_bind (wpAny_letGo ?_))
          rw [hname]
          refine wpAny_pure ⟨plainId_quiet F.plain_min_loop _, stepk _ k tk _ rfl rfl (fun b o hb e => (Heap.get?_update_other _ _ (Ne.symm hb)).trans e) (by simp) (fun x hx => ?_) (Heap.get?_update_self _ hS' rfl)⟩
          rcases List.mem_append.mp hx with hx | hx
          · have := hz.2 x hx
            omega
          · have : x = k := by simpa using hx
            omega
        · have eb : decide ((if (1 : Nat) = 0 then z else k) < (if (0 : Nat) = 0 then z else k)) = false := by simpa using hb
          rw [if_neg (fun q => Bool.false_ne_true (eb.symm.trans q))]
          refine wpAny_bind (wpAny_letGo ?_)
          rw [hname]
          refine wpAny_pure ⟨plainId_quiet F.plain_min_loop _, stepk s1 z t c rfl rfl (fun _ _ _ e => e) (List.mem_append_left _ hz.1) (fun x hx => ?_) hS'⟩
          rcases List.mem_append.mp hx with hx | hx
          · exact hz.2 x hx
          · have : x = k := by simpa using hx
            omega
    · have hS' := he S (by simp) _ hS
      obtain ⟨ns, rfl, lk⟩ := lk
      obtain ⟨ns', e1, hne, fq⟩ := fn
      have e2 := map_int_inj e1
      subst e2
      rcases lk with ⟨e, _⟩ | ⟨z, t, c2, m1, m2, q⟩
      · exact absurd e hne
      · have ea : acc = #[.int z t, .int z t] := by
          rw [hS'] at q
          injection q with q
          injection q with _ _ q
          injection q
        subst ea
        show wpAny _ X.A.in1 (updateSeq S (fun _ => #[]) >>= _) _ _ _
        refine wpAny_bind ?_
        refine wpAny_updateSeq hS' rfl (wpAny_bind (wpAny_letGo (wpAny_pure ?_)))
        have hS2 := Heap.get?_update_self (Obj.mapSeq fun _ => (#[] : Array Value)) hS' rfl
        obtain ⟨J2, _⟩ := woken (s' := { s1 with heap := s1.heap.update S (Obj.mapSeq fun _ => #[]) }) J zo ⟨rfl, J.bare, fun b o hb e => (Heap.get?_update_other _ _ (fun z => hb (by simp [← z]))).trans e, tS hS2 (fun v q => by cases q)⟩
        exact hR z t H _ (fq z m1 m2) (hback _ _ _ J2).1
theorem call_minG {Q : VK} {u : Value} {E : Value → Shared → Prop} (hr : Room 0 X.A) (R : Ready X pins σ (finMin Q) ykInt u s) : wpAny (model X.prog X.w) X.A (call (.builtin "min") [u]) (EP X pins σ Q) E s := by
  have hname : (toString "min" ++ toString ".loop" : String) = "min.loop" := by decide
  obtain ⟨a, g, n, Y, σ', rfl, Sr⟩ := R.src
  refine call_function_tree F.kind_min F.plain_min F.entry_min (F.args_min1 _) ?_
  show wpAny _ X.A.in1 (Builtin.Builtins.bindParams "min" ["key", "default"] 0 ⟨[], []⟩ >>= _) _ _ s
  refine wpAny_bind (wpAny_of_eq (show Builtin.Builtins.bindParams "min" ["key", "default"] 0 ⟨[], []⟩ = pure [none, none] from rfl) ?_)
  refine wpAny_bind (wpAny_pure ?_)
  refine wpAny_bind (wpAny_pyIter_gen Sr.gen ?_)
  refine wpAny_bind (wpAny_newObj_type ?_)
  rw [hname]
  have hS := Heap.get?_push_size s.heap (o := { cls := .type "list", data := .seq #[] }) rfl
  refine wpAny_pure ⟨plainId_quiet F.plain_min_loop _, min_drain (S := s.heap.objs.size) hr.hd hr.depth Sr.back (fun z t H s' q J => ⟨.int z, H, J, ⟨t, rfl⟩, q⟩) n _ #[] 0 (.inl rfl)
    (Sr.begin_ [s.heap.objs.size] (lkMin s.heap.objs.size) _ (fun z hz => ?_) lkMin_linked rfl rfl (fun b o e => Heap.get?_push_of_some _ e) ⟨[], rfl, .inl ⟨rfl, 0, hS⟩⟩) hS⟩
  have e : z = s.heap.objs.size := by simpa using hz
  rw [e]
  exact Nat.le_refl _
end
/-! ### as expressions -/
theorem bt_all : bootBuiltins "all" = some (.builtin "all") := by decide +kernel
theorem bt_tuple : bootBuiltins "tuple" = some (.type "tuple") := by decide +kernel
section
variable {X : Cx} {tg elt iter : Expr} {scope : Scope} {own : List (Str × Nat)} {p gpos pos : Pos} {wi : TI} {g : TG} {te : TE} {k : Nat} {c P : Addr} {Pre : Hp → Prop}
theorem pe_sumG (hc : X.calm = true) (hN : X.N.Nodup) (hr : Room (k + 1) X.A) (hgl : Gl X "sum") (hm : X.mg "sum" = none) (hi : PI X tg iter wi) (ok : BlkOk X.N X.env.scope scope own) (G : GScope1 scope)
    (hs : ∀ H, Pre H → Site X H c P ∧ H P = some (TbO P))
    (hg : ∀ (A : Around) (s : Shared) (H : Hp) (code : Value) (fp : List Addr) (pn : List (Addr × Obj)), Room k (A.deeper (gEnv X scope s code)) → PG (gcx X A s H (gEnv X scope s code) fp pn) tg g)
    (he : ∀ (A : Around) (s : Shared) (H : Hp) (code : Value) (fp : List Addr) (pn : List (Addr × Obj)), Room k (A.deeper (gEnv X scope s code)) → PE (gcx X A s H (gEnv X scope s code) fp pn) elt te)
    (hf : ∀ v, genFold iter X.env v = pure v := by intro _; rfl)
    (hst : starEach [.GeneratorExp elt [⟨tg, iter, [], 0⟩] scope gpos] X.env = (false, eval (.GeneratorExp elt [⟨tg, iter, [], 0⟩] scope gpos) X.env) :: starEach [] X.env := by rfl) :
    PE X (.Call (.Name "sum" p) [.GeneratorExp elt [⟨tg, iter, [], 0⟩] scope gpos] [] pos) (fun σ H Q => tGx wi g te (own.map (·.2)) Pre (finSum Q) (ykInt) σ H) := by
  refine ⟨fun pins s σ H Q I h => ?_⟩
  refine wpAny_Call_Name_kw (ld_blt I hgl hm boot_sum ?_)
  refine PyProof.Rows.callWith_builtin1 ?_ hst (by rfl)
  rw [hst]
  show wpAny _ _ (spliced ((false, eval (.GeneratorExp elt [⟨tg, iter, [], 0⟩] scope gpos) X.env) :: backTo pos (starEach [] X.env))) _ _ s
  refine Calls.spliced_cons (gen_ready hc hN hi ok G hr hs hg he hf I h fun u s5 R => ?_)
  exact Calls.spliced_nil (call_sumG (hr.mono (Nat.zero_le _)) R)
theorem pe_anyG (hc : X.calm = true) (hN : X.N.Nodup) (hr : Room (k + 1) X.A) (hgl : Gl X "any") (hm : X.mg "any" = none) (hi : PI X tg iter wi) (ok : BlkOk X.N X.env.scope scope own) (G : GScope1 scope)
    (hs : ∀ H, Pre H → Site X H c P ∧ H P = some (TbO P))
    (hg : ∀ (A : Around) (s : Shared) (H : Hp) (code : Value) (fp : List Addr) (pn : List (Addr × Obj)), Room k (A.deeper (gEnv X scope s code)) → PG (gcx X A s H (gEnv X scope s code) fp pn) tg g)
    (he : ∀ (A : Around) (s : Shared) (H : Hp) (code : Value) (fp : List Addr) (pn : List (Addr × Obj)), Room k (A.deeper (gEnv X scope s code)) → PE (gcx X A s H (gEnv X scope s code) fp pn) elt te)
    (hf : ∀ v, genFold iter X.env v = pure v := by intro _; rfl)
    (hst : starEach [.GeneratorExp elt [⟨tg, iter, [], 0⟩] scope gpos] X.env = (false, eval (.GeneratorExp elt [⟨tg, iter, [], 0⟩] scope gpos) X.env) :: starEach [] X.env := by rfl) :
    PE X (.Call (.Name "any" p) [.GeneratorExp elt [⟨tg, iter, [], 0⟩] scope gpos] [] pos) (fun σ H Q => tGx wi g te (own.map (·.2)) Pre (finB false Q) (ykB true Q) σ H) := by
  refine ⟨fun pins s σ H Q I h => ?_⟩
  refine wpAny_Call_Name_kw (ld_blt I hgl hm boot_any ?_)
  refine PyProof.Rows.callWith_builtin1 ?_ hst (by rfl)
  rw [hst]
  show wpAny _ _ (spliced ((false, eval (.GeneratorExp elt [⟨tg, iter, [], 0⟩] scope gpos) X.env) :: backTo pos (starEach [] X.env))) _ _ s
  refine Calls.spliced_cons (gen_ready hc hN hi ok G hr hs hg he hf I h fun u s5 R => ?_)
  exact Calls.spliced_nil (call_anyG (hr.mono (Nat.zero_le _)) R)
theorem pe_allG (hc : X.calm = true) (hN : X.N.Nodup) (hr : Room (k + 1) X.A) (hgl : Gl X "all") (hm : X.mg "all" = none) (hi : PI X tg iter wi) (ok : BlkOk X.N X.env.scope scope own) (G : GScope1 scope)
    (hs : ∀ H, Pre H → Site X H c P ∧ H P = some (TbO P))
    (hg : ∀ (A : Around) (s : Shared) (H : Hp) (code : Value) (fp : List Addr) (pn : List (Addr × Obj)), Room k (A.deeper (gEnv X scope s code)) → PG (gcx X A s H (gEnv X scope s code) fp pn) tg g)
    (he : ∀ (A : Around) (s : Shared) (H : Hp) (code : Value) (fp : List Addr) (pn : List (Addr × Obj)), Room k (A.deeper (gEnv X scope s code)) → PE (gcx X A s H (gEnv X scope s code) fp pn) elt te)
    (hf : ∀ v, genFold iter X.env v = pure v := by intro _; rfl)
    (hst : starEach [.GeneratorExp elt [⟨tg, iter, [], 0⟩] scope gpos] X.env = (false, eval (.GeneratorExp elt [⟨tg, iter, [], 0⟩] scope gpos) X.env) :: starEach [] X.env := by rfl) :
    PE X (.Call (.Name "all" p) [.GeneratorExp elt [⟨tg, iter, [], 0⟩] scope gpos] [] pos) (fun σ H Q => tGx wi g te (own.map (·.2)) Pre (finB true Q) (ykB false Q) σ H) := by
  refine ⟨fun pins s σ H Q I h => ?_⟩
  refine wpAny_Call_Name_kw (ld_blt I hgl hm bt_all ?_)
  refine PyProof.Rows.callWith_builtin1 ?_ hst (by rfl)
  rw [hst]
  show wpAny _ _ (spliced ((false, eval (.GeneratorExp elt [⟨tg, iter, [], 0⟩] scope gpos) X.env) :: backTo pos (starEach [] X.env))) _ _ s
  refine Calls.spliced_cons (gen_ready hc hN hi ok G hr hs hg he hf I h fun u s5 R => ?_)
  exact Calls.spliced_nil (call_allG (hr.mono (Nat.zero_le _)) R)
theorem pe_maxG (hc : X.calm = true) (hN : X.N.Nodup) (hr : Room (k + 1) X.A) (hgl : Gl X "max") (hm : X.mg "max" = none) (hi : PI X tg iter wi) (ok : BlkOk X.N X.env.scope scope own) (G : GScope1 scope)
    (hs : ∀ H, Pre H → Site X H c P ∧ H P = some (TbO P))
    (hg : ∀ (A : Around) (s : Shared) (H : Hp) (code : Value) (fp : List Addr) (pn : List (Addr × Obj)), Room k (A.deeper (gEnv X scope s code)) → PG (gcx X A s H (gEnv X scope s code) fp pn) tg g)
    (he : ∀ (A : Around) (s : Shared) (H : Hp) (code : Value) (fp : List Addr) (pn : List (Addr × Obj)), Room k (A.deeper (gEnv X scope s code)) → PE (gcx X A s H (gEnv X scope s code) fp pn) elt te)
    (hf : ∀ v, genFold iter X.env v = pure v := by intro _; rfl)
    (hst : starEach [.GeneratorExp elt [⟨tg, iter, [], 0⟩] scope gpos] X.env = (false, eval (.GeneratorExp elt [⟨tg, iter, [], 0⟩] scope gpos) X.env) :: starEach [] X.env := by rfl) :
    PE X (.Call (.Name "max" p) [.GeneratorExp elt [⟨tg, iter, [], 0⟩] scope gpos] [] pos) (fun σ H Q => tGx wi g te (own.map (·.2)) Pre (finMax Q) (ykInt) σ H) := by
  refine ⟨fun pins s σ H Q I h => ?_⟩
  refine wpAny_Call_Name_kw (ld_blt I hgl hm boot_max ?_)
  refine PyProof.Rows.callWith_builtin1 ?_ hst (by rfl)
  rw [hst]
  show wpAny _ _ (spliced ((false, eval (.GeneratorExp elt [⟨tg, iter, [], 0⟩] scope gpos) X.env) :: backTo pos (starEach [] X.env))) _ _ s
  refine Calls.spliced_cons (gen_ready hc hN hi ok G hr hs hg he hf I h fun u s5 R => ?_)
  exact Calls.spliced_nil (call_maxG (hr.mono (Nat.zero_le _)) R)
theorem pe_minG (hc : X.calm = true) (hN : X.N.Nodup) (hr : Room (k + 1) X.A) (hgl : Gl X "min") (hm : X.mg "min" = none) (hi : PI X tg iter wi) (ok : BlkOk X.N X.env.scope scope own) (G : GScope1 scope)
    (hs : ∀ H, Pre H → Site X H c P ∧ H P = some (TbO P))
    (hg : ∀ (A : Around) (s : Shared) (H : Hp) (code : Value) (fp : List Addr) (pn : List (Addr × Obj)), Room k (A.deeper (gEnv X scope s code)) → PG (gcx X A s H (gEnv X scope s code) fp pn) tg g)
    (he : ∀ (A : Around) (s : Shared) (H : Hp) (code : Value) (fp : List Addr) (pn : List (Addr × Obj)), Room k (A.deeper (gEnv X scope s code)) → PE (gcx X A s H (gEnv X scope s code) fp pn) elt te)
    (hf : ∀ v, genFold iter X.env v = pure v := by intro _; rfl)
    (hst : starEach [.GeneratorExp elt [⟨tg, iter, [], 0⟩] scope gpos] X.env = (false, eval (.GeneratorExp elt [⟨tg, iter, [], 0⟩] scope gpos) X.env) :: starEach [] X.env := by rfl) :
    PE X (.Call (.Name "min" p) [.GeneratorExp elt [⟨tg, iter, [], 0⟩] scope gpos] [] pos) (fun σ H Q => tGx wi g te (own.map (·.2)) Pre (finMin Q) (ykInt) σ H) := by
  refine ⟨fun pins s σ H Q I h => ?_⟩
  refine wpAny_Call_Name_kw (ld_blt I hgl hm boot_min ?_)
  refine PyProof.Rows.callWith_builtin1 ?_ hst (by rfl)
  rw [hst]
  show wpAny _ _ (spliced ((false, eval (.GeneratorExp elt [⟨tg, iter, [], 0⟩] scope gpos) X.env) :: backTo pos (starEach [] X.env))) _ _ s
  refine Calls.spliced_cons (gen_ready hc hN hi ok G hr hs hg he hf I h fun u s5 R => ?_)
  exact Calls.spliced_nil (call_minG (hr.mono (Nat.zero_le _)) R)
theorem pe_tupleG (hc : X.calm = true) (hN : X.N.Nodup) (hr : Room (k + 1) X.A) (hgl : Gl X "tuple") (hm : X.mg "tuple" = none) (hi : PI X tg iter wi) (ok : BlkOk X.N X.env.scope scope own) (G : GScope1 scope)
    (hs : ∀ H, Pre H → Site X H c P ∧ H P = some (TbO P))
    (hg : ∀ (A : Around) (s : Shared) (H : Hp) (code : Value) (fp : List Addr) (pn : List (Addr × Obj)), Room k (A.deeper (gEnv X scope s code)) → PG (gcx X A s H (gEnv X scope s code) fp pn) tg g)
    (he : ∀ (A : Around) (s : Shared) (H : Hp) (code : Value) (fp : List Addr) (pn : List (Addr × Obj)), Room k (A.deeper (gEnv X scope s code)) → PE (gcx X A s H (gEnv X scope s code) fp pn) elt te)
    (hf : ∀ v, genFold iter X.env v = pure v := by intro _; rfl)
    (hst : starEach [.GeneratorExp elt [⟨tg, iter, [], 0⟩] scope gpos] X.env = (false, eval (.GeneratorExp elt [⟨tg, iter, [], 0⟩] scope gpos) X.env) :: starEach [] X.env := by rfl) :
    PE X (.Call (.Name "tuple" p) [.GeneratorExp elt [⟨tg, iter, [], 0⟩] scope gpos] [] pos) (fun σ H Q => tGx wi g te (own.map (·.2)) Pre (finT Q) (ykL) σ H) := by
  refine ⟨fun pins s σ H Q I h => ?_⟩
  refine wpAny_Call_Name_kw (ld_blt I hgl hm bt_tuple ?_)
  refine PyProof.Rows.callWith_type1 ?_ hst (by rfl)
  rw [hst]
  show wpAny _ _ (spliced ((false, eval (.GeneratorExp elt [⟨tg, iter, [], 0⟩] scope gpos) X.env) :: backTo pos (starEach [] X.env))) _ _ s
  refine Calls.spliced_cons (gen_ready hc hN hi ok G hr hs hg he hf I h fun u s5 R => ?_)
  exact Calls.spliced_nil (call_tupleG (hr.mono (Nat.zero_le _)) R)
end
end Gx

set_option maxRecDepth 100000
set_option maxHeartbeats 4000000
/-! A generator expression within a generator expression: the code object of the outer one is known. -/
namespace Gx
open PySem PySem.Spec PyProof.Rows L2 GenW
section
variable {X : Cx} {pins : List (Addr × Obj)} {σ : L2.St} {H : Hp} {s : Shared}
theorem inv_table2 {P c d : Addr} {oc od : HO} {ps more : Array Value} {h' : Heap} {t' : Nat} (I : Inv X pins σ H s) (hP : H P = some (.tbl ps)) (k : ∀ b o, b ≠ P → s.heap.get? b = some o → h'.get? b = some o)
    (hm : h'.get? P = some { cls := .none, data := .fields (ps ++ more) }) (hc : s.heap.objs.size ≤ c) (hd : s.heap.objs.size ≤ d) (hcd : c ≠ d) (ec : ∀ H' : Hp, ObjOk X.prog X.w H' h' c oc) (ed : ∀ H' : Hp, ObjOk X.prog X.w H' h' d od) :
    Inv X pins σ (upd (upd (upd H P (.tbl (ps ++ more))) c oc) d od) { s with heap := h', toks := t' } := by
  have nC : H c = none := I.hok.fresh hc
  have nD : H d = none := I.hok.fresh hd
  have nPc : P ≠ c := ne_of_none hP nC
  have nPd : P ≠ d := ne_of_none hP nD
  have at_ : ∀ b, b ≠ P → b ≠ c → b ≠ d → upd (upd (upd H P (.tbl (ps ++ more))) c oc) d od b = H b := fun b h1 h2 h3 => by rw [upd_ne h3, upd_ne h2, upd_ne h1]
  have atP : upd (upd (upd H P (.tbl (ps ++ more))) c oc) d od P = some (.tbl (ps ++ more)) := by rw [upd_ne nPd, upd_ne nPc, upd_same]
  have nP : ∀ b u, H b = some u → (∀ q, u ≠ .tbl q) → b ≠ P := fun b u e q z => by
    rw [z, hP] at e
    exact q ps (Option.some.inj e).symm
  have nN : ∀ b, H b = none → b ≠ P := fun b e z => by
    rw [z, hP] at e
    cases e
  have ltc : ∀ b o, s.heap.get? b = some o → b ≠ c := fun b o e z => by
    rw [z] at e
    exact Nat.lt_irrefl _ (Nat.lt_of_lt_of_le (Heap.lt_size e) hc)
  have ltd : ∀ b o, s.heap.get? b = some o → b ≠ d := fun b o e z => by
    rw [z] at e
    exact Nat.lt_irrefl _ (Nat.lt_of_lt_of_le (Heap.lt_size e) hd)
  have sc : ∀ b u, H b = some u → b ≠ c := fun b u e => ne_of_none e nC
  have sd : ∀ b u, H b = some u → b ≠ d := fun b u e => ne_of_none e nD
  refine I.step (g' := s.gens) (d' := s.drawn) (ch := []) (fun b hb => absurd hb (by simp)) (fun b o _ _ _ e n => k b o (nN b n) e) (fun b o _ _ _ e n => ⟨o.slots, k b o (nN b n) e⟩)
    (fun b o _ e n => by rw [at_ b (nN b n) (ltc b o e) (ltd b o e)]; exact n) (fun b o _ e => ?_) (fun b xs e => by rw [at_ b (nP b _ e (fun q z => by cases z)) (sc b _ e) (sd b _ e)]; exact e) (fun b o u e => by rw [at_ b (nP b _ e (fun q z => by cases z)) (sc b _ e) (sd b _ e)]; exact e) (fun b qs e => ?_) (fun m hn => ?_) (fun b u e => ?_) I.bare
  · by_cases hb : b = P
    · rw [hb]
      exact ⟨_, hm⟩
    · exact ⟨o, k b o hb e⟩
  · by_cases hb : b = P
    · rw [hb, hP] at e
      cases e
      rw [hb, atP]
      exact ⟨more, rfl⟩
    · rw [at_ b hb (sc b _ e) (sd b _ e), e]
      exact ⟨#[], by simp⟩
  · obtain ⟨ob, es, ep, ho, r⟩ := hn
    exact ⟨ob, es, ep, k _ ob (nN _ I.free) ho, r⟩
  · by_cases hb0 : b = d
    · rw [hb0, upd_same] at e
      cases e
      rw [hb0]
      exact ed _
    · by_cases hb : b = c
      · rw [hb, upd_ne hcd, upd_same] at e
        cases e
        rw [hb]
        exact ec _
      · by_cases hb2 : b = P
        · rw [hb2, atP] at e
          cases e
          rw [hb2]
          exact hm
        · rw [at_ b hb2 hb hb0] at e
          refine (I.hok b u e).stay (fun d v hd q => k d v ?_ q) (fun d q => by rw [at_ d (nP d _ q (fun q z => by cases z)) (sc d _ q) (sd d _ q)]; exact q) fun d xs q => by rw [at_ d (nP d _ q (fun q z => by cases z)) (sc d _ q) (sd d _ q)]; exact q
          rcases hd with z | z
          · rw [z]
            exact hb2
          · exact nP d _ z (fun q z => by cases z)
/-- how the heap looks once the code is there: it was, or it is new, with a table of its own -/
def Made (Rel : Addr → Addr → Prop) (P : Addr) (gpos : Pos) (ps : Array Value) (H : Hp) (c2 P2 : Addr) (H2 : Hp) : Prop :=
  c2 ≠ P2 ∧ ((H2 = H ∧ codeAmong gpos ps.toList = some (.ref c2) ∧ Rel c2 P2) ∨
  (H c2 = none ∧ H P2 = none ∧ c2 ≠ P ∧ P2 ≠ P ∧ H2 = upd (upd (upd H P (.tbl (ps ++ #[rawInt gpos.line, rawInt gpos.col, .ref c2]))) c2 (CdO c2 P2)) P2 (TbO P2)))
theorem code_siteN {Rel : Addr → Addr → Prop} {c P : Addr} {ps : Array Value} {Q : Value → Shared → Prop} {qual : Str} {scope : Scope} {gpos : Pos} (hcode : X.env.code = .ref c) (hcd : PySem.W.CodeHd X.base c P) (hP : H P = some (.tbl ps)) (ht : TriplesOk ps.toList)
    (hall : ∀ cv, codeAmong gpos ps.toList = some cv → ∃ c2 P2, cv = .ref c2 ∧ Rel c2 P2 ∧ H c2 = some (CdO c2 P2)) (I : Inv X pins σ H s)
    (h : ∀ c2 P2 H2 s', Made Rel P gpos ps H c2 P2 H2 → Inv X pins σ H2 s' → s.heap.objs.size ≤ s'.heap.objs.size → (∀ b o, b ≠ P → s.heap.get? b = some o → s'.heap.get? b = some o) → s'.gens = s.gens → (∀ b o, s.heap.get? b = some o → H b = none → H2 b = none) → Q (.ref c2) s') :
    wpAny (model X.prog X.w) X.A (genexprCode X.env gpos qual scope) Q X.xe s := by
  have hPs : s.heap.get? P = some (PySem.W.tabObj ps) := I.hok P _ hP
  have cd : PySem.W.CodeHd s.heap c P := hcd.keeps I.bk
  cases hf : codeAmong gpos ps.toList with
  | none =>
    refine wpAny_genexprCodeX hcode (cd.code hPs ht) (cd.tab hPs) hf fun c' h' tk hx hge hlt hco' _ htab' ⟨P', hP', hic, hit⟩ => ?_
    have cd' : PySem.W.CodeHd h' c' P' := PySem.W.CodeHd.of hic hit
    obtain ⟨_, _, _, _, _, _, _, _, _, op, _, _, _, _, _, _, _, _, _, htr, _⟩ := hic
    have nC : H c' = none := I.hok.fresh hge
    have nD : H P' = none := I.hok.fresh hP'
    have ncp : c' ≠ P' := by
      obtain ⟨_, _, _, _, _, _, _, _, _, _, _, _, _, _, _, _, _, _, z⟩ := cd'
      exact z
    have J := inv_table2 (t' := tk) (c := c') (d := P') (oc := CdO c' P') (od := TbO P') (more := #[rawInt gpos.line, rawInt gpos.col, .ref c']) I hP (fun b o hb e => hx b o hb e) htab'.2 hge hP' ncp (fun H' => cdO_ok cd' _ _ _) (fun H' => tbO_ok hit.2 htr _ _ _)
    exact h c' P' _ _ ⟨ncp, .inr ⟨nC, nD, (fun z => by rw [z, hP] at nC; cases nC), (fun z => by rw [z, hP] at nD; cases nD), rfl⟩⟩ J (Nat.le_of_lt (Nat.lt_of_le_of_lt hge hlt)) (fun b o hb e => hx b o hb e) rfl fun b o e n => by
      have hlt := Heap.lt_size e
      rw [upd_ne (fun z => by rw [z] at hlt; exact absurd (Nat.lt_of_lt_of_le hlt hP') (Nat.lt_irrefl _)), upd_ne (fun z => by rw [z] at hlt; exact absurd (Nat.lt_of_lt_of_le hlt hge) (Nat.lt_irrefl _)), upd_ne (fun z => by rw [z, hP] at n; cases n)]
      exact n
  | some cv =>
    obtain ⟨c2, P2, rfl, h1, h2⟩ := hall cv hf
    have hne : c2 ≠ P2 := by
      obtain ⟨_, _, _, _, _, _, _, _, _, _, _, _, _, _, _, _, _, _, z⟩ := (I.hok c2 _ h2).1
      exact z
    exact wpAny_genexprCode_hit hcode (cd.code hPs ht) hf (h c2 P2 H s ⟨hne, .inl ⟨rfl, hf, h1⟩⟩ I (Nat.le_refl _) (fun _ _ _ e => e) rfl (fun _ _ _ n => n))
end
/-- a generator expression drawn out, which makes others: the code is known to its element -/
def tGxN (wi : TI) (g : TG) (te : Addr → TE) (vs : List Nat) (P : Addr) (gpos : Pos) (fin : List V → Hp → Prop) (yk : List V → V → Hp → Prop → Prop) : L2.St → Hp → Prop := fun σ H => wi σ H fun J H1 => ∃ (ps : Array Value) (Rel : Addr → Addr → Prop), H1 P = some (.tbl ps) ∧ TriplesOk ps.toList ∧
  (∀ cv, codeAmong gpos ps.toList = some cv → ∃ c2 P2, cv = .ref c2 ∧ Rel c2 P2 ∧ H1 c2 = some (CdO c2 P2)) ∧ ∀ c2 P2 H2, Made Rel P gpos ps H1 c2 P2 H2 → ∃ W : Nat → Nat → List V → Hp → Prop, (∃ m, W 0 m [] H2) ∧ Loop J g (te c2) vs ⟨fin, yk, fun _ _ => True⟩ (wipe σ vs) W
section
variable {X : Cx} {pins : List (Addr × Obj)} {σ : L2.St} {H : Hp} {s : Shared} {tg elt iter : Expr} {scope : Scope} {own : List (Str × Nat)} {gpos : Pos} {wi : TI} {g : TG} {te : Addr → TE} {k : Nat} {c P : Addr} {fin : List V → Hp → Prop} {yk : List V → V → Hp → Prop → Prop}
theorem gen_readyN {Q' : Value → Shared → Prop} (hc : X.calm = true) (hN : X.N.Nodup) (hi : PI X tg iter wi) (ok : BlkOk X.N X.env.scope scope own) (G : GScope1 scope) (hr : Room (k + 1) X.A)
    (hcode : X.env.code = .ref c) (hcd : PySem.W.CodeHd X.base c P) (bm : Bm X.base X.mg)
    (hg : ∀ (A : Around) (s : Shared) (H : Hp) (code : Value) (fp : List Addr) (pn : List (Addr × Obj)), Room k (A.deeper (gEnv X scope s code)) → PG (gcx X A s H (gEnv X scope s code) fp pn) tg g)
    (he : ∀ (A : Around) (s : Shared) (H : Hp) (c2 : Addr) (fp : List Addr) (pn : List (Addr × Obj)), Room k (A.deeper (gEnv X scope s (.ref c2))) → PE (gcx X A s H (gEnv X scope s (.ref c2)) fp pn) elt (te c2))
    (hf : ∀ v, genFold iter X.env v = pure v) (I : Inv X pins σ H s) (h : tGxN wi g te (own.map (·.2)) P gpos fin yk σ H) (hQ : ∀ u s', Ready X pins σ fin yk u s' → Q' u s') :
    wpAny (model X.prog X.w) X.A (eval (.GeneratorExp elt [⟨tg, iter, [], 0⟩] scope gpos) X.env) Q' X.xe s := by
  have hfree : ∀ y ∈ scope.names, y.2 = .free → ∃ c, X.env.cells.lookup y.1 = some c := fun y hy e => by
    rcases ok.free y hy e with k | k
    · exact I.ok.has _ (.inl k)
    · exact I.ok.has _ (.inr k)
  refine wpAny_GeneratorExp_make G.co (closure_ok hfree) G.nocell G.dot ok.kind hr.depth (thn (hi.run pins s σ H _ I h) fun xv s1 hx => thn hx fun itv s2 h2 => ?_) hf
  obtain ⟨it, fp, tn, J, H2a, e, I2, T, st2, f2, ps, Rel, hP, htr, hall, hW⟩ := h2
  subst e
  refine ⟨I2.nolimit, code_siteN (Rel := Rel) hcode hcd hP htr hall I2 fun c2 P2 H2 s3 md I3 hsz hk3 hg3 hn3 => blt_site bm I3 fun h' hn' hs' => hQ _ _ ?_⟩
  obtain ⟨W, ⟨m0, w0⟩, hL⟩ := hW c2 P2 H2 md
  have nP : ∀ b, H2a b = none → b ≠ P := fun b e z => by rw [z, hP] at e; cases e
  have f3 : ∀ b ∈ fp, FpOk X pins H2 b ∧ b < s3.heap.objs.size := fun b hb => by
    obtain ⟨o, e, _⟩ := T.obj _ _ st2 b hb
    exact ⟨⟨hn3 b o e (f2 b hb).1, (f2 b hb).2⟩, Heap.lt_size (hk3 b o (nP b (f2 b hb).1) e)⟩
  have st3 : tn 0 s3.heap := T.keep _ _ _ st2 fun b hb o e => hk3 b o (nP b (f2 b hb).1) e
  have sz' : h'.objs.size = s3.heap.objs.size + 1 := by rw [hs'.1, Heap.size_push]
  have kp' : ∀ b o, s3.heap.get? b = some o → h'.get? b = some o := fun b o e => hs'.extBut b o (Nat.ne_of_lt (Heap.lt_size e)) (Heap.get?_push_of_some _ e)
  generalize hgo : ({ cls := .type "generator", data := .fields #[.int s3.gens.size 0, .str "<genexpr>" (s3.toks + 1), .str (X.env.qual ++ "<genexpr>") (s3.toks + 1 + 1)] } : Obj) = go
  have gpush : (h'.push go).get? h'.objs.size = some go := Heap.get?_push_size _ (by subst hgo; rfl)
  have isg : ∀ {h : Heap}, h.get? h'.objs.size = some go → h.IsGen h'.objs.size s3.gens.size := fun {h} e => ⟨go, _, _, e, by subst hgo; rfl, by subst hgo; rfl, by subst hgo; rfl⟩
  have hlt : s3.heap.objs.size < h'.objs.size := by rw [sz']; exact Nat.lt_succ_self _
  have kp : ∀ b o, s3.heap.get? b = some o → (h'.push go).get? b = some o := fun b o e => Heap.get?_push_of_some _ (kp' b o e)
  refine ⟨h'.objs.size, s3.gens.size, _, gcx X (in3 X.A).in1 s3 H2 (gEnv X scope s3 (.ref c2)) fp [(h'.objs.size, go)], wipe σ (own.map (·.2)), m0, rfl, isg gpush, Array.getElem?_push_size .., I3.nolimit.keeps kp, I3.bare.push rfl, fun σ1 H1 s1 J1 => ⟨gen_back I3 f3 J1, ?_⟩, fun zs lk s4 hz hk4 os4 ba4 hlk lk0 => ?_⟩
  · exact isg (J1.pin (h'.objs.size, go) (List.mem_append_left _ (List.mem_singleton.mpr rfl))).1
  · have kk : ∀ b o, s3.heap.get? b = some o → s4.heap.get? b = some o := fun b o e => hk4 b o (kp b o e)
    have hns : s4.heap.Ns s3.heap.objs.size (fun y => if y = ".0" then some (.ref it) else none) := (hn'.push go).at' fun o e => hk4 _ o e
    have szp : (h'.push go).objs.size = h'.objs.size + 1 := Heap.size_push ..
    have J0 := gen_start (A := (in3 X.A).in1) (code := .ref c2) (go := go) I3 ok hN G.nocell f3 (show ((in3 X.A).in1).handled = none from hr.hd) (show ((in3 X.A).in1).frames = some X.stack from I3.ok.frames) hns kk os4 ba4 (hk4 _ _ gpush) hlt (fun v q => by subst hgo; cases q)
    have hroom : Room k ((in3 X.A).in1.deeper (gEnv X scope s3 (.ref c2))) := ⟨hr.hd, by have := hr.dp; show X.A.depth + 1 + 3 * k + 5 < _; omega, by have := hr.un; show X.A.units + 1 + 1 + 1 + 1 + 3 + 16 * k + 200 < _; omega⟩
    have big : ∀ z ∈ zs, h'.objs.size < z := fun z hz' => by
      have h1 := (hz z hz').1
      have h2 : h'.objs.size + 1 ≤ z := by rw [← szp]; exact h1
      exact h2
    refine seg_start (Y := gcx X (in3 X.A).in1 s3 H2 (gEnv X scope s3 (.ref c2)) fp [(h'.objs.size, go)]) rfl rfl (fun _ _ z => z) G.co T (fun b hb => .inl hb) (fun b hb => ⟨?_, ?_, ?_, ?_⟩) (fun b hb hb2 => ?_) (hg _ _ _ _ _ _ hroom) (he _ _ _ _ _ _ hroom) hlk
      (fun i m ys H' hW => hL i m ys H' hW) (wipe_wipe σ _).symm m0 [] s4 s4 H2 w0 J0 (T.keep _ _ _ st3 fun b _ o e => kk b o e) (fun b hb => (f3 b hb).1.1) (fun z hz' => ⟨⟨?_, ?_, ?_, .inr ?_, fun x c e => ?_, fun p hp => ?_⟩, (hz z hz').2⟩) (fun _ _ _ e => e) lk0
    · exact Nat.ne_of_lt (f3 b hb).2
    · exact J0.ok.exfs b hb
    · exact (J0.ok.exf b hb).2
    · intro p hp
      have hp : p = (h'.objs.size, go) := by simpa [gcx] using hp
      rw [hp]
      exact Nat.ne_of_gt (Nat.lt_trans (f3 b hb).2 hlt)
    · exact absurd (Nat.lt_trans (f3 b hb2).2 (Nat.lt_trans hlt (big b hb))) (Nat.lt_irrefl _)
    · exact I3.hok.fresh (Nat.le_of_lt (Nat.lt_trans hlt (big z hz')))
    · exact Nat.ne_of_gt (Nat.lt_trans hlt (big z hz'))
    · intro hm
      obtain ⟨_, o, ho, _⟩ := I3.stack.mem hm
      exact absurd (Nat.lt_trans (Heap.lt_size ho) (Nat.lt_trans hlt (big z hz'))) (Nat.lt_irrefl _)
    · exact Nat.le_of_lt (Nat.lt_trans hlt (big z hz'))
    · obtain ⟨v, o, ho, _⟩ := J0.cell x c e
      intro ez
      have hcl : c < s3.heap.objs.size := by
        have e' : (cloFrom X.env.cells scope.names []).lookup x = some c := e
        rcases cloFrom_mem (PySem.mem_of_lookup e') with hm | ⟨h1, h2⟩
        · cases hm
        · obtain ⟨c1, hc1⟩ := hfree _ h1 rfl
          have hc1 : X.env.cells.lookup x = some c1 := hc1
          have e2 : c = c1 := by rw [h2, hc1]; rfl
          obtain ⟨w', z'⟩ := I3.cell x c1 hc1
          rw [e2]
          exact z'.lt
      rw [ez] at hcl
      exact absurd (Nat.lt_trans hcl (Nat.lt_trans hlt (big z hz'))) (Nat.lt_irrefl _)
    · have hp : p = (h'.objs.size, go) := by simpa [gcx] using hp
      rw [hp]
      exact Nat.ne_of_lt (big z hz')
end
end Gx

set_option maxRecDepth 100000
set_option maxHeartbeats 4000000
namespace Gx
open PySem PySem.Spec PyProof.Rows L2 GenW
section
variable {X : Cx} {tg elt iter : Expr} {scope : Scope} {own : List (Str × Nat)} {p gpos pos : Pos} {wi : TI} {g : TG} {te : Addr → TE} {k : Nat} {c P : Addr} {Pre : Hp → Prop}
theorem pe_sumGN (hc : X.calm = true) (hN : X.N.Nodup) (hr : Room (k + 1) X.A) (hgl : Gl X "sum") (hm : X.mg "sum" = none) (hi : PI X tg iter wi) (ok : BlkOk X.N X.env.scope scope own) (G : GScope1 scope)
    (hcode : X.env.code = .ref c) (hcd : PySem.W.CodeHd X.base c P) (bm : Bm X.base X.mg)
    (hg : ∀ (A : Around) (s : Shared) (H : Hp) (code : Value) (fp : List Addr) (pn : List (Addr × Obj)), Room k (A.deeper (gEnv X scope s code)) → PG (gcx X A s H (gEnv X scope s code) fp pn) tg g)
    (he : ∀ (A : Around) (s : Shared) (H : Hp) (c2 : Addr) (fp : List Addr) (pn : List (Addr × Obj)), Room k (A.deeper (gEnv X scope s (.ref c2))) → PE (gcx X A s H (gEnv X scope s (.ref c2)) fp pn) elt (te c2))
    (hf : ∀ v, genFold iter X.env v = pure v := by intro _; rfl)
    (hst : starEach [.GeneratorExp elt [⟨tg, iter, [], 0⟩] scope gpos] X.env = (false, eval (.GeneratorExp elt [⟨tg, iter, [], 0⟩] scope gpos) X.env) :: starEach [] X.env := by rfl) :
    PE X (.Call (.Name "sum" p) [.GeneratorExp elt [⟨tg, iter, [], 0⟩] scope gpos] [] pos) (fun σ H Q => tGxN wi g te (own.map (·.2)) P gpos (finSum Q) (ykInt) σ H) := by
  refine ⟨fun pins s σ H Q I h => ?_⟩
  refine wpAny_Call_Name_kw (ld_blt I hgl hm boot_sum ?_)
  refine PyProof.Rows.callWith_builtin1 ?_ hst (by rfl)
  rw [hst]
  show wpAny _ _ (spliced ((false, eval (.GeneratorExp elt [⟨tg, iter, [], 0⟩] scope gpos) X.env) :: backTo pos (starEach [] X.env))) _ _ s
  refine Calls.spliced_cons (gen_readyN hc hN hi ok G hr hcode hcd bm hg he hf I h fun u s5 R => ?_)
  exact Calls.spliced_nil (call_sumG (hr.mono (Nat.zero_le _)) R)
theorem pe_tupleGN (hc : X.calm = true) (hN : X.N.Nodup) (hr : Room (k + 1) X.A) (hgl : Gl X "tuple") (hm : X.mg "tuple" = none) (hi : PI X tg iter wi) (ok : BlkOk X.N X.env.scope scope own) (G : GScope1 scope)
    (hcode : X.env.code = .ref c) (hcd : PySem.W.CodeHd X.base c P) (bm : Bm X.base X.mg)
    (hg : ∀ (A : Around) (s : Shared) (H : Hp) (code : Value) (fp : List Addr) (pn : List (Addr × Obj)), Room k (A.deeper (gEnv X scope s code)) → PG (gcx X A s H (gEnv X scope s code) fp pn) tg g)
    (he : ∀ (A : Around) (s : Shared) (H : Hp) (c2 : Addr) (fp : List Addr) (pn : List (Addr × Obj)), Room k (A.deeper (gEnv X scope s (.ref c2))) → PE (gcx X A s H (gEnv X scope s (.ref c2)) fp pn) elt (te c2))
    (hf : ∀ v, genFold iter X.env v = pure v := by intro _; rfl)
    (hst : starEach [.GeneratorExp elt [⟨tg, iter, [], 0⟩] scope gpos] X.env = (false, eval (.GeneratorExp elt [⟨tg, iter, [], 0⟩] scope gpos) X.env) :: starEach [] X.env := by rfl) :
    PE X (.Call (.Name "tuple" p) [.GeneratorExp elt [⟨tg, iter, [], 0⟩] scope gpos] [] pos) (fun σ H Q => tGxN wi g te (own.map (·.2)) P gpos (finT Q) (ykL) σ H) := by
  refine ⟨fun pins s σ H Q I h => ?_⟩
  refine wpAny_Call_Name_kw (ld_blt I hgl hm bt_tuple ?_)
  refine PyProof.Rows.callWith_type1 ?_ hst (by rfl)
  rw [hst]
  show wpAny _ _ (spliced ((false, eval (.GeneratorExp elt [⟨tg, iter, [], 0⟩] scope gpos) X.env) :: backTo pos (starEach [] X.env))) _ _ s
  refine Calls.spliced_cons (gen_readyN hc hN hi ok G hr hcode hcd bm hg he hf I h fun u s5 R => ?_)
  exact Calls.spliced_nil (call_tupleG (hr.mono (Nat.zero_le _)) R)
end
end Gx

set_option maxRecDepth 100000
set_option maxHeartbeats 2000000
/-! sorted(generator expression) -/
namespace Gx
open PySem PySem.Spec PyProof.Rows L2
def finSo (K : PySem.W.Frag) (Q : VK) : List V → Hp → Prop := finL fun ys H => ∃ dz : List PyData, DpAll K H ys dz ∧ PySem.W.AllAlike dz ∧ PySem.W.Sortable dz ∧ (∀ d ∈ dz, d.depth ≤ 60) ∧
  ∀ p, H p = none → Q (.ref p) (upd H p (.lst (((ys.zip dz).mergeSort (PySem.W.dataLe false fun b => b.2)).map (·.1))))
theorem each_vals {s : Shared} {X : Cx} {pins : List (Addr × Obj)} {σ : L2.St} {H : Hp} (I : Inv X pins σ H s) : ∀ {ys : List V} {dz : List PyData} {us : List Value}, DpAll X.K H ys dz → Vals ys us →
    PySem.W.EachIs (fun u (b : V × PyData) => RelV b.1 u) us (ys.zip dz) ∧ PySem.W.EachIs (fun u (b : V × PyData) => ∃ as, Reads s.heap u b.2 as) us (ys.zip dz)
  | _, _, _, .nil, .nil => ⟨.nil, .nil⟩
  | _, _, _, .cons r t, .cons q u => by
    obtain ⟨a, b⟩ := each_vals I t u
    exact ⟨.cons q a, .cons (Dp.reads I _ _ _ r q) b⟩
theorem vals_each : ∀ {us : List Value} {bs : List (V × PyData)}, PySem.W.EachIs (fun u (b : V × PyData) => RelV b.1 u) us bs → Vals (bs.map (·.1)) us
  | _, _, .nil => .nil
  | _, _, .cons r t => .cons r (vals_each t)
theorem each_imp {α β : Type} {R S : α → β → Prop} (h : ∀ a b, R a b → S a b) : ∀ {as : List α} {bs : List β}, PySem.W.EachIs R as bs → PySem.W.EachIs S as bs
  | _, _, .nil => .nil
  | _, _, .cons r t => .cons (h _ _ r) (each_imp h t)
theorem dp_len {K : PySem.W.Frag} {H : Hp} : ∀ {ys : List V} {dz : List PyData}, DpAll K H ys dz → ys.length = dz.length
  | _, _, .nil => rfl
  | _, _, .cons _ t => congrArg (· + 1) (dp_len t)
section
variable {X : Cx} {pins : List (Addr × Obj)} {σ : L2.St} {s : Shared}
theorem call_sortedG {Q : VK} {u : Value} {E : Value → Shared → Prop} (hr : Room 0 X.A) (R : Ready X pins σ (finSo X.K Q) ykL u s) : wpAny (model X.prog X.w) X.A (call (.builtin "sorted") [u]) (EP X pins σ Q) E s := by
  obtain ⟨a, g, n, Y, σ', rfl, Sr⟩ := R.src
  refine Calls.call_function_entry kind_sorted plain_sorted entry_sorted (args_sorted1 _) ?_
  unfold Builtin.«sorted»
  refine wpAny_bind (m := checkCount "sorted" 1 1 _) (wpAny_pure ?_)
  refine wpAny_bind (wpAny_of_in1 (collectG hr Sr fun ys us H s' q rv hle J => ?_))
  obtain ⟨dz, hdp, hal, hk, hu, h⟩ := q
  have hul : us.length ≤ sizeLine := by rw [← rv.length]; exact hle
  refine wpAny_bind (wpAny_newList ?_ hul)
  have hoL : (s'.heap.push (seqObj "list" us.toArray 0)).get? s'.heap.objs.size = some (seqObj "list" us.toArray 0) := Heap.get?_push_size _ rfl
  have old : ∀ b o, s'.heap.get? b = some o → (PySem.W.sortingHeap (s'.heap.push (seqObj "list" us.toArray 0)) s'.heap.objs.size us).get? b = some o := fun b o e =>
    PySem.W.sortingHeap_old (Nat.ne_of_lt (Heap.lt_size e)) (Heap.get?_push_of_some _ e)
  obtain ⟨e1, e2⟩ := each_vals J hdp rv
  have em : (ys.zip dz).map (·.2) = dz := List.map_snd_zip (by rw [dp_len hdp]; exact Nat.le_refl _)
  have er : PySem.W.EachIs (fun u (b : V × PyData) => ∃ as, Reads (PySem.W.sortingHeap (s'.heap.push (seqObj "list" us.toArray 0)) s'.heap.objs.size us) u b.2 as) us (ys.zip dz) := each_imp (fun _ _ ⟨as, r⟩ => ⟨as, PyProof.Rows.Reads.keeps old r⟩) e2
  have hal' : PySem.W.AllAlike ((ys.zip dz).map fun b => b.2) := by rw [em]; exact hal
  have hk' : PySem.W.Sortable ((ys.zip dz).map fun b => b.2) := by rw [em]; exact hk
  have hun := hr.un
  have S := PySem.W.SortsAt.data (prog := X.prog) (w := X.w) (A := X.A.in1.in1) (s := { s' with heap := PySem.W.sortingHeap (s'.heap.push (seqObj "list" us.toArray 0)) s'.heap.objs.size us }) (PySem.W.each_map (R := fun v d => ∃ as, Reads (PySem.W.sortingHeap (s'.heap.push (seqObj "list" us.toArray 0)) s'.heap.objs.size us) v d as) (fun b : V × PyData => b.2) er) hal' hk' (fun d hd => by
    rw [em] at hd
    have := hu d hd
    show X.A.units + 1 + 1 + d.depth < _
    omega)
  have ho := PySem.W.sortVals_data false e1 er hal'
  refine wpAny_bind (wpAny_holding (wpAny_call_entry PyProof.Rows.slot_list_sort ⟨_, hoL, rfl⟩ PyProof.Rows.entry_list_sort (PySem.W.list_sort_vals hoL S hul ⟨_, rfl, ?_⟩) (PyProof.Rows.args_list_sort _)))
  generalize PySem.W.sortVals _ false us us = out at ho
  obtain ⟨ep, he'⟩ := PyProof.Rows.sortedHeap_at (vs := us) (out := out.toArray) hoL
  have rvo := vals_each ho
  have hl2 : (((ys.zip dz).mergeSort (PySem.W.dataLe false fun b => b.2)).map (·.1)).length ≤ sizeLine := by
    rw [List.length_map, List.length_mergeSort, List.length_zip, dp_len hdp, Nat.min_self, ← dp_len hdp]
    exact hle
  have hf : H s'.heap.objs.size = none := J.hok.fresh (Nat.le_refl _)
  refine wpAny_pure ⟨_, rfl, .ref s'.heap.objs.size, upd H s'.heap.objs.size (.lst _), J.laid (t' := s'.toks) (fun b o e => ?_) (Nat.le_refl _) ⟨hl2, out, ep, rvo, he'⟩, rfl, h _ hf⟩
  rw [PyProof.Rows.sortedHeap_old (Nat.ne_of_lt (Heap.lt_size e)) (Heap.lt_size (Heap.get?_push_of_some _ e))]
  exact Heap.get?_push_of_some _ e
end
end Gx
namespace Gx
open PySem PySem.Spec PyProof.Rows L2
section
variable {X : Cx} {tg elt iter : Expr} {scope : Scope} {own : List (Str × Nat)} {p gpos pos : Pos} {wi : TI} {g : TG} {te : TE} {k : Nat} {c P : Addr} {Pre : Hp → Prop}
theorem pe_sortedG (hc : X.calm = true) (hN : X.N.Nodup) (hr : Room (k + 1) X.A) (hgl : Gl X "sorted") (hm : X.mg "sorted" = none) (hi : PI X tg iter wi) (ok : BlkOk X.N X.env.scope scope own) (G : GScope1 scope)
    (hs : ∀ H, Pre H → Site X H c P ∧ H P = some (TbO P))
    (hg : ∀ (A : Around) (s : Shared) (H : Hp) (code : Value) (fp : List Addr) (pn : List (Addr × Obj)), Room k (A.deeper (gEnv X scope s code)) → PG (gcx X A s H (gEnv X scope s code) fp pn) tg g)
    (he : ∀ (A : Around) (s : Shared) (H : Hp) (code : Value) (fp : List Addr) (pn : List (Addr × Obj)), Room k (A.deeper (gEnv X scope s code)) → PE (gcx X A s H (gEnv X scope s code) fp pn) elt te)
    (hf : ∀ v, genFold iter X.env v = pure v := by intro _; rfl)
    (hst : starEach [.GeneratorExp elt [⟨tg, iter, [], 0⟩] scope gpos] X.env = (false, eval (.GeneratorExp elt [⟨tg, iter, [], 0⟩] scope gpos) X.env) :: starEach [] X.env := by rfl) :
    PE X (.Call (.Name "sorted" p) [.GeneratorExp elt [⟨tg, iter, [], 0⟩] scope gpos] [] pos) (fun σ H Q => tGx wi g te (own.map (·.2)) Pre (finSo X.K Q) (ykL) σ H) := by
  refine ⟨fun pins s σ H Q I h => ?_⟩
  refine wpAny_Call_Name_kw (ld_blt I hgl hm PyProof.Rows.boot_sorted ?_)
  refine PyProof.Rows.callWith_builtin1 ?_ hst (by rfl)
  rw [hst]
  show wpAny _ _ (spliced ((false, eval (.GeneratorExp elt [⟨tg, iter, [], 0⟩] scope gpos) X.env) :: backTo pos (starEach [] X.env))) _ _ s
  refine Calls.spliced_cons (gen_ready hc hN hi ok G hr hs hg he hf I h fun u s5 R => ?_)
  exact Calls.spliced_nil (call_sortedG (hr.mono (Nat.zero_le _)) R)
end
end Gx

set_option maxRecDepth 100000
set_option maxHeartbeats 2000000
namespace Dl
open PySem PySem.Spec PyProof.Rows L2

def Le (H H' : Hp) : Prop := ∀ a o, H a = some o → H' a = some o
theorem Le.refl (H : Hp) : Le H H := fun _ _ h => h
theorem Le.trans {H H1 H2 : Hp} (a : Le H H1) (b : Le H1 H2) : Le H H2 := fun x o h => b x o (a x o h)
theorem Le.new {H : Hp} {p : Addr} {o : HO} (h : H p = none) : Le H (upd H p o) := fun a u e => by
  rw [upd_ne (ne_of_none e h)]
  exact e
theorem Le.none {H H' : Hp} {p : Addr} (e : Le H H') (h : H' p = none) : H p = none := by
  cases h1 : H p with
  | none => rfl
  | some o =>
    rw [e p o h1] at h
    cases h
theorem Le.rd {H H' : Hp} {a : Addr} {u : HO} (e : Le H H') (h : Rd H a u) : Rd H' a u := by
  rcases h with h | ⟨o, h⟩
  · exact Or.inl (e a _ h)
  · exact Or.inr ⟨o, e a _ h⟩
theorem Le.l {K : PySem.W.Frag} {H H' : Hp} {a : Addr} {xs : List V} (e : Le H H') (h : SqL K H a xs) : SqL K H' a xs := by
  rcases h with h | h
  · exact Or.inl (e.rd h)
  · exact Or.inr h
theorem Le.t {K : PySem.W.Frag} {H H' : Hp} {a : Addr} {xs : List V} (e : Le H H') (h : SqT K H a xs) : SqT K H' a xs := by
  rcases h with h | h
  · exact Or.inl (e.rd h)
  · exact Or.inr h
/-- both grow -/
theorem Le.upd2 {C H : Hp} {p : Addr} {o : HO} (e : Le C H) : Le (upd C p o) (upd H p o) := fun a u h => by
  by_cases q : a = p
  · subst q; rw [upd_same] at h ⊢; exact h
  · rw [upd_ne q] at h ⊢; exact e a u h

/-- immutable data -/
inductive D where
  | non | bl (b : Bool) | int (i : Int) | str (s : Str) | lst (xs : List D) | tup (xs : List D) | obj (C : Addr) (ns : List Str) (fs : List D) | adr (a : Addr) | ext (o : Addr → HO) | lsq (xs : List D) | dct (ks : List Key) (ds : List D)

mutual
inductive Dat (K : PySem.W.Frag) (C : Hp) : V → D → Prop
  | non : Dat K C .non .non
  | bl (b : Bool) : Dat K C (.bl b) (.bl b)
  | int (i : Int) : Dat K C (.int i) (.int i)
  | str (x : Str) : Dat K C (.str x) (.str x)
  | lst {a : Addr} {xs : List V} {ds : List D} : C a = some (.lst xs) → DatAll K C xs ds → Dat K C (.ref a) (.lst ds)
  | tup {a : Addr} {xs : List V} {ds : List D} : Rd C a (.tup xs) → DatAll K C xs ds → Dat K C (.ref a) (.tup ds)
  | obj {a Cl dx : Addr} {ns : List Str} {vs : List V} {ds : List D} : C a = some (.ins Cl dx (ns.zip vs)) → ns.length = vs.length → DatAll K C vs ds → Dat K C (.ref a) (.obj Cl ns ds)
  | adr (a : Addr) : Dat K C (.ref a) (.adr a)
  | ext {a : Addr} {o : Addr → HO} : C a = some (o a) → Dat K C (.ref a) (.ext o)
  | lsq {a : Addr} {xs : List V} {ds : List D} : SqL K C a xs → DatAll K C xs ds → Dat K C (.ref a) (.lsq ds)
  | dct {a : Addr} {ks : List Key} {vs : List V} {ds : List D} : C a = some (.dK (ks.zip vs)) → ks.length = vs.length → DatAll K C vs ds → Dat K C (.ref a) (.dct ks ds)
inductive DatAll (K : PySem.W.Frag) (C : Hp) : List V → List D → Prop
  | nil : DatAll K C [] []
  | cons {v : V} {vs : List V} {d : D} {ds : List D} : Dat K C v d → DatAll K C vs ds → DatAll K C (v :: vs) (d :: ds)
end
section
variable {K : PySem.W.Frag} {C C' : Hp}
mutual
theorem Dat.mono (e : Le C C') : ∀ (d : D) (v : V), Dat K C v d → Dat K C' v d
  | .non, _, .non => .non
  | .bl _, _, .bl b => .bl b
  | .int _, _, .int b => .int b
  | .str _, _, .str b => .str b
  | .lst ds, _, .lst h a => .lst (e _ _ h) (DatAll.mono e ds _ a)
  | .tup ds, _, .tup h a => .tup (e.rd h) (DatAll.mono e ds _ a)
  | .lsq ds, _, .lsq h a => .lsq (e.l h) (DatAll.mono e ds _ a)
  | .dct ks ds, _, .dct h l a => .dct (e _ _ h) l (DatAll.mono e ds _ a)
  | .obj _ _ ds, _, .obj h l a => .obj (e _ _ h) l (DatAll.mono e ds _ a)
  | .adr _, _, .adr a => .adr a
  | .ext _, _, .ext h => .ext (e _ _ h)
theorem DatAll.mono (e : Le C C') : ∀ (ds : List D) (vs : List V), DatAll K C vs ds → DatAll K C' vs ds
  | [], _, .nil => .nil
  | d :: ds, _, .cons h t => .cons (Dat.mono e d _ h) (DatAll.mono e ds _ t)
end
theorem DatAll.len : ∀ {vs : List V} {ds : List D}, DatAll K C vs ds → vs.length = ds.length
  | _, _, .nil => rfl
  | _, _, .cons _ t => by simp [DatAll.len t]
theorem DatAll.get : ∀ {vs : List V} {ds : List D} {i : Nat} {d : D}, DatAll K C vs ds → ds[i]? = some d → ∃ v, vs[i]? = some v ∧ Dat K C v d
  | _, _, _, _, .nil, e => by simp at e
  | _, _, 0, _, .cons r _, e => by simp at e; subst e; exact ⟨_, rfl, r⟩
  | _, _, i + 1, _, .cons _ t, e => by
    obtain ⟨u, h1, h2⟩ := DatAll.get (i := i) t (by simpa using e)
    exact ⟨u, by simpa using h1, h2⟩
theorem DatAll.get' : ∀ {vs : List V} {ds : List D} {i : Nat} {v : V}, DatAll K C vs ds → vs[i]? = some v → ∃ d, ds[i]? = some d ∧ Dat K C v d
  | _, _, _, _, .nil, e => by simp at e
  | _, _, 0, _, .cons r _, e => by simp at e; subst e; exact ⟨_, rfl, r⟩
  | _, _, i + 1, _, .cons _ t, e => by
    obtain ⟨u, h1, h2⟩ := DatAll.get' (i := i) t (by simpa using e)
    exact ⟨u, by simpa using h1, h2⟩
theorem DatAll.append : ∀ {xs ys : List V} {us ws : List D}, DatAll K C xs us → DatAll K C ys ws → DatAll K C (xs ++ ys) (us ++ ws)
  | _, _, _, _, .nil, s => s
  | _, _, _, _, .cons r t, s => .cons r (DatAll.append t s)
theorem DatAll.take : ∀ {xs : List V} {us : List D} (n : Nat), DatAll K C xs us → DatAll K C (xs.take n) (us.take n)
  | _, _, 0, _ => .nil
  | _, _, _ + 1, .nil => .nil
  | _, _, n + 1, .cons r t => .cons r (DatAll.take n t)
theorem DatAll.drop : ∀ {xs : List V} {us : List D} (n : Nat), DatAll K C xs us → DatAll K C (xs.drop n) (us.drop n)
  | _, _, 0, r => r
  | _, _, _ + 1, .nil => .nil
  | _, _, n + 1, .cons _ t => DatAll.drop n t
theorem DatAll.set {v : V} {d : D} (r : Dat K C v d) : ∀ {xs : List V} {us : List D} (i : Nat), DatAll K C xs us → DatAll K C (xs.set i v) (us.set i d)
  | _, _, _, .nil => .nil
  | _, _, 0, .cons _ t => .cons r t
  | _, _, i + 1, .cons q t => .cons q (DatAll.set r i t)
theorem DatAll.dropLast {xs : List V} {us : List D} (h : DatAll K C xs us) : DatAll K C xs.dropLast us.dropLast := by
  have e := h.len
  rw [List.dropLast_eq_take, List.dropLast_eq_take, e]
  exact h.take _
theorem DatAll.reverse : ∀ {xs : List V} {us : List D}, DatAll K C xs us → DatAll K C xs.reverse us.reverse
  | _, _, .nil => .nil
  | _, _, .cons r t => by
    rw [List.reverse_cons, List.reverse_cons]
    exact (DatAll.reverse t).append (.cons r .nil)
theorem DatAll.rep {xs : List V} {us : List D} (h : DatAll K C xs us) : ∀ k : Nat, DatAll K C (List.replicate k xs).flatten (List.replicate k us).flatten
  | 0 => .nil
  | k + 1 => by
    rw [List.replicate_succ, List.replicate_succ, List.flatten_cons, List.flatten_cons]
    exact h.append (h.rep k)
theorem DatAll.ints : ∀ {vs : List V} {ns : List Int}, DatAll K C vs (ns.map D.int) → vs = ns.map V.int
  | _, [], .nil => rfl
  | _, n :: ns, .cons r t => by
    cases r
    rw [DatAll.ints t]
    rfl
theorem DatAll.ofInts : ∀ (ns : List Int), DatAll K C (ns.map V.int) (ns.map D.int)
  | [] => .nil
  | n :: ns => .cons (.int n) (DatAll.ofInts ns)
theorem DatAll.strs : ∀ {vs : List V} {ns : List Str}, DatAll K C vs (ns.map D.str) → vs = ns.map V.str
  | _, [], .nil => rfl
  | _, n :: ns, .cons r t => by
    cases r
    rw [DatAll.strs t]
    rfl
theorem DatAll.bls : ∀ {vs : List V} {ns : List Bool}, DatAll K C vs (ns.map D.bl) → vs = ns.map V.bl
  | _, [], .nil => rfl
  | _, n :: ns, .cons r t => by
    cases r
    rw [DatAll.bls t]
    rfl
theorem DatAll.two {vs : List V} {a b : D} (h : DatAll K C vs [a, b]) : ∃ x y, vs = [x, y] ∧ Dat K C x a ∧ Dat K C y b := by
  cases h with
  | cons r t => cases t with
    | cons r2 t => cases t; exact ⟨_, _, rfl, r, r2⟩
theorem DatAll.one {vs : List V} {a : D} (h : DatAll K C vs [a]) : ∃ x, vs = [x] ∧ Dat K C x a := by
  cases h with
  | cons r t => cases t; exact ⟨_, rfl, r⟩
theorem DatAll.zero {vs : List V} (h : DatAll K C vs []) : vs = [] := by
  cases h; rfl
/-- a field -/
theorem zip_get {f : Str} : ∀ {ns : List Str} {ds : List D} {vs : List V} {d : D}, (ns.zip ds).lookup f = some d → DatAll K C vs ds → ∃ v, (ns.zip vs).lookup f = some v ∧ Dat K C v d
  | [], _, _, _, e, _ => by simp at e
  | n :: ns, _, _, _, e, .nil => by simp at e
  | n :: ns, _, _, _, e, .cons r t => by
    rw [List.zip_cons_cons, List.lookup_cons] at e ⊢
    cases q : f == n with
    | true =>
      rw [q] at e
      cases e
      exact ⟨_, rfl, r⟩
    | false =>
      rw [q] at e
      exact zip_get e t
end
/-! ### mutable objects -/
inductive MO where
  | lst (ds : List D) | ins (Cl : Addr) (ns : List Str) (fs : List D) | dK (kds : List (Key × D)) | tbl (q : Str) (cs : List Addr) | gt (gpos : Pos)
abbrev Mem := List (Addr × MO)
def dom (μ : Mem) : List Addr := μ.map (·.1)
inductive KAll (K : PySem.W.Frag) (C : Hp) : List (Key × V) → List (Key × D) → Prop
  | nil : KAll K C [] []
  | cons {k : Key} {v : V} {vs : List (Key × V)} {d : D} {ds : List (Key × D)} : Dat K C v d → KAll K C vs ds → KAll K C ((k, v) :: vs) ((k, d) :: ds)
theorem KAll.mono {K : PySem.W.Frag} {C C' : Hp} (e : Le C C') : ∀ {vs : List (Key × V)} {ds : List (Key × D)}, KAll K C vs ds → KAll K C' vs ds
  | _, _, .nil => .nil
  | _, _, .cons r t => .cons (Dat.mono e _ _ r) (KAll.mono e t)
def MoOk (K : PySem.W.Frag) (C : Hp) (o : HO) : MO → Prop
  | .lst ds => ∃ vs, o = .lst vs ∧ DatAll K C vs ds
  | .ins Cl ns ds => ∃ dx vs, o = .ins Cl dx (ns.zip vs) ∧ ns.length = vs.length ∧ DatAll K C vs ds
  | .dK kds => ∃ kvs, o = .dK kvs ∧ KAll K C kvs kds
  | .tbl q cs => ∃ ps : Array Value, o = .tbl ps ∧ TriplesOk ps.toList ∧ (∀ (pos : Pos) (cv : Value), codeAmong pos ps.toList = some cv → ∃ c, cv = .ref c ∧ c ∈ cs) ∧ ∀ c ∈ cs, C c = some (LamX.CodeO c q)
  | .gt gpos => ∃ ps : Array Value, o = .tbl ps ∧ TriplesOk ps.toList ∧ ∀ cv : Value, codeAmong gpos ps.toList = some cv → ∃ c2 P2 : Addr, cv = .ref c2 ∧ C c2 = some (Gx.CdO c2 P2) ∧ C P2 = some (Gx.TbO P2)
theorem MoOk.mono {K : PySem.W.Frag} {C C' : Hp} {o : HO} (e : Le C C') : ∀ {m : MO}, MoOk K C o m → MoOk K C' o m
  | .lst ds, ⟨vs, h, a⟩ => ⟨vs, h, DatAll.mono e _ _ a⟩
  | .ins Cl ns ds, ⟨dx, vs, h, l, a⟩ => ⟨dx, vs, h, l, DatAll.mono e _ _ a⟩
  | .dK kds, ⟨kvs, h, a⟩ => ⟨kvs, h, a.mono e⟩
  | .tbl q cs, ⟨ps, h, t, a, b⟩ => ⟨ps, h, t, a, fun c hc => e _ _ (b c hc)⟩
  | .gt gpos, ⟨ps, h, t, a⟩ => ⟨ps, h, t, fun cv hc => let ⟨c2, P2, x, y, z⟩ := a cv hc; ⟨c2, P2, x, e _ _ y, e _ _ z⟩⟩
/-- the memory holds -/
structure MemOk (K : PySem.W.Frag) (C H : Hp) (μ : Mem) : Prop where
  nd : (dom μ).Nodup
  ok : ∀ p ∈ μ, C p.1 = none ∧ ∃ o, H p.1 = some o ∧ MoOk K C o p.2
/-- how core and heap grow from μ's objects -/
structure Gr (μ μ' : Mem) (C H C' H' : Hp) : Prop where
  core : Le C C'
  new : ∀ b, H b ≠ none → b ∉ dom μ → C b = none → C' b = none
  keep : ∀ b o, b ∉ dom μ → H b = some o → H' b = some o
  there : ∀ b, H b ≠ none → H' b ≠ none
  dom : ∀ b ∈ dom μ', b ∈ dom μ ∨ H b = none
theorem Gr.refl {μ : Mem} {C H : Hp} : Gr μ μ C H C H := ⟨Le.refl _, fun _ _ _ h => h, fun _ _ _ h => h, fun _ h => h, fun _ h => .inl h⟩
theorem Gr.trans {μ μ1 μ2 : Mem} {C H C1 H1 C2 H2 : Hp} (a : Gr μ μ1 C H C1 H1) (b : Gr μ1 μ2 C1 H1 C2 H2) : Gr μ μ2 C H C2 H2 where
  core := a.core.trans b.core
  new := fun c h n e => b.new c (a.there c h) (fun z => by
    rcases a.dom c z with z | z
    · exact n z
    · exact h z) (a.new c h n e)
  keep := fun c o n e => b.keep c o (fun z => by
    rcases a.dom c z with z | z
    · exact n z
    · rw [e] at z; cases z) (a.keep c o n e)
  there := fun c h => b.there c (a.there c h)
  dom := fun c hc => by
    rcases b.dom c hc with z | z
    · exact a.dom c z
    · exact .inr (by
        cases q : H c with
        | none => rfl
        | some o => exact absurd z (a.there c (by rw [q]; simp)))
/-- all is kept, the core grows -/
structure Nw (C H C' H' : Hp) : Prop where
  core : Le C C'
  sub : Le C' H'
  keep : Le H H'
  new : ∀ b, H b ≠ none → C b = none → C' b = none
theorem Nw.refl {C H : Hp} (e : Le C H) : Nw C H C H := ⟨Le.refl _, e, Le.refl _, fun _ _ h => h⟩
theorem Nw.gr {μ : Mem} {C H C' H' : Hp} (n : Nw C H C' H') : Gr μ μ C H C' H' := ⟨n.core, fun b h _ e => n.new b h e, fun b o _ e => n.keep b o e, fun b h => by
  cases q : H b with
  | none => exact absurd q h
  | some o => rw [n.keep b o q]; simp, fun _ h => .inl h⟩
theorem Nw.trans {C H C1 H1 C2 H2 : Hp} (a : Nw C H C1 H1) (b : Nw C1 H1 C2 H2) : Nw C H C2 H2 := ⟨a.core.trans b.core, b.sub, a.keep.trans b.keep, fun c h e => b.new c (by
  cases q : H c with
  | none => exact absurd q h
  | some o => rw [a.keep c o q]; simp) (a.new c h e)⟩
theorem Nw.mem {K : PySem.W.Frag} {μ : Mem} {C H C' H' : Hp} (n : Nw C H C' H') (m : MemOk K C H μ) : MemOk K C' H' μ := ⟨m.nd, fun p hp => by
  obtain ⟨e, o, h, k⟩ := m.ok p hp
  exact ⟨n.new _ (by rw [h]; simp) e, o, n.keep _ _ h, k.mono n.core⟩⟩
/-- a new object, in the core -/
theorem Nw.add {C H : Hp} {p : Addr} {o : HO} (e : Le C H) (h : H p = none) : Nw C H (upd C p o) (upd H p o) := ⟨Le.new (e.none h), e.upd2, Le.new h, fun b hb hc => by
  rw [upd_ne (fun z => hb (by rw [z]; exact h))]
  exact hc⟩
end Dl

set_option maxRecDepth 100000
set_option maxHeartbeats 2000000
namespace Dl
open PySem PySem.Spec PyProof.Rows L2

/-- what is known of a body's context -/
structure Gam where
  P : Program
  w : World
  K : PySem.W.Frag
  mg : Str → Option Value
  base : Heap
  N : List Str
  sc : Scope
  fn : Str → Bool
  qual : Str
  code : Option Addr
  k : Nat
  B : Hp
  E : XK
  XP : Value → Mem → Prop
  kn : Cx → Prop := fun _ => True
structure Fits (Γ : Gam) (X : Cx) : Prop where
  prog : X.prog = Γ.P
  w : X.w = Γ.w
  K : X.K = Γ.K
  mg : X.mg = Γ.mg
  base : X.base = Γ.base
  N : X.N = Γ.N
  nd : Γ.N.Nodup
  sc : X.env.scope = Γ.sc
  qual : X.env.qual = Γ.qual
  code : ∀ c, Γ.code = some c → X.env.code = .ref c
  calm : X.calm = true
  room : Room Γ.k X.A
  tk : Takes X (fun cls d _ H => Γ.E cls d H)
  po : PassesOwn (model X.prog X.w) X.A X.env X.xe
  fn : ∀ x, Γ.fn x = true → X.fn x = true
  kn : Γ.kn X
abbrev Sd := List (Option D)
structure Wd (Γ : Gam) (C H : Hp) (σ : L2.St) (δ : Sd) (μ : Mem) : Prop where
  base : Le Γ.B C
  sub : Le C H
  len : σ.length = δ.length
  sl : ∀ (i : Nat) d, δ[i]? = some (some d) → ∃ v, σ[i]? = some (some v) ∧ Dat Γ.K C v d
  mem : MemOk Γ.K C H μ
  exc : ∀ cls d μ' C' H', Gr μ μ' C H C' H' → Le C' H' → MemOk Γ.K C' H' μ' → Γ.XP cls μ' → Γ.E cls d H'
section
variable {Γ : Gam} {C H C' H' : Hp} {σ : L2.St} {δ : Sd} {μ μ' : Mem}
theorem Wd.gr (w : Wd Γ C H σ δ μ) (g : Gr μ μ' C H C' H') (s : Le C' H') (m : MemOk Γ.K C' H' μ') : Wd Γ C' H' σ δ μ' :=
  ⟨w.base.trans g.core, s, w.len, fun i d e => by
    obtain ⟨v, h1, h2⟩ := w.sl i d e
    exact ⟨v, h1, Dat.mono g.core _ _ h2⟩, m, fun cls d μ2 C2 H2 g2 s2 m2 x => w.exc cls d μ2 C2 H2 (g.trans g2) s2 m2 x⟩
theorem Wd.nw (w : Wd Γ C H σ δ μ) (n : Nw C H C' H') : Wd Γ C' H' σ δ μ := w.gr n.gr n.sub (n.mem w.mem)
end
/-! ### weakest readings -/
def wE (X : Cx) (e : Expr) : TE := fun σ H Q => ∀ (pins : List (Addr × Obj)) (s : Shared), Inv X pins σ H s → wpAny (model X.prog X.w) X.A (eval e X.env) (EP X pins σ Q) X.xe s
def wA (X : Cx) (es : List Expr) : TA := fun σ H Q => ∀ (pos : Pos) (pins : List (Addr × Obj)) (s : Shared), Inv X pins σ H s → wpAny (model X.prog X.w) X.A (spliced (backTo pos (starEach es X.env))) (AP X pins σ Q) X.xe s
def wT (X : Cx) (e : Expr) : TT := fun σ H Q => ∀ (pins : List (Addr × Obj)) (s : Shared), Inv X pins σ H s → wpAny (model X.prog X.w) X.A (isTrue e X.env (eval e X.env)) (TP X pins σ Q) X.xe s
def wW (X : Cx) (e : Expr) : TT := fun σ H Q => ∀ (whole : Sem Value) (pins : List (Addr × Obj)) (s : Shared), Inv X pins σ H s → wpAny (model X.prog X.w) X.A (isTrue e X.env whole) (TP X pins σ Q) X.xe s
def wS (X : Cx) (st : Stmt) : TS := fun D σ H => ∀ (pins : List (Addr × Obj)) (s : Shared), Inv X pins σ H s → wpAny (model X.prog X.w) X.A (exec st X.env) (SP X pins D) X.xe s
def wSs (X : Cx) (st : List Stmt) : TS := fun D σ H => ∀ (pins : List (Addr × Obj)) (s : Shared), Inv X pins σ H s → wpAny (model X.prog X.w) X.A (execs st X.env) (SP X pins D) X.xe s
def wG (X : Cx) (tg : Expr) : TG := fun v σ H Q => ∀ (pins : List (Addr × Obj)) (s : Shared) (u : Value), Inv X pins σ H s → RelV v u → wpAny (model X.prog X.w) X.A (assign tg X.env u) (fun _ s' => ∃ σ' H', Inv X pins σ' H' s' ∧ Q σ' H') X.xe s
def wGs (X : Cx) (ts : List Expr) : TGs := fun vs σ H Q => ∀ (pins : List (Addr × Obj)) (s : Shared) (us : List Value), Inv X pins σ H s → Vals vs us → wpAny (model X.prog X.w) X.A (assignInOrder ((assignEach ts X.env).map (·.2)) us) (fun _ s' => ∃ σ' H', Inv X pins σ' H' s' ∧ Q σ' H') X.xe s
def wI (X : Cx) (tg iter : Expr) : TI := fun σ H R => ∀ (pins : List (Addr × Obj)) (s : Shared), Inv X pins σ H s → wpAny (model X.prog X.w) X.A (eval iter X.env) (fun v s1 => wpAny (model X.prog X.w) X.A (pyIter v) (PIE X pins σ tg R) X.xe s1) X.xe s
def wOp (X : Cx) (f : Value → Value → Sem Value) : R2 := fun x y H Q => ∀ (pins : List (Addr × Obj)) (s : Shared) (σ : L2.St) (v u : Value), Inv X pins σ H s → RelV x v → RelV y u → wpAny (model X.prog X.w) X.A (f v u) (EP X pins σ Q) X.xe s
def wUn (X : Cx) (f : Value → Sem Value) : V → Hp → VK → Prop := fun x H Q => ∀ (pins : List (Addr × Obj)) (s : Shared) (σ : L2.St) (v : Value), Inv X pins σ H s → RelV x v → wpAny (model X.prog X.w) X.A (f v) (EP X pins σ Q) X.xe s
section
variable {X : Cx} {e tg iter : Expr} {es : List Expr} {st : Stmt} {sts : List Stmt} {t : TE} {ta : TA} {tt : TT} {ts : TS} {g : TG} {gs : TGs} {ti : TI} {σ : L2.St} {H : Hp}
theorem wE_pe : PE X e (wE X e) := ⟨fun pins s _ _ _ I h => h pins s I⟩
theorem wA_pa : PA X es (wA X es) := ⟨fun pos pins s _ _ _ I h => h pos pins s I⟩
theorem wT_pt : PT X e (wT X e) := ⟨fun pins s _ _ _ I h => h pins s I⟩
theorem wW_pw : PW X e (wW X e) := ⟨fun w pins s _ _ _ I h => h w pins s I⟩
theorem wS_ps : PS X st (wS X st) := ⟨fun pins s _ _ _ I h => h pins s I⟩
theorem wSs_pss : PSs X sts (wSs X sts) := ⟨fun pins s _ _ _ I h => h pins s I⟩
theorem wG_pg : PG X tg (wG X tg) := ⟨fun pins s _ _ _ u _ I r h => h pins s u I r⟩
theorem wGs_pgs : PGs X es (wGs X es) := ⟨fun pins s _ _ _ us _ I r h => h pins s us I r⟩
theorem wI_pi : PI X tg iter (wI X tg iter) := ⟨fun pins s _ _ _ I h => h pins s I⟩
theorem PEw (h : PE X e t) {Q : VK} (q : t σ H Q) : wE X e σ H Q := fun pins s I => h.run pins s σ H Q I q
theorem PAw (h : PA X es ta) {Q : List V → Hp → Prop} (q : ta σ H Q) : wA X es σ H Q := fun pos pins s I => h.run pos pins s σ H Q I q
theorem PTw (h : PT X e tt) {Q : Bool → Hp → Prop} (q : tt σ H Q) : wT X e σ H Q := fun pins s I => h.run pins s σ H Q I q
theorem PWw (h : PW X e tt) {Q : Bool → Hp → Prop} (q : tt σ H Q) : wW X e σ H Q := fun w pins s I => h.run w pins s σ H Q I q
theorem PSw (h : PS X st ts) {D : Ends} (q : ts D σ H) : wS X st D σ H := fun pins s I => h.run pins s σ H D I q
theorem PSsw (h : PSs X sts ts) {D : Ends} (q : ts D σ H) : wSs X sts D σ H := fun pins s I => h.run pins s σ H D I q
theorem PGw (h : PG X tg g) {v : V} {Q : L2.St → Hp → Prop} (q : g v σ H Q) : wG X tg v σ H Q := fun pins s u I r => h.run pins s σ H v u Q I r q
theorem PGsw (h : PGs X es gs) {v : List V} {Q : L2.St → Hp → Prop} (q : gs v σ H Q) : wGs X es v σ H Q := fun pins s u I r => h.run pins s σ H v u Q I r q
theorem PIw (h : PI X tg iter ti) {R : It → Hp → Prop} (q : ti σ H R) : wI X tg iter σ H R := fun pins s I => h.run pins s σ H R I q
theorem wOp_op {f : Value → Value → Sem Value} : OpR X f (wOp X f) := fun pins s σ H x y v u Q I r1 r2 h => h pins s σ v u I r1 r2
theorem OpRw {f : Value → Value → Sem Value} {r : R2} (h : OpR X f r) {x y : V} {Q : VK} (q : r x y H Q) : wOp X f x y H Q := fun pins s σ v u I r1 r2 => h pins s σ H x y v u Q I r1 r2 q
theorem wUn_un {f : Value → Sem Value} : UnR X f (wUn X f) := fun pins s σ H x v Q I r1 h => h pins s σ v I r1
theorem SP_mono {pins : List (Addr × Obj)} {D D' : Ends} {f : Flow} {s : Shared} (h : SP X pins D f s) (h1 : ∀ σ H, D.nx σ H → D'.nx σ H) (h2 : ∀ v H, D.rt v H → D'.rt v H) (h3 : ∀ σ H, D.bk σ H → D'.bk σ H) (h4 : ∀ σ H, D.ct σ H → D'.ct σ H) : SP X pins D' f s := by
  cases f with
  | next => obtain ⟨a, b, c, d⟩ := h; exact ⟨a, b, c, h1 _ _ d⟩
  | brk => obtain ⟨a, b, c, d⟩ := h; exact ⟨a, b, c, h3 _ _ d⟩
  | cont => obtain ⟨a, b, c, d⟩ := h; exact ⟨a, b, c, h4 _ _ d⟩
  | ret u => obtain ⟨v, a, b, c, r, d⟩ := h; exact ⟨v, a, b, c, r, h2 _ _ d⟩
end
/-! ### judgements by data -/
abbrev Pst := D → Mem → Prop
section
variable (Γ : Gam)
def Ew (δ : Sd) (μ : Mem) (e : Expr) (P : Pst) : Prop := ∀ X, Fits Γ X → ∀ σ C H Q, Wd Γ C H σ δ μ → (∀ v d μ' C' H', Gr μ μ' C H C' H' → Wd Γ C' H' σ δ μ' → Dat Γ.K C' v d → P d μ' → Q v H') → wE X e σ H Q
def Ev (δ : Sd) (μ : Mem) (e : Expr) (d : D) : Prop := Ew Γ δ μ e fun d' μ' => d' = d ∧ μ' = μ
def Aw (δ : Sd) (μ : Mem) (es : List Expr) (P : List D → Mem → Prop) : Prop := ∀ X, Fits Γ X → ∀ σ C H Q, Wd Γ C H σ δ μ → (∀ vs ds μ' C' H', Gr μ μ' C H C' H' → Wd Γ C' H' σ δ μ' → DatAll Γ.K C' vs ds → P ds μ' → Q vs H') → wA X es σ H Q
def Av (δ : Sd) (μ : Mem) (es : List Expr) (ds : List D) : Prop := Aw Γ δ μ es fun d' μ' => d' = ds ∧ μ' = μ
def Tw (δ : Sd) (μ : Mem) (e : Expr) (P : Bool → Mem → Prop) : Prop := ∀ X, Fits Γ X → ∀ σ C H Q, Wd Γ C H σ δ μ → (∀ b μ' C' H', Gr μ μ' C H C' H' → Wd Γ C' H' σ δ μ' → P b μ' → Q b H') → wT X e σ H Q
def Tv (δ : Sd) (μ : Mem) (e : Expr) (b : Bool) : Prop := Tw Γ δ μ e fun d' μ' => d' = b ∧ μ' = μ
def Ww (δ : Sd) (μ : Mem) (e : Expr) (P : Bool → Mem → Prop) : Prop := ∀ X, Fits Γ X → ∀ σ C H Q, Wd Γ C H σ δ μ → (∀ b μ' C' H', Gr μ μ' C H C' H' → Wd Γ C' H' σ δ μ' → P b μ' → Q b H') → wW X e σ H Q
/-- a value's operation, nothing changed but what is new -/
def O2 (K : PySem.W.Frag) (r : R2) (a b d : D) : Prop := ∀ C H x y Q, Le C H → Dat K C x a → Dat K C y b → (∀ v C' H', Nw C H C' H' → Dat K C' v d → Q v H') → r x y H Q
def Bop (f : Value → Value → Sem Value) (a b d : D) : Prop := ∀ X, Fits Γ X → O2 Γ.K (wOp X f) a b d
end
section
variable {Γ : Gam} {δ : Sd} {μ : Mem} {e a b c : Expr} {es : List Expr} {d d1 d2 : D} {P P' : Pst} {pos : Pos}
theorem Ew.imp (h : Ew Γ δ μ e P) (q : ∀ d μ', P d μ' → P' d μ') : Ew Γ δ μ e P' := fun X hX σ C H Q w k => h X hX σ C H Q w fun v d μ' C' H' g w' r p => k v d μ' C' H' g w' r (q d μ' p)
theorem Ev.w (h : Ev Γ δ μ e d) (q : P d μ) : Ew Γ δ μ e P := Ew.imp h fun d' μ' ⟨e1, e2⟩ => by rw [e1, e2]; exact q
theorem Ev.cast (h : Ev Γ δ μ e d) (q : d = d1) : Ev Γ δ μ e d1 := q ▸ h
theorem Aw.imp {P P' : List D → Mem → Prop} (h : Aw Γ δ μ es P) (q : ∀ d μ', P d μ' → P' d μ') : Aw Γ δ μ es P' := fun X hX σ C H Q w k => h X hX σ C H Q w fun v d μ' C' H' g w' r p => k v d μ' C' H' g w' r (q d μ' p)
theorem Av.w {ds : List D} {P : List D → Mem → Prop} (h : Av Γ δ μ es ds) (q : P ds μ) : Aw Γ δ μ es P := Aw.imp h fun d' μ' ⟨e1, e2⟩ => by rw [e1, e2]; exact q
theorem Tw.imp {P P' : Bool → Mem → Prop} (h : Tw Γ δ μ e P) (q : ∀ d μ', P d μ' → P' d μ') : Tw Γ δ μ e P' := fun X hX σ C H Q w k => h X hX σ C H Q w fun d μ' C' H' g w' p => k d μ' C' H' g w' (q d μ' p)
theorem Tv.w {t : Bool} {P : Bool → Mem → Prop} (h : Tv Γ δ μ e t) (q : P t μ) : Tw Γ δ μ e P := Tw.imp h fun d' μ' ⟨e1, e2⟩ => by rw [e1, e2]; exact q
theorem Tv.cast {t t' : Bool} (h : Tv Γ δ μ e t) (q : t = t') : Tv Γ δ μ e t' := q ▸ h
/-- by a reading -/
theorem ew_t {t : Cx → TE} (h : ∀ X, Fits Γ X → PE X e (t X)) (q : ∀ X, Fits Γ X → ∀ σ C H Q, Wd Γ C H σ δ μ → (∀ v d μ' C' H', Gr μ μ' C H C' H' → Wd Γ C' H' σ δ μ' → Dat Γ.K C' v d → P d μ' → Q v H') → t X σ H Q) : Ew Γ δ μ e P :=
  fun X hX σ C H Q w k => PEw (h X hX) (q X hX σ C H Q w k)
theorem Fits.vis (f : Fits Γ X) {x : Str} (h : Vis Γ.sc x) : Vis X.env.scope x := by rw [f.sc]; exact h
theorem Fits.gl {X : Cx} (f : Fits Γ X) {x : Str} (h : Γ.sc.names.lookup x = some .globalImplicit) : Gl X x := by
  show X.env.scope.names.lookup x = _
  rw [f.sc]; exact h
/-! names, constants -/
theorem ev_n (i : Nat) {x : Str} (hi : δ[i]? = some (some d) := by rfl) (hN : Γ.N[i]? = some x := by rfl) (hv : Vis Γ.sc x := by first | exact Or.inl rfl | exact Or.inr (Or.inl rfl) | exact Or.inr (Or.inr rfl)) (hd : (x == ("__debug__" : Str)) = false := by decide)
    (hcd : (x == ("__classdict__" : Str)) = false := by decide) : Ev Γ δ μ (.Name x pos) d := fun X hX σ C H Q w k => by
  obtain ⟨v, h1, h2⟩ := w.sl i d hi
  exact PEw (pe_var (i := i) (by rw [hX.N]; exact hN) (hX.vis hv) hd hcd) ⟨v, h1, k v d μ C H Gr.refl w h2 ⟨rfl, rfl⟩⟩
theorem ev_int {i j} : Ev Γ δ μ (.Constant (.int i) j pos) (.int i) := fun X hX σ C H Q w k => PEw pe_int (k _ _ μ C H Gr.refl w (.int i) ⟨rfl, rfl⟩)
theorem ev_bl {i j} : Ev Γ δ μ (.Constant (.bool i) j pos) (.bl i) := fun X hX σ C H Q w k => PEw pe_bl (k _ _ μ C H Gr.refl w (.bl i) ⟨rfl, rfl⟩)
theorem ev_non {j} : Ev Γ δ μ (.Constant .none j pos) .non := fun X hX σ C H Q w k => PEw pe_non (k _ _ μ C H Gr.refl w .non ⟨rfl, rfl⟩)
theorem ev_str {x j} : Ev Γ δ μ (.Constant (.str x) j pos) (.str x) := fun X hX σ C H Q w k => PEw pe_str (k _ _ μ C H Gr.refl w (.str x) ⟨rfl, rfl⟩)
/-- a module's constant -/
theorem ev_glob {x : Str} {i : Int} {t : Tok} (hm : Γ.mg x = some (.int i t)) (hg : Γ.sc.names.lookup x = some .globalImplicit := by rfl) (hd : (x == ("__debug__" : Str)) = false := by decide) : Ev Γ δ μ (.Name x pos) (.int i) := fun X hX σ C H Q w k =>
  PEw (pe_glob (v := .int i) (hX.gl hg) (by rw [hX.mg]; exact hm) ⟨t, rfl⟩ hd) (k _ _ μ C H Gr.refl w (.int i) ⟨rfl, rfl⟩)
/-! two-place operations -/
theorem ew_bin {op : Operator} (ha : Ew Γ δ μ a fun d1 μ1 => Ew Γ δ μ1 b fun d2 μ2 => ∃ d, Bop Γ (binaryOp op) d1 d2 d ∧ P d μ2) : Ew Γ δ μ (.BinOp a op b pos) P := fun X hX σ C H Q w k =>
  PEw (pe_op wOp_op wE_pe wE_pe) (ha X hX σ C H _ w fun v1 d1 μ1 C1 H1 g1 w1 r1 hb => hb X hX σ C1 H1 _ w1 fun v2 d2 μ2 C2 H2 g2 w2 r2 ⟨d, ho, hp⟩ =>
    ho X hX C2 H2 v1 v2 _ w2.sub (Dat.mono g2.core _ _ r1) r2 fun v C3 H3 n r => k v d μ2 C3 H3 ((g1.trans g2).trans n.gr) (w2.nw n) r hp)
theorem ev_bin {op : Operator} (ha : Ev Γ δ μ a d1) (hb : Ev Γ δ μ b d2) (ho : Bop Γ (binaryOp op) d1 d2 d) : Ev Γ δ μ (.BinOp a op b pos) d := ew_bin (ha.w (hb.w ⟨d, ho, rfl, rfl⟩))
theorem ew_cmp {op : CmpOp} (hm : behindInMarks op b = false) (ha : Ew Γ δ μ a fun d1 μ1 => Ew Γ δ μ1 b fun d2 μ2 => ∃ d, Bop Γ (compareOp op) d1 d2 d ∧ P d μ2) : Ew Γ δ μ (.Compare a [op] [b] pos) P := fun X hX σ C H Q w k =>
  PEw (pe_cmpR wOp_op wE_pe wE_pe hm) (ha X hX σ C H _ w fun v1 d1 μ1 C1 H1 g1 w1 r1 hb => hb X hX σ C1 H1 _ w1 fun v2 d2 μ2 C2 H2 g2 w2 r2 ⟨d, ho, hp⟩ =>
    ho X hX C2 H2 v1 v2 _ w2.sub (Dat.mono g2.core _ _ r1) r2 fun v C3 H3 n r => k v d μ2 C3 H3 ((g1.trans g2).trans n.gr) (w2.nw n) r hp)
theorem ev_cmp {op : CmpOp} (ha : Ev Γ δ μ a d1) (hb : Ev Γ δ μ b d2) (ho : Bop Γ (compareOp op) d1 d2 d) (hm : behindInMarks op b = false := by first | exact nomark _ | with_unfolding_all rfl) : Ev Γ δ μ (.Compare a [op] [b] pos) d := ew_cmp hm (ha.w (hb.w ⟨d, ho, rfl, rfl⟩))
theorem tw_cmp {P : Bool → Mem → Prop} {op : CmpOp} (hm : behindInMarks op b = false) (ha : Ew Γ δ μ a fun d1 μ1 => Ew Γ δ μ1 b fun d2 μ2 => ∃ d, Bop Γ (compareOp op) d1 d2 (.bl d) ∧ P d μ2) : Tw Γ δ μ (.Compare a [op] [b] pos) P := fun X hX σ C H Q w k =>
  PTw (pt_cmpR wOp_op wE_pe wE_pe hm) (ha X hX σ C H _ w fun v1 d1 μ1 C1 H1 g1 w1 r1 hb => hb X hX σ C1 H1 _ w1 fun v2 d2 μ2 C2 H2 g2 w2 r2 ⟨d, ho, hp⟩ =>
    ho X hX C2 H2 v1 v2 _ w2.sub (Dat.mono g2.core _ _ r1) r2 fun v C3 H3 n r => by
      cases r
      exact ⟨d, rfl, k d μ2 C3 H3 ((g1.trans g2).trans n.gr) (w2.nw n) hp⟩)
theorem tv_cmp {op : CmpOp} {t : Bool} (ha : Ev Γ δ μ a d1) (hb : Ev Γ δ μ b d2) (ho : Bop Γ (compareOp op) d1 d2 (.bl t)) (hm : behindInMarks op b = false := by first | exact nomark _ | with_unfolding_all rfl) : Tv Γ δ μ (.Compare a [op] [b] pos) t := tw_cmp hm (ha.w (hb.w ⟨t, ho, rfl, rfl⟩))
/-! tests -/
theorem Tw.pw {P : Bool → Mem → Prop} (h : Ww Γ δ μ e P) : Tw Γ δ μ e P := fun X hX σ C H Q w k pins s I => h X hX σ C H Q w k _ pins s I
theorem tw_not {P : Bool → Mem → Prop} (h : Tw Γ δ μ a fun t μ' => P (!t) μ') : Tw Γ δ μ (.UnaryOp .Not a pos) P := fun X hX σ C H Q w k =>
  PTw (pt_not wT_pt) (h X hX σ C H _ w fun t μ' C' H' g w' p => k (!t) μ' C' H' g w' p)
theorem tv_not {t : Bool} (h : Tv Γ δ μ a t) : Tv Γ δ μ (.UnaryOp .Not a pos) (!t) := tw_not (h.w ⟨rfl, rfl⟩)
theorem ww_1 {P : Bool → Mem → Prop} {op : BoolOp} (h : Tw Γ δ μ a P) : Ww Γ δ μ (.BoolOp op [a] pos) P := fun X hX σ C H Q w k => by
  cases op with
  | And => exact PWw (pw_and1 wT_pt) (h X hX σ C H _ w k)
  | Or => exact PWw (pw_or1 wT_pt) (h X hX σ C H _ w k)
theorem ww_and {P : Bool → Mem → Prop} {rest : List Expr} (h : Tw Γ δ μ a fun t μ' => (t = true → Ww Γ δ μ' (.BoolOp .And (b :: rest) pos) P) ∧ (t = false → P false μ')) : Ww Γ δ μ (.BoolOp .And (a :: b :: rest) pos) P := fun X hX σ C H Q w k =>
  PWw (pw_and wT_pt wW_pw) (h X hX σ C H _ w fun t μ' C' H' g w' p => by
    cases t with
    | true =>
      show wW _ _ _ _ _
      exact p.1 rfl X hX σ C' H' _ w' fun b μ2 C2 H2 g2 w2 p2 => k b μ2 C2 H2 (g.trans g2) w2 p2
    | false => exact k false μ' C' H' g w' (p.2 rfl))
theorem ww_or {P : Bool → Mem → Prop} {rest : List Expr} (h : Tw Γ δ μ a fun t μ' => (t = true → P true μ') ∧ (t = false → Ww Γ δ μ' (.BoolOp .Or (b :: rest) pos) P)) : Ww Γ δ μ (.BoolOp .Or (a :: b :: rest) pos) P := fun X hX σ C H Q w k =>
  PWw (pw_or wT_pt wW_pw) (h X hX σ C H _ w fun t μ' C' H' g w' p => by
    cases t with
    | true => exact k true μ' C' H' g w' (p.1 rfl)
    | false =>
      show wW _ _ _ _ _
      exact p.2 rfl X hX σ C' H' _ w' fun b μ2 C2 H2 g2 w2 p2 => k b μ2 C2 H2 (g.trans g2) w2 p2)
def Wv (Γ : Gam) (δ : Sd) (μ : Mem) (e : Expr) (t : Bool) : Prop := Ww Γ δ μ e fun d' μ' => d' = t ∧ μ' = μ
theorem wv_1 {op : BoolOp} {t : Bool} (h : Tv Γ δ μ a t) : Wv Γ δ μ (.BoolOp op [a] pos) t := ww_1 h
theorem wv_and {rest : List Expr} {t u : Bool} (h : Tv Γ δ μ a t) (h2 : t = true → Wv Γ δ μ (.BoolOp .And (b :: rest) pos) u) : Wv Γ δ μ (.BoolOp .And (a :: b :: rest) pos) (t && u) :=
  ww_and (h.w ⟨fun q => by rw [q, Bool.true_and]; exact h2 q, fun q => ⟨by rw [q]; rfl, rfl⟩⟩)
theorem wv_or {rest : List Expr} {t u : Bool} (h : Tv Γ δ μ a t) (h2 : t = false → Wv Γ δ μ (.BoolOp .Or (b :: rest) pos) u) : Wv Γ δ μ (.BoolOp .Or (a :: b :: rest) pos) (t || u) :=
  ww_or (h.w ⟨fun q => ⟨by rw [q]; rfl, rfl⟩, fun q => by rw [q, Bool.false_or]; exact h2 q⟩)
theorem Wv.t {t : Bool} (h : Wv Γ δ μ e t) : Tv Γ δ μ e t := Tw.pw h
theorem Wv.cast {t u : Bool} (h : Wv Γ δ μ e t) (q : t = u) : Wv Γ δ μ e u := q ▸ h
/-- a value's truth -/
def Tru : D → Bool → Prop
  | .non, k => k = false
  | .bl b, k => k = b
  | .int i, k => k = (i != 0)
  | .str y, k => y.length ≤ sizeLine ∧ k = ((y.length : Int) != 0)
  | .lst ds, k => k = !ds.isEmpty
  | .tup ds, k => k = !ds.isEmpty
  | _, _ => False
theorem tru_dat {K : PySem.W.Frag} {C H : Hp} {v : V} {d : D} {t : Bool} (s : Le C H) (r : Dat K C v d) (h : Tru d t) : TruV K v H t := by
  cases r with
  | non => exact h
  | bl b => exact h
  | int i => exact h
  | str x => exact h
  | lst hs ha =>
    refine .inl ⟨_, .inl (.inl (s _ _ hs)), ?_⟩
    rw [show t = !(_ : List D).isEmpty from h]
    cases ha <;> rfl
  | tup hs ha =>
    refine .inr (.inl ⟨_, .inl (s.rd hs), ?_⟩)
    rw [show t = !(_ : List D).isEmpty from h]
    cases ha <;> rfl
  | obj _ _ _ => exact h.elim
  | adr _ => exact h.elim
  | ext _ => exact h.elim
  | lsq _ _ => exact h.elim
  | dct _ _ _ => exact h.elim
theorem tw_val {P : Bool → Mem → Prop} (he : ∀ env whole, isTrue a env whole = (do let v ← whole; standAt a.pos; holding [v] (truthy v))) (h : Ew Γ δ μ a fun d μ' => ∃ t, Tru d t ∧ P t μ') : Tw Γ δ μ a P := fun X hX σ C H Q w k =>
  PTw (pt_truth wE_pe (he _)) (h X hX σ C H _ w fun v d μ' C' H' g w' r ⟨t, ht, p⟩ => by
    refine ⟨t, ?_, k t μ' C' H' g w' p⟩
    rw [hX.K]
    exact tru_dat w'.sub r ht)
theorem tv_val {t : Bool} (h : Ev Γ δ μ a d) (ht : Tru d t) (he : ∀ env whole, isTrue a env whole = (do let v ← whole; standAt a.pos; holding [v] (truthy v)) := by intro _ _; rfl) : Tv Γ δ μ a t := tw_val he (h.w ⟨t, ht, rfl, rfl⟩)
/-! bools as values -/
theorem ew_and1 {op : BoolOp} (h : Ew Γ δ μ a P) : Ew Γ δ μ (.BoolOp op [a] pos) P := fun X hX σ C H Q w k => PEw (pe_one wE_pe) (h X hX σ C H Q w k)
theorem ew_and {rest : List Expr} (h : Ew Γ δ μ a fun d μ' => ∃ t, d = .bl t ∧ (t = true → Ew Γ δ μ' (.BoolOp .And (b :: rest) pos) P) ∧ (t = false → P (.bl false) μ')) : Ew Γ δ μ (.BoolOp .And (a :: b :: rest) pos) P := fun X hX σ C H Q w k =>
  PEw (pe_and wE_pe wE_pe) (h X hX σ C H _ w fun v d μ' C' H' g w' r ⟨t, ht, p⟩ => by
    subst ht
    cases r
    refine ⟨t, rfl, ?_⟩
    cases t with
    | true =>
      show wE _ _ _ _ _
      exact p.1 rfl X hX σ C' H' _ w' fun v2 d2 μ2 C2 H2 g2 w2 r2 p2 => k v2 d2 μ2 C2 H2 (g.trans g2) w2 r2 p2
    | false => exact k _ _ μ' C' H' g w' (.bl false) (p.2 rfl))
theorem ew_or {rest : List Expr} (h : Ew Γ δ μ a fun d μ' => ∃ t, d = .bl t ∧ (t = true → P (.bl true) μ') ∧ (t = false → Ew Γ δ μ' (.BoolOp .Or (b :: rest) pos) P)) : Ew Γ δ μ (.BoolOp .Or (a :: b :: rest) pos) P := fun X hX σ C H Q w k =>
  PEw (pe_or wE_pe wE_pe) (h X hX σ C H _ w fun v d μ' C' H' g w' r ⟨t, ht, p⟩ => by
    subst ht
    cases r
    refine ⟨t, rfl, ?_⟩
    cases t with
    | true => exact k _ _ μ' C' H' g w' (.bl true) (p.1 rfl)
    | false =>
      show wE _ _ _ _ _
      exact p.2 rfl X hX σ C' H' _ w' fun v2 d2 μ2 C2 H2 g2 w2 r2 p2 => k v2 d2 μ2 C2 H2 (g.trans g2) w2 r2 p2)
theorem ev_and1 {op : BoolOp} (h : Ev Γ δ μ a d) : Ev Γ δ μ (.BoolOp op [a] pos) d := ew_and1 h
theorem ev_and {rest : List Expr} {t u : Bool} (h : Ev Γ δ μ a (.bl t)) (h2 : t = true → Ev Γ δ μ (.BoolOp .And (b :: rest) pos) (.bl u)) : Ev Γ δ μ (.BoolOp .And (a :: b :: rest) pos) (.bl (t && u)) :=
  ew_and (h.w ⟨t, rfl, fun q => by rw [q, Bool.true_and]; exact h2 q, fun q => ⟨by rw [q]; rfl, rfl⟩⟩)
theorem ev_or {rest : List Expr} {t u : Bool} (h : Ev Γ δ μ a (.bl t)) (h2 : t = false → Ev Γ δ μ (.BoolOp .Or (b :: rest) pos) (.bl u)) : Ev Γ δ μ (.BoolOp .Or (a :: b :: rest) pos) (.bl (t || u)) :=
  ew_or (h.w ⟨t, rfl, fun q => ⟨by rw [q]; rfl, rfl⟩, fun q => by rw [q, Bool.false_or]; exact h2 q⟩)
theorem ew_not (h : Ew Γ δ μ a fun d μ' => ∃ t, d = .bl t ∧ P (.bl (!t)) μ') : Ew Γ δ μ (.UnaryOp .Not a pos) P := fun X hX σ C H Q w k =>
  PEw (pe_not wE_pe) (h X hX σ C H _ w fun v d μ' C' H' g w' r ⟨t, ht, p⟩ => by
    subst ht
    cases r
    exact ⟨t, rfl, k _ _ μ' C' H' g w' (.bl _) p⟩)
theorem ev_not {t : Bool} (h : Ev Γ δ μ a (.bl t)) : Ev Γ δ μ (.UnaryOp .Not a pos) (.bl (!t)) := ew_not (h.w ⟨t, rfl, rfl, rfl⟩)
theorem ew_neg (h : Ew Γ δ μ a fun d μ' => ∃ i, d = .int i ∧ P (.int (-i)) μ') : Ew Γ δ μ (.UnaryOp .USub a pos) P := fun X hX σ C H Q w k =>
  PEw (pe_un un_neg wE_pe) (h X hX σ C H _ w fun v d μ' C' H' g w' r ⟨t, ht, p⟩ => by
    subst ht
    cases r
    exact ⟨t, rfl, k _ _ μ' C' H' g w' (.int _) p⟩)
theorem ev_neg {i : Int} (h : Ev Γ δ μ a (.int i)) : Ev Γ δ μ (.UnaryOp .USub a pos) (.int (-i)) := ew_neg (h.w ⟨i, rfl, rfl, rfl⟩)
theorem ew_if (h : Tw Γ δ μ c fun t μ' => (t = true → Ew Γ δ μ' a P) ∧ (t = false → Ew Γ δ μ' b P)) : Ew Γ δ μ (.IfExp c a b pos) P := fun X hX σ C H Q w k =>
  PEw (pe_ifExp wT_pt wE_pe wE_pe) (h X hX σ C H _ w fun t μ' C' H' g w' p => by
    have go : ∀ {e : Expr}, Ew Γ δ μ' e P → wE X e σ H' Q := fun {e} h2 => h2 X hX σ C' H' _ w' fun v2 d2 μ2 C2 H2 g2 w2 r2 p2 => k v2 d2 μ2 C2 H2 (g.trans g2) w2 r2 p2
    cases t with
    | true => exact go (p.1 rfl)
    | false => exact go (p.2 rfl))
theorem ev_if {t : Bool} (h : Tv Γ δ μ c t) (h1 : t = true → Ev Γ δ μ a d1) (h2 : t = false → Ev Γ δ μ b d2) : Ev Γ δ μ (.IfExp c a b pos) (if t = true then d1 else d2) :=
  ew_if (h.w ⟨fun q => by subst q; exact h1 rfl, fun q => by subst q; exact h2 rfl⟩)
/-! argument lists, displays -/
theorem aw_nil {P : List D → Mem → Prop} (p : P [] μ) : Aw Γ δ μ [] P := fun X hX σ C H Q w k => PAw pa_nil (k [] [] μ C H Gr.refl w .nil p)
theorem aw_cons {P : List D → Mem → Prop} (h : Ew Γ δ μ e fun d μ1 => Aw Γ δ μ1 es fun ds μ2 => P (d :: ds) μ2) (hs : ∀ env, starEach (e :: es) env = (false, eval e env) :: starEach es env := by intro _; rfl) : Aw Γ δ μ (e :: es) P := fun X hX σ C H Q w k =>
  PAw (pa_cons wE_pe wA_pa (hs _)) (h X hX σ C H _ w fun v d μ1 C1 H1 g1 w1 r1 h2 => h2 X hX σ C1 H1 _ w1 fun vs ds μ2 C2 H2 g2 w2 r2 p => k (v :: vs) (d :: ds) μ2 C2 H2 (g1.trans g2) w2 (.cons (Dat.mono g2.core _ _ r1) r2) p)
theorem av_nil : Av Γ δ μ [] [] := aw_nil ⟨rfl, rfl⟩
theorem av_cons {ds : List D} (h : Ev Γ δ μ e d) (h2 : Av Γ δ μ es ds) (hs : ∀ env, starEach (e :: es) env = (false, eval e env) :: starEach es env := by intro _; rfl) : Av Γ δ μ (e :: es) (d :: ds) := aw_cons (h.w (h2.w ⟨rfl, rfl⟩)) hs
theorem ew_tup {x1} (h : Aw Γ δ μ es fun ds μ' => ds.length ≤ 100000 ∧ P (.tup ds) μ') : Ew Γ δ μ (.Tuple es x1 pos) P := fun X hX σ C H Q w k =>
  PEw (pe_tup wA_pa) (h X hX σ C H _ w fun vs ds μ' C' H' g w' r ⟨hl, p⟩ => ⟨Nat.le_trans (by rw [r.len]; exact hl) (by decide), fun q hq => by
    have n := Nw.add (o := .tup vs) w'.sub hq
    exact k _ _ μ' _ _ (g.trans n.gr) (w'.nw n) (.tup (.inl upd_same) (DatAll.mono n.core _ _ r)) p⟩)
theorem ev_tup {x1} {ds : List D} (h : Av Γ δ μ es ds) (hl : ds.length ≤ 100000 := by exact Nat.le_of_ble_eq_true rfl) : Ev Γ δ μ (.Tuple es x1 pos) (.tup ds) := ew_tup (h.w ⟨hl, rfl, rfl⟩)
theorem ew_lst (h : Aw Γ δ μ es fun ds μ' => ds.length ≤ 100000 ∧ P (.lst ds) μ') : Ew Γ δ μ (.List es pos) P := fun X hX σ C H Q w k =>
  PEw (pe_lst wA_pa) (h X hX σ C H _ w fun vs ds μ' C' H' g w' r ⟨hl, p⟩ => ⟨Nat.le_trans (by rw [r.len]; exact hl) (by decide), fun q hq => by
    have n := Nw.add (o := .lst vs) w'.sub hq
    exact k _ _ μ' _ _ (g.trans n.gr) (w'.nw n) (.lst upd_same (DatAll.mono n.core _ _ r)) p⟩)
theorem ev_lst {ds : List D} (h : Av Γ δ μ es ds) (hl : ds.length ≤ 100000 := by exact Nat.le_of_ble_eq_true rfl) : Ev Γ δ μ (.List es pos) (.lst ds) := ew_lst (h.w ⟨hl, rfl, rfl⟩)
end
end Dl

set_option maxRecDepth 100000
set_option maxHeartbeats 2000000
namespace Dl
open PySem PySem.Spec PyProof.Rows L2
/-! ### plain data -/
mutual
def toP : D → PyData
  | .non => .none
  | .bl b => .bool b
  | .int i => .int i
  | .str x => .str x
  | .lst xs => .list (toPs xs)
  | .tup xs => .tuple (toPs xs)
  | .obj _ _ _ => .none
  | .adr _ => .none
  | .ext _ => .none
  | .lsq _ => .none
  | .dct _ _ => .none
def toPs : List D → List PyData
  | [] => []
  | d :: ds => toP d :: toPs ds
end
/-- plain, at most n deep -/
def Pd : Nat → D → Prop
  | _, .non => True
  | _, .bl _ => True
  | _, .int _ => True
  | _, .str x => PyData.strOk x = true
  | n + 1, .lst xs => ∀ x ∈ xs, Pd n x
  | n + 1, .tup xs => ∀ x ∈ xs, Pd n x
  | _, _ => False
theorem pds_dp {K : PySem.W.Frag} {C H : Hp} (n : Nat) (ih : ∀ d v, Pd n d → Dat K C v d → Dp K H v (toP d)) : ∀ (ds : List D) (vs : List V), (∀ x ∈ ds, Pd n x) → DatAll K C vs ds → DpAll K H vs (toPs ds)
  | [], _, _, .nil => .nil
  | d :: ds, _, h, .cons r t => .cons (ih d _ (h d List.mem_cons_self) r) (pds_dp n ih ds _ (fun x hx => h x (List.mem_cons_of_mem _ hx)) t)
theorem pd_dp {K : PySem.W.Frag} {C H : Hp} (s : Le C H) : ∀ (n : Nat) (d : D) (v : V), Pd n d → Dat K C v d → Dp K H v (toP d)
  | n, d, v, h, r => by
    cases r with
    | non => rw [toP]; exact .non
    | bl b => rw [toP]; exact .bl b
    | int i => rw [toP]; exact .int i
    | str x => rw [toP]; exact .str x
    | lst e a =>
      cases n with
      | zero => exact absurd h (by simp [Pd])
      | succ n =>
        rw [toP]
        exact .lst (.inl (.inl (s _ _ e))) (pds_dp n (pd_dp s n) _ _ (by simpa [Pd] using h) a)
    | tup e a =>
      cases n with
      | zero => exact absurd h (by simp [Pd])
      | succ n =>
        rw [toP]
        exact .tup (.inl (s.rd e)) (pds_dp n (pd_dp s n) _ _ (by simpa [Pd] using h) a)
    | obj _ _ _ => cases n <;> exact absurd h (by simp [Pd])
    | adr _ => cases n <;> exact absurd h (by simp [Pd])
    | ext _ => cases n <;> exact absurd h (by simp [Pd])
    | lsq _ _ => cases n <;> exact absurd h (by simp [Pd])
    | dct _ _ _ => cases n <;> exact absurd h (by simp [Pd])
theorem pds_lay (n : Nat) (ih : ∀ d, Pd n d → (toP d).canLay0 = true ∧ (toP d).depth ≤ n) : ∀ (ds : List D), (∀ x ∈ ds, Pd n x) → PyData.canLayAll0 (toPs ds) = true ∧ PyData.depthAll (toPs ds) ≤ n
  | [], _ => by simp [toPs, PyData.canLayAll0, PyData.depthAll]
  | d :: ds, h => by
    obtain ⟨h1, h2⟩ := ih d (h d List.mem_cons_self)
    obtain ⟨h3, h4⟩ := pds_lay n ih ds fun x hx => h x (List.mem_cons_of_mem _ hx)
    simp only [toPs, PyData.canLayAll0, PyData.depthAll, h1, h3, Bool.and_self, true_and]
    exact Nat.max_le.mpr ⟨h2, h4⟩
theorem pd_lay : ∀ (n : Nat) (d : D), Pd n d → (toP d).canLay0 = true ∧ (toP d).depth ≤ n
  | n, .non, _ => by simp [toP, PyData.canLay0, PyData.depth]
  | n, .bl _, _ => by simp [toP, PyData.canLay0, PyData.depth]
  | n, .int _, _ => by simp [toP, PyData.canLay0, PyData.depth]
  | n, .str x, h => by
    have h : PyData.strOk x = true := by cases n <;> simpa [Pd] using h
    simp [toP, PyData.canLay0, PyData.depth, h]
  | 0, .lst xs, h => absurd h (by simp [Pd])
  | 0, .tup xs, h => absurd h (by simp [Pd])
  | n + 1, .lst xs, h => by
    have := pds_lay n (pd_lay n) xs (by simpa [Pd] using h)
    simp only [toP, PyData.canLay0, PyData.depth]
    exact ⟨this.1, Nat.succ_le_succ this.2⟩
  | n + 1, .tup xs, h => by
    have := pds_lay n (pd_lay n) xs (by simpa [Pd] using h)
    simp only [toP, PyData.canLay0, PyData.depth]
    exact ⟨this.1, Nat.succ_le_succ this.2⟩
  | 0, .obj _ _ _, h => absurd h (by simp [Pd])
  | 0, .adr _, h => absurd h (by simp [Pd])
  | 0, .ext _, h => absurd h (by simp [Pd])
  | 0, .lsq _, h => absurd h (by simp [Pd])
  | 0, .dct _ _, h => absurd h (by simp [Pd])
  | n + 1, .obj _ _ _, h => absurd h (by simp [Pd])
  | n + 1, .adr _, h => absurd h (by simp [Pd])
  | n + 1, .ext _, h => absurd h (by simp [Pd])
  | n + 1, .lsq _, h => absurd h (by simp [Pd])
  | n + 1, .dct _ _, h => absurd h (by simp [Pd])
theorem pd_shaped {n : Nat} {d : D} (hn : n ≤ 64) (h : Pd n d) : SeqAt.shaped (toP d) = true := by
  obtain ⟨h1, h2⟩ := pd_lay n d h
  unfold SeqAt.shaped
  rw [h1, decide_eq_true (Nat.le_trans h2 hn)]
  rfl
mutual
theorem eqv_self : ∀ (d : PyData), d.canLay0 = true → PyData.eqv d d = true
  | .none, _ => by simp [PyData.eqv]
  | .bool _, _ => by simp [PyData.eqv]
  | .int _, _ => by simp [PyData.eqv]
  | .str _, _ => by simp [PyData.eqv]
  | .list xs, h => by simp only [PyData.eqv]; exact eqv_selfs xs (by simpa [PyData.canLay0] using h)
  | .tuple xs, h => by simp only [PyData.eqv]; exact eqv_selfs xs (by simpa [PyData.canLay0] using h)
  | .dict _, h => by simp [PyData.canLay0] at h
theorem eqv_selfs : ∀ (ds : List PyData), PyData.canLayAll0 ds = true → PyData.eqvAll ds ds = true
  | [], _ => by simp [PyData.eqvAll]
  | d :: ds, h => by
    simp only [PyData.canLayAll0, Bool.and_eq_true] at h
    simp only [PyData.eqvAll, Bool.and_eq_true]
    exact ⟨eqv_self d h.1, eqv_selfs ds h.2⟩
end
theorem eqv_nil (ds : List D) : PyData.eqvAll (toPs ds) (toPs []) = ds.isEmpty := by cases ds <;> simp [toPs, PyData.eqvAll]
/-! ### operations on values -/
section
variable {Γ : Gam} {δ : Sd} {μ : Mem} {a b d : D} {f : Value → Value → Sem Value} {i j : Int}
theorem bop_of {r : Cx → R2} (ho : ∀ X, Fits Γ X → OpR X f (r X)) (h : ∀ X, Fits Γ X → O2 Γ.K (r X) a b d) : Bop Γ f a b d := fun X hX C H x y Q s r1 r2 k => OpRw (ho X hX) (h X hX C H x y Q s r1 r2 k)
theorem Bop.cast {d' : D} (h : Bop Γ f a b d) (e : d = d') : Bop Γ f a b d' := e ▸ h
theorem bop_I {g : Int → Int → Int} (ho : ∀ X, OpR X f (rI0 fun i j => .int (g i j))) : Bop Γ f (.int i) (.int j) (.int (g i j)) := bop_of (fun X _ => ho X) fun X _ C H x y Q s r1 r2 k => by
  cases r1; cases r2
  exact ⟨i, j, rfl, rfl, k _ C H (Nw.refl s) (.int _)⟩
theorem bop_IC {g : Int → Int → Int} {c : Int → Int → Prop} (ho : ∀ X, OpR X f (rI c fun i j => .int (g i j))) (hc : c i j) : Bop Γ f (.int i) (.int j) (.int (g i j)) := bop_of (fun X _ => ho X) fun X _ C H x y Q s r1 r2 k => by
  cases r1; cases r2
  exact ⟨i, j, rfl, rfl, hc, k _ C H (Nw.refl s) (.int _)⟩
theorem bop_B {g : Int → Int → Bool} (ho : ∀ X, OpR X f (rI0 fun i j => .bl (g i j))) : Bop Γ f (.int i) (.int j) (.bl (g i j)) := bop_of (fun X _ => ho X) fun X _ C H x y Q s r1 r2 k => by
  cases r1; cases r2
  exact ⟨i, j, rfl, rfl, k _ C H (Nw.refl s) (.bl _)⟩
theorem b_add : Bop Γ (binaryOp .Add) (.int i) (.int j) (.int (i + j)) := bop_I (g := fun i j => i + j) fun X => op_add
theorem b_sub : Bop Γ (binaryOp .Sub) (.int i) (.int j) (.int (i - j)) := bop_I (g := fun i j => i - j) fun X => op_sub
theorem b_mul (h : CMul i j) : Bop Γ (binaryOp .Mult) (.int i) (.int j) (.int (i * j)) := bop_IC (g := fun i j => i * j) (fun X => op_mul) h
theorem b_fdiv (h : CDiv i j) : Bop Γ (binaryOp .FloorDiv) (.int i) (.int j) (.int (i / j)) := bop_IC (g := fun i j => i / j) (fun X => op_fdiv) h
theorem b_mod (h : 0 < j) : Bop Γ (binaryOp .Mod) (.int i) (.int j) (.int (i % j)) := bop_IC (g := fun i j => i % j) (c := fun _ j => 0 < j) (fun X => op_mod) h
theorem b_lt : Bop Γ (compareOp .Lt) (.int i) (.int j) (.bl (decide (i < j))) := bop_B (g := fun i j => decide (i < j)) fun X => op_lt
theorem b_le : Bop Γ (compareOp .LtE) (.int i) (.int j) (.bl (decide (i ≤ j))) := bop_B (g := fun i j => decide (i ≤ j)) fun X => op_le
theorem b_gt : Bop Γ (compareOp .Gt) (.int i) (.int j) (.bl (decide (j < i))) := bop_B (g := fun i j => decide (j < i)) fun X => op_gt
theorem b_ge : Bop Γ (compareOp .GtE) (.int i) (.int j) (.bl (decide (j ≤ i))) := bop_B (g := fun i j => decide (j ≤ i)) fun X => op_ge
theorem b_eqI : Bop Γ (compareOp .Eq) (.int i) (.int j) (.bl (decide (i = j))) := bop_of (fun X _ => op_eq) fun X _ C H x y Q s r1 r2 k => by
  cases r1; cases r2
  refine ⟨rfl, ?_⟩
  have e : decide (V.int i = V.int j) = decide (i = j) := decide_eq_decide.mpr ⟨fun q => V.int.inj q, fun q => by rw [q]⟩
  rw [e]
  exact k _ C H (Nw.refl s) (.bl _)
theorem b_neI : Bop Γ (compareOp .NotEq) (.int i) (.int j) (.bl (!decide (i = j))) := bop_of (fun X _ => op_ne) fun X _ C H x y Q s r1 r2 k => by
  cases r1; cases r2
  refine ⟨rfl, ?_⟩
  have e : decide (V.int i = V.int j) = decide (i = j) := decide_eq_decide.mpr ⟨fun q => V.int.inj q, fun q => by rw [q]⟩
  rw [e]
  exact k _ C H (Nw.refl s) (.bl _)
theorem b_eqS {x y : Str} : Bop Γ (compareOp .Eq) (.str x) (.str y) (.bl (decide (x = y))) := bop_of (fun X _ => op_eq) fun X _ C H v u Q s r1 r2 k => by
  cases r1; cases r2
  refine ⟨rfl, ?_⟩
  have e : decide (V.str x = V.str y) = decide (x = y) := decide_eq_decide.mpr ⟨fun q => V.str.inj q, fun q => by rw [q]⟩
  rw [e]
  exact k _ C H (Nw.refl s) (.bl _)
theorem b_neS {x y : Str} : Bop Γ (compareOp .NotEq) (.str x) (.str y) (.bl (!decide (x = y))) := bop_of (fun X _ => op_ne) fun X _ C H v u Q s r1 r2 k => by
  cases r1; cases r2
  refine ⟨rfl, ?_⟩
  have e : decide (V.str x = V.str y) = decide (x = y) := decide_eq_decide.mpr ⟨fun q => V.str.inj q, fun q => by rw [q]⟩
  rw [e]
  exact k _ C H (Nw.refl s) (.bl _)
theorem b_eqB {x y : Bool} : Bop Γ (compareOp .Eq) (.bl x) (.bl y) (.bl (decide (x = y))) := bop_of (fun X _ => op_eq) fun X _ C H v u Q s r1 r2 k => by
  cases r1; cases r2
  refine ⟨rfl, ?_⟩
  have e : decide (V.bl x = V.bl y) = decide (x = y) := decide_eq_decide.mpr ⟨fun q => V.bl.inj q, fun q => by rw [q]⟩
  rw [e]
  exact k _ C H (Nw.refl s) (.bl _)
theorem b_neB {x y : Bool} : Bop Γ (compareOp .NotEq) (.bl x) (.bl y) (.bl (!decide (x = y))) := bop_of (fun X _ => op_ne) fun X _ C H v u Q s r1 r2 k => by
  cases r1; cases r2
  refine ⟨rfl, ?_⟩
  have e : decide (V.bl x = V.bl y) = decide (x = y) := decide_eq_decide.mpr ⟨fun q => V.bl.inj q, fun q => by rw [q]⟩
  rw [e]
  exact k _ C H (Nw.refl s) (.bl _)
/-- == of plain data -/
theorem b_eqP {t : Bool} {n m : Nat} (h1 : Pd n a) (h2 : Pd m b) (hn : n ≤ 64) (hm : m ≤ 64) (e : PyData.eqv (toP a) (toP b) = t) : Bop Γ (compareOp .Eq) a b (.bl t) := bop_of (fun X hX => op_eqD hX.room.units) fun X hX C H v u Q s r1 r2 k =>
  ⟨toP a, toP b, pd_dp s n a v h1 (by rw [hX.K]; exact r1), pd_dp s m b u h2 (by rw [hX.K]; exact r2), pd_shaped hn h1, pd_shaped hm h2, by rw [e]; exact k _ C H (Nw.refl s) (.bl _)⟩
theorem b_neP {t : Bool} {n m : Nat} (h1 : Pd n a) (h2 : Pd m b) (hn : n ≤ 64) (hm : m ≤ 64) (e : PyData.eqv (toP a) (toP b) = t) : Bop Γ (compareOp .NotEq) a b (.bl (!t)) := bop_of (fun X hX => op_neD hX.room.units) fun X hX C H v u Q s r1 r2 k =>
  ⟨toP a, toP b, pd_dp s n a v h1 (by rw [hX.K]; exact r1), pd_dp s m b u h2 (by rw [hX.K]; exact r2), pd_shaped hn h1, pd_shaped hm h2, by rw [e]; exact k _ C H (Nw.refl s) (.bl _)⟩
theorem b_eqSame {n : Nat} (h : Pd n a) (e : a = b) (hn : n ≤ 64 := by decide) : Bop Γ (compareOp .Eq) a b (.bl true) := e ▸ b_eqP h h hn hn (eqv_self _ (pd_lay n a h).1)
theorem b_neSame {n : Nat} (h : Pd n a) (e : a = b) (hn : n ≤ 64 := by decide) : Bop Γ (compareOp .NotEq) a b (.bl false) := e ▸ b_neP h h hn hn (eqv_self _ (pd_lay n a h).1)
theorem b_eqNil {n : Nat} {ds : List D} (h : Pd n (.lst ds)) (hn : n ≤ 64 := by decide) : Bop Γ (compareOp .Eq) (.lst ds) (.lst []) (.bl ds.isEmpty) := b_eqP (m := 1) h (by simp [Pd]) hn (by decide) (by simp only [toP, PyData.eqv]; exact eqv_nil ds)
theorem b_neNil {n : Nat} {ds : List D} (h : Pd n (.lst ds)) (hn : n ≤ 64 := by decide) : Bop Γ (compareOp .NotEq) (.lst ds) (.lst []) (.bl (!ds.isEmpty)) := b_neP (m := 1) h (by simp [Pd]) hn (by decide) (by simp only [toP, PyData.eqv]; exact eqv_nil ds)
def isNon : D → Bool
  | .non => true
  | _ => false
theorem isNon_dat {K : PySem.W.Frag} {C : Hp} {v : V} {d : D} (r : Dat K C v d) : decide (v = .non) = isNon d := by cases r <;> simp [isNon]
theorem b_isN : Bop Γ (compareOp .Is) a .non (.bl (isNon a)) := bop_of (fun X _ => op_isN) fun X _ C H v u Q s r1 r2 k => by
  cases r2
  refine ⟨rfl, ?_⟩
  rw [isNon_dat r1]
  exact k _ C H (Nw.refl s) (.bl _)
theorem b_notN : Bop Γ (compareOp .IsNot) a .non (.bl (!isNon a)) := bop_of (fun X _ => op_notN) fun X _ C H v u Q s r1 r2 k => by
  cases r2
  refine ⟨rfl, ?_⟩
  rw [isNon_dat r1]
  exact k _ C H (Nw.refl s) (.bl _)
/-! lists, tuples, texts -/
theorem szl {n : Nat} (h : n ≤ 100000) : n ≤ sizeLine := Nat.le_trans h (by decide)
theorem b_cat {xs ys : List D} (h : xs.length + ys.length ≤ 100000) : Bop Γ (binaryOp .Add) (.lst xs) (.lst ys) (.lst (xs ++ ys)) := bop_of (fun X _ => op_cat) fun X _ C H v u Q s r1 r2 k => by
  cases r1 with | lst e1 a1 =>
  cases r2 with | lst e2 a2 =>
  refine ⟨_, _, _, _, rfl, rfl, s _ _ e1, s _ _ e2, szl (by rw [a1.len, a2.len]; exact h), fun p hp => ?_⟩
  exact k _ _ _ (Nw.add s hp) (.lst upd_same (DatAll.mono (Le.new (s.none hp)) _ _ (a1.append a2)))
theorem b_rep {xs : List D} (h1 : i < 2 ^ 63) (h2 : -(2 ^ 63) ≤ i) (h : xs.length * i.toNat ≤ 100000) : Bop Γ (binaryOp .Mult) (.lst xs) (.int i) (.lst (List.replicate i.toNat xs).flatten) := bop_of (fun X _ => op_rep) fun X _ C H v u Q s r1 r2 k => by
  cases r1 with | lst e1 a1 =>
  cases r2
  refine ⟨_, _, _, rfl, rfl, s _ _ e1, h2, h1, szl (by rw [a1.len]; exact h), fun p hp => ?_⟩
  exact k _ _ _ (Nw.add s hp) (.lst upd_same (DatAll.mono (Le.new (s.none hp)) _ _ (a1.rep _)))
theorem DatAll.nil_iff {K : PySem.W.Frag} {C : Hp} {vs : List V} {ds : List D} (h : DatAll K C vs ds) : vs = [] ↔ ds = [] := by cases h <;> simp
theorem b_catT {xs ys : List D} (h : xs.length + ys.length ≤ 100000) : Bop Γ (binaryOp .Add) (.tup xs) (.tup ys) (.tup (xs ++ ys)) := bop_of (fun X _ => op_catA) fun X _ C H v u Q s r1 r2 k => by
  cases r1 with | tup e1 a1 =>
  cases r2 with | tup e2 a2 =>
  refine ⟨_, _, _, _, rfl, rfl, .inl (s.rd e1), .inl (s.rd e2), szl (by rw [a1.len, a2.len]; exact h), fun q => ?_, fun _ q => ?_, fun _ _ p hp => ?_⟩
  · have z : xs = [] := a1.nil_iff.mp q
    subst z
    exact k _ C H (Nw.refl s) (.tup e2 a2)
  · have z : ys = [] := a2.nil_iff.mp q
    subst z
    rw [List.append_nil] at k
    exact k _ C H (Nw.refl s) (.tup e1 a1)
  · exact k _ _ _ (Nw.add s hp) (.tup (.inl upd_same) (DatAll.mono (Le.new (s.none hp)) _ _ (a1.append a2)))
theorem b_str {x y : Str} (h : x.length + y.length ≤ 100000) : Bop Γ (binaryOp .Add) (.str x) (.str y) (.str (x ++ y)) := bop_of (fun X _ => op_add_str) fun X _ C H v u Q s r1 r2 k => by
  cases r1; cases r2
  exact ⟨_, _, rfl, rfl, szl h, k _ C H (Nw.refl s) (.str _)⟩
/-- x in a list, a tuple of texts -/
theorem inV_strs (x : Str) : ∀ ss : List Str, inV (.str x) (ss.map V.str) = decide (x ∈ ss)
  | [] => by simp [inV]
  | s :: ss => by
    have ih := inV_strs x ss
    unfold inV at ih ⊢
    rw [List.map_cons, List.any_cons, ih]
    by_cases e : s = x
    · subst e; simp [eqV]
    · have h1 : eqV (.str s) (.str x) = false := by simp [eqV, e]
      rw [h1, Bool.false_or]
      have h2 : (x ∈ s :: ss) ↔ x ∈ ss := by simp [Ne.symm e]
      exact decide_eq_decide.mpr h2.symm
theorem flat_strs (ss : List Str) : (ss.map V.str).all flatV = true := by
  rw [List.all_map]
  exact List.all_eq_true.mpr fun x _ => rfl
theorem b_inL {x : Str} {ss : List Str} : Bop Γ (compareOp .In) (.str x) (.lst (ss.map D.str)) (.bl (decide (x ∈ ss))) := bop_of (fun X _ => op_in_seq) fun X _ C H v u Q s r1 r2 k => by
  cases r1
  cases r2 with | lst e2 a2 =>
  rw [DatAll.strs a2] at e2
  refine ⟨_, _, rfl, .inl (.inl (.inl (s _ _ e2))), rfl, flat_strs ss, ?_⟩
  rw [inV_strs]
  exact k _ C H (Nw.refl s) (.bl _)
theorem b_inT {x : Str} {ss : List Str} : Bop Γ (compareOp .In) (.str x) (.tup (ss.map D.str)) (.bl (decide (x ∈ ss))) := bop_of (fun X _ => op_in_seq) fun X _ C H v u Q s r1 r2 k => by
  cases r1
  cases r2 with | tup e2 a2 =>
  rw [DatAll.strs a2] at e2
  refine ⟨_, _, rfl, .inr (.inl (s.rd e2)), rfl, flat_strs ss, ?_⟩
  rw [inV_strs]
  exact k _ C H (Nw.refl s) (.bl _)
/-- tuples of ints, in order -/
theorem b_ltT {ns ms : List Int} : Bop Γ (compareOp .Lt) (.tup (ns.map D.int)) (.tup (ms.map D.int)) (.bl (HT.lexLt ns ms)) := bop_of (fun X hX => op_ltT hX.room.units0) fun X hX C H v u Q s r1 r2 k => by
  cases r1 with | tup e1 a1 =>
  cases r2 with | tup e2 a2 =>
  rw [DatAll.ints a1] at e1
  rw [DatAll.ints a2] at e2
  exact ⟨_, _, ns, ms, rfl, rfl, .inl (s.rd e1), .inl (s.rd e2), k _ C H (Nw.refl s) (.bl _)⟩
end
end Dl

set_option maxRecDepth 100000
set_option maxHeartbeats 2000000
namespace Dl
open PySem PySem.Spec PyProof.Rows L2
section
variable {Γ : Gam} {δ : Sd} {μ : Mem} {e a b : Expr} {es : List Expr} {d : D} {P : Pst} {pos p2 : Pos}
/-! ### fields -/
theorem ev_fld {Cl : Addr} {ns : List Str} {fs : List D} {f : Str} (h : Ev Γ δ μ e (.obj Cl ns fs)) (hc : Cls Γ.K Cl) (hn : NoAttr Γ.K Cl f) (hl : (ns.zip fs).lookup f = some d) (hb : ∀ env, attributeBase e f env (eval e env) = eval e env := by intro _; rfl) : Ev Γ δ μ (.Attribute e f pos) d := fun X hX σ C H Q w k =>
  PEw (pe_fld wE_pe (hb _)) (h X hX σ C H _ w fun v d1 μ1 C1 H1 g1 w1 r1 ⟨e1, e2⟩ => by
    subst e1; subst e2
    cases r1 with | obj ho hlen ha =>
    obtain ⟨v, h1, h2⟩ := zip_get hl ha
    exact ⟨_, _, _, _, v, rfl, w1.sub _ _ ho, by rw [hX.K]; exact hc, by rw [hX.K]; exact hn, h1, k v d _ C1 H1 g1 w1 h2 ⟨rfl, rfl⟩⟩)
/-- of a mutable instance -/
theorem ev_fldM {x Cl : Addr} {ns : List Str} {fs : List D} {f : Str} (h : Ev Γ δ μ e (.adr x)) (hm : (x, MO.ins Cl ns fs) ∈ μ) (hc : Cls Γ.K Cl) (hn : NoAttr Γ.K Cl f) (hl : (ns.zip fs).lookup f = some d) (hb : ∀ env, attributeBase e f env (eval e env) = eval e env := by intro _; rfl) : Ev Γ δ μ (.Attribute e f pos) d := fun X hX σ C H Q w k =>
  PEw (pe_fld wE_pe (hb _)) (h X hX σ C H _ w fun v d1 μ1 C1 H1 g1 w1 r1 ⟨e1, e2⟩ => by
    subst e1; subst e2
    cases r1
    obtain ⟨_, o, ho, dx, vs, eo, hlen, ha⟩ := w1.mem.ok _ hm
    subst eo
    obtain ⟨v, h1, h2⟩ := zip_get hl ha
    exact ⟨_, _, _, _, v, rfl, ho, by rw [hX.K]; exact hc, by rw [hX.K]; exact hn, h1, k v d _ C1 H1 g1 w1 h2 ⟨rfl, rfl⟩⟩)
/-! ### subscripts -/
theorem atI_dat {K : PySem.W.Frag} {C : Hp} {vs : List V} {ds : List D} {i : Int} (h : DatAll K C vs ds) (e : atI ds i = some d) : ∃ v, atI vs i = some v ∧ Dat K C v d := by
  unfold atI at e ⊢
  rw [h.len]
  cases q : ixN ds.length i with
  | none => rw [q] at e; cases e
  | some j =>
    rw [q] at e
    exact h.get e
theorem ev_ixL {ds : List D} {i : Int} (ha : Ev Γ δ μ a (.lst ds)) (hb : Ev Γ δ μ b (.int i)) (h : atI ds i = some d) (hs : ∀ o i, subscripted b false o i = operate [o, i] (getItem o i) := by intro _ _; rfl) : Ev Γ δ μ (.Subscript a b pos) d := fun X hX σ C H Q w k =>
  PEw (pe_ix ix_list wE_pe wE_pe hs) (ha X hX σ C H _ w fun v1 d1 μ1 C1 H1 g1 w1 r1 ⟨e1, e2⟩ => by
    subst e1; subst e2
    refine hb X hX σ C1 H1 _ w1 fun v2 d2 μ2 C2 H2 g2 w2 r2 ⟨e1, e2⟩ => ?_
    subst e1; subst e2
    cases r2
    cases Dat.mono g2.core _ _ r1 with | lst ho ha =>
    obtain ⟨v, h1, h2⟩ := atI_dat ha h
    exact ⟨_, _, i, v, rfl, rfl, .inl (.inl (w2.sub _ _ ho)), h1, k v d _ C2 H2 (g1.trans g2) w2 h2 ⟨rfl, rfl⟩⟩)
theorem ev_ixT {ds : List D} {i : Int} (ha : Ev Γ δ μ a (.tup ds)) (hb : Ev Γ δ μ b (.int i)) (h : atI ds i = some d) (hs : ∀ o i, subscripted b false o i = operate [o, i] (getItem o i) := by intro _ _; rfl) : Ev Γ δ μ (.Subscript a b pos) d := fun X hX σ C H Q w k =>
  PEw (pe_ix ix_tup wE_pe wE_pe hs) (ha X hX σ C H _ w fun v1 d1 μ1 C1 H1 g1 w1 r1 ⟨e1, e2⟩ => by
    subst e1; subst e2
    refine hb X hX σ C1 H1 _ w1 fun v2 d2 μ2 C2 H2 g2 w2 r2 ⟨e1, e2⟩ => ?_
    subst e1; subst e2
    cases r2
    cases Dat.mono g2.core _ _ r1 with | tup ho ha =>
    obtain ⟨v, h1, h2⟩ := atI_dat ha h
    exact ⟨_, _, i, v, rfl, rfl, .inl (w2.sub.rd ho), h1, k v d _ C2 H2 (g1.trans g2) w2 h2 ⟨rfl, rfl⟩⟩)
theorem ev_ixM {x : Addr} {ds : List D} {i : Int} (ha : Ev Γ δ μ a (.adr x)) (hm : (x, MO.lst ds) ∈ μ) (hb : Ev Γ δ μ b (.int i)) (h : atI ds i = some d) (hs : ∀ o i, subscripted b false o i = operate [o, i] (getItem o i) := by intro _ _; rfl) : Ev Γ δ μ (.Subscript a b pos) d := fun X hX σ C H Q w k =>
  PEw (pe_ix ix_list wE_pe wE_pe hs) (ha X hX σ C H _ w fun v1 d1 μ1 C1 H1 g1 w1 r1 ⟨e1, e2⟩ => by
    subst e1; subst e2
    refine hb X hX σ C1 H1 _ w1 fun v2 d2 μ2 C2 H2 g2 w2 r2 ⟨e1, e2⟩ => ?_
    subst e1; subst e2
    cases r2
    cases r1
    obtain ⟨_, o, ho, vs, eo, ha⟩ := w2.mem.ok _ hm
    subst eo
    obtain ⟨v, h1, h2⟩ := atI_dat ha h
    exact ⟨_, _, i, v, rfl, rfl, .inl (.inl ho), h1, k v d _ C2 H2 (g1.trans g2) w2 h2 ⟨rfl, rfl⟩⟩)
/-! ### slices -/
def cutA {α : Type} (xs : List α) (lo hi : Option Int) : List α := (xs.drop (HT.sIx xs.length 0 lo)).take (HT.sIx xs.length xs.length hi - HT.sIx xs.length 0 lo)
theorem cut_dat {K : PySem.W.Frag} {C : Hp} {vs : List V} {ds : List D} {lo hi : Option Int} (h : DatAll K C vs ds) : DatAll K C (cutV vs lo hi) (cutA ds lo hi) := by
  unfold cutV cutA
  rw [h.len]
  exact (h.drop _).take _
def Pv (Γ : Gam) (δ : Sd) (μ : Mem) (o : Option Expr) (v : Option Int) : Prop := ∀ X, Fits Γ X → ∀ σ C H (Q : Option Int → Hp → Prop), Wd Γ C H σ δ μ → (∀ C' H', Gr μ μ C H C' H' → Wd Γ C' H' σ δ μ → Q v H') → ∀ (pins : List (Addr × Obj)) (s : Shared), Inv X pins σ H s →
  wpAny (model X.prog X.w) X.A (evalPart o X.env) (fun u s' => ∃ o H', Inv X pins σ H' s' ∧ IsPart u o ∧ Q o H') X.xe s
theorem pv_no : Pv Γ δ μ none none := fun X hX σ C H Q w k pins s I => po_none.run pins s σ H Q I (k C H Gr.refl w)
theorem pv_yes {i : Int} (h : Ev Γ δ μ e (.int i)) : Pv Γ δ μ (some e) (some i) := fun X hX σ C H Q w k pins s I => (po_some (te := wE X e) wE_pe).run pins s σ H Q I (h X hX σ C H _ w fun v1 d1 μ1 C1 H1 g1 w1 r1 ⟨e1, e2⟩ => by
    subst e1; subst e2
    cases r1
    exact ⟨i, rfl, k C1 H1 g1 w1⟩)
def wO (X : Cx) (o : Option Expr) : TO := fun σ H Q => ∀ (pins : List (Addr × Obj)) (s : Shared), Inv X pins σ H s → wpAny (model X.prog X.w) X.A (evalPart o X.env) (fun u s' => ∃ o H', Inv X pins σ H' s' ∧ IsPart u o ∧ Q o H') X.xe s
theorem wO_po {X : Cx} {o : Option Expr} : PO X o (wO X o) := ⟨fun pins s _ _ _ I h => h pins s I⟩
variable {lo hi : Option Expr} {l h : Option Int}
theorem ev_slL {ds : List D} (ha : Ev Γ δ μ a (.lst ds)) (hl : Pv Γ δ μ lo l) (hh : Pv Γ δ μ hi h) : Ev Γ δ μ (.Subscript a (.Slice lo hi none p2) pos) (.lst (cutA ds l h)) := fun X hX σ C H Q w k =>
  PEw (pe_slice sl_list wE_pe wO_po wO_po) (ha X hX σ C H _ w fun v1 d1 μ1 C1 H1 g1 w1 r1 ⟨e1, e2⟩ => by
    subst e1; subst e2
    refine hl X hX σ C1 H1 _ w1 fun C2 H2 g2 w2 => hh X hX σ C2 H2 _ w2 fun C3 H3 g3 w3 => ?_
    cases Dat.mono g3.core _ _ (Dat.mono g2.core _ _ r1) with | lst ho ha =>
    refine ⟨_, _, rfl, .inl (.inl (w3.sub _ _ ho)), fun p hp => ?_⟩
    exact k _ _ _ _ _ (((g1.trans g2).trans g3).trans (Nw.add w3.sub hp).gr) (w3.nw (Nw.add w3.sub hp)) (.lst upd_same (DatAll.mono (Le.new (w3.sub.none hp)) _ _ (cut_dat ha))) ⟨rfl, rfl⟩)
theorem ev_slS {ds : List D} (ha : Ev Γ δ μ a (.lsq ds)) (hl : Pv Γ δ μ lo l) (hh : Pv Γ δ μ hi h) : Ev Γ δ μ (.Subscript a (.Slice lo hi none p2) pos) (.lst (cutA ds l h)) := fun X hX σ C H Q w k =>
  PEw (pe_slice sl_list wE_pe wO_po wO_po) (ha X hX σ C H _ w fun v1 d1 μ1 C1 H1 g1 w1 r1 ⟨e1, e2⟩ => by
    subst e1; subst e2
    refine hl X hX σ C1 H1 _ w1 fun C2 H2 g2 w2 => hh X hX σ C2 H2 _ w2 fun C3 H3 g3 w3 => ?_
    cases Dat.mono g3.core _ _ (Dat.mono g2.core _ _ r1) with | lsq ho ha =>
    refine ⟨_, _, rfl, by rw [hX.K]; exact w3.sub.l ho, fun p hp => ?_⟩
    exact k _ _ _ _ _ (((g1.trans g2).trans g3).trans (Nw.add w3.sub hp).gr) (w3.nw (Nw.add w3.sub hp)) (.lst upd_same (DatAll.mono (Le.new (w3.sub.none hp)) _ _ (cut_dat ha))) ⟨rfl, rfl⟩)
theorem cut_whole {α : Type} {xs : List α} {l h : Option Int} (q : HT.sIx xs.length 0 l = 0 ∧ HT.sIx xs.length xs.length h = xs.length) : cutA xs l h = xs := by
  unfold cutA
  rw [q.1, q.2, List.drop_zero, Nat.sub_zero, List.take_length]
theorem ev_slT {ds : List D} (ha : Ev Γ δ μ a (.tup ds)) (hl : Pv Γ δ μ lo l) (hh : Pv Γ δ μ hi h) : Ev Γ δ μ (.Subscript a (.Slice lo hi none p2) pos) (.tup (cutA ds l h)) := fun X hX σ C H Q w k =>
  PEw (pe_slice sl_tupA wE_pe wO_po wO_po) (ha X hX σ C H _ w fun v1 d1 μ1 C1 H1 g1 w1 r1 ⟨e1, e2⟩ => by
    subst e1; subst e2
    refine hl X hX σ C1 H1 _ w1 fun C2 H2 g2 w2 => hh X hX σ C2 H2 _ w2 fun C3 H3 g3 w3 => ?_
    cases Dat.mono g3.core _ _ (Dat.mono g2.core _ _ r1) with | tup ho ha =>
    refine ⟨_, _, rfl, .inl (w3.sub.rd ho), fun q => ?_, fun _ p hp => ?_⟩
    · rw [ha.len] at q
      exact k _ _ _ _ _ ((g1.trans g2).trans g3) w3 (.tup ho ha) ⟨by rw [cut_whole q], rfl⟩
    · exact k _ _ _ _ _ (((g1.trans g2).trans g3).trans (Nw.add w3.sub hp).gr) (w3.nw (Nw.add w3.sub hp)) (.tup (.inl upd_same) (DatAll.mono (Le.new (w3.sub.none hp)) _ _ (cut_dat ha))) ⟨rfl, rfl⟩)
end
/-! ### calls of builtins -/
def bnames : List Str := ["len", "range", "sum", "min", "max", "tuple", "list", "int", "abs", "zip", "enumerate", "any", "all", "sorted", "str", "dict", "set", "bool"]
def Free (mg : Str → Option Value) : Prop := ∀ x ∈ bnames, mg x = none
def Cop (Γ : Gam) (f : Value) (ds : List D) (d : D) : Prop := ∀ X, Fits Γ X → ∀ C H vs Q, Le C H → DatAll Γ.K C vs ds → (∀ v C' H', Nw C H C' H' → Dat Γ.K C' v d → Q v H') → ∀ (pins : List (Addr × Obj)) (s : Shared) (σ : L2.St) (us : List Value), Inv X pins σ H s → Vals vs us → wpAny (model X.prog X.w) X.A (call f us) (EP X pins σ Q) X.xe s
def wC (X : Cx) (f : Value) : List V → Hp → VK → Prop := fun xs H Q => ∀ (pins : List (Addr × Obj)) (s : Shared) (σ : L2.St) (us : List Value), Inv X pins σ H s → Vals xs us → wpAny (model X.prog X.w) X.A (call f us) (EP X pins σ Q) X.xe s
theorem wC_cr {X : Cx} {f : Value} : CallR X f (wC X f) := fun pins s σ _ _ us _ I r h => h pins s σ us I r
section
variable {Γ : Gam} {δ : Sd} {μ : Mem} {e a b : Expr} {es : List Expr} {d : D} {ds : List D} {P : Pst} {pos p : Pos} {f : Value}
theorem cop_of {r : Cx → List V → Hp → VK → Prop} (ho : ∀ X, Fits Γ X → CallR X f (r X)) (h : ∀ X, Fits Γ X → ∀ C H vs Q, Le C H → DatAll Γ.K C vs ds → (∀ v C' H', Nw C H C' H' → Dat Γ.K C' v d → Q v H') → r X vs H Q) : Cop Γ f ds d := fun X hX C H vs Q s r k pins sh σ us I rv => ho X hX pins sh σ H vs us Q I rv (h X hX C H vs Q s r k)
theorem ew_callB {x : Str} {id : String} (hm : Γ.mg x = none) (hv : bootBuiltins x = some (.builtin id)) (ha : Aw Γ δ μ (e :: es) fun ds μ' => ∃ d, Cop Γ (.builtin id) ds d ∧ P d μ') (hg : Γ.sc.names.lookup x = some .globalImplicit := by rfl) (hn : x ≠ "__name__" := by decide) (hdb : (x == ("__debug__" : Str)) = false := by decide)
    (he : ∀ env, starEach (e :: es) env = (false, eval e env) :: starEach es env := by intro _; rfl) (hpl : ∀ env, (backTo pos (starEach es env)).any (·.1) = false := by intro _; rfl) : Ew Γ δ μ (.Call (.Name x p) (e :: es) [] pos) P := fun X hX σ C H Q w k =>
  PEw (pe_callB wC_cr (hX.gl hg) (by rw [hX.mg]; exact hm) hv wA_pa hn hdb (he _) (hpl _)) (ha X hX σ C H _ w fun vs ds μ' C' H' g w' r ⟨d, hc, hp⟩ => hc X hX C' H' vs _ w'.sub r fun v C2 H2 n r2 => k v d μ' C2 H2 (g.trans n.gr) (w'.nw n) r2 hp)
theorem ew_callTy {x : Str} {T : String} (hm : Γ.mg x = none) (hv : bootBuiltins x = some (.type T)) (ha : Aw Γ δ μ (e :: es) fun ds μ' => ∃ d, Cop Γ (.type T) ds d ∧ P d μ') (hg : Γ.sc.names.lookup x = some .globalImplicit := by rfl) (hn : x ≠ "__name__" := by decide) (hdb : (x == ("__debug__" : Str)) = false := by decide)
    (he : ∀ env, starEach (e :: es) env = (false, eval e env) :: starEach es env := by intro _; rfl) (hpl : ∀ env, (backTo pos (starEach es env)).any (·.1) = false := by intro _; rfl) : Ew Γ δ μ (.Call (.Name x p) (e :: es) [] pos) P := fun X hX σ C H Q w k =>
  PEw (pe_callTy wC_cr (hX.gl hg) (by rw [hX.mg]; exact hm) hv wA_pa hn hdb (he _) (hpl _)) (ha X hX σ C H _ w fun vs ds μ' C' H' g w' r ⟨d, hc, hp⟩ => hc X hX C' H' vs _ w'.sub r fun v C2 H2 n r2 => k v d μ' C2 H2 (g.trans n.gr) (w'.nw n) r2 hp)
/-! which builtin gives what -/
theorem len_dat {X : Cx} {C H : Hp} {v : V} {n : Nat} (s : Le C H) (h : (∃ ds, Dat Γ.K C v (.lst ds) ∧ n = ds.length) ∨ (∃ ds, Dat Γ.K C v (.tup ds) ∧ n = ds.length)) : LenV Γ.K v H n := by
  rcases h with ⟨ds, r, e⟩ | ⟨ds, r, e⟩
  · cases r with | lst e1 a1 => exact .inl ⟨_, .inl (.inl (s _ _ e1)), by rw [a1.len]; exact e⟩
  · cases r with | tup e1 a1 => exact .inr ⟨_, .inl (s.rd e1), by rw [a1.len]; exact e⟩
theorem c_lenL {ds : List D} : Cop Γ (.builtin "len") [.lst ds] (.int ds.length) := cop_of (fun X _ => call_len) fun X hX C H vs Q s r k => by
  obtain ⟨v, rfl, r0⟩ := r.one
  exact ⟨v, ds.length, rfl, by rw [hX.K]; exact len_dat (X := X) s (.inl ⟨ds, r0, rfl⟩), k _ C H (Nw.refl s) (.int _)⟩
theorem c_lenT {ds : List D} : Cop Γ (.builtin "len") [.tup ds] (.int ds.length) := cop_of (fun X _ => call_len) fun X hX C H vs Q s r k => by
  obtain ⟨v, rfl, r0⟩ := r.one
  exact ⟨v, ds.length, rfl, by rw [hX.K]; exact len_dat (X := X) s (.inr ⟨ds, r0, rfl⟩), k _ C H (Nw.refl s) (.int _)⟩
theorem c_abs {i : Int} : Cop Γ (.builtin "abs") [.int i] (.int (if i < 0 then -i else i)) := cop_of (fun X _ => call_abs) fun X hX C H vs Q s r k => by
  obtain ⟨v, rfl, r0⟩ := r.one
  cases r0
  exact ⟨i, rfl, k _ C H (Nw.refl s) (.int _)⟩
theorem c_max2 {i j : Int} : Cop Γ (.builtin "max") [.int i, .int j] (.int (max i j)) := cop_of (fun X hX => call_max2 hX.calm) fun X hX C H vs Q s r k => by
  obtain ⟨v, u, rfl, r0, r2⟩ := r.two
  cases r0; cases r2
  refine ⟨i, j, rfl, ?_⟩
  have e : (if j > i then j else i) = max i j := by omega
  rw [e]
  exact k _ C H (Nw.refl s) (.int _)
theorem c_min2 {i j : Int} : Cop Γ (.builtin "min") [.int i, .int j] (.int (min i j)) := cop_of (fun X hX => call_min2 hX.calm) fun X hX C H vs Q s r k => by
  obtain ⟨v, u, rfl, r0, r2⟩ := r.two
  cases r0; cases r2
  refine ⟨i, j, rfl, ?_⟩
  have e : (if j < i then j else i) = min i j := by omega
  rw [e]
  exact k _ C H (Nw.refl s) (.int _)
theorem c_int {i : Int} : Cop Γ (.type "int") [.int i] (.int i) := cop_of (fun X hX => call_int1) fun X hX C H vs Q s r k => by
  obtain ⟨v, rfl, r0⟩ := r.one
  cases r0
  exact .inl ⟨i, rfl, k _ C H (Nw.refl s) (.int _)⟩
theorem c_intB {t : Bool} : Cop Γ (.type "int") [.bl t] (.int (if t then 1 else 0)) := cop_of (fun X hX => call_int1) fun X hX C H vs Q s r k => by
  obtain ⟨v, rfl, r0⟩ := r.one
  cases r0
  exact .inr ⟨t, rfl, k _ C H (Nw.refl s) (.int _)⟩
theorem c_str {i : Int} (h : i.natAbs.log2 < 1920) : Cop Γ (.type "str") [.int i] (.str (toString i)) := cop_of (fun X hX => call_str_int) fun X hX C H vs Q s r k => by
  obtain ⟨v, rfl, r0⟩ := r.one
  cases r0
  exact ⟨i, rfl, h, k _ C H (Nw.refl s) (.str _)⟩
theorem c_listL {ds : List D} : Cop Γ (.type "list") [.lst ds] (.lst ds) := cop_of (fun X hX => call_list_of) fun X hX C H vs Q s r k => by
  obtain ⟨v, rfl, r0⟩ := r.one
  cases r0 with | lst e1 a1 =>
  exact ⟨_, _, rfl, .inl (.inl (.inl (s _ _ e1))), fun p hp => k _ _ _ (Nw.add s hp) (.lst upd_same (DatAll.mono (Le.new (s.none hp)) _ _ a1))⟩
theorem c_listT {ds : List D} : Cop Γ (.type "list") [.tup ds] (.lst ds) := cop_of (fun X hX => call_list_of) fun X hX C H vs Q s r k => by
  obtain ⟨v, rfl, r0⟩ := r.one
  cases r0 with | tup e1 a1 =>
  exact ⟨_, _, rfl, .inr (.inl (s.rd e1)), fun p hp => k _ _ _ (Nw.add s hp) (.lst upd_same (DatAll.mono (Le.new (s.none hp)) _ _ a1))⟩
theorem c_tupL {ds : List D} : Cop Γ (.type "tuple") [.lst ds] (.tup ds) := cop_of (fun X hX => call_tuple_of) fun X hX C H vs Q s r k => by
  obtain ⟨v, rfl, r0⟩ := r.one
  cases r0 with | lst e1 a1 =>
  exact ⟨_, _, rfl, .inl ⟨.inl (.inl (s _ _ e1)), fun p hp => k _ _ _ (Nw.add s hp) (.tup (.inl upd_same) (DatAll.mono (Le.new (s.none hp)) _ _ a1))⟩⟩
theorem c_tupT {ds : List D} : Cop Γ (.type "tuple") [.tup ds] (.tup ds) := cop_of (fun X hX => call_tuple_of) fun X hX C H vs Q s r k => by
  obtain ⟨v, rfl, r0⟩ := r.one
  cases r0 with | tup e1 a1 =>
  exact ⟨_, _, rfl, .inr ⟨.inl (s.rd e1), k _ C H (Nw.refl s) (.tup e1 a1)⟩⟩
/-! the greatest, the least -/
def maxI : List Int → Int
  | [] => 0
  | [x] => x
  | x :: y :: xs => max x (maxI (y :: xs))
def minI : List Int → Int
  | [] => 0
  | [x] => x
  | x :: y :: xs => min x (minI (y :: xs))
theorem maxI_ok : ∀ {ns : List Int}, ns ≠ [] → maxI ns ∈ ns ∧ ∀ x ∈ ns, x ≤ maxI ns
  | [], h => absurd rfl h
  | [x], _ => ⟨by simp [maxI], by simp [maxI]⟩
  | x :: y :: xs, _ => by
    obtain ⟨h1, h2⟩ := maxI_ok (ns := y :: xs) (by simp)
    have e : maxI (x :: y :: xs) = max x (maxI (y :: xs)) := rfl
    rw [e]
    refine ⟨?_, fun z hz => ?_⟩
    · by_cases q : x ≤ maxI (y :: xs)
      · rw [Int.max_eq_right q]; exact List.mem_cons_of_mem _ h1
      · rw [Int.max_eq_left (by omega)]; exact List.mem_cons_self
    · rcases List.mem_cons.mp hz with rfl | hz
      · omega
      · have := h2 z hz; omega
theorem minI_ok : ∀ {ns : List Int}, ns ≠ [] → minI ns ∈ ns ∧ ∀ x ∈ ns, minI ns ≤ x
  | [], h => absurd rfl h
  | [x], _ => ⟨by simp [minI], by simp [minI]⟩
  | x :: y :: xs, _ => by
    obtain ⟨h1, h2⟩ := minI_ok (ns := y :: xs) (by simp)
    have e : minI (x :: y :: xs) = min x (minI (y :: xs)) := rfl
    rw [e]
    refine ⟨?_, fun z hz => ?_⟩
    · by_cases q : minI (y :: xs) ≤ x
      · rw [Int.min_eq_right q]; exact List.mem_cons_of_mem _ h1
      · rw [Int.min_eq_left (by omega)]; exact List.mem_cons_self
    · rcases List.mem_cons.mp hz with rfl | hz
      · omega
      · have := h2 z hz; omega
theorem max_eq {ns : List Int} {m : Int} (h1 : m ∈ ns) (h2 : ∀ x ∈ ns, x ≤ m) : m = maxI ns := by
  obtain ⟨h3, h4⟩ := maxI_ok (ns := ns) (by rintro rfl; cases h1)
  exact Int.le_antisymm (h4 m h1) (h2 _ h3)
theorem min_eq {ns : List Int} {m : Int} (h1 : m ∈ ns) (h2 : ∀ x ∈ ns, m ≤ x) : m = minI ns := by
  obtain ⟨h3, h4⟩ := minI_ok (ns := ns) (by rintro rfl; cases h1)
  exact Int.le_antisymm (h2 _ h3) (h4 m h1)
theorem c_sumL {ns : List Int} : Cop Γ (.builtin "sum") [.lst (ns.map D.int)] (.int ns.sum) := cop_of (fun X hX => cr_sum hX.calm) fun X hX C H vs Q s r k => by
  obtain ⟨v, rfl, r0⟩ := r.one
  cases r0 with | lst e1 a1 =>
  rw [DatAll.ints a1] at e1
  exact ⟨_, ns, rfl, .inl (.inl (s _ _ e1)), k _ C H (Nw.refl s) (.int _)⟩
theorem c_maxL {ns : List Int} (hne : ns ≠ []) : Cop Γ (.builtin "max") [.lst (ns.map D.int)] (.int (maxI ns)) := cop_of (fun X hX => cr_max hX.calm) fun X hX C H vs Q s r k => by
  obtain ⟨v, rfl, r0⟩ := r.one
  cases r0 with | lst e1 a1 =>
  rw [DatAll.ints a1] at e1
  refine ⟨_, ns, rfl, .inl (.inl (s _ _ e1)), List.length_pos_iff.mpr hne, fun m h1 h2 => ?_⟩
  rw [max_eq h1 h2]
  exact k _ C H (Nw.refl s) (.int _)
theorem c_minL {ns : List Int} (hne : ns ≠ []) : Cop Γ (.builtin "min") [.lst (ns.map D.int)] (.int (minI ns)) := cop_of (fun X hX => cr_min hX.calm) fun X hX C H vs Q s r k => by
  obtain ⟨v, rfl, r0⟩ := r.one
  cases r0 with | lst e1 a1 =>
  rw [DatAll.ints a1] at e1
  refine ⟨_, ns, rfl, .inl (.inl (s _ _ e1)), List.length_pos_iff.mpr hne, fun m h1 h2 => ?_⟩
  rw [min_eq h1 h2]
  exact k _ C H (Nw.refl s) (.int _)
/-! as expressions -/
theorem ev_len (hf : Free Γ.mg) {n : Int} (ha : Ev Γ δ μ e d) (hc : Cop Γ (.builtin "len") [d] (.int n) := by first | exact c_lenL | exact c_lenT) (hg : Γ.sc.names.lookup ("len" : Str) = some .globalImplicit := by rfl) (he : ∀ env, starEach [e] env = (false, eval e env) :: starEach [] env := by intro _; rfl) : Ev Γ δ μ (.Call (.Name "len" p) [e] [] pos) (.int n) :=
  ew_callB (hf _ (by decide)) boot_len (aw_cons (ha.w (aw_nil ⟨_, hc, rfl, rfl⟩)) he) hg (he := he)
theorem ev_b1 {x : Str} {id : String} {d2 : D} (hm : Γ.mg x = none) (hv : bootBuiltins x = some (.builtin id)) (ha : Ev Γ δ μ e d) (hc : Cop Γ (.builtin id) [d] d2) (hg : Γ.sc.names.lookup x = some .globalImplicit := by rfl) (hn : x ≠ "__name__" := by decide) (hdb : (x == ("__debug__" : Str)) = false := by decide) (he : ∀ env, starEach [e] env = (false, eval e env) :: starEach [] env := by intro _; rfl) : Ev Γ δ μ (.Call (.Name x p) [e] [] pos) d2 :=
  ew_callB hm hv (aw_cons (ha.w (aw_nil ⟨_, hc, rfl, rfl⟩)) he) hg hn hdb (he := he)
theorem ev_b2 {x : Str} {id : String} {d1 d2 : D} (hm : Γ.mg x = none) (hv : bootBuiltins x = some (.builtin id)) (ha : Ev Γ δ μ a d) (hb : Ev Γ δ μ b d1) (hc : Cop Γ (.builtin id) [d, d1] d2) (hg : Γ.sc.names.lookup x = some .globalImplicit := by rfl) (hn : x ≠ "__name__" := by decide) (hdb : (x == ("__debug__" : Str)) = false := by decide) (he : ∀ env, starEach [a, b] env = (false, eval a env) :: starEach [b] env := by intro _; rfl) (he2 : ∀ env, starEach [b] env = (false, eval b env) :: starEach [] env := by intro _; rfl) (hpl : ∀ env, (backTo pos (starEach [b] env)).any (·.1) = false := by intro _; rfl) : Ev Γ δ μ (.Call (.Name x p) [a, b] [] pos) d2 :=
  ew_callB hm hv (aw_cons (ha.w (aw_cons (hb.w (aw_nil ⟨_, hc, rfl, rfl⟩)) he2)) he) hg hn hdb he hpl
theorem ev_t1 {x : Str} {T : String} {d2 : D} (hm : Γ.mg x = none) (hv : bootBuiltins x = some (.type T)) (ha : Ev Γ δ μ e d) (hc : Cop Γ (.type T) [d] d2) (hg : Γ.sc.names.lookup x = some .globalImplicit := by rfl) (hn : x ≠ "__name__" := by decide) (hdb : (x == ("__debug__" : Str)) = false := by decide) (he : ∀ env, starEach [e] env = (false, eval e env) :: starEach [] env := by intro _; rfl) : Ev Γ δ μ (.Call (.Name x p) [e] [] pos) d2 :=
  ew_callTy hm hv (aw_cons (ha.w (aw_nil ⟨_, hc, rfl, rfl⟩)) he) hg hn hdb (he := he)
end
end Dl

set_option maxRecDepth 100000
set_option maxHeartbeats 2000000
namespace Dl
open PySem PySem.Spec PyProof.Rows L2
/-- what is wanted behind statements -/
structure Fin where
  nx : Sd → Mem → Prop
  rt : Pst
  bk : Sd → Mem → Prop := fun _ _ => False
  ct : Sd → Mem → Prop := fun _ _ => False
def atEnd (Γ : Gam) (μ : Mem) (C H : Hp) (p : Sd → Mem → Prop) : L2.St → Hp → Prop := fun σ' H' => ∃ C' δ' μ', Gr μ μ' C H C' H' ∧ Wd Γ C' H' σ' δ' μ' ∧ p δ' μ'
def ends (Γ : Gam) (μ : Mem) (C H : Hp) (F : Fin) : Ends where
  nx := atEnd Γ μ C H F.nx
  rt := fun v H' => ∃ C' d μ', Gr μ μ' C H C' H' ∧ Le C' H' ∧ MemOk Γ.K C' H' μ' ∧ Dat Γ.K C' v d ∧ F.rt d μ'
  bk := atEnd Γ μ C H F.bk
  ct := atEnd Γ μ C H F.ct
def Run (Γ : Gam) (δ : Sd) (μ : Mem) (sts : List Stmt) (F : Fin) : Prop := ∀ X, Fits Γ X → ∀ σ C H, Wd Γ C H σ δ μ → wSs X sts (ends Γ μ C H F) σ H
def Ru1 (Γ : Gam) (δ : Sd) (μ : Mem) (st : Stmt) (F : Fin) : Prop := ∀ X, Fits Γ X → ∀ σ C H, Wd Γ C H σ δ μ → wS X st (ends Γ μ C H F) σ H
/-- slots outside ixs stay -/
def Agr (ixs : List Nat) (σ σ' : L2.St) : Prop := σ'.length = σ.length ∧ ∀ j : Nat, j ∉ ixs → σ'[j]? = σ[j]?
def Tg (Γ : Gam) (tg : Expr) (ixs : List Nat) (d : D) (δ : Sd) (μ : Mem) (P : Sd → Mem → Prop) : Prop := ∀ X, Fits Γ X → ∀ σ C H v Q, Wd Γ C H σ δ μ → Dat Γ.K C v d → (∀ σ' δ' μ' C' H', Agr ixs σ σ' → Gr μ μ' C H C' H' → Wd Γ C' H' σ' δ' μ' → P δ' μ' → Q σ' H') → wG X tg v σ H Q
def Tgs (Γ : Gam) (ts : List Expr) (ixs : List Nat) (ds : List D) (δ : Sd) (μ : Mem) (P : Sd → Mem → Prop) : Prop := ∀ X, Fits Γ X → ∀ σ C H vs Q, Wd Γ C H σ δ μ → DatAll Γ.K C vs ds → (∀ σ' δ' μ' C' H', Agr ixs σ σ' → Gr μ μ' C H C' H' → Wd Γ C' H' σ' δ' μ' → P δ' μ' → Q σ' H') → wGs X ts vs σ H Q
section
variable {Γ : Gam} {δ : Sd} {μ μ1 : Mem} {C H C1 H1 : Hp} {e a b : Expr} {es : List Expr} {d : D} {ds : List D} {P : Pst} {pos p : Pos} {F : Fin} {X : Cx} {st : Stmt} {sts : List Stmt} {D1 D2 : Ends} {σ : L2.St} {ixs : List Nat}
theorem Agr.refl : Agr ixs σ σ := ⟨rfl, fun _ _ => rfl⟩
theorem Agr.trans {jxs : List Nat} {σ' σ'' : L2.St} (a : Agr ixs σ σ') (b : Agr jxs σ' σ'') : Agr (ixs ++ jxs) σ σ'' := ⟨b.1.trans a.1, fun j hj => (b.2 j fun z => hj (List.mem_append_right _ z)).trans (a.2 j fun z => hj (List.mem_append_left _ z))⟩
theorem wipe_in {i : Nat} : ∀ {vs : List Nat} {σ : L2.St}, i ∈ vs → (wipe σ vs)[i]? = if i < σ.length then some none else none
  | v :: vs, σ, h => by
    show ((wipe σ vs).set v none)[i]? = _
    rw [List.getElem?_set]
    by_cases e : v = i
    · subst e
      simp [wipe_length]
    · rw [if_neg e]
      exact wipe_in (by
        rcases List.mem_cons.mp h with z | z
        · exact absurd z.symm e
        · exact z)
theorem Agr.wipe {σ' : L2.St} {vs : List Nat} (a : Agr ixs (wipe σ vs) σ') (h : ∀ j ∈ ixs, j ∈ vs) : L2.wipe σ' vs = L2.wipe σ vs := by
  refine List.ext_getElem? fun j => ?_
  by_cases q : j ∈ vs
  · rw [wipe_in q, wipe_in q, a.1, wipe_length]
  · rw [wipe_out q, wipe_out q, a.2 j fun z => q (h j z), wipe_out q]
theorem atEnd_le {p : Sd → Mem → Prop} (g : Gr μ μ1 C H C1 H1) {σ' : L2.St} {H' : Hp} (h : atEnd Γ μ1 C1 H1 p σ' H') : atEnd Γ μ C H p σ' H' := by
  obtain ⟨C', δ', μ', g', w, q⟩ := h
  exact ⟨C', δ', μ', g.trans g', w, q⟩
theorem rt_le (g : Gr μ μ1 C H C1 H1) {F : Fin} {v : V} {H' : Hp} (h : (ends Γ μ1 C1 H1 F).rt v H') : (ends Γ μ C H F).rt v H' := by
  obtain ⟨C', d, μ', g', s, m, r, q⟩ := h
  exact ⟨C', d, μ', g.trans g', s, m, r, q⟩
theorem wSs_mono (h : wSs X sts D1 σ H) (h1 : ∀ σ H, D1.nx σ H → D2.nx σ H) (h2 : ∀ v H, D1.rt v H → D2.rt v H) (h3 : ∀ σ H, D1.bk σ H → D2.bk σ H) (h4 : ∀ σ H, D1.ct σ H → D2.ct σ H) : wSs X sts D2 σ H := fun pins s I => thn (h pins s I) fun f s' q => SP_mono q h1 h2 h3 h4
theorem wS_mono (h : wS X st D1 σ H) (h1 : ∀ σ H, D1.nx σ H → D2.nx σ H) (h2 : ∀ v H, D1.rt v H → D2.rt v H) (h3 : ∀ σ H, D1.bk σ H → D2.bk σ H) (h4 : ∀ σ H, D1.ct σ H → D2.ct σ H) : wS X st D2 σ H := fun pins s I => thn (h pins s I) fun f s' q => SP_mono q h1 h2 h3 h4
/-- from a later state -/
theorem Run.from_ {X : Cx} (h : Run Γ δ μ1 sts F) (hX : Fits Γ X) (w : Wd Γ C1 H1 σ δ μ1) (g : Gr μ μ1 C H C1 H1) : wSs X sts (ends Γ μ C H F) σ H1 :=
  wSs_mono (h X hX σ C1 H1 w) (fun _ _ => atEnd_le g) (fun _ _ => rt_le g) (fun _ _ => atEnd_le g) (fun _ _ => atEnd_le g)
theorem run_nil (h : F.nx δ μ) : Run Γ δ μ [] F := fun X hX σ C H w => PSsw pss_nil ⟨C, δ, μ, Gr.refl, w, h⟩
theorem run_cons {rest : List Stmt} (h : Ru1 Γ δ μ st { F with nx := fun δ' μ' => Run Γ δ' μ' rest F }) : Run Γ δ μ (st :: rest) F := fun X hX σ C H w => PSsw (pss_cons wS_ps wSs_pss)
  (wS_mono (h X hX σ C H w) (fun σ' H' ⟨C', δ', μ', g, w', q⟩ => q.from_ hX w' g) (fun _ _ h => h) (fun _ _ h => h) (fun _ _ h => h))
theorem run_one (h : Ru1 Γ δ μ st F) : Run Γ δ μ [st] F := fun X hX σ C H w => PSsw (pss_one wS_ps) (h X hX σ C H w)
theorem Run.imp {F' : Fin} (h : Run Γ δ μ sts F) (h1 : ∀ δ μ, F.nx δ μ → F'.nx δ μ) (h2 : ∀ d μ, F.rt d μ → F'.rt d μ) (h3 : ∀ δ μ, F.bk δ μ → F'.bk δ μ) (h4 : ∀ δ μ, F.ct δ μ → F'.ct δ μ) : Run Γ δ μ sts F' := fun X hX σ C H w =>
  wSs_mono (h X hX σ C H w) (fun σ' H' ⟨C', δ', μ', g, w', q⟩ => ⟨C', δ', μ', g, w', h1 _ _ q⟩) (fun v H' ⟨C', d, μ', g, s, m, r, q⟩ => ⟨C', d, μ', g, s, m, r, h2 _ _ q⟩) (fun σ' H' ⟨C', δ', μ', g, w', q⟩ => ⟨C', δ', μ', g, w', h3 _ _ q⟩) (fun σ' H' ⟨C', δ', μ', g, w', q⟩ => ⟨C', δ', μ', g, w', h4 _ _ q⟩)
/-! targets -/
theorem Wd.set {v : V} {i : Nat} {x : Str} (w : Wd Γ C H σ δ μ) (r : Dat Γ.K C v d) : Wd Γ C H (σ.set i (some v)) (δ.set i (some d)) μ :=
  ⟨w.base, w.sub, by rw [List.length_set, List.length_set]; exact w.len, fun j d' e => by
    rw [List.getElem?_set] at e ⊢
    by_cases q : i = j
    · rw [if_pos q] at e ⊢
      rw [w.len]
      split at e
      · rename_i hl
        rw [if_pos hl]
        cases e
        exact ⟨v, rfl, r⟩
      · cases e
    · rw [if_neg q] at e ⊢
      exact w.sl j d' e, w.mem, w.exc⟩
theorem Agr.set {v : Option V} {i : Nat} : Agr [i] σ (σ.set i v) := ⟨List.length_set .., fun j hj => List.getElem?_set_ne fun z => hj (by simp [z])⟩
theorem Fits.loc {X : Cx} (f : Fits Γ X) {x : Str} (h : Loc Γ.sc x) : Loc X.env.scope x := by rw [f.sc]; exact h
theorem Fits.fnl {X : Cx} (f : Fits Γ X) {x : Str} (h : Γ.sc.names.lookup x = some .local ∨ Γ.fn x = true) : X.fn x = true ∨ X.env.scope.names.lookup x = some .local := by
  rcases h with h | h
  · exact .inr (by rw [f.sc]; exact h)
  · exact .inl (f.fn x h)
theorem tg_n (i : Nat) {x : Str} {P : Sd → Mem → Prop} (h : P (δ.set i (some d)) μ) (hN : Γ.N[i]? = some x := by rfl) (hx : Loc Γ.sc x := by first | exact Or.inl rfl | exact Or.inr rfl) (hfn : Γ.sc.names.lookup x = some .local ∨ Γ.fn x = true := by first | exact Or.inl rfl | exact Or.inr rfl) : Tg Γ (.Name x pos) [i] d δ μ P := fun X hX σ C H v Q w r k =>
  PGw (pg_name (i := i) (by rw [hX.N]; exact hX.nd) (by rw [hX.N]; exact hN) (hX.loc hx) (hX.fnl hfn)) (k _ _ μ C H Agr.set Gr.refl (w.set (x := x) r) h)
theorem tgs_nil {P : Sd → Mem → Prop} (h : P δ μ) : Tgs Γ [] [] [] δ μ P := fun X hX σ C H vs Q w r k => PGsw pgs_nil (by cases r; exact ⟨rfl, k _ _ μ C H Agr.refl Gr.refl w h⟩)
theorem tgs_cons {P : Sd → Mem → Prop} {jxs : List Nat} (h : Tg Γ e ixs d δ μ fun δ' μ' => Tgs Γ es jxs ds δ' μ' P) (hs : ∀ env, (assignEach (e :: es) env).map (·.2) = assign e env :: (assignEach es env).map (·.2) := by intro _; rfl) : Tgs Γ (e :: es) (ixs ++ jxs) (d :: ds) δ μ P := fun X hX σ C H vs Q w r k =>
  PGsw (pgs_cons wG_pg wGs_pgs (hs _)) (by
    cases r with | cons r1 r2 =>
    exact ⟨_, _, rfl, h X hX σ C H _ _ w r1 fun σ' δ' μ' C' H' a g w' q => q X hX σ' C' H' _ _ w' (DatAll.mono g.core _ _ r2) fun σ2 δ2 μ2 C2 H2 a2 g2 w2 q2 => k σ2 δ2 μ2 C2 H2 (a.trans a2) (g.trans g2) w2 q2⟩)
theorem tg_tup {P : Sd → Mem → Prop} {k : Nat} (h : Tgs Γ es ixs ds δ μ P) (hn : ∀ env, (assignEach es env).length = ds.length := by intro _; rfl) (hst : ∀ env, (assignEach es env).findIdx? (·.1) = none := by intro _; rfl) : Tg Γ (.Tuple es k pos) ixs (.tup ds) δ μ P := fun X hX σ C H v Q w r k =>
  PGw (pg_tup (n := ds.length) hX.calm wGs_pgs (hn _) (hst _)) (by
    cases r with | tup e1 a1 =>
    exact ⟨_, _, rfl, .inl (w.sub.rd e1), a1.len, h X hX σ C H _ _ w a1 k⟩)
theorem Tg.imp {P P' : Sd → Mem → Prop} (h : Tg Γ e ixs d δ μ P) (q : ∀ δ μ, P δ μ → P' δ μ) : Tg Γ e ixs d δ μ P' := fun X hX σ C H v Q w r k => h X hX σ C H v Q w r fun σ' δ' μ' C' H' a g w' z => k σ' δ' μ' C' H' a g w' (q _ _ z)
/-! statements -/
theorem ru_asg {tg : Expr} (h : Ew Γ δ μ e fun d μ' => Tg Γ tg ixs d δ μ' F.nx) (hs : ∀ env, env.scope = Γ.sc → swapsWithSole [tg] e pos.line env = pure false := by intro env h; cases env; cases h; rfl) (hw : ∀ env, env.scope = Γ.sc → swappedStores [tg] e env = pure none := by intro env h; cases env; cases h; rfl)
    (h1 : ∀ env, (assignEach [tg] env).map (·.2) = [assign tg env] := by intro _; rfl) : Ru1 Γ δ μ (.Assign [tg] e pos) F := fun X hX σ C H w =>
  PSw (ps_asg wE_pe wG_pg (hs _ hX.sc) (hw _ hX.sc) (h1 _)) (h X hX σ C H _ w fun v d μ' C' H' g w' r q => q X hX σ C' H' v _ w' r fun σ2 δ2 μ2 C2 H2 a g2 w2 q2 => ⟨C2, δ2, μ2, g.trans g2, w2, q2⟩)
theorem ru_set (i : Nat) {x : Str} {pos' : Pos} (h : Ew Γ δ μ e fun d μ' => F.nx (δ.set i (some d)) μ') (hN : Γ.N[i]? = some x := by rfl) (hx : Loc Γ.sc x := by first | exact Or.inl rfl | exact Or.inr rfl) (hfn : Γ.sc.names.lookup x = some .local ∨ Γ.fn x = true := by first | exact Or.inl rfl | exact Or.inr rfl) (hs : ∀ env, env.scope = Γ.sc → swapsWith e (some (.Name x pos')) pos.line env = pure false := by intro env h; cases env; cases h; rfl) : Ru1 Γ δ μ (.Assign [.Name x pos'] e pos) F := fun X hX σ C H w =>
  PSw (ps_set (i := i) (by rw [hX.N]; exact hX.nd) (by rw [hX.N]; exact hN) (hX.loc hx) wE_pe (hs _ hX.sc) (hX.fnl hfn)) (h X hX σ C H _ w fun v d μ' C' H' g w' r q => ⟨C', _, μ', g, w'.set (x := x) r, q⟩)
theorem ru_par (i j : Nat) {x y : Str} {px py pt : Pos} {kt k2 pt2} (h : Aw Γ δ μ [a, b] fun ds μ' => ∃ d1 d2, ds = [d1, d2] ∧ F.nx ((δ.set i (some d1)).set j (some d2)) μ') (hN : Γ.N[i]? = some x := by rfl) (hM : Γ.N[j]? = some y := by rfl) (hij : i ≠ j := by decide) (hx : Γ.sc.names.lookup x = some .local := by rfl) (hy : Γ.sc.names.lookup y = some .local := by rfl)
    (hw : ∀ env, env.scope = Γ.sc → swappedStores [.Tuple [.Name x px, .Name y py] kt pt] (.Tuple [a, b] k2 pt2) env = pure (some [x, y]) := by intro env h; cases env; cases h; rfl) : Ru1 Γ δ μ (.Assign [.Tuple [.Name x px, .Name y py] kt pt] (.Tuple [a, b] k2 pt2) pos) F := fun X hX σ C H w =>
  PSw (ps_par (i := i) (j := j) hX.calm (by rw [hX.N]; exact hX.nd) (by rw [hX.N]; exact hN) (by rw [hX.N]; exact hM) hij (by rw [hX.sc]; exact hx) (by rw [hX.sc]; exact hy) wA_pa (hw _ hX.sc)) (h X hX σ C H _ w fun vs ds μ' C' H' g w' r ⟨d1, d2, e, q⟩ => by
    subst e
    obtain ⟨v1, v2, rfl, r1, r2⟩ := r.two
    exact ⟨v1, v2, rfl, C', _, μ', g, (w'.set (x := x) r1).set (x := y) r2, q⟩)
theorem DatAll.three {K : PySem.W.Frag} {vs : List V} {a b c : D} (h : DatAll K C vs [a, b, c]) : ∃ x y z, vs = [x, y, z] ∧ Dat K C x a ∧ Dat K C y b ∧ Dat K C z c := by
  cases h with
  | cons r t =>
    obtain ⟨y, z, rfl, r2, r3⟩ := t.two
    exact ⟨_, _, _, rfl, r, r2, r3⟩
theorem ru_par3 (i j l : Nat) {c : Expr} {x y z : Str} {px py pz pt : Pos} {kt k2 pt2} (h : Aw Γ δ μ [a, b, c] fun ds μ' => ∃ d1 d2 d3, ds = [d1, d2, d3] ∧ F.nx (((δ.set i (some d1)).set j (some d2)).set l (some d3)) μ') (hN : Γ.N[i]? = some x := by rfl) (hM : Γ.N[j]? = some y := by rfl) (hL : Γ.N[l]? = some z := by rfl) (hij : i ≠ j := by decide) (hil : i ≠ l := by decide) (hjl : j ≠ l := by decide)
    (hx : Γ.sc.names.lookup x = some .local := by rfl) (hy : Γ.sc.names.lookup y = some .local := by rfl) (hz : Γ.sc.names.lookup z = some .local := by rfl)
    (hw : ∀ env, env.scope = Γ.sc → swappedStores [.Tuple [.Name x px, .Name y py, .Name z pz] kt pt] (.Tuple [a, b, c] k2 pt2) env = pure (some [x, y, z]) := by intro env h; cases env; cases h; rfl) : Ru1 Γ δ μ (.Assign [.Tuple [.Name x px, .Name y py, .Name z pz] kt pt] (.Tuple [a, b, c] k2 pt2) pos) F := fun X hX σ C H w =>
  PSw (ps_par3 (i := i) (j := j) (l := l) hX.calm (by rw [hX.N]; exact hX.nd) (by rw [hX.N]; exact hN) (by rw [hX.N]; exact hM) (by rw [hX.N]; exact hL) hij hil hjl (by rw [hX.sc]; exact hx) (by rw [hX.sc]; exact hy) (by rw [hX.sc]; exact hz) wA_pa (hw _ hX.sc)) (h X hX σ C H _ w fun vs ds μ' C' H' g w' r ⟨d1, d2, d3, e, q⟩ => by
    subst e
    obtain ⟨v1, v2, v3, rfl, r1, r2, r3⟩ := r.three
    exact ⟨v1, v2, v3, rfl, C', _, μ', g, ((w'.set (x := x) r1).set (x := y) r2).set (x := z) r3, q⟩)
theorem ru_ret (h : Ew Γ δ μ e F.rt) : Ru1 Γ δ μ (.Return (some e) pos) F := fun X hX σ C H w =>
  PSw (ps_ret wE_pe) (h X hX σ C H _ w fun v d μ' C' H' g w' r q => ⟨C', d, μ', g, w'.sub, w'.mem, r, q⟩)
theorem ru_expr (h : Ew Γ δ μ e fun _ μ' => F.nx δ μ') (hs : ∀ env, swapsWith e none pos.line env = pure false := by intro _; rfl) : Ru1 Γ δ μ (.Expr e pos) F := fun X hX σ C H w =>
  PSw (ps_expr wE_pe (hs _)) (h X hX σ C H _ w fun v d μ' C' H' g w' r q => ⟨C', δ, μ', g, w', q⟩)
theorem ru_pass (h : F.nx δ μ) : Ru1 Γ δ μ (.Pass pos) F := fun X hX σ C H w => PSw ps_pass ⟨C, δ, μ, Gr.refl, w, h⟩
theorem ru_cont (h : F.ct δ μ) : Ru1 Γ δ μ (.Continue pos) F := fun X hX σ C H w => PSw ps_continue ⟨C, δ, μ, Gr.refl, w, h⟩
theorem ru_brk (h : F.bk δ μ) : Ru1 Γ δ μ (.Break pos) F := fun X hX σ C H w => PSw ps_break ⟨C, δ, μ, Gr.refl, w, h⟩
theorem ru_if {c : Expr} {t u : List Stmt} (h : Tw Γ δ μ c fun k μ' => (k = true → Run Γ δ μ' t F) ∧ (k = false → Run Γ δ μ' u F)) : Ru1 Γ δ μ (.If c t u pos) F := fun X hX σ C H w =>
  PSw (ps_if wT_pt wSs_pss wSs_pss) (h X hX σ C H _ w fun k μ' C' H' g w' q => by
    cases k with
    | true => exact (q.1 rfl).from_ hX w' g
    | false => exact (q.2 rfl).from_ hX w' g)
theorem ru_ifv {c : Expr} {t u : List Stmt} {k : Bool} (h : Tv Γ δ μ c k) (h1 : k = true → Run Γ δ μ t F) (h2 : k = false → Run Γ δ μ u F) : Ru1 Γ δ μ (.If c t u pos) F := ru_if (h.w ⟨h1, h2⟩)
end
/-! ### what is walked -/
def Walk (K : PySem.W.Frag) (C : Hp) (J : It) (ds : List D) : Prop := ∀ (i : Nat) C1 H1, Le C C1 → Le C1 H1 → (∀ d, ds[i]? = some d → J.go i H1 ∧ ∀ x H', J.yld i H1 x H' → ∃ C', Nw C1 H1 C' H' ∧ Dat K C' x d) ∧ (ds.length ≤ i → J.stop i H1)
def Iw (Γ : Gam) (δ : Sd) (μ : Mem) (tg iter : Expr) (P : List D → Mem → Prop) : Prop := ∀ X, Fits Γ X → ∀ σ C H R, Wd Γ C H σ δ μ → (∀ J ds μ' C' H', Gr μ μ' C H C' H' → Wd Γ C' H' σ δ μ' → Walk Γ.K C' J ds → P ds μ' → R J H') → wI X tg iter σ H R
def Iv (Γ : Gam) (δ : Sd) (μ : Mem) (tg iter : Expr) (ds : List D) : Prop := Iw Γ δ μ tg iter fun ds' μ' => ds' = ds ∧ μ' = μ
section
variable {Γ : Gam} {δ : Sd} {μ μ1 : Mem} {C H C1 H1 : Hp} {e a b tg iter : Expr} {es : List Expr} {d : D} {ds : List D} {P : Pst} {pos p : Pos} {F : Fin} {X : Cx} {st : Stmt} {sts : List Stmt} {σ : L2.St} {ixs : List Nat}
theorem Iv.w {Q : List D → Mem → Prop} (h : Iv Γ δ μ tg iter ds) (q : Q ds μ) : Iw Γ δ μ tg iter Q := fun X hX σ C H R w k => h X hX σ C H R w fun J ds' μ' C' H' g w' wk ⟨e1, e2⟩ => k J ds' μ' C' H' g w' wk (by rw [e1, e2]; exact q)
theorem ru_for {body : List Stmt} (h : Iw Γ δ μ tg iter fun ds μ1 => ∃ I : Nat → Sd → Mem → Prop, I 0 δ μ1 ∧ (∀ i d δ' μ', ds[i]? = some d → I i δ' μ' → Tg Γ tg ixs d δ' μ' fun δ2 μ2 => Run Γ δ2 μ2 body { nx := I (i + 1), rt := F.rt, ct := I (i + 1), bk := F.nx }) ∧ ∀ δ' μ', I ds.length δ' μ' → F.nx δ' μ')
    (hs : ∀ env x, foldedSetIterable iter env x = pure x := by intro _ _; rfl) : Ru1 Γ δ μ (.For tg iter body [] pos) F := fun X hX σ C H w =>
  PSw (ps_for hX.po hX.calm wI_pi wG_pg wSs_pss (hs _)) (h X hX σ C H _ w fun J ds μ1 C1 H1 g1 w1 wk ⟨I, i0, step, fin⟩ => by
    refine ⟨fun i m σ' H' => m = ds.length - i ∧ i ≤ ds.length ∧ ∃ C' δ' μ', Gr μ μ' C H C' H' ∧ Le C1 C' ∧ Wd Γ C' H' σ' δ' μ' ∧ I i δ' μ', ⟨_, rfl, Nat.zero_le _, C1, δ, μ1, g1, Le.refl _, w1, i0⟩, ?_⟩
    rintro i m σ' H' ⟨rfl, hi, C', δ', μ', g, le, w', q⟩
    obtain ⟨wgo, wst⟩ := wk i C' H' le w'.sub
    by_cases hlt : i < ds.length
    · refine .inr ?_
      obtain ⟨hgo, hy⟩ := wgo _ (List.getElem?_eq_getElem hlt)
      have body : ∀ {C2 H2 : Hp} {σ2 : L2.St} {δ2 : Sd} {μ2 : Mem}, Le C1 C2 → Gr μ μ2 C H C2 H2 → Wd Γ C2 H2 σ2 δ2 μ2 → Run Γ δ2 μ2 body { nx := I (i + 1), rt := F.rt, ct := I (i + 1), bk := F.nx } →
          wSs X body { nx := fun σ' H' => ∃ C' δ' μ', Gr μ μ' C H C' H' ∧ Le C1 C' ∧ Wd Γ C' H' σ' δ' μ' ∧ I (i + 1) δ' μ', rt := (ends Γ μ C H F).rt, ct := fun σ' H' => ∃ C' δ' μ', Gr μ μ' C H C' H' ∧ Le C1 C' ∧ Wd Γ C' H' σ' δ' μ' ∧ I (i + 1) δ' μ', bk := (ends Γ μ C H F).nx } σ2 H2 := fun {C2 H2 σ2 δ2 μ2} l2 g2 w2 hr =>
        wSs_mono (hr X hX σ2 C2 H2 w2) (fun σ' H' ⟨C3, δ3, μ3, g3, w3, q3⟩ => ⟨C3, δ3, μ3, g2.trans g3, l2.trans g3.core, w3, q3⟩) (fun v H' q => rt_le (F := F) g2 q) (fun σ' H' q => atEnd_le g2 q) (fun σ' H' ⟨C3, δ3, μ3, g3, w3, q3⟩ => ⟨C3, δ3, μ3, g2.trans g3, l2.trans g3.core, w3, q3⟩)
      refine ⟨hgo, fun σ' H' => ∃ C' δ' μ', Gr μ μ' C H C' H' ∧ Le C1 C' ∧ Wd Γ C' H' σ' δ' μ' ∧ I (i + 1) δ' μ', fun σ3 H3 ⟨C3, δ3, μ3, g3, l3, w3, q3⟩ => ⟨ds.length - (i + 1), by omega, rfl, hlt, C3, δ3, μ3, g3, l3, w3, q3⟩, fun x H2 hx => ?_⟩
      obtain ⟨C2, n2, r2⟩ := hy x H2 hx
      exact step i _ δ' μ' (List.getElem?_eq_getElem hlt) q X hX σ' C2 H2 x _ (w'.nw n2) r2 fun σ4 δ4 μ4 C4 H4 ag g4 w4 q4 => body ((le.trans n2.core).trans g4.core) ((g.trans n2.gr).trans g4) w4 q4
    · have e : i = ds.length := by omega
      subst e
      exact .inl ⟨wst (Nat.le_refl _), C', δ', μ', g, w', fin _ _ q⟩)
theorem ru_while {c : Expr} {body : List Stmt} (I : Nat → Sd → Mem → Prop) (m0 : Nat) (h0 : I m0 δ μ) (hs : ∀ m δ' μ', I m δ' μ' → Tw Γ δ' μ' c fun k μ2 => (k = true → Run Γ δ' μ2 body { nx := fun δ3 μ3 => ∃ m', m' < m ∧ I m' δ3 μ3, rt := F.rt, ct := fun δ3 μ3 => ∃ m', m' < m ∧ I m' δ3 μ3, bk := F.nx }) ∧ (k = false → F.nx δ' μ2)) : Ru1 Γ δ μ (.While c body [] pos) F := fun X hX σ C H w =>
  PSw (ps_while hX.po wT_pt wSs_pss) (by
    refine ⟨fun m σ' H' => ∃ C' δ' μ', Gr μ μ' C H C' H' ∧ Wd Γ C' H' σ' δ' μ' ∧ I m δ' μ', ⟨m0, C, δ, μ, Gr.refl, w, h0⟩, ?_⟩
    rintro m σ' H' ⟨C', δ', μ', g, w', q⟩
    refine hs m δ' μ' q X hX σ' C' H' _ w' fun k μ2 C2 H2 g2 w2 q2 => ?_
    cases k with
    | true =>
      have fin : ∀ {σ3 : L2.St} {H3 : Hp}, atEnd Γ μ2 C2 H2 (fun δ3 μ3 => ∃ m', m' < m ∧ I m' δ3 μ3) σ3 H3 → ∃ m', m' < m ∧ ∃ C' δ' μ', Gr μ μ' C H C' H3 ∧ Wd Γ C' H3 σ3 δ' μ' ∧ I m' δ' μ' := fun {σ3 H3} ⟨C3, δ3, μ3, g3, w3, m', hm, q3⟩ => ⟨m', hm, C3, δ3, μ3, (g.trans g2).trans g3, w3, q3⟩
      exact ⟨fun σ3 H3 => ∃ m', m' < m ∧ ∃ C' δ' μ', Gr μ μ' C H C' H3 ∧ Wd Γ C' H3 σ3 δ' μ' ∧ I m' δ' μ', fun σ3 H3 h3 => h3, wSs_mono (q2.1 rfl X hX σ' C2 H2 w2) (fun _ _ => fin) (fun v H' q => rt_le (F := F) (g.trans g2) q) (fun σ' H' q => atEnd_le (g.trans g2) q) (fun _ _ => fin)⟩
    | false => exact ⟨C2, δ', μ2, g.trans g2, w2, q2.2 rfl⟩)
end
end Dl

set_option maxRecDepth 100000
set_option maxHeartbeats 2000000
namespace Dl
open PySem PySem.Spec PyProof.Rows L2
section
variable {Γ : Gam} {δ : Sd} {μ : Mem} {e a b c tg iter : Expr} {es : List Expr} {d : D} {ds : List D} {pos p : Pos} {R : List D → Mem → Prop} {K : PySem.W.Frag} {C H : Hp}
/-! ### sources -/
theorem walk_list {x : Addr} {vs : List V} (h : C x = some (.lst vs)) (ha : DatAll K C vs ds) : Walk K C (Itl K x) ds := fun i C1 H1 l1 l2 => by
  have h1 : SqL K H1 x vs := .inl (.inl (l2 _ _ (l1 _ _ h)))
  refine ⟨fun d e => ?_, fun q => ⟨vs, h1, by rw [ha.len]; exact q⟩⟩
  obtain ⟨v, e1, r⟩ := ha.get e
  refine ⟨⟨vs, v, h1, e1⟩, fun y H' ⟨e2, e3⟩ => ?_⟩
  subst e2
  have e4 := e3 vs h1
  rw [e1] at e4
  cases e4
  exact ⟨C1, Nw.refl l2, Dat.mono l1 _ _ r⟩
theorem walk_tup {x : Addr} {vs : List V} (h : Rd C x (.tup vs)) (ha : DatAll K C vs ds) : Walk K C (Itt K x) ds := fun i C1 H1 l1 l2 => by
  have h1 : SqT K H1 x vs := .inl (l2.rd (l1.rd h))
  refine ⟨fun d e => ?_, fun q => ⟨vs, h1, by rw [ha.len]; exact q⟩⟩
  obtain ⟨v, e1, r⟩ := ha.get e
  refine ⟨⟨vs, v, h1, e1⟩, fun y H' ⟨e2, e3⟩ => ?_⟩
  subst e2
  have e4 := e3 vs h1
  rw [e1] at e4
  cases e4
  exact ⟨C1, Nw.refl l2, Dat.mono l1 _ _ r⟩
theorem iw_list (h : Ew Γ δ μ iter fun d μ' => ∃ ds, d = .lst ds ∧ R ds μ') : Iw Γ δ μ tg iter R := fun X hX σ C H Q w k =>
  PIw (pi_list wE_pe) (h X hX σ C H _ w fun v d μ' C' H' g w' r ⟨ds, e, q⟩ => by
    subst e
    cases r with | lst e1 a1 =>
    refine ⟨_, rfl, ⟨_, .inl (.inl (w'.sub _ _ e1))⟩, k _ ds μ' C' H' g w' ?_ q⟩
    rw [hX.K]
    exact walk_list e1 a1)
theorem iw_tup (h : Ew Γ δ μ iter fun d μ' => ∃ ds, d = .tup ds ∧ R ds μ') : Iw Γ δ μ tg iter R := fun X hX σ C H Q w k =>
  PIw (pi_tup wE_pe) (h X hX σ C H _ w fun v d μ' C' H' g w' r ⟨ds, e, q⟩ => by
    subst e
    cases r with | tup e1 a1 =>
    refine ⟨_, rfl, ⟨_, .inl (w'.sub.rd e1)⟩, k _ ds μ' C' H' g w' ?_ q⟩
    rw [hX.K]
    exact walk_tup e1 a1)
theorem iv_list (h : Ev Γ δ μ iter (.lst ds)) : Iv Γ δ μ tg iter ds := iw_list (h.w ⟨ds, rfl, rfl, rfl⟩)
theorem iv_tup (h : Ev Γ δ μ iter (.tup ds)) : Iv Γ δ μ tg iter ds := iw_tup (h.w ⟨ds, rfl, rfl, rfl⟩)
/-- lo, lo + c, .. -/
def rngD (lo c : Int) (n : Nat) : List D := (List.range n).map fun (i : Nat) => D.int (lo + (i : Int) * c)
theorem rngD_len (lo c : Int) (n : Nat) : (rngD lo c n).length = n := by simp [rngD]
theorem rngD_get {lo c : Int} {n i : Nat} {d : D} (h : (rngD lo c n)[i]? = some d) : i < n ∧ d = .int (lo + (i : Int) * c) := by
  unfold rngD at h
  rw [List.getElem?_map] at h
  by_cases q : i < n
  · rw [List.getElem?_range q] at h
    exact ⟨q, by simpa using h.symm⟩
  · rw [List.getElem?_eq_none (by simpa using q)] at h
    cases h
theorem walk_rngC (lo c : Int) (n : Nat) : Walk K C (Itc lo c n) (rngD lo c n) := fun i C1 H1 l1 l2 => ⟨fun d e => by
    obtain ⟨h1, rfl⟩ := rngD_get e
    exact ⟨h1, fun y H' ⟨e2, e3⟩ => by subst e2; subst e3; exact ⟨C1, Nw.refl l2, .int _⟩⟩, fun q => by rw [rngD_len] at q; exact q⟩
theorem walk_rng (lo : Int) (n : Nat) : Walk K C (Itr lo n) (rngD lo 1 n) := fun i C1 H1 l1 l2 => ⟨fun d e => by
    obtain ⟨h1, rfl⟩ := rngD_get e
    exact ⟨h1, fun y H' ⟨e2, e3⟩ => by subst e2; subst e3; rw [Int.mul_one]; exact ⟨C1, Nw.refl l2, .int _⟩⟩, fun q => by rw [rngD_len] at q; exact q⟩
theorem iw_r1 (hf : Free Γ.mg) (h : Ew Γ δ μ a fun d μ' => ∃ j, d = .int j ∧ (-1000000000 ≤ j ∧ j ≤ 1000000000) ∧ R (rngD 0 1 j.toNat) μ') (hg : Γ.sc.names.lookup ("range" : Str) = some .globalImplicit := by rfl) (hs : ∀ env, starEach [a] env = [(false, eval a env)] := by intro _; rfl) : Iw Γ δ μ tg (.Call (.Name "range" p) [a] [] pos) R := fun X hX σ C H Q w k =>
  PIw (pi_range1 (hX.gl hg) (by rw [hX.mg]; exact hf _ (by decide)) (pa_cons wE_pe pa_nil (hs _)) (hs _)) (h X hX σ C H _ w fun v d μ' C' H' g w' r ⟨j, e, hb, q⟩ => by
    subst e
    cases r
    exact ⟨j, rfl, by omega, by omega, k _ _ μ' C' H' g w' (walk_rng 0 _) q⟩)
theorem iv_r1 (hf : Free Γ.mg) {j : Int} (h : Ev Γ δ μ a (.int j)) (hb : -1000000000 ≤ j ∧ j ≤ 1000000000) (hg : Γ.sc.names.lookup ("range" : Str) = some .globalImplicit := by rfl) (hs : ∀ env, starEach [a] env = [(false, eval a env)] := by intro _; rfl) : Iv Γ δ μ tg (.Call (.Name "range" p) [a] [] pos) (rngD 0 1 j.toNat) := iw_r1 hf (h.w ⟨j, rfl, hb, rfl, rfl⟩) hg hs
theorem iw_r2 (hf : Free Γ.mg) (h : Ew Γ δ μ a fun d μ' => ∃ i, d = .int i ∧ (-1000000000 ≤ i ∧ i ≤ 1000000000) ∧ Ew Γ δ μ' b fun d μ' => ∃ j, d = .int j ∧ (-1000000000 ≤ j ∧ j ≤ 1000000000) ∧ R (rngD i 1 (j - i).toNat) μ') (hg : Γ.sc.names.lookup ("range" : Str) = some .globalImplicit := by rfl) (hs : ∀ env, starEach [a, b] env = [(false, eval a env), (false, eval b env)] := by intro _; rfl) (hs2 : ∀ env, starEach [b] env = [(false, eval b env)] := by intro _; rfl) :
    Iw Γ δ μ tg (.Call (.Name "range" p) [a, b] [] pos) R := fun X hX σ C H Q w k =>
  PIw (pi_range2 (hX.gl hg) (by rw [hX.mg]; exact hf _ (by decide)) (pa_cons wE_pe (pa_cons wE_pe pa_nil (hs2 _)) (by rw [hs, hs2])) (hs _) (hs2 _)) (h X hX σ C H _ w fun v d μ' C' H' g w' r ⟨i, e, hb, h2⟩ => by
    subst e
    cases r
    exact h2 X hX σ C' H' _ w' fun v2 d2 μ2 C2 H2 g2 w2 r2 ⟨j, e, hb2, q⟩ => by
      subst e
      cases r2
      exact ⟨i, j, rfl, ⟨by omega, by omega, by omega, by omega⟩, k _ _ μ2 C2 H2 (g.trans g2) w2 (walk_rng i _) q⟩)
theorem iv_r2 (hf : Free Γ.mg) {i j : Int} (h : Ev Γ δ μ a (.int i)) (h2 : Ev Γ δ μ b (.int j)) (hb : (-1000000000 ≤ i ∧ i ≤ 1000000000) ∧ (-1000000000 ≤ j ∧ j ≤ 1000000000)) (hg : Γ.sc.names.lookup ("range" : Str) = some .globalImplicit := by rfl) (hs : ∀ env, starEach [a, b] env = [(false, eval a env), (false, eval b env)] := by intro _; rfl) (hs2 : ∀ env, starEach [b] env = [(false, eval b env)] := by intro _; rfl) :
    Iv Γ δ μ tg (.Call (.Name "range" p) [a, b] [] pos) (rngD i 1 (j - i).toNat) := iw_r2 hf (h.w ⟨i, rfl, hb.1, h2.w ⟨j, rfl, hb.2, rfl, rfl⟩⟩) hg hs hs2
/-- with a positive step -/
theorem rgC_pos {i j c : Int} (h1 : -1000000000 ≤ i ∧ i ≤ 1000000000) (h2 : -1000000000 ≤ j ∧ j ≤ 1000000000) (h3 : 0 < c ∧ c ≤ 1000000000) : RgC i j c (Builtin.Range.rangeSize i j c).toNat := by
  have hr : 0 ≤ Builtin.Range.rangeSize i j c ∧ Builtin.Range.rangeSize i j c ≤ 2000000000 := by
    unfold Builtin.Range.rangeSize
    rw [if_pos h3.1]
    split
    · have q1 : 0 ≤ (j - i - 1) / c := Int.ediv_nonneg (by omega) (by omega)
      have q2 : (j - i - 1) / c ≤ j - i - 1 := Int.ediv_le_self _ (by omega)
      omega
    · omega
  refine ⟨by omega, by omega, ?_, by omega⟩
  unfold Builtin.Range.small
  generalize Builtin.Range.rangeSize i j c = n at hr ⊢
  simp only [Builtin.Range.rangeFitsLong, Bool.and_eq_true, Bool.or_eq_true, decide_eq_true_eq, beq_iff_eq, h3.1, gt_iff_lt, if_true]
  omega
/-- the places and the items -/
def enumD : Nat → List D → List D
  | _, [] => []
  | i, d :: ds => .tup [.int (i : Int), d] :: enumD (i + 1) ds
theorem enumD_len : ∀ (i : Nat) (ds : List D), (enumD i ds).length = ds.length
  | _, [] => rfl
  | i, d :: ds => by simp [enumD, enumD_len (i + 1) ds]
theorem enumD_get : ∀ {i j : Nat} {ds : List D} {t : D}, (enumD i ds)[j]? = some t → ∃ d, ds[j]? = some d ∧ t = .tup [.int ((i + j : Nat) : Int), d]
  | i, j, [], t, e => by simp [enumD] at e
  | i, 0, d :: ds, t, e => by
    simp [enumD] at e
    exact ⟨d, by simp, by simp [← e]⟩
  | i, j + 1, d :: ds, t, e => by
    obtain ⟨d', h1, h2⟩ := enumD_get (i := i + 1) (j := j) (ds := ds) (by simpa [enumD] using e)
    exact ⟨d', by simpa using h1, by rw [h2]; congr 3; omega⟩
theorem walk_enum {x : Addr} {vs : List V} (h : C x = some (.lst vs)) (ha : DatAll K C vs ds) : Walk K C (Ite K x) (enumD 0 ds) := fun i C1 H1 l1 l2 => by
  have h1 : SqL K H1 x vs := .inl (.inl (l2 _ _ (l1 _ _ h)))
  refine ⟨fun d e => ?_, fun q => ⟨vs, h1, by rw [ha.len, ← enumD_len 0]; exact q⟩⟩
  obtain ⟨d', e0, rfl⟩ := enumD_get e
  obtain ⟨v, e1, r⟩ := ha.get e0
  refine ⟨⟨vs, v, h1, e1⟩, fun y H' ⟨T, z, e2, hT, e3, e4⟩ => ?_⟩
  subst e2; subst e3
  have e4 := e4 vs h1
  rw [e1] at e4
  cases e4
  refine ⟨_, Nw.add l2 hT, .tup (.inl upd_same) (.cons ?_ (.cons (Dat.mono (l1.trans (Le.new (l2.none hT))) _ _ r) .nil))⟩
  rw [Nat.zero_add]
  exact .int _
theorem iw_enum {elts : List Expr} {kk : Nat} {tpos : Pos} (hf : Free Γ.mg) (h : Ew Γ δ μ a fun d μ' => ∃ ds, d = .lst ds ∧ R (enumD 0 ds) μ') (hg : Γ.sc.names.lookup ("enumerate" : Str) = some .globalImplicit := by rfl) (hs : ∀ env, starEach [a] env = [(false, eval a env)] := by intro _; rfl) : Iw Γ δ μ (.Tuple elts kk tpos) (.Call (.Name "enumerate" p) [a] [] pos) R := fun X hX σ C H Q w k =>
  PIw (pi_enum (hX.gl hg) (by rw [hX.mg]; exact hf _ (by decide)) (pa_cons wE_pe pa_nil (hs _)) (hs _)) (h X hX σ C H _ w fun v d μ' C' H' g w' r ⟨ds, e, q⟩ => by
    subst e
    cases r with | lst e1 a1 =>
    refine ⟨_, _, rfl, .inl (.inl (w'.sub _ _ e1)), k _ _ μ' C' H' g w' ?_ q⟩
    rw [hX.K]
    exact walk_enum e1 a1)
theorem iv_enum {elts : List Expr} {kk : Nat} {tpos : Pos} (hf : Free Γ.mg) (h : Ev Γ δ μ a (.lst ds)) (hg : Γ.sc.names.lookup ("enumerate" : Str) = some .globalImplicit := by rfl) (hs : ∀ env, starEach [a] env = [(false, eval a env)] := by intro _; rfl) : Iv Γ δ μ (.Tuple elts kk tpos) (.Call (.Name "enumerate" p) [a] [] pos) (enumD 0 ds) := iw_enum hf (h.w ⟨ds, rfl, rfl, rfl⟩) hg hs
/-! ### comprehensions -/
def wTs (X : Cx) (ifs : List Expr) : TT := fun σ H Q => ∀ (pins : List (Addr × Obj)) (s : Shared), Inv X pins σ H s →
    wpAny (model X.prog X.w) X.A (forIn ifs true fun c r => if r = true then do let ok ← isTrue c X.env (eval c X.env); pure (ForInStep.yield ok) else pure (ForInStep.yield r)) (TP X pins σ Q) X.xe s
theorem wTs_pts {X : Cx} {ifs : List Expr} : PTs X ifs (wTs X ifs) := ⟨fun pins s _ _ _ I h => h pins s I⟩
def Cw (Γ : Gam) (δ : Sd) (μ : Mem) (ifs : List Expr) (P : Bool → Mem → Prop) : Prop := ∀ X, Fits Γ X → ∀ σ C H Q, Wd Γ C H σ δ μ → (∀ b μ' C' H', Gr μ μ' C H C' H' → Wd Γ C' H' σ δ μ' → P b μ' → Q b H') → wTs X ifs σ H Q
theorem cw_no {P : Bool → Mem → Prop} (h : P true μ) : Cw Γ δ μ [] P := fun X hX σ C H Q w k pins s I => pts_nil.run pins s σ H Q I (k true μ C H Gr.refl w h)
theorem cw_one {P : Bool → Mem → Prop} (h : Tw Γ δ μ c P) : Cw Γ δ μ [c] P := fun X hX σ C H Q w k pins s I => (pts_one (t := wT X c) wT_pt).run pins s σ H Q I (h X hX σ C H Q w k)
/-- a comprehension's block -/
def Gam.blk (Γ : Gam) (scope : Scope) : Gam := { Γ with sc := relS scope Γ.sc, fn := fun x => scope.names.lookup x == some .cell, code := none, E := fun _ _ _ => False, XP := fun _ _ => False, kn := fun _ => True }
def Blk (X : Cx) (scope : Scope) (X' : Cx) : Prop := ∃ (s : Shared) (H : Hp) (C : Addr) (cl : List (Str × Addr)) (fp : List Addr), X' = X.blk s H scope (compEnvC scope cl C X.env) fp
theorem Fits.blk {X X' : Cx} {scope : Scope} (f : Fits Γ X) (b : Blk X scope X') : Fits (Γ.blk scope) X' := by
  obtain ⟨s, H, C, cl, fp, rfl⟩ := b
  refine ⟨f.prog, f.w, f.K, f.mg, f.base, f.N, f.nd, ?_, f.qual, (fun c h => by cases h), f.calm, f.room, takes0, PassesOwn.never, (fun x h => h), trivial⟩
  show relabel scope X.env = relS scope Γ.sc
  rw [← f.sc]
  rfl
def wipeD (δ : Sd) : List Nat → Sd
  | [] => δ
  | v :: vs => (wipeD δ vs).set v none
theorem wipeD_len : ∀ vs : List Nat, (wipeD δ vs).length = δ.length
  | [] => rfl
  | v :: vs => by unfold wipeD; rw [List.length_set, wipeD_len vs]
theorem wipeD_get {i : Nat} {d : D} : ∀ {vs : List Nat}, (wipeD δ vs)[i]? = some (some d) → δ[i]? = some (some d) ∧ i ∉ vs
  | [], h => ⟨h, by simp⟩
  | v :: vs, h => by
    unfold wipeD at h
    rw [List.getElem?_set] at h
    split at h
    · split at h <;> cases h
    · rename_i q
      obtain ⟨h1, h2⟩ := wipeD_get h
      exact ⟨h1, by
        intro z
        rcases List.mem_cons.mp z with z | z
        · exact q z.symm
        · exact h2 z⟩
theorem Wd.blk {σ : L2.St} {scope : Scope} {vs : List Nat} (w : Wd Γ C H σ δ μ) : Wd (Γ.blk scope) C H (wipe σ vs) (wipeD δ vs) μ :=
  ⟨w.base, w.sub, by rw [wipe_length, wipeD_len]; exact w.len, fun i d e => by
    obtain ⟨h1, h2⟩ := wipeD_get e
    obtain ⟨v, h3, h4⟩ := w.sl i d h1
    exact ⟨v, by rw [wipe_out h2]; exact h3, h4⟩, w.mem, fun _ _ _ _ _ _ _ _ x => x.elim⟩
end
end Dl

set_option maxRecDepth 100000
set_option maxHeartbeats 2000000
namespace Dl
open PySem PySem.Spec PyProof.Rows L2
section
variable {K : PySem.W.Frag} {μ μ' : Mem} {C H C' H' : Hp} {x : Addr} {m m' : MO} {o : HO}
theorem dom_cons : dom ((x, m) :: μ) = x :: dom μ := rfl
theorem MemOk.notin (h : MemOk K C H μ) (n : H x = none) : x ∉ dom μ := fun hx => by
  obtain ⟨p, hp, rfl⟩ := List.mem_map.mp hx
  obtain ⟨_, o, ho, _⟩ := h.ok p hp
  rw [n] at ho
  cases ho
theorem Gr.cons (g : Gr μ μ' C H C' H') : Gr ((x, m) :: μ) ((x, m') :: μ') C H C' H' := ⟨g.core, fun b h n e => g.new b h (fun z => n (List.mem_cons_of_mem _ z)) e, fun b o n e => g.keep b o (fun z => n (List.mem_cons_of_mem _ z)) e, g.there, fun b hb => by
  rcases List.mem_cons.mp hb with z | z
  · exact .inl (by rw [z]; exact List.mem_cons_self)
  · rcases g.dom b z with z | z
    · exact .inl (List.mem_cons_of_mem _ z)
    · exact .inr z⟩
/-- a mutable object changes -/
theorem Gr.upd (hx : x ∈ Dl.dom μ) (hd : ∀ b, b ∈ Dl.dom μ' → b ∈ Dl.dom μ) : Gr μ μ' C H C (L2.upd H x o) := ⟨Le.refl _, fun _ _ _ e => e, fun b u n e => by rw [upd_ne (fun z => n (by rw [z]; exact hx))]; exact e, fun b h => by
  by_cases q : b = x
  · rw [q, upd_same]; simp
  · rw [upd_ne q]; exact h, fun b hb => .inl (hd b hb)⟩
/-- a new mutable object -/
theorem Gr.newM (hx : H x = none) : Gr μ ((x, m) :: μ) C H C (L2.upd H x o) := ⟨Le.refl _, fun _ _ _ e => e, fun b u n e => by rw [upd_ne (ne_of_none e hx)]; exact e, fun b h => by
  rw [upd_ne (fun z => h (by rw [z]; exact hx))]; exact h, fun b hb => by
  rcases List.mem_cons.mp hb with z | z
  · exact .inr (by rw [z]; exact hx)
  · exact .inl z⟩
/-- it changes no more -/
theorem Gr.frz (hx : C x = none) : Gr ((x, m) :: μ) μ C H (L2.upd C x o) H := ⟨Le.new hx, fun b _ n e => by rw [upd_ne (fun z => n (by rw [z]; exact List.mem_cons_self))]; exact e, fun _ _ _ e => e, fun _ h => h, fun b hb => .inl (List.mem_cons_of_mem _ hb)⟩
theorem Le.upd1 (l : Le C H) (e : H x = some o) : Le (L2.upd C x o) H := fun b u h => by
  by_cases q : b = x
  · rw [q, upd_same] at h; rw [q, e]; exact h
  · rw [upd_ne q] at h; exact l b u h
theorem Le.updH (l : Le C H) (n : C x = Option.none) : Le C (L2.upd H x o) := fun b u h => by rw [upd_ne (ne_of_none h n)]; exact l b u h
theorem MemOk.frz (h : MemOk K C H ((x, m) :: μ)) (e : H x = some o) : MemOk K (L2.upd C x o) H μ := by
  have nd := h.nd
  rw [dom_cons, List.nodup_cons] at nd
  refine ⟨nd.2, fun p hp => ?_⟩
  obtain ⟨n, o, ho, q⟩ := h.ok p (List.mem_cons_of_mem _ hp)
  have ne : p.1 ≠ x := fun z => nd.1 (by rw [← z]; exact List.mem_map.mpr ⟨p, hp, rfl⟩)
  exact ⟨by rw [upd_ne ne]; exact n, o, ho, q.mono (Le.new (h.ok _ List.mem_cons_self).1)⟩
theorem MemOk.upd (h : MemOk K C H ((x, m) :: μ)) (q : MoOk K C o m') : MemOk K C (L2.upd H x o) ((x, m') :: μ) := by
  have nd := h.nd
  rw [dom_cons, List.nodup_cons] at nd
  refine ⟨by rw [dom_cons, List.nodup_cons]; exact nd, fun p hp => ?_⟩
  rcases List.mem_cons.mp hp with z | z
  · subst z
    exact ⟨(h.ok _ List.mem_cons_self).1, o, upd_same, q⟩
  · obtain ⟨n, o', ho, q'⟩ := h.ok p (List.mem_cons_of_mem _ z)
    have ne : p.1 ≠ x := fun z' => nd.1 (by rw [← z']; exact List.mem_map.mpr ⟨p, z, rfl⟩)
    exact ⟨n, o', by rw [upd_ne ne]; exact ho, q'⟩
theorem MemOk.newM (h : MemOk K C H μ) (n : H x = none) (l : Le C H) (q : MoOk K C o m) : MemOk K C (L2.upd H x o) ((x, m) :: μ) := by
  have ni := h.notin n
  refine ⟨by rw [dom_cons, List.nodup_cons]; exact ⟨ni, h.nd⟩, fun p hp => ?_⟩
  rcases List.mem_cons.mp hp with z | z
  · subst z
    exact ⟨l.none n, o, upd_same, q⟩
  · obtain ⟨n', o', ho, q'⟩ := h.ok p z
    exact ⟨n', o', by rw [upd_ne (ne_of_none ho n)]; exact ho, q'⟩
theorem MemOk.tail (h : MemOk K C H ((x, m) :: μ)) : MemOk K C H μ := ⟨by have := h.nd; rw [dom_cons, List.nodup_cons] at this; exact this.2, fun p hp => h.ok p (List.mem_cons_of_mem _ hp)⟩
end
section
variable {Γ : Gam} {δ : Sd} {μ : Mem} {elt tg iter c : Expr} {ifs : List Expr} {P : Pst} {pos : Pos} {scope : Scope} {own : List (Str × Nat)} {ixs : List Nat}
def gB (X : Cx) (scope : Scope) (tg : Expr) : TG := fun v σ H Q => ∀ X', Blk X scope X' → wG X' tg v σ H Q
def ttB (X : Cx) (scope : Scope) (ifs : List Expr) : TT := fun σ H Q => ∀ X', Blk X scope X' → wTs X' ifs σ H Q
def teB (X : Cx) (scope : Scope) (e : Expr) : TE := fun σ H Q => ∀ X', Blk X scope X' → wE X' e σ H Q
theorem blkI {X : Cx} {scope : Scope} (s : Shared) (H : Hp) (C : Addr) (cl : List (Str × Addr)) (fp : List Addr) : Blk X scope (X.blk s H scope (compEnvC scope cl C X.env) fp) := ⟨s, H, C, cl, fp, rfl⟩
theorem lc_rd (own : List (Str × Nat)) (ixs : List Nat) (ok : BlkOk Γ.N Γ.sc scope own) (hv : ∀ j ∈ ixs, j ∈ own.map (·.2)) (h : Iw Γ δ μ tg iter fun ds μ1 => ds.length ≤ 100000 ∧ ∃ I : Nat → List D → Mem → Prop, I 0 [] μ1 ∧
    (∀ i d acc μ', ds[i]? = some d → I i acc μ' → Tg (Γ.blk scope) tg ixs d (wipeD δ (own.map (·.2))) μ' fun δ2 μ2 => Cw (Γ.blk scope) δ2 μ2 ifs fun b μ3 => (b = true → Ew (Γ.blk scope) δ2 μ3 elt fun y μ4 => I (i + 1) (acc ++ [y]) μ4) ∧ (b = false → I (i + 1) acc μ3)) ∧ ∀ acc μ', I ds.length acc μ' → P (.lst acc) μ') {X : Cx} (hX : Fits Γ X) {σ : L2.St} {C H : Hp} {Q : VK} (w : Wd Γ C H σ δ μ) (k : ∀ v d μ' C' H', Gr μ μ' C H C' H' → Wd Γ C' H' σ δ μ' → Dat Γ.K C' v d → P d μ' → Q v H') :
    tLc (wI X tg iter) (gB X scope tg) (ttB X scope ifs) (teB X scope elt) (own.map (·.2)) σ H Q := by
  refine h X hX σ C H _ w fun J ds μ1 C1 H1 g1 w1 wk ⟨hlen, I, i0, step, fin⟩ D0 hD => ?_
  have cD : C1 D0 = none := w1.sub.none hD
  -- the state of a turn
  let St' : Nat → Hp → Prop := fun i H' => ∃ C' acc vs μ', Gr ((D0, .lst []) :: μ1) ((D0, .lst acc) :: μ') C1 (upd H1 D0 (.lst [])) C' H' ∧ Le C' H' ∧ MemOk Γ.K C' H' ((D0, .lst acc) :: μ') ∧ H' D0 = some (.lst vs) ∧ DatAll Γ.K C' vs acc ∧ acc.length ≤ i ∧ I i acc μ'
  have toWd : ∀ {C' H' : Hp} {μ' : Mem}, Le C1 C' → Le C' H' → MemOk Γ.K C' H' μ' → Wd (Γ.blk scope) C' H' (wipe σ (own.map (·.2))) (wipeD δ (own.map (·.2))) μ' := fun {C' H' μ'} l1 l2 mo =>
    ⟨w1.base.trans l1, l2, (w1.blk (scope := scope)).len, fun i d e => by
      obtain ⟨v, e1, e2⟩ := (w1.blk (scope := scope) (vs := own.map (·.2))).sl i d e
      exact ⟨v, e1, Dat.mono l1 _ _ e2⟩, mo, fun _ _ _ _ _ _ _ _ x => x.elim⟩
  refine ⟨fun i m H' => m = ds.length - i ∧ i ≤ ds.length ∧ St' i H', ⟨_, rfl, Nat.zero_le _, C1, [], [], μ1, Gr.refl, w1.sub.updH cD, w1.mem.newM hD w1.sub ⟨[], rfl, .nil⟩, upd_same, .nil, Nat.le_refl _, i0⟩, ?_⟩
  rintro i m H' ⟨rfl, hi, C', acc, vs, μ', g, l, mo, hH, ha, hl, hI⟩
  obtain ⟨wgo, wst⟩ := wk i C' H' g.core l
  by_cases hlt : i < ds.length
  · refine .inr ?_
    obtain ⟨hgo, hy⟩ := wgo _ (List.getElem?_eq_getElem hlt)
    refine ⟨hgo, St' (i + 1), fun H3 h3 => ⟨ds.length - (i + 1), by omega, rfl, hlt, h3⟩, fun x H2 hx X' hb => ?_⟩
    obtain ⟨C2, n2, r2⟩ := hy x H2 hx
    have mo2 := n2.mem mo
    have stay : ∀ {μa μb : Mem} {Ca Ha Cb Hb : Hp} {va : List V} {acca : List D}, MemOk Γ.K Ca Ha ((D0, .lst acca) :: μa) → Gr μa μb Ca Ha Cb Hb → Ha D0 = some (.lst va) → MemOk Γ.K Cb Hb μb → DatAll Γ.K Ca va acca → Hb D0 = some (.lst va) ∧ MemOk Γ.K Cb Hb ((D0, .lst acca) :: μb) := fun {μa μb Ca Ha Cb Hb va acca} m1 gg e m2 da => by
      have nd := m1.nd
      rw [dom_cons, List.nodup_cons] at nd
      have e2 := gg.keep _ _ nd.1 e
      refine ⟨e2, ⟨?_, fun p hp => ?_⟩⟩
      · rw [dom_cons, List.nodup_cons]
        refine ⟨fun z => ?_, m2.nd⟩
        rcases gg.dom _ z with z | z
        · exact nd.1 z
        · rw [e] at z
          cases z
      · rcases List.mem_cons.mp hp with z | z
        · subst z
          exact ⟨gg.new _ (by rw [e]; simp) nd.1 (m1.ok _ List.mem_cons_self).1, _, e2, va, rfl, DatAll.mono gg.core _ _ da⟩
        · exact m2.ok p z
    refine step i _ acc μ' (List.getElem?_eq_getElem hlt) hI X' (hX.blk hb) _ C2 H2 x _ (toWd (g.core.trans n2.core) n2.sub mo2.tail) r2 fun σ3 δ3 μ3 C3 H3 ag g3 w3 q3 => ?_
    have h2D := n2.keep _ _ hH
    obtain ⟨h3D, mo3⟩ := stay mo2 g3 h2D w3.mem (DatAll.mono n2.core _ _ ha)
    refine ⟨ag.wipe hv, fun X'' hb2 => ?_⟩
    refine q3 X'' (hX.blk hb2) σ3 C3 H3 _ w3 fun b μ4 C4 H4 g4 w4 q4 => ?_
    have da3 := DatAll.mono (n2.core.trans g3.core) _ _ ha
    obtain ⟨h4D, mo4⟩ := stay mo3 g4 h3D w4.mem da3
    have da4 := DatAll.mono g4.core _ _ da3
    have gg : Gr ((D0, .lst []) :: μ1) ((D0, .lst acc) :: μ4) C1 (upd H1 D0 (.lst [])) C4 H4 := ((g.trans n2.gr).trans (g3.cons (m := .lst acc) (m' := .lst acc))).trans (g4.cons (m := .lst acc) (m' := .lst acc))
    cases b with
    | false => exact ⟨C4, acc, vs, μ4, gg, w4.sub, mo4, h4D, da4, Nat.le_succ_of_le hl, q4.2 rfl⟩
    | true =>
      show ∀ X', Blk X scope X' → wE X' elt σ3 H4 _
      intro X3 hb3
      refine q4.1 rfl X3 (hX.blk hb3) σ3 C4 H4 _ w4 fun v y μ5 C5 H5 g5 w5 r5 q5 => ?_
      obtain ⟨h5D, mo5⟩ := stay mo4 g5 h4D w5.mem da4
      have da5 := DatAll.mono g5.core _ _ da4
      have da6 : DatAll Γ.K C5 (vs ++ [v]) (acc ++ [y]) := da5.append (.cons r5 .nil)
      have cD5 : C5 D0 = none := (mo5.ok _ List.mem_cons_self).1
      refine ⟨vs, h5D, ?_, C5, acc ++ [y], vs ++ [v], μ5, (gg.trans (g5.cons (m := .lst acc) (m' := .lst acc))).trans (Gr.upd (by rw [dom_cons]; exact List.mem_cons_self) fun b hb => hb), w5.sub.updH cD5, mo5.upd ⟨_, rfl, da6⟩, upd_same, da6, by simp; omega, q5⟩
      have e1 := da5.len
      exact Nat.lt_of_le_of_lt (by omega : vs.length ≤ 100000) (by decide)
  · have e : i = ds.length := by omega
    subst e
    refine .inl ⟨wst (Nat.le_refl _), ?_⟩
    have cD' : C' D0 = none := (mo.ok _ List.mem_cons_self).1
    have gf : Gr μ μ' C H (upd C' D0 (.lst vs)) H' := ((g1.trans (Gr.newM hD)).trans g).trans (Gr.frz cD')
    exact k _ _ μ' _ _ gf (w.gr gf (l.upd1 hH) (mo.frz hH)) (.lst upd_same (DatAll.mono (Le.new cD') _ _ ha)) (fin acc μ' hI)
theorem ew_lc (own : List (Str × Nat)) (ixs : List Nat) (ok : BlkOk Γ.N Γ.sc scope own) (hv : ∀ j ∈ ixs, j ∈ own.map (·.2)) (h : Iw Γ δ μ tg iter fun ds μ1 => ds.length ≤ 100000 ∧ ∃ I : Nat → List D → Mem → Prop, I 0 [] μ1 ∧
    (∀ i d acc μ', ds[i]? = some d → I i acc μ' → Tg (Γ.blk scope) tg ixs d (wipeD δ (own.map (·.2))) μ' fun δ2 μ2 => Cw (Γ.blk scope) δ2 μ2 ifs fun b μ3 => (b = true → Ew (Γ.blk scope) δ2 μ3 elt fun y μ4 => I (i + 1) (acc ++ [y]) μ4) ∧ (b = false → I (i + 1) acc μ3)) ∧ ∀ acc μ', I ds.length acc μ' → P (.lst acc) μ')
    (hs : ∀ env x, foldedSetIterable iter env x = pure x := by intro _ _; rfl) : Ew Γ δ μ (.ListComp elt [⟨tg, iter, ifs, 0⟩] scope pos) P := fun X hX σ C H Q w k =>
  PEw (pe_lc (g := gB X scope tg) (tt := ttB X scope ifs) (te := teB X scope elt) hX.calm (by rw [hX.N]; exact hX.nd) wI_pi (own := own) (by rw [hX.N, hX.sc]; exact ok)
    (fun s H C cl fp => ⟨fun pins s' σ H v u Q I r q => q _ (blkI _ _ _ _ _) pins s' u I r⟩) (fun s H C cl fp => ⟨fun pins s' σ H Q I q => q _ (blkI _ _ _ _ _) pins s' I⟩) (fun s H C cl fp => ⟨fun pins s' σ H Q I q => q _ (blkI _ _ _ _ _) pins s' I⟩) (hs _)) (lc_rd own ixs ok hv h hX w k)
/-- name = [..] on one line -/
theorem ru_setLc (i : Nat) {y : Str} {py spos : Pos} {F : Fin} (own : List (Str × Nat)) (ixs : List Nat) (ok : BlkOk Γ.N Γ.sc scope own) (hv : ∀ j ∈ ixs, j ∈ own.map (·.2)) (h : Iw Γ δ μ tg iter fun ds μ1 => ds.length ≤ 100000 ∧ ∃ I : Nat → List D → Mem → Prop, I 0 [] μ1 ∧
    (∀ i d acc μ', ds[i]? = some d → I i acc μ' → Tg (Γ.blk scope) tg ixs d (wipeD δ (own.map (·.2))) μ' fun δ2 μ2 => Cw (Γ.blk scope) δ2 μ2 ifs fun b μ3 => (b = true → Ew (Γ.blk scope) δ2 μ3 elt fun y μ4 => I (i + 1) (acc ++ [y]) μ4) ∧ (b = false → I (i + 1) acc μ3)) ∧ ∀ acc μ', I ds.length acc μ' → F.nx (δ.set i (some (.lst acc))) μ')
    (hN : Γ.N[i]? = some y := by rfl) (hx : Γ.sc.names.lookup y = some .local := by rfl) (hsw : ∀ env, env.scope = Γ.sc → swapsWith (.ListComp elt [⟨tg, iter, ifs, 0⟩] scope pos) (some (.Name y py)) spos.line env = pure true := by intro env h; cases env; cases h; rfl)
    (hs : ∀ env x, foldedSetIterable iter env x = pure x := by intro _ _; rfl) : Ru1 Γ δ μ (.Assign [.Name y py] (.ListComp elt [⟨tg, iter, ifs, 0⟩] scope pos) spos) F := fun X hX σ C H w =>
  PSw (ps_setLc (g := gB X scope tg) (tt := ttB X scope ifs) (te := teB X scope elt) hX.calm (by rw [hX.N]; exact hX.nd) (by rw [hX.N]; exact hN) (by rw [hX.sc]; exact hx) (hsw _ hX.sc) wI_pi (own := own) (by rw [hX.N, hX.sc]; exact ok)
    (fun s H C cl fp => ⟨fun pins s' σ H v u Q I r q => q _ (blkI _ _ _ _ _) pins s' u I r⟩) (fun s H C cl fp => ⟨fun pins s' σ H Q I q => q _ (blkI _ _ _ _ _) pins s' I⟩) (fun s H C cl fp => ⟨fun pins s' σ H Q I q => q _ (blkI _ _ _ _ _) pins s' I⟩) (hs _))
    (lc_rd (P := fun d μ' => F.nx (δ.set i (some d)) μ') own ixs ok hv h hX w fun v d μ' C' H' g w' r q => ⟨C', _, μ', g, w'.set (x := y) r, q⟩)
end
end Dl

set_option maxRecDepth 100000
set_option maxHeartbeats 2000000
namespace Dl
open PySem PySem.Spec PyProof.Rows L2
/-- what a def does: from the arguments and the objects that it may change, what it gives, what it lets out -/
abbrev Spec := List D → Mem → Pst → (Value → Mem → Prop) → Prop
def NoX : Value → Mem → Prop := fun _ _ => False
def spD (K : PySem.W.Frag) (B : Hp) (S : Spec) (n : Nat) : Sp := fun vs H Q E => vs.length = n ∧ ∃ C ds μ P XP, Le B C ∧ Le C H ∧ DatAll K C vs ds ∧ MemOk K C H μ ∧ S ds μ P XP ∧
  (∀ v d μ' C' H', Gr μ μ' C H C' H' → Le C' H' → MemOk K C' H' μ' → Dat K C' v d → P d μ' → Q v H') ∧ (∀ cls d μ' C' H', Gr μ μ' C H C' H' → Le C' H' → MemOk K C' H' μ' → XP cls μ' → E cls d H')
def startD (N : List Str) (ds : List D) : Sd := ds.map some ++ List.replicate (N.length - ds.length) none
section
variable {P : Program} {w : World} {K : PySem.W.Frag} {mg : Str → Option Value} {base : Heap} {B : Hp}
theorem start_wd {C : Hp} {N : List Str} {vs : List V} {ds : List D} (h : DatAll K C vs ds) : (start N vs).length = (startD N ds).length ∧ ∀ (i : Nat) d, (startD N ds)[i]? = some (some d) → ∃ v, (start N vs)[i]? = some (some v) ∧ Dat K C v d := by
  have e := h.len
  refine ⟨by simp [L2.start, startD, e], fun i d q => ?_⟩
  unfold startD at q
  unfold L2.start
  by_cases hi : i < ds.length
  · rw [List.getElem?_append_left (by simpa using hi), List.getElem?_map] at q
    obtain ⟨d', h1, h2⟩ := Option.map_eq_some_iff.mp q
    cases h2
    obtain ⟨v, h3, h4⟩ := h.get h1
    exact ⟨v, by rw [List.getElem?_append_left (by rw [List.length_map, e]; exact hi), List.getElem?_map, h3]; rfl, h4⟩
  · rw [List.getElem?_append_right (by simpa using hi), List.getElem?_replicate] at q
    split at q <;> simp at q
/-- a def's context -/
abbrev gamOf (P : Program) (w : World) (K : PySem.W.Frag) (mg : Str → Option Value) (base : Heap) (B : Hp) (N : List Str) (sc : Scope) (qual : Str) (c : Addr) (k : Nat) (E : XK) (XP : Value → Mem → Prop) : Gam :=
  { P := P, w := w, K := K, mg := mg, base := base, N := N, sc := sc, fn := fun _ => true, qual := (envOfC qual sc 0 0 .none).qual, code := some c, k := k, B := B, E := E, XP := XP }
/-- THE RULE for a def -/
theorem fn_ok {x qual : Str} {params : Arguments} {body : List Stmt} {scope : Scope} {pd : Str × Option Str} {fd : FuncData} {N ps : List Str} {k : Nat} {S : Spec} (F : FunD K x qual params body scope [] [] (He.fAd K pd) fd) (Sc : FnScope N ps scope)
    (hbody : ∀ (E : XK) ds μ R XP, ds.length = ps.length → S ds μ R XP → Run (gamOf P w K mg base B N scope qual (He.codeOf K pd) k E XP) (startD N ds) μ body { nx := fun _ μ' => R .non μ', rt := R }) :
    FnOk P w K mg base (L2.CX P w) (k + 1) (He.fAd K pd) fd ps (spD K B S ps.length) := by
  obtain ⟨oc, od, dV, kV, doc, pm, an, cdv, ct, osl, rfl, lk, hcd, _, _⟩ := F.ex
  obtain ⟨c, rfl⟩ := He.codeIn_ref hcd
  have ec : He.codeOf K pd = c := He.codeOf_eq lk rfl
  refine fn_of lk hcd Sc (fun vs H Q E h => h.1) fun A outer s H vs Q E hr hsp => ?_
  obtain ⟨hl, C, ds, μ, R, XP, h1, h2, h3, h4, h5, h6, h7⟩ := hsp
  refine ⟨_, wSs_pss, ?_⟩
  obtain ⟨e1, e2⟩ := start_wd (N := N) h3
  have w0 : Wd (gamOf P w K mg base B N scope qual (He.codeOf K pd) k E XP) C H (start N vs) (startD N ds) μ := ⟨h1, h2, e1, e2, h4, h7⟩
  have fit : Fits (gamOf P w K mg base B N scope qual (He.codeOf K pd) k E XP) (cxOf (L2.CX P w) P w K mg base N qual scope (He.fAd K pd) (.ref c) A outer s H E) :=
    ⟨rfl, rfl, rfl, rfl, rfl, rfl, Sc.nd, rfl, rfl, fun c' e => by cases e; rw [ec]; rfl, rfl, hr, takes_of rfl rfl rfl rfl, passes_of rfl, (fun _ _ => rfl), trivial⟩
  refine wSs_mono (hbody E ds μ R XP (by rw [← h3.len]; exact hl) h5 _ fit _ C H w0) (fun σ' H' ⟨C', δ', μ', g, w', q⟩ => h6 .non .non μ' C' H' g w'.sub w'.mem .non q) (fun v H' ⟨C', d, μ', g, s', m, r, q⟩ => h6 v d μ' C' H' g s' m r q) (fun σ' H' ⟨C', δ', μ', g, w', q⟩ => q) (fun σ' H' ⟨C', δ', μ', g, w', q⟩ => q)
/-- what is known of a def by its name -/
structure Gn (P : Program) (w : World) (K : PySem.W.Frag) (mg : Str → Option Value) (base : Heap) (B : Hp) (x : Str) (k n : Nat) (S : Spec) : Prop where
  ex : ∃ (f : Addr) (fd : FuncData) (ps : List Str), ps.length = n ∧ FnOk P w K mg base (L2.CX P w) k f fd ps (spD K B S n) ∧ mg x = some (.ref f) ∧ PySem.W.keepIn K (.ref f) = true ∧ Binds K fd ps []
/-- of a method -/
structure Mn (P : Program) (w : World) (K : PySem.W.Frag) (mg : Str → Option Value) (base : Heap) (B : Hp) (Cl : Addr) (m : Str) (k n : Nat) (S : Spec) : Prop where
  cls : Cls K Cl
  ex : ∃ (f : Addr) (fd : FuncData) (ps : List Str), ps.length = n ∧ FnOk P w K mg base (L2.CX P w) k f fd ps (spD K B S n) ∧ Meth K Cl m f ∧ Binds K fd ps []
/-- of a class that is called -/
structure Cn (P : Program) (w : World) (K : PySem.W.Frag) (mg : Str → Option Value) (base : Heap) (B : Hp) (x : Str) (Cl : Addr) (k n : Nat) (S : Spec) : Prop where
  ex : ∃ (f : Addr) (fd : FuncData) (ps : List Str), ps.length = n ∧ FnOk P w K mg base (L2.CX P w) k f fd ps (spD K B S n) ∧ mg x = some (.ref Cl) ∧ Mk K Cl f ∧ Binds K fd ps []
end
/-! ### calls -/
theorem dom_app {μ ν : Mem} : dom (μ ++ ν) = dom μ ++ dom ν := List.map_append
/-- what the callee does not touch -/
theorem frame_ok {K : PySem.W.Frag} {μ μ' ν : Mem} {C H C' H' : Hp} (m : MemOk K C H (μ ++ ν)) (g : Gr μ μ' C H C' H') (m' : MemOk K C' H' μ') : Gr (μ ++ ν) (μ' ++ ν) C H C' H' ∧ MemOk K C' H' (μ' ++ ν) := by
  have nd := m.nd
  rw [dom_app, List.nodup_append] at nd
  obtain ⟨n1, n2, n3⟩ := nd
  have hν : ∀ p ∈ ν, ∃ o, H p.1 = some o ∧ p.1 ∉ dom μ ∧ C p.1 = none ∧ MoOk K C o p.2 := fun p hp => by
    obtain ⟨e, o, ho, q⟩ := m.ok p (List.mem_append_right _ hp)
    exact ⟨o, ho, fun z => n3 _ z _ (List.mem_map.mpr ⟨p, hp, rfl⟩) rfl, e, q⟩
  refine ⟨⟨g.core, fun b h n e => g.new b h (fun z => n (by rw [dom_app]; exact List.mem_append_left _ z)) e, fun b o n e => g.keep b o (fun z => n (by rw [dom_app]; exact List.mem_append_left _ z)) e, g.there, fun b hb => ?_⟩, ⟨?_, fun p hp => ?_⟩⟩
  · rw [dom_app] at hb ⊢
    rcases List.mem_append.mp hb with z | z
    · rcases g.dom b z with z | z
      · exact .inl (List.mem_append_left _ z)
      · exact .inr z
    · exact .inl (List.mem_append_right _ z)
  · rw [dom_app, List.nodup_append]
    refine ⟨m'.nd, n2, fun a ha b hb e => ?_⟩
    subst e
    obtain ⟨p, hp, rfl⟩ := List.mem_map.mp hb
    obtain ⟨o, ho, q1, _, _⟩ := hν p hp
    rcases g.dom _ ha with z | z
    · exact q1 z
    · rw [ho] at z; cases z
  · rcases List.mem_append.mp hp with z | z
    · exact m'.ok p z
    · obtain ⟨o, ho, q1, q2, q3⟩ := hν p z
      exact ⟨g.new _ (by rw [ho]; simp) q1 q2, o, g.keep _ _ q1 ho, q3.mono g.core⟩
section
variable {Γ : Gam} {δ : Sd} {μ : Mem} {e o : Expr} {es : List Expr} {d : D} {P : Pst} {pos p apos : Pos} {S : Spec} {x m : Str} {Cl : Addr} {k n : Nat}
abbrev Gam.gn (Γ : Gam) := Gn Γ.P Γ.w Γ.K Γ.mg Γ.base Γ.B
abbrev Gam.mn (Γ : Gam) := Mn Γ.P Γ.w Γ.K Γ.mg Γ.base Γ.B
abbrev Gam.cn (Γ : Gam) := Cn Γ.P Γ.w Γ.K Γ.mg Γ.base Γ.B
/-- what a call by such a spec is to give, from the objects μ -/
def Cal (Γ : Gam) (S : Spec) (ds : List D) (μ : Mem) (P : Pst) : Prop := ∃ μc ν XP, μ = μc ++ ν ∧ S ds μc (fun d μ' => P d (μ' ++ ν)) XP ∧ ∀ cls μ', XP cls μ' → Γ.XP cls ν
theorem cal_sp {K : PySem.W.Frag} {σ : L2.St} {C H C0 H0 : Hp} {μ0 : Mem} {Q : VK} {vs : List V} {ds : List D} (hK : K = Γ.K) (w0 : Wd Γ C0 H0 σ δ μ0) (w : Wd Γ C H σ δ μ) (g : Gr μ0 μ C0 H0 C H) (r : DatAll Γ.K C vs ds) (hl : vs.length = n) (h : Cal Γ S ds μ P) (q : ∀ v d μ' C' H', Gr μ0 μ' C0 H0 C' H' → Wd Γ C' H' σ δ μ' → Dat Γ.K C' v d → P d μ' → Q v H') : spD K Γ.B S n vs H Q Γ.E := by
  subst hK
  obtain ⟨μc, ν, XP, rfl, hS, hX⟩ := h
  have mc : MemOk Γ.K C H μc := ⟨by have := w.mem.nd; rw [dom_app, List.nodup_append] at this; exact this.1, fun p hp => w.mem.ok p (List.mem_append_left _ hp)⟩
  refine ⟨hl, C, ds, μc, _, XP, w.base, w.sub, r, mc, hS, fun v d μ' C' H' g' s' m' r' p' => ?_, fun cls d μ' C' H' g' s' m' x => ?_⟩
  · obtain ⟨g2, m2⟩ := frame_ok w.mem g' m'
    exact q v d _ C' H' (g.trans g2) (w.gr g2 s' m2) r' p'
  · obtain ⟨g2, m2⟩ := frame_ok w.mem g' m'
    have g3 : Gr (μc ++ ν) ν C H C' H' := ⟨g2.core, g2.new, g2.keep, g2.there, fun b hb => .inl (by rw [dom_app]; exact List.mem_append_right _ hb)⟩
    have m3 : MemOk Γ.K C' H' ν := ⟨by have := m2.nd; rw [dom_app, List.nodup_append] at this; exact this.2.1, fun p hp => m2.ok p (List.mem_append_right _ hp)⟩
    exact w.exc cls d ν C' H' g3 s' m3 (hX cls μ' x)
theorem ew_call (F : Γ.gn x k n S) (hk : k ≤ Γ.k) (hn : (e :: es).length = n) (ha : Aw Γ δ μ (e :: es) fun ds μ1 => ds.length = n ∧ Cal Γ S ds μ1 P) (hg : Γ.sc.names.lookup x = some .globalImplicit := by rfl) (hdb : (x == ("__debug__" : Str)) = false := by decide)
    (he : ∀ env, starEach (e :: es) env = (false, eval e env) :: starEach es env := by intro _; rfl) (hpl : ∀ env, (backTo pos (starEach es env)).any (·.1) = false := by intro _; rfl) : Ew Γ δ μ (.Call (.Name x p) (e :: es) [] pos) P := fun X hX σ C H Q w q => by
  obtain ⟨f, fd, ps, hps, hF, hm, hkp, hb⟩ := F.ex
  have hF' : FnOk X.prog X.w X.K X.mg X.base (L2.CX X.prog X.w) k f fd ps (spD X.K Γ.B S n) := by
    rw [hX.prog, hX.w, hX.K, hX.mg, hX.base]
    exact hF
  refine PEw (pe_call (E := Γ.E) hF' (hX.room.mono hk) (hX.gl hg) (by rw [hX.mg]; exact hm) (by rw [hX.K]; exact hkp) (by rw [hX.K]; exact hb) .nil (passes_call hX.tk fun _ _ _ _ h => h) wA_pa hdb (he _) (hpl _)) ?_
  refine ha X hX σ C H _ w fun vs ds μ1 C1 H1 g1 w1 r1 ⟨hl, h1⟩ => ?_
  show spD X.K Γ.B S n (vs ++ []) H1 Q Γ.E
  rw [List.append_nil]
  exact cal_sp hX.K w w1 g1 r1 (by rw [r1.len]; exact hl) h1 q
/-- the receiver -/
def Recv (Cl : Addr) (m : Str) (μ : Mem) : D → Prop
  | .obj C ns fs => C = Cl ∧ (ns.zip fs).lookup m = none
  | .adr a => ∃ ns fs, (a, MO.ins Cl ns fs) ∈ μ ∧ (ns.zip fs).lookup m = none
  | _ => False
theorem zip_none {K : PySem.W.Frag} {C : Hp} {f : Str} : ∀ {ns : List Str} {ds : List D} {vs : List V}, (ns.zip ds).lookup f = none → DatAll K C vs ds → (ns.zip vs).lookup f = none
  | [], _, _, e, _ => by simp
  | n :: ns, _, _, e, .nil => by simp
  | n :: ns, _, _, e, .cons r t => by
    rw [List.zip_cons_cons, List.lookup_cons] at e ⊢
    cases q : f == n with
    | true => rw [q] at e; cases e
    | false => rw [q] at e; exact zip_none e t
theorem recv_dat {σ : L2.St} {C H : Hp} {v : V} (w : Wd Γ C H σ δ μ) (r : Dat Γ.K C v d) (h : Recv Cl m μ d) : ∃ a dx fs, v = .ref a ∧ H a = some (.ins Cl dx fs) ∧ fs.lookup m = none := by
  cases r with
  | obj e1 l1 a1 =>
    obtain ⟨rfl, h2⟩ := h
    exact ⟨_, _, _, rfl, w.sub _ _ e1, zip_none h2 a1⟩
  | adr a =>
    obtain ⟨ns, fs, hm, h2⟩ := h
    obtain ⟨_, o, ho, dx, vs, rfl, hl, ha⟩ := w.mem.ok _ hm
    exact ⟨_, _, _, rfl, ho, zip_none h2 ha⟩
  | _ => exact h.elim
theorem ew_meth (F : Γ.mn Cl m k n S) (hk : k ≤ Γ.k) (ho : Ew Γ δ μ o fun d μ1 => Recv Cl m μ1 d ∧ Aw Γ δ μ1 (e :: es) fun ds μ2 => (d :: ds).length = n ∧ Cal Γ S (d :: ds) μ2 P)
    (he : ∀ env, starEach (e :: es) env = (false, eval e env) :: starEach es env := by intro _; rfl) (hpl : ∀ env, (backTo pos (starEach es env)).any (·.1) = false := by intro _; rfl)
    (ht : ∀ env, ∃ pl, eval (.Call (.Attribute o m apos) (e :: es) [] pos) env = (do
      let ov ← eval o env
      standAt apos.atName
      let (f, first) ← holding [ov] (getMethod ov m pl)
      callWith pos f first (backTo pos (starEach (e :: es) env)) (backToKw pos (keywordEach [] env))) := by intro _; exact ⟨_, rfl⟩) : Ew Γ δ μ (.Call (.Attribute o m apos) (e :: es) [] pos) P := fun X hX σ C H Q w q => by
  obtain ⟨f, fd, ps, hps, hF, hm, hb⟩ := F.ex
  obtain ⟨pl, ht⟩ := ht X.env
  have hF' : FnOk X.prog X.w X.K X.mg X.base (L2.CX X.prog X.w) k f fd ps (spD X.K Γ.B S n) := by
    rw [hX.prog, hX.w, hX.K, hX.mg, hX.base]
    exact hF
  refine PEw (pe_meth (pl := pl) (E := Γ.E) wE_pe (by rw [hX.K]; exact F.cls) (by rw [hX.K]; exact hm) hF' (hX.room.mono hk) (by rw [hX.K]; exact hb) .nil (passes_call hX.tk fun _ _ _ _ h => h) wA_pa (he _) (hpl _) ht) ?_
  refine ho X hX σ C H _ w fun v d μ1 C1 H1 g1 w1 r1 ⟨hr, h1⟩ => ?_
  obtain ⟨a, dx, fs, ev, ho', hlk⟩ := recv_dat w1 r1 hr
  refine ⟨a, dx, fs, ev, ho', hlk, h1 X hX σ C1 H1 _ w1 fun vs ds μ2 C2 H2 g2 w2 r2 ⟨hl, h2⟩ => ?_⟩
  show spD X.K Γ.B S n (v :: (vs ++ [])) H2 Q Γ.E
  rw [List.append_nil]
  have rr : DatAll Γ.K C2 (v :: vs) (d :: ds) := .cons (Dat.mono g2.core _ _ r1) r2
  exact cal_sp hX.K w w2 (g1.trans g2) rr (by rw [rr.len]; exact hl) h2 q
theorem ew_meth0 (F : Γ.mn Cl m k 1 S) (hk : k ≤ Γ.k) (ho : Ew Γ δ μ o fun d μ1 => Recv Cl m μ1 d ∧ Cal Γ S [d] μ1 P)
    (ht : ∀ env, ∃ pl, eval (.Call (.Attribute o m apos) [] [] pos) env = (do
      let ov ← eval o env
      standAt apos.atName
      let (f, first) ← holding [ov] (getMethod ov m pl)
      callWith pos f first (backTo pos (starEach [] env)) (backToKw pos (keywordEach [] env))) := by intro _; exact ⟨_, rfl⟩) : Ew Γ δ μ (.Call (.Attribute o m apos) [] [] pos) P := fun X hX σ C H Q w q => by
  obtain ⟨f, fd, ps, hps, hF, hm, hb⟩ := F.ex
  obtain ⟨pl, ht⟩ := ht X.env
  have hF' : FnOk X.prog X.w X.K X.mg X.base (L2.CX X.prog X.w) k f fd ps (spD X.K Γ.B S 1) := by
    rw [hX.prog, hX.w, hX.K, hX.mg, hX.base]
    exact hF
  refine PEw (pe_meth0 (pl := pl) (E := Γ.E) wE_pe (by rw [hX.K]; exact F.cls) (by rw [hX.K]; exact hm) hF' (hX.room.mono hk) (by rw [hX.K]; exact hb) .nil (passes_call hX.tk fun _ _ _ _ h => h) ht) ?_
  refine ho X hX σ C H _ w fun v d μ1 C1 H1 g1 w1 r1 ⟨hr, h1⟩ => ?_
  obtain ⟨a, dx, fs, ev, ho', hlk⟩ := recv_dat w1 r1 hr
  exact ⟨a, dx, fs, ev, ho', hlk, cal_sp (vs := [v]) hX.K w w1 g1 (.cons r1 .nil) rfl h1 q⟩
/-- an object made: it stays as it is -/
theorem Gr.newX {C H : Hp} {b : Addr} {o : HO} (hb : H b = none) : Gr μ μ C H C (L2.upd H b o) := ⟨Le.refl _, fun _ _ _ e => e, fun c u _ e => by rw [upd_ne (ne_of_none e hb)]; exact e, fun c h => by
  rw [upd_ne (fun z => h (by rw [z]; exact hb))]; exact h, fun _ h => .inl h⟩
theorem ew_make (F : Γ.cn x Cl k n S) (hk : k + 1 ≤ Γ.k) (ha : Aw Γ δ μ (e :: es) fun ds μ1 => ds.length + 1 = n ∧ ∀ a, ∃ XP, S (.adr a :: ds) [(a, .ins Cl [] [])] (fun d μ' => d = .non ∧ ∃ ns fs, μ' = [(a, .ins Cl ns fs)] ∧ P (.obj Cl ns fs) μ1) XP ∧ ∀ cls μ', XP cls μ' → Γ.XP cls μ1)
    (hg : Γ.sc.names.lookup x = some .globalImplicit := by rfl) (hdb : (x == ("__debug__" : Str)) = false := by decide)
    (he : ∀ env, starEach (e :: es) env = (false, eval e env) :: starEach es env := by intro _; rfl) (hpl : ∀ env, (backTo pos (starEach es env)).any (·.1) = false := by intro _; rfl) : Ew Γ δ μ (.Call (.Name x p) (e :: es) [] pos) P := fun X hX σ C H Q w q => by
  obtain ⟨f, fd, ps, hps, hF, hm, hMk, hb⟩ := F.ex
  have hF' : FnOk X.prog X.w X.K X.mg X.base (L2.CX X.prog X.w) k f fd ps (spD X.K Γ.B S n) := by
    rw [hX.prog, hX.w, hX.K, hX.mg, hX.base]
    exact hF
  refine PEw (pe_make (E := Γ.E) (by rw [hX.K]; exact hMk) hF' (hX.room.mono hk) (hX.gl hg) (by rw [hX.mg]; exact hm) (by rw [hX.K]; exact hb) .nil (passes_call hX.tk fun _ _ _ _ h => h) wA_pa hdb (he _) (hpl _)) ?_
  refine ha X hX σ C H _ w fun vs ds μ1 C1 H1 g1 w1 r1 ⟨hl, h1⟩ => fun a dx ha hdx hne => ?_
  show spD X.K Γ.B S n (.ref a :: (vs ++ [])) _ _ Γ.E
  rw [List.append_nil, hX.K]
  obtain ⟨XP, hS, hXP⟩ := h1 a
  have ha' : (upd H1 dx (.own a)) a = none := by rw [upd_ne (Ne.symm hne)]; exact ha
  have cA : C1 a = none := w1.sub.none ha
  have cDx : C1 dx = none := w1.sub.none hdx
  have gN : Gr μ1 ((a, .ins Cl [] []) :: μ1) C1 H1 C1 (upd (upd H1 dx (.own a)) a (.ins Cl dx [])) := (Gr.newX hdx).trans (Gr.newM ha')
  have m0 : MemOk Γ.K C1 (upd H1 dx (.own a)) μ1 := ⟨w1.mem.nd, fun p hp => by
    obtain ⟨e, o, ho, q⟩ := w1.mem.ok p hp
    exact ⟨e, o, by rw [upd_ne (ne_of_none ho hdx)]; exact ho, q⟩⟩
  have l1 : Le C1 (upd H1 dx (.own a)) := w1.sub.updH cDx
  have mN : MemOk Γ.K C1 (upd (upd H1 dx (.own a)) a (.ins Cl dx [])) ((a, .ins Cl [] []) :: μ1) := m0.newM ha' l1 ⟨dx, [], rfl, rfl, .nil⟩
  have lN : Le C1 (upd (upd H1 dx (.own a)) a (.ins Cl dx [])) := l1.updH cA
  have mc : MemOk Γ.K C1 (upd (upd H1 dx (.own a)) a (.ins Cl dx [])) [(a, .ins Cl [] [])] := ⟨by simp [dom], fun p hp => mN.ok p (by
    have : p = (a, MO.ins Cl [] []) := by simpa using hp
    rw [this]; exact List.mem_cons_self)⟩
  refine ⟨by rw [List.length_cons, r1.len]; exact hl, C1, _, [(a, .ins Cl [] [])], _, XP, w1.base, lN, .cons (.adr a) r1, mc, hS, fun v d μ' C' H' g' s' m' r' p' => ?_, fun cls d μ' C' H' g' s' m' x => ?_⟩
  · obtain ⟨ed, ns, fs, eμ, p'⟩ := p'
    subst ed; subst eμ
    cases r'
    obtain ⟨g2, m2⟩ := frame_ok (μ := [(a, .ins Cl [] [])]) (ν := μ1) mN g' m'
    obtain ⟨eC, o, ho, dx', ws, eo, hl', hd'⟩ := m2.ok _ (List.mem_cons_self)
    subst eo
    have gg : Gr μ μ1 C H (upd C' a (.ins Cl dx' (ns.zip ws))) H' := ((g1.trans gN).trans g2).trans (Gr.frz eC)
    exact ⟨rfl, q _ _ μ1 _ _ gg (w.gr gg (s'.upd1 ho) (m2.frz ho)) (.obj upd_same hl' (DatAll.mono (Le.new eC) _ _ hd')) p'⟩
  · obtain ⟨g2, m2⟩ := frame_ok (μ := [(a, .ins Cl [] [])]) (ν := μ1) mN g' m'
    have g3 : Gr μ1 μ1 C1 H1 C' H' := by
      have gg := gN.trans g2
      exact ⟨gg.core, gg.new, gg.keep, gg.there, fun b hb => .inl hb⟩
    have m3 : MemOk Γ.K C' H' μ1 := ⟨w1.mem.nd, fun p hp => m2.ok p (List.mem_append_right _ hp)⟩
    exact w1.exc cls d μ1 C' H' g3 s' m3 (hXP cls μ' x)
end
end Dl

set_option maxRecDepth 100000
set_option maxHeartbeats 2000000
namespace Dl
open PySem PySem.Spec PyProof.Rows L2 Gx
/-- a generator expression's body -/
def Gam.gx (Γ : Gam) (scope : Scope) : Gam := { Γ with sc := scope, fn := fun _ => false, code := none, qual := Γ.qual ++ "<genexpr>.", k := Γ.k - 1, E := fun _ _ _ => False, XP := fun _ _ => False, kn := fun _ => True }
structure Gam.Site (Γ : Gam) : Prop where
  ex : ∃ c P, Γ.code = some c ∧ (PySem.W.CodeHd Γ.base c P ∨ Γ.B c = some (CdO c P)) ∧ Γ.B P = some (TbO P)
  bm : Bm Γ.base Γ.mg
section
variable {Γ : Gam} {δ : Sd} {μ : Mem} {elt tg iter c : Expr} {P : Pst} {pos p gpos : Pos} {scope : Scope} {own : List (Str × Nat)} {ixs : List Nat} {ds : List D}
theorem Fits.gx {X : Cx} {A : Around} {s : Shared} {H : Hp} {code : Value} {fp : List Addr} {pn : List (Addr × Obj)} (f : Fits Γ X) (hr : Room (Γ.k - 1) (A.deeper (gEnv X scope s code))) : Fits (Γ.gx scope) (gcx X A s H (gEnv X scope s code) fp pn) :=
  ⟨f.prog, f.w, f.K, f.mg, f.base, f.N, f.nd, rfl, by show X.env.qual ++ _ = _; rw [f.qual]; rfl, (fun c h => by cases h), rfl, hr, takes0, PassesOwn.never, (fun x h => by cases h), trivial⟩
theorem Wd.gx {C H : Hp} {σ : L2.St} {vs : List Nat} (w : Wd Γ C H σ δ μ) : Wd (Γ.gx scope) C H (wipe σ vs) (wipeD δ vs) μ := ⟨w.base, w.sub, (w.blk (scope := scope)).len, (w.blk (scope := scope) (vs := vs)).sl, w.mem, fun _ _ _ _ _ _ _ _ x => x.elim⟩
def gG (X : Cx) (k : Nat) (scope : Scope) (tg : Expr) : TG := fun v σ H Q => ∀ A s H' code fp pn, Room k (A.deeper (gEnv X scope s code)) → wG (gcx X A s H' (gEnv X scope s code) fp pn) tg v σ H Q
def teG (X : Cx) (k : Nat) (scope : Scope) (e : Expr) : TE := fun σ H Q => ∀ A s H' code fp pn, Room k (A.deeper (gEnv X scope s code)) → wE (gcx X A s H' (gEnv X scope s code) fp pn) e σ H Q
/-- what one item does: the element y of the items ys so far -/
def El (Γ : Gam) (δ : Sd) (μ : Mem) (scope : Scope) (tg elt : Expr) (vs ixs : List Nat) (d : D) (J : D → Prop) : Prop := Tg (Γ.gx scope) tg ixs d (wipeD δ vs) μ fun δ2 μ2 => μ2 = μ ∧ Ew (Γ.gx scope) δ2 μ elt fun y μ3 => μ3 = μ ∧ J y
theorem gx_rd (own : List (Str × Nat)) (ixs : List Nat) (hv : ∀ j ∈ ixs, j ∈ own.map (·.2)) {X : Cx} (hX : Fits Γ X) {cc PP : Addr} (hB : Γ.B PP = some (TbO PP)) {σ : L2.St} {C H : Hp} (w : Wd Γ C H σ δ μ) (Jy : Prop → List D → D → Mem → Prop) (Fd : List D → Mem → Prop) {fin : List V → Hp → Prop} {yk : List V → V → Hp → Prop → Prop}
    (h : Iw Γ δ μ tg iter fun ds μ1 => ds.length ≤ 100000 ∧ ∃ I : Nat → List D → Prop, I 0 [] ∧ (∀ i d dys, ds[i]? = some d → I i dys → El Γ δ μ1 scope tg elt (own.map (·.2)) ixs d fun y => Jy (I (i + 1) (dys ++ [y])) dys y μ1) ∧ ∀ dys, I ds.length dys → Fd dys μ1)
    (hfin : ∀ μ1 C' H' ys dys, Gr μ μ1 C H C' H' → Wd Γ C' H' σ δ μ1 → DatAll Γ.K C' ys dys → dys.length ≤ 100000 → Fd dys μ1 → fin ys H')
    (hyk : ∀ μ1 C' H' ys dys vy y (Wd' Wn : Prop), Gr μ μ1 C H C' H' → Wd Γ C' H' σ δ μ1 → DatAll Γ.K C' ys dys → dys.length < 100000 → Dat Γ.K C' vy y → Jy Wd' dys y μ1 → (Wd' → Wn) → yk ys vy H' Wn) :
    tGx (wI X tg iter) (gG X (Γ.k - 1) scope tg) (teG X (Γ.k - 1) scope elt) (own.map (·.2)) (fun H => H PP = some (TbO PP) ∧ Le Γ.B H) fin yk σ H := by
  refine h X hX σ C H _ w fun J ds μ1 C1 H1 g1 w1 wk ⟨hlen, I, i0, step, fd⟩ => ?_
  refine ⟨⟨w1.sub _ _ (w1.base _ _ hB), w1.base.trans w1.sub⟩, fun i m ys H' => m = ds.length - i ∧ i ≤ ds.length ∧ ∃ C' dys, Gr μ1 μ1 C1 H1 C' H' ∧ Le C' H' ∧ MemOk Γ.K C' H' μ1 ∧ DatAll Γ.K C' ys dys ∧ dys.length = i ∧ I i dys, ⟨_, rfl, Nat.zero_le _, C1, [], Gr.refl, w1.sub, w1.mem, .nil, rfl, i0⟩, ?_⟩
  rintro i m ys H' ⟨rfl, hi, C', dys, g, l, mo, ha, hl, hI⟩
  obtain ⟨wgo, wst⟩ := wk i C' H' g.core l
  have toWd : ∀ {C2 H2 : Hp}, Gr μ1 μ1 C1 H1 C2 H2 → Le C2 H2 → MemOk Γ.K C2 H2 μ1 → Wd Γ C2 H2 σ δ μ1 := fun {C2 H2} g2 l2 m2 => w1.gr g2 l2 m2
  by_cases hlt : i < ds.length
  · refine .inr ?_
    obtain ⟨hgo, hy⟩ := wgo _ (List.getElem?_eq_getElem hlt)
    refine ⟨hgo, fun x H2 hx => ?_⟩
    obtain ⟨C2, n2, r2⟩ := hy x H2 hx
    have mo2 := n2.mem mo
    intro A s Hs code fp pn hroom
    refine step i _ dys (List.getElem?_eq_getElem hlt) hI _ (hX.gx hroom) _ C2 H2 x _ ((toWd (g.trans n2.gr) n2.sub mo2).gx) r2 fun σ3 δ3 μ3 C3 H3 ag g3 w3 ⟨e3, q3⟩ => ?_
    subst e3
    refine ⟨ag.wipe hv, fun A s Hs code fp pn hroom => ?_⟩
    refine q3 _ (hX.gx hroom) σ3 C3 H3 _ w3 fun vy y μ4 C4 H4 g4 w4 r4 ⟨e4, q4⟩ => ?_
    subst e4
    have gg := ((g.trans n2.gr).trans g3).trans g4
    have da := DatAll.mono ((n2.core.trans g3.core).trans g4.core) _ _ ha
    exact hyk _ C4 H4 ys dys vy y _ _ (g1.trans gg) (toWd gg w4.sub w4.mem) da (by omega) r4 q4 fun hI' => ⟨ds.length - (i + 1), by omega, rfl, hlt, C4, dys ++ [y], gg, w4.sub, w4.mem, da.append (.cons r4 .nil), by simp [hl], hI'⟩
  · have e : i = ds.length := by omega
    subst e
    exact .inl ⟨wst (Nat.le_refl _), hfin μ1 C' H' ys dys (g1.trans g) (toWd g l mo) ha (by omega) (fd dys hI)⟩
theorem site_of {X : Cx} (hX : Fits Γ X) {cc PP : Addr} (h1 : Γ.code = some cc) (h2 : PySem.W.CodeHd Γ.base cc PP ∨ Γ.B cc = some (CdO cc PP)) (bm : Bm Γ.base Γ.mg) : ∀ H : Hp, (H PP = some (TbO PP) ∧ Le Γ.B H) → Gx.Site X H cc PP ∧ H PP = some (TbO PP) := fun H h => ⟨⟨hX.code _ h1, h2.elim (fun z => .inl (by rw [hX.base]; exact z)) (fun z => .inr (h.2 _ _ z)), by rw [hX.base, hX.mg]; exact bm⟩, h.1⟩
theorem int_all {K : PySem.W.Frag} {C : Hp} : ∀ {ys : List V} {dys : List D}, DatAll K C ys dys → (∀ y ∈ dys, ∃ k, y = .int k) → ∃ ns : List Int, dys = ns.map D.int ∧ ys = ns.map V.int
  | _, _, .nil, _ => ⟨[], rfl, rfl⟩
  | _, _, .cons r t, h => by
    obtain ⟨ns, h1, h2⟩ := int_all t fun y hy => h y (List.mem_cons_of_mem _ hy)
    obtain ⟨k, rfl⟩ := h _ List.mem_cons_self
    cases r
    exact ⟨k :: ns, by rw [h1]; rfl, by rw [h2]; rfl⟩
theorem ew_sumG (hf : Free Γ.mg) (S : Γ.Site) (hk : 1 ≤ Γ.k) (own : List (Str × Nat)) (ixs : List Nat) (hv : ∀ j ∈ ixs, j ∈ own.map (·.2)) (ok : BlkOk Γ.N Γ.sc scope own) (G : GScope1 scope)
    (h : Iw Γ δ μ tg iter fun ds μ1 => ds.length ≤ 100000 ∧ ∃ I : Nat → List D → Prop, I 0 [] ∧ (∀ i d dys, ds[i]? = some d → I i dys → El Γ δ μ1 scope tg elt (own.map (·.2)) ixs d fun y => (∃ k, y = .int k) ∧ I (i + 1) (dys ++ [y])) ∧ ∀ ns : List Int, I ds.length (ns.map D.int) → P (.int ns.sum) μ1)
    (hg : Γ.sc.names.lookup ("sum" : Str) = some .globalImplicit := by rfl) (hgf : ∀ env v, genFold iter env v = pure v := by intro _ _; rfl)
    (hst : ∀ env, starEach [.GeneratorExp elt [⟨tg, iter, [], 0⟩] scope gpos] env = (false, eval (.GeneratorExp elt [⟨tg, iter, [], 0⟩] scope gpos) env) :: starEach [] env := by intro _; rfl) :
    Ew Γ δ μ (.Call (.Name "sum" p) [.GeneratorExp elt [⟨tg, iter, [], 0⟩] scope gpos] [] pos) P := fun X hX σ C H Q w k => by
  obtain ⟨cc, PP, h1, h2, h3⟩ := S.ex
  have hkk : Γ.k - 1 + 1 = Γ.k := by omega
  refine PEw (pe_sumG (k := Γ.k - 1) (g := gG X (Γ.k - 1) scope tg) (te := teG X (Γ.k - 1) scope elt) hX.calm (by rw [hX.N]; exact hX.nd) (by rw [hkk]; exact hX.room) (hX.gl hg) (by rw [hX.mg]; exact hf _ (by decide)) wI_pi (own := own) (by rw [hX.N, hX.sc]; exact ok) G (site_of hX h1 h2 S.bm)
    (fun A s H code fp pn hr => ⟨fun pins s' σ H v u Q I r q => q A s _ code fp pn hr pins s' u I r⟩) (fun A s H code fp pn hr => ⟨fun pins s' σ H Q I q => q A s _ code fp pn hr pins s' I⟩) (hgf _) (hst _)) ?_
  refine gx_rd (cc := cc) own ixs hv hX h3 w (fun Wn dys y μ1 => (∃ k, y = .int k) ∧ Wn) (fun dys μ1 => (∀ y ∈ dys, ∃ k, y = D.int k) ∧ ∀ ns : List Int, dys = ns.map D.int → P (.int (ns.sum)) μ1) ?_ (fun μ1 C' H' ys dys g w' r hl ⟨f1, f2⟩ => ?_) (fun μ1 C' H' ys dys vy y Wd' Wn g w' r hl ry ⟨⟨i, e⟩, q⟩ hW => ?_)
  · intro X hX σ C H R w k
    refine h X hX σ C H R w fun J ds μ' C' H' g w' wk ⟨hl, I, i0, st, fd⟩ => k J ds μ' C' H' g w' wk ⟨hl, fun i dys => I i dys ∧ ∀ y ∈ dys, ∃ k, y = D.int k, ⟨i0, fun y hy => by cases hy⟩, fun i d dys e hI => ?_, fun dys hI => ⟨hI.2, fun ns e => fd ns (e ▸ hI.1)⟩⟩
    refine Tg.imp (st i d dys e hI.1) fun δ2 μ2 ⟨e2, q⟩ => ⟨e2, Ew.imp q fun y μ3 ⟨e3, ⟨k, e4⟩, q4⟩ => ⟨e3, ⟨k, e4⟩, q4, fun z hz => ?_⟩⟩
    rcases List.mem_append.mp hz with hz | hz
    · exact hI.2 z hz
    · exact ⟨k, by rw [show z = y by simpa using hz]; exact e4⟩
  · obtain ⟨ns, e1, e2⟩ := int_all r f1
    exact ⟨ns, e2, k _ _ μ1 C' H' g w' (.int _) (f2 ns e1)⟩
  · subst e
    cases ry
    exact ⟨⟨i, rfl⟩, hW q⟩
theorem ew_maxG (hf : Free Γ.mg) (S : Γ.Site) (hk : 1 ≤ Γ.k) (own : List (Str × Nat)) (ixs : List Nat) (hv : ∀ j ∈ ixs, j ∈ own.map (·.2)) (ok : BlkOk Γ.N Γ.sc scope own) (G : GScope1 scope)
    (h : Iw Γ δ μ tg iter fun ds μ1 => ds.length ≤ 100000 ∧ ∃ I : Nat → List D → Prop, I 0 [] ∧ (∀ i d dys, ds[i]? = some d → I i dys → El Γ δ μ1 scope tg elt (own.map (·.2)) ixs d fun y => (∃ k, y = .int k) ∧ I (i + 1) (dys ++ [y])) ∧ ∀ ns : List Int, I ds.length (ns.map D.int) → ns ≠ [] ∧ P (.int (maxI ns)) μ1)
    (hg : Γ.sc.names.lookup ("max" : Str) = some .globalImplicit := by rfl) (hgf : ∀ env v, genFold iter env v = pure v := by intro _ _; rfl)
    (hst : ∀ env, starEach [.GeneratorExp elt [⟨tg, iter, [], 0⟩] scope gpos] env = (false, eval (.GeneratorExp elt [⟨tg, iter, [], 0⟩] scope gpos) env) :: starEach [] env := by intro _; rfl) :
    Ew Γ δ μ (.Call (.Name "max" p) [.GeneratorExp elt [⟨tg, iter, [], 0⟩] scope gpos] [] pos) P := fun X hX σ C H Q w k => by
  obtain ⟨cc, PP, h1, h2, h3⟩ := S.ex
  have hkk : Γ.k - 1 + 1 = Γ.k := by omega
  refine PEw (pe_maxG (k := Γ.k - 1) (g := gG X (Γ.k - 1) scope tg) (te := teG X (Γ.k - 1) scope elt) hX.calm (by rw [hX.N]; exact hX.nd) (by rw [hkk]; exact hX.room) (hX.gl hg) (by rw [hX.mg]; exact hf _ (by decide)) wI_pi (own := own) (by rw [hX.N, hX.sc]; exact ok) G (site_of hX h1 h2 S.bm)
    (fun A s H code fp pn hr => ⟨fun pins s' σ H v u Q I r q => q A s _ code fp pn hr pins s' u I r⟩) (fun A s H code fp pn hr => ⟨fun pins s' σ H Q I q => q A s _ code fp pn hr pins s' I⟩) (hgf _) (hst _)) ?_
  refine gx_rd (cc := cc) own ixs hv hX h3 w (fun Wn dys y μ1 => (∃ k, y = .int k) ∧ Wn) (fun dys μ1 => (∀ y ∈ dys, ∃ k, y = D.int k) ∧ ∀ ns : List Int, dys = ns.map D.int → ns ≠ [] ∧ P (.int (maxI ns)) μ1) ?_ (fun μ1 C' H' ys dys g w' r hl ⟨f1, f2⟩ => ?_) (fun μ1 C' H' ys dys vy y Wd' Wn g w' r hl ry ⟨⟨i, e⟩, q⟩ hW => ?_)
  · intro X hX σ C H R w k
    refine h X hX σ C H R w fun J ds μ' C' H' g w' wk ⟨hl, I, i0, st, fd⟩ => k J ds μ' C' H' g w' wk ⟨hl, fun i dys => I i dys ∧ ∀ y ∈ dys, ∃ k, y = D.int k, ⟨i0, fun y hy => by cases hy⟩, fun i d dys e hI => ?_, fun dys hI => ⟨hI.2, fun ns e => fd ns (e ▸ hI.1)⟩⟩
    refine Tg.imp (st i d dys e hI.1) fun δ2 μ2 ⟨e2, q⟩ => ⟨e2, Ew.imp q fun y μ3 ⟨e3, ⟨k, e4⟩, q4⟩ => ⟨e3, ⟨k, e4⟩, q4, fun z hz => ?_⟩⟩
    rcases List.mem_append.mp hz with hz | hz
    · exact hI.2 z hz
    · exact ⟨k, by rw [show z = y by simpa using hz]; exact e4⟩
  · obtain ⟨ns, e1, e2⟩ := int_all r f1
    obtain ⟨hne, hp⟩ := f2 ns e1
    refine ⟨ns, e2, hne, fun m m1 m2 => ?_⟩
    rw [max_eq m1 m2]
    exact k _ _ μ1 C' H' g w' (.int _) hp
  · subst e
    cases ry
    exact ⟨⟨i, rfl⟩, hW q⟩
theorem ew_minG (hf : Free Γ.mg) (S : Γ.Site) (hk : 1 ≤ Γ.k) (own : List (Str × Nat)) (ixs : List Nat) (hv : ∀ j ∈ ixs, j ∈ own.map (·.2)) (ok : BlkOk Γ.N Γ.sc scope own) (G : GScope1 scope)
    (h : Iw Γ δ μ tg iter fun ds μ1 => ds.length ≤ 100000 ∧ ∃ I : Nat → List D → Prop, I 0 [] ∧ (∀ i d dys, ds[i]? = some d → I i dys → El Γ δ μ1 scope tg elt (own.map (·.2)) ixs d fun y => (∃ k, y = .int k) ∧ I (i + 1) (dys ++ [y])) ∧ ∀ ns : List Int, I ds.length (ns.map D.int) → ns ≠ [] ∧ P (.int (minI ns)) μ1)
    (hg : Γ.sc.names.lookup ("min" : Str) = some .globalImplicit := by rfl) (hgf : ∀ env v, genFold iter env v = pure v := by intro _ _; rfl)
    (hst : ∀ env, starEach [.GeneratorExp elt [⟨tg, iter, [], 0⟩] scope gpos] env = (false, eval (.GeneratorExp elt [⟨tg, iter, [], 0⟩] scope gpos) env) :: starEach [] env := by intro _; rfl) :
    Ew Γ δ μ (.Call (.Name "min" p) [.GeneratorExp elt [⟨tg, iter, [], 0⟩] scope gpos] [] pos) P := fun X hX σ C H Q w k => by
  obtain ⟨cc, PP, h1, h2, h3⟩ := S.ex
  have hkk : Γ.k - 1 + 1 = Γ.k := by omega
  refine PEw (pe_minG (k := Γ.k - 1) (g := gG X (Γ.k - 1) scope tg) (te := teG X (Γ.k - 1) scope elt) hX.calm (by rw [hX.N]; exact hX.nd) (by rw [hkk]; exact hX.room) (hX.gl hg) (by rw [hX.mg]; exact hf _ (by decide)) wI_pi (own := own) (by rw [hX.N, hX.sc]; exact ok) G (site_of hX h1 h2 S.bm)
    (fun A s H code fp pn hr => ⟨fun pins s' σ H v u Q I r q => q A s _ code fp pn hr pins s' u I r⟩) (fun A s H code fp pn hr => ⟨fun pins s' σ H Q I q => q A s _ code fp pn hr pins s' I⟩) (hgf _) (hst _)) ?_
  refine gx_rd (cc := cc) own ixs hv hX h3 w (fun Wn dys y μ1 => (∃ k, y = .int k) ∧ Wn) (fun dys μ1 => (∀ y ∈ dys, ∃ k, y = D.int k) ∧ ∀ ns : List Int, dys = ns.map D.int → ns ≠ [] ∧ P (.int (minI ns)) μ1) ?_ (fun μ1 C' H' ys dys g w' r hl ⟨f1, f2⟩ => ?_) (fun μ1 C' H' ys dys vy y Wd' Wn g w' r hl ry ⟨⟨i, e⟩, q⟩ hW => ?_)
  · intro X hX σ C H R w k
    refine h X hX σ C H R w fun J ds μ' C' H' g w' wk ⟨hl, I, i0, st, fd⟩ => k J ds μ' C' H' g w' wk ⟨hl, fun i dys => I i dys ∧ ∀ y ∈ dys, ∃ k, y = D.int k, ⟨i0, fun y hy => by cases hy⟩, fun i d dys e hI => ?_, fun dys hI => ⟨hI.2, fun ns e => fd ns (e ▸ hI.1)⟩⟩
    refine Tg.imp (st i d dys e hI.1) fun δ2 μ2 ⟨e2, q⟩ => ⟨e2, Ew.imp q fun y μ3 ⟨e3, ⟨k, e4⟩, q4⟩ => ⟨e3, ⟨k, e4⟩, q4, fun z hz => ?_⟩⟩
    rcases List.mem_append.mp hz with hz | hz
    · exact hI.2 z hz
    · exact ⟨k, by rw [show z = y by simpa using hz]; exact e4⟩
  · obtain ⟨ns, e1, e2⟩ := int_all r f1
    obtain ⟨hne, hp⟩ := f2 ns e1
    refine ⟨ns, e2, hne, fun m m1 m2 => ?_⟩
    rw [min_eq m1 m2]
    exact k _ _ μ1 C' H' g w' (.int _) hp
  · subst e
    cases ry
    exact ⟨⟨i, rfl⟩, hW q⟩
theorem ew_anyG (hf : Free Γ.mg) (S : Γ.Site) (hk : 1 ≤ Γ.k) (own : List (Str × Nat)) (ixs : List Nat) (hv : ∀ j ∈ ixs, j ∈ own.map (·.2)) (ok : BlkOk Γ.N Γ.sc scope own) (G : GScope1 scope)
    (h : Iw Γ δ μ tg iter fun ds μ1 => ds.length ≤ 100000 ∧ ∃ I : Nat → List D → Prop, I 0 [] ∧ (∀ i d dys, ds[i]? = some d → I i dys → El Γ δ μ1 scope tg elt (own.map (·.2)) ixs d fun y => ∃ t, y = .bl t ∧ (t = true → P (.bl true) μ1) ∧ (t = false → I (i + 1) (dys ++ [y]))) ∧ ∀ dys, I ds.length dys → P (.bl false) μ1)
    (hg : Γ.sc.names.lookup ("any" : Str) = some .globalImplicit := by rfl) (hgf : ∀ env v, genFold iter env v = pure v := by intro _ _; rfl)
    (hst : ∀ env, starEach [.GeneratorExp elt [⟨tg, iter, [], 0⟩] scope gpos] env = (false, eval (.GeneratorExp elt [⟨tg, iter, [], 0⟩] scope gpos) env) :: starEach [] env := by intro _; rfl) :
    Ew Γ δ μ (.Call (.Name "any" p) [.GeneratorExp elt [⟨tg, iter, [], 0⟩] scope gpos] [] pos) P := fun X hX σ C H Q w k => by
  obtain ⟨cc, PP, h1, h2, h3⟩ := S.ex
  have hkk : Γ.k - 1 + 1 = Γ.k := by omega
  refine PEw (pe_anyG (k := Γ.k - 1) (g := gG X (Γ.k - 1) scope tg) (te := teG X (Γ.k - 1) scope elt) hX.calm (by rw [hX.N]; exact hX.nd) (by rw [hkk]; exact hX.room) (hX.gl hg) (by rw [hX.mg]; exact hf _ (by decide)) wI_pi (own := own) (by rw [hX.N, hX.sc]; exact ok) G (site_of hX h1 h2 S.bm)
    (fun A s H code fp pn hr => ⟨fun pins s' σ H v u Q I r q => q A s _ code fp pn hr pins s' u I r⟩) (fun A s H code fp pn hr => ⟨fun pins s' σ H Q I q => q A s _ code fp pn hr pins s' I⟩) (hgf _) (hst _)) ?_
  refine gx_rd (cc := cc) own ixs hv hX h3 w (fun Wn dys y μ1 => ∃ t, y = .bl t ∧ (t = true → P (.bl true) μ1) ∧ (t = false → Wn)) (fun dys μ1 => P (.bl false) μ1) h (fun μ1 C' H' ys dys g w' r hl f1 => k _ _ μ1 C' H' g w' (.bl _) f1) (fun μ1 C' H' ys dys vy y Wd' Wn g w' r hl ry ⟨t, e, q1, q2⟩ hW => ?_)
  subst e
  cases ry
  exact ⟨t, rfl, fun z => k _ _ μ1 C' H' g w' (.bl _) (q1 z), fun z => hW (q2 z)⟩
theorem ew_allG (hf : Free Γ.mg) (S : Γ.Site) (hk : 1 ≤ Γ.k) (own : List (Str × Nat)) (ixs : List Nat) (hv : ∀ j ∈ ixs, j ∈ own.map (·.2)) (ok : BlkOk Γ.N Γ.sc scope own) (G : GScope1 scope)
    (h : Iw Γ δ μ tg iter fun ds μ1 => ds.length ≤ 100000 ∧ ∃ I : Nat → List D → Prop, I 0 [] ∧ (∀ i d dys, ds[i]? = some d → I i dys → El Γ δ μ1 scope tg elt (own.map (·.2)) ixs d fun y => ∃ t, y = .bl t ∧ (t = false → P (.bl false) μ1) ∧ (t = true → I (i + 1) (dys ++ [y]))) ∧ ∀ dys, I ds.length dys → P (.bl true) μ1)
    (hg : Γ.sc.names.lookup ("all" : Str) = some .globalImplicit := by rfl) (hgf : ∀ env v, genFold iter env v = pure v := by intro _ _; rfl)
    (hst : ∀ env, starEach [.GeneratorExp elt [⟨tg, iter, [], 0⟩] scope gpos] env = (false, eval (.GeneratorExp elt [⟨tg, iter, [], 0⟩] scope gpos) env) :: starEach [] env := by intro _; rfl) :
    Ew Γ δ μ (.Call (.Name "all" p) [.GeneratorExp elt [⟨tg, iter, [], 0⟩] scope gpos] [] pos) P := fun X hX σ C H Q w k => by
  obtain ⟨cc, PP, h1, h2, h3⟩ := S.ex
  have hkk : Γ.k - 1 + 1 = Γ.k := by omega
  refine PEw (pe_allG (k := Γ.k - 1) (g := gG X (Γ.k - 1) scope tg) (te := teG X (Γ.k - 1) scope elt) hX.calm (by rw [hX.N]; exact hX.nd) (by rw [hkk]; exact hX.room) (hX.gl hg) (by rw [hX.mg]; exact hf _ (by decide)) wI_pi (own := own) (by rw [hX.N, hX.sc]; exact ok) G (site_of hX h1 h2 S.bm)
    (fun A s H code fp pn hr => ⟨fun pins s' σ H v u Q I r q => q A s _ code fp pn hr pins s' u I r⟩) (fun A s H code fp pn hr => ⟨fun pins s' σ H Q I q => q A s _ code fp pn hr pins s' I⟩) (hgf _) (hst _)) ?_
  refine gx_rd (cc := cc) own ixs hv hX h3 w (fun Wn dys y μ1 => ∃ t, y = .bl t ∧ (t = false → P (.bl false) μ1) ∧ (t = true → Wn)) (fun dys μ1 => P (.bl true) μ1) h (fun μ1 C' H' ys dys g w' r hl f1 => k _ _ μ1 C' H' g w' (.bl _) f1) (fun μ1 C' H' ys dys vy y Wd' Wn g w' r hl ry ⟨t, e, q1, q2⟩ hW => ?_)
  subst e
  cases ry
  exact ⟨t, rfl, fun z => k _ _ μ1 C' H' g w' (.bl _) (q1 z), fun z => hW (q2 z)⟩
theorem ew_tupleG (hf : Free Γ.mg) (S : Γ.Site) (hk : 1 ≤ Γ.k) (own : List (Str × Nat)) (ixs : List Nat) (hv : ∀ j ∈ ixs, j ∈ own.map (·.2)) (ok : BlkOk Γ.N Γ.sc scope own) (G : GScope1 scope)
    (h : Iw Γ δ μ tg iter fun ds μ1 => ds.length ≤ 100000 ∧ ∃ I : Nat → List D → Prop, I 0 [] ∧ (∀ i d dys, ds[i]? = some d → I i dys → El Γ δ μ1 scope tg elt (own.map (·.2)) ixs d fun y => I (i + 1) (dys ++ [y])) ∧ ∀ dys, I ds.length dys → P (.tup dys) μ1)
    (hg : Γ.sc.names.lookup ("tuple" : Str) = some .globalImplicit := by rfl) (hgf : ∀ env v, genFold iter env v = pure v := by intro _ _; rfl)
    (hst : ∀ env, starEach [.GeneratorExp elt [⟨tg, iter, [], 0⟩] scope gpos] env = (false, eval (.GeneratorExp elt [⟨tg, iter, [], 0⟩] scope gpos) env) :: starEach [] env := by intro _; rfl) :
    Ew Γ δ μ (.Call (.Name "tuple" p) [.GeneratorExp elt [⟨tg, iter, [], 0⟩] scope gpos] [] pos) P := fun X hX σ C H Q w k => by
  obtain ⟨cc, PP, h1, h2, h3⟩ := S.ex
  have hkk : Γ.k - 1 + 1 = Γ.k := by omega
  refine PEw (pe_tupleG (k := Γ.k - 1) (g := gG X (Γ.k - 1) scope tg) (te := teG X (Γ.k - 1) scope elt) hX.calm (by rw [hX.N]; exact hX.nd) (by rw [hkk]; exact hX.room) (hX.gl hg) (by rw [hX.mg]; exact hf _ (by decide)) wI_pi (own := own) (by rw [hX.N, hX.sc]; exact ok) G (site_of hX h1 h2 S.bm)
    (fun A s H code fp pn hr => ⟨fun pins s' σ H v u Q I r q => q A s _ code fp pn hr pins s' u I r⟩) (fun A s H code fp pn hr => ⟨fun pins s' σ H Q I q => q A s _ code fp pn hr pins s' I⟩) (hgf _) (hst _)) ?_
  refine gx_rd (cc := cc) own ixs hv hX h3 w (fun Wn dys y μ1 => Wn) (fun dys μ1 => P (.tup dys) μ1) h (fun μ1 C' H' ys dys g w' r hl f1 => fun q hq => ?_) (fun μ1 C' H' ys dys vy y Wd' Wn g w' r hl ry q hW => ⟨Nat.lt_of_le_of_lt (by rw [r.len]; omega : ys.length ≤ 100000) (by decide), hW q⟩)
  have n := Nw.add (o := .tup ys) w'.sub hq
  exact k _ _ μ1 _ _ (g.trans n.gr) (w'.nw n) (.tup (.inl upd_same) (DatAll.mono n.core _ _ r)) f1
/-! by lists of a type -/
theorem el_n (i : Nat) {x : Str} {pos : Pos} {vs : List Nat} {d : D} {J : D → Prop} (h : Ew (Γ.gx scope) ((wipeD δ vs).set i (some d)) μ elt fun y μ3 => μ3 = μ ∧ J y) (hN : Γ.N[i]? = some x := by rfl) (hx : scope.names.lookup x = some .local := by rfl) : El Γ δ μ scope (.Name x pos) elt vs [i] d J :=
  tg_n (Γ := Γ.gx scope) i ⟨rfl, h⟩ hN (.inl hx) (.inl hx)
theorem el_v (i : Nat) {x : Str} {pos : Pos} {vs : List Nat} {d y : D} (h : Ev (Γ.gx scope) ((wipeD δ vs).set i (some d)) μ elt y) (hN : Γ.N[i]? = some x := by rfl) (hx : scope.names.lookup x = some .local := by rfl) : El Γ δ μ scope (.Name x pos) elt vs [i] d fun y' => y' = y :=
  el_n i (h.w ⟨rfl, rfl⟩) hN hx
theorem el_2 (i j : Nat) {x y : Str} {px py pt : Pos} {kt : Nat} {vs : List Nat} {a b z : D} (h : Ev (Γ.gx scope) (((wipeD δ vs).set i (some a)).set j (some b)) μ elt z) (hN : Γ.N[i]? = some x := by rfl) (hM : Γ.N[j]? = some y := by rfl) (hx : scope.names.lookup x = some .local := by rfl) (hy : scope.names.lookup y = some .local := by rfl) :
    El Γ δ μ scope (.Tuple [.Name x px, .Name y py] kt pt) elt vs ([i] ++ ([j] ++ [])) (.tup [a, b]) fun z' => z' = z :=
  tg_tup (Γ := Γ.gx scope) (ds := [a, b]) (tgs_cons (Γ := Γ.gx scope) (tg_n (Γ := Γ.gx scope) i (tgs_cons (Γ := Γ.gx scope) (tg_n (Γ := Γ.gx scope) j (tgs_nil (Γ := Γ.gx scope) ⟨rfl, h.w ⟨rfl, rfl⟩⟩) hM (.inl hy) (.inl hy))) hN (.inl hx) (.inl hx)))
theorem take_map {α β : Type} {xs : List α} {f : α → β} {i : Nat} {x : α} (h : xs[i]? = some x) : (xs.take (i + 1)).map f = (xs.take i).map f ++ [f x] := by
  rw [List.take_add_one, h]
  simp
theorem map_at {α : Type} {xs : List α} {g : α → D} {i : Nat} {d : D} (h : (xs.map g)[i]? = some d) : ∃ x, xs[i]? = some x ∧ d = g x := by
  rw [List.getElem?_map] at h
  obtain ⟨x, h1, h2⟩ := Option.map_eq_some_iff.mp h
  exact ⟨x, h1, h2.symm⟩
theorem map_int_inj' {ns ms : List Int} (h : ns.map D.int = ms.map D.int) : ns = ms := by
  induction ns generalizing ms with
  | nil => cases ms with
    | nil => rfl
    | cons m ms => cases h
  | cons n ns ih => cases ms with
    | nil => cases h
    | cons m ms =>
      rw [List.map_cons, List.map_cons] at h
      injection h with h1 h2
      injection h1 with h1
      rw [h1, ih h2]
theorem ev_sumG {α : Type} (xs : List α) (g : α → D) (f : α → Int) (hf : Free Γ.mg) (S : Γ.Site) (own : List (Str × Nat)) (ixs : List Nat) (hi : Iv Γ δ μ tg iter (xs.map g)) (hlen : xs.length ≤ 100000) (he : ∀ x ∈ xs, El Γ δ μ scope tg elt (own.map (·.2)) ixs (g x) fun y => y = .int (f x)) (hk : 1 ≤ Γ.k := by decide) (hv : ∀ j ∈ ixs, j ∈ own.map (·.2) := by decide) (ok : BlkOk Γ.N Γ.sc scope own := by exact L2.blkOk_by (by kernel_rfl)) (G : GScope1 scope := by exact Gx.gsc_by (by kernel_rfl))
    (hg : Γ.sc.names.lookup ("sum" : Str) = some .globalImplicit := by rfl) (hgf : ∀ env v, genFold iter env v = pure v := by intro _ _; rfl)
    (hst : ∀ env, starEach [.GeneratorExp elt [⟨tg, iter, [], 0⟩] scope gpos] env = (false, eval (.GeneratorExp elt [⟨tg, iter, [], 0⟩] scope gpos) env) :: starEach [] env := by intro _; rfl) :
    Ev Γ δ μ (.Call (.Name "sum" p) [.GeneratorExp elt [⟨tg, iter, [], 0⟩] scope gpos] [] pos) (.int (xs.map f).sum) := ew_sumG hf S hk own ixs hv ok G (hi.w ⟨by rw [List.length_map]; exact hlen, fun i dys => dys = (xs.take i).map fun x => D.int (f x), rfl, fun i d dys e hI => by
    obtain ⟨x, h1, rfl⟩ := map_at e
    refine Tg.imp (he x (List.mem_of_getElem? h1)) fun δ2 μ2 ⟨e2, q⟩ => ⟨e2, Ew.imp q fun y μ3 ⟨e3, e4⟩ => ⟨e3, ?_⟩⟩
    have st : dys ++ [y] = (xs.take (i + 1)).map fun x => D.int (f x) := by rw [hI, e4]; exact (take_map (f := fun x => D.int (f x)) h1).symm
    exact ⟨⟨_, e4⟩, st⟩, fun ns hI => by
    have e : ns = xs.map f := map_int_inj' (by rw [hI, List.length_map, List.take_length, List.map_map]; rfl)
    rw [e]
    exact ⟨rfl, rfl⟩⟩) hg hgf hst
theorem ev_maxG {α : Type} (xs : List α) (g : α → D) (f : α → Int) (hf : Free Γ.mg) (S : Γ.Site) (own : List (Str × Nat)) (ixs : List Nat) (hi : Iv Γ δ μ tg iter (xs.map g)) (hlen : xs.length ≤ 100000) (hne : xs ≠ []) (he : ∀ x ∈ xs, El Γ δ μ scope tg elt (own.map (·.2)) ixs (g x) fun y => y = .int (f x)) (hk : 1 ≤ Γ.k := by decide) (hv : ∀ j ∈ ixs, j ∈ own.map (·.2) := by decide) (ok : BlkOk Γ.N Γ.sc scope own := by exact L2.blkOk_by (by kernel_rfl)) (G : GScope1 scope := by exact Gx.gsc_by (by kernel_rfl))
    (hg : Γ.sc.names.lookup ("max" : Str) = some .globalImplicit := by rfl) (hgf : ∀ env v, genFold iter env v = pure v := by intro _ _; rfl)
    (hst : ∀ env, starEach [.GeneratorExp elt [⟨tg, iter, [], 0⟩] scope gpos] env = (false, eval (.GeneratorExp elt [⟨tg, iter, [], 0⟩] scope gpos) env) :: starEach [] env := by intro _; rfl) :
    Ev Γ δ μ (.Call (.Name "max" p) [.GeneratorExp elt [⟨tg, iter, [], 0⟩] scope gpos] [] pos) (.int (maxI (xs.map f))) := ew_maxG hf S hk own ixs hv ok G (hi.w ⟨by rw [List.length_map]; exact hlen, fun i dys => dys = (xs.take i).map fun x => D.int (f x), rfl, fun i d dys e hI => by
    obtain ⟨x, h1, rfl⟩ := map_at e
    refine Tg.imp (he x (List.mem_of_getElem? h1)) fun δ2 μ2 ⟨e2, q⟩ => ⟨e2, Ew.imp q fun y μ3 ⟨e3, e4⟩ => ⟨e3, ?_⟩⟩
    have st : dys ++ [y] = (xs.take (i + 1)).map fun x => D.int (f x) := by rw [hI, e4]; exact (take_map (f := fun x => D.int (f x)) h1).symm
    exact ⟨⟨_, e4⟩, st⟩, fun ns hI => by
    have e : ns = xs.map f := map_int_inj' (by rw [hI, List.length_map, List.take_length, List.map_map]; rfl)
    rw [e]
    exact ⟨by simpa using hne, rfl, rfl⟩⟩) hg hgf hst
theorem ev_minG {α : Type} (xs : List α) (g : α → D) (f : α → Int) (hf : Free Γ.mg) (S : Γ.Site) (own : List (Str × Nat)) (ixs : List Nat) (hi : Iv Γ δ μ tg iter (xs.map g)) (hlen : xs.length ≤ 100000) (hne : xs ≠ []) (he : ∀ x ∈ xs, El Γ δ μ scope tg elt (own.map (·.2)) ixs (g x) fun y => y = .int (f x)) (hk : 1 ≤ Γ.k := by decide) (hv : ∀ j ∈ ixs, j ∈ own.map (·.2) := by decide) (ok : BlkOk Γ.N Γ.sc scope own := by exact L2.blkOk_by (by kernel_rfl)) (G : GScope1 scope := by exact Gx.gsc_by (by kernel_rfl))
    (hg : Γ.sc.names.lookup ("min" : Str) = some .globalImplicit := by rfl) (hgf : ∀ env v, genFold iter env v = pure v := by intro _ _; rfl)
    (hst : ∀ env, starEach [.GeneratorExp elt [⟨tg, iter, [], 0⟩] scope gpos] env = (false, eval (.GeneratorExp elt [⟨tg, iter, [], 0⟩] scope gpos) env) :: starEach [] env := by intro _; rfl) :
    Ev Γ δ μ (.Call (.Name "min" p) [.GeneratorExp elt [⟨tg, iter, [], 0⟩] scope gpos] [] pos) (.int (minI (xs.map f))) := ew_minG hf S hk own ixs hv ok G (hi.w ⟨by rw [List.length_map]; exact hlen, fun i dys => dys = (xs.take i).map fun x => D.int (f x), rfl, fun i d dys e hI => by
    obtain ⟨x, h1, rfl⟩ := map_at e
    refine Tg.imp (he x (List.mem_of_getElem? h1)) fun δ2 μ2 ⟨e2, q⟩ => ⟨e2, Ew.imp q fun y μ3 ⟨e3, e4⟩ => ⟨e3, ?_⟩⟩
    have st : dys ++ [y] = (xs.take (i + 1)).map fun x => D.int (f x) := by rw [hI, e4]; exact (take_map (f := fun x => D.int (f x)) h1).symm
    exact ⟨⟨_, e4⟩, st⟩, fun ns hI => by
    have e : ns = xs.map f := map_int_inj' (by rw [hI, List.length_map, List.take_length, List.map_map]; rfl)
    rw [e]
    exact ⟨by simpa using hne, rfl, rfl⟩⟩) hg hgf hst
theorem ev_tupleG {α : Type} (xs : List α) (g : α → D) (f : α → D) (hf : Free Γ.mg) (S : Γ.Site) (own : List (Str × Nat)) (ixs : List Nat) (hi : Iv Γ δ μ tg iter (xs.map g)) (hlen : xs.length ≤ 100000) (he : ∀ x ∈ xs, El Γ δ μ scope tg elt (own.map (·.2)) ixs (g x) fun y => y =  (f x)) (hk : 1 ≤ Γ.k := by decide) (hv : ∀ j ∈ ixs, j ∈ own.map (·.2) := by decide) (ok : BlkOk Γ.N Γ.sc scope own := by exact L2.blkOk_by (by kernel_rfl)) (G : GScope1 scope := by exact Gx.gsc_by (by kernel_rfl))
    (hg : Γ.sc.names.lookup ("tuple" : Str) = some .globalImplicit := by rfl) (hgf : ∀ env v, genFold iter env v = pure v := by intro _ _; rfl)
    (hst : ∀ env, starEach [.GeneratorExp elt [⟨tg, iter, [], 0⟩] scope gpos] env = (false, eval (.GeneratorExp elt [⟨tg, iter, [], 0⟩] scope gpos) env) :: starEach [] env := by intro _; rfl) :
    Ev Γ δ μ (.Call (.Name "tuple" p) [.GeneratorExp elt [⟨tg, iter, [], 0⟩] scope gpos] [] pos) (.tup (xs.map f)) := ew_tupleG hf S hk own ixs hv ok G (hi.w ⟨by rw [List.length_map]; exact hlen, fun i dys => dys = (xs.take i).map fun x =>  (f x), rfl, fun i d dys e hI => by
    obtain ⟨x, h1, rfl⟩ := map_at e
    refine Tg.imp (he x (List.mem_of_getElem? h1)) fun δ2 μ2 ⟨e2, q⟩ => ⟨e2, Ew.imp q fun y μ3 ⟨e3, e4⟩ => ⟨e3, ?_⟩⟩
    have st : dys ++ [y] = (xs.take (i + 1)).map fun x =>  (f x) := by rw [hI, e4]; exact (take_map (f := fun x =>  (f x)) h1).symm
    exact st, fun dys hI => ⟨by rw [hI, List.length_map, List.take_length], rfl⟩⟩) hg hgf hst
theorem ev_anyG {α : Type} (xs : List α) (g : α → D) (f : α → Bool) (hf : Free Γ.mg) (S : Γ.Site) (own : List (Str × Nat)) (ixs : List Nat) (hi : Iv Γ δ μ tg iter (xs.map g)) (hlen : xs.length ≤ 100000) (he : ∀ x ∈ xs, El Γ δ μ scope tg elt (own.map (·.2)) ixs (g x) fun y => y = .bl (f x)) (hk : 1 ≤ Γ.k := by decide) (hv : ∀ j ∈ ixs, j ∈ own.map (·.2) := by decide) (ok : BlkOk Γ.N Γ.sc scope own := by exact L2.blkOk_by (by kernel_rfl)) (G : GScope1 scope := by exact Gx.gsc_by (by kernel_rfl))
    (hg : Γ.sc.names.lookup ("any" : Str) = some .globalImplicit := by rfl) (hgf : ∀ env v, genFold iter env v = pure v := by intro _ _; rfl)
    (hst : ∀ env, starEach [.GeneratorExp elt [⟨tg, iter, [], 0⟩] scope gpos] env = (false, eval (.GeneratorExp elt [⟨tg, iter, [], 0⟩] scope gpos) env) :: starEach [] env := by intro _; rfl) :
    Ev Γ δ μ (.Call (.Name "any" p) [.GeneratorExp elt [⟨tg, iter, [], 0⟩] scope gpos] [] pos) (.bl (xs.any f)) := ew_anyG hf S hk own ixs hv ok G (hi.w ⟨by rw [List.length_map]; exact hlen, fun i dys => (xs.take i).any f = false, rfl, fun i d dys e hI => by
    obtain ⟨x, h1, rfl⟩ := map_at e
    refine Tg.imp (he x (List.mem_of_getElem? h1)) fun δ2 μ2 ⟨e2, q⟩ => ⟨e2, Ew.imp q fun y μ3 ⟨e3, e4⟩ => ⟨e3, f x, e4, fun z => ⟨?_, rfl⟩, fun z => ?_⟩⟩
    · rw [List.any_eq_true.mpr ⟨x, List.mem_of_getElem? h1, z⟩]
    · show (xs.take (i + 1)).any f = false
      rw [List.take_add_one, h1, List.any_append, show (xs.take i).any f = false from hI]
      simp [z], fun dys hI => ⟨by rw [List.length_map, List.take_length] at hI; rw [hI], rfl⟩⟩) hg hgf hst
theorem ev_allG {α : Type} (xs : List α) (g : α → D) (f : α → Bool) (hf : Free Γ.mg) (S : Γ.Site) (own : List (Str × Nat)) (ixs : List Nat) (hi : Iv Γ δ μ tg iter (xs.map g)) (hlen : xs.length ≤ 100000) (he : ∀ x ∈ xs, El Γ δ μ scope tg elt (own.map (·.2)) ixs (g x) fun y => y = .bl (f x)) (hk : 1 ≤ Γ.k := by decide) (hv : ∀ j ∈ ixs, j ∈ own.map (·.2) := by decide) (ok : BlkOk Γ.N Γ.sc scope own := by exact L2.blkOk_by (by kernel_rfl)) (G : GScope1 scope := by exact Gx.gsc_by (by kernel_rfl))
    (hg : Γ.sc.names.lookup ("all" : Str) = some .globalImplicit := by rfl) (hgf : ∀ env v, genFold iter env v = pure v := by intro _ _; rfl)
    (hst : ∀ env, starEach [.GeneratorExp elt [⟨tg, iter, [], 0⟩] scope gpos] env = (false, eval (.GeneratorExp elt [⟨tg, iter, [], 0⟩] scope gpos) env) :: starEach [] env := by intro _; rfl) :
    Ev Γ δ μ (.Call (.Name "all" p) [.GeneratorExp elt [⟨tg, iter, [], 0⟩] scope gpos] [] pos) (.bl (xs.all f)) := ew_allG hf S hk own ixs hv ok G (hi.w ⟨by rw [List.length_map]; exact hlen, fun i dys => (xs.take i).all f = true, rfl, fun i d dys e hI => by
    obtain ⟨x, h1, rfl⟩ := map_at e
    refine Tg.imp (he x (List.mem_of_getElem? h1)) fun δ2 μ2 ⟨e2, q⟩ => ⟨e2, Ew.imp q fun y μ3 ⟨e3, e4⟩ => ⟨e3, f x, e4, fun z => ⟨?_, rfl⟩, fun z => ?_⟩⟩
    · rw [List.all_eq_false.mpr ⟨x, List.mem_of_getElem? h1, by simp [z]⟩]
    · show (xs.take (i + 1)).all f = true
      rw [List.take_add_one, h1, List.all_append, show (xs.take i).all f = true from hI]
      simp [z], fun dys hI => ⟨by rw [List.length_map, List.take_length] at hI; rw [hI], rfl⟩⟩) hg hgf hst
end
end Dl

set_option maxRecDepth 100000
set_option maxHeartbeats 2000000
namespace Dl
open PySem PySem.Spec PyProof.Rows L2
/-! ### the memory at any place -/
section
variable {K : PySem.W.Frag} {μ ν : Mem} {C H : Hp} {x : Addr} {m m' : MO} {o : HO}
theorem MemOk.perm {μ' : Mem} (h : MemOk K C H μ) (p : μ.Perm μ') : MemOk K C H μ' := ⟨(p.map _).nodup_iff.mp h.nd, fun q hq => h.ok q (p.mem_iff.mpr hq)⟩
theorem MemOk.updM (h : MemOk K C H (μ ++ (x, m) :: ν)) (q : MoOk K C o m') : MemOk K C (L2.upd H x o) (μ ++ (x, m') :: ν) := ((h.perm List.perm_middle).upd q).perm List.perm_middle.symm
theorem MemOk.frzM (h : MemOk K C H (μ ++ (x, m) :: ν)) (e : H x = some o) : MemOk K (L2.upd C x o) H (μ ++ ν) := (h.perm List.perm_middle).frz e
theorem dom_mid : dom (μ ++ (x, m) :: ν) = dom μ ++ x :: dom ν := by rw [dom_app]; rfl
theorem Gr.updM : Gr (μ ++ (x, m) :: ν) (μ ++ (x, m') :: ν) C H C (L2.upd H x o) := Gr.upd (by rw [dom_mid]; simp) fun b hb => by rw [dom_mid] at hb ⊢; exact hb
theorem Gr.frzM (hx : C x = none) : Gr (μ ++ (x, m) :: ν) (μ ++ ν) C H (L2.upd C x o) H := ⟨Le.new hx, fun b _ n e => by rw [upd_ne (fun z => n (by rw [z, dom_mid]; simp))]; exact e, fun _ _ _ e => e, fun _ h => h, fun b hb => .inl (by
  rw [dom_app] at hb
  rw [dom_mid]
  rcases List.mem_append.mp hb with z | z
  · exact List.mem_append_left _ z
  · exact List.mem_append_right _ (List.mem_cons_of_mem _ z))⟩
theorem MemOk.at_ (h : MemOk K C H (μ ++ (x, m) :: ν)) : C x = none ∧ ∃ o, H x = some o ∧ MoOk K C o m := h.ok (x, m) (by simp)
end
section
variable {Γ : Gam} {δ : Sd} {μ : Mem} {e o a b c : Expr} {es : List Expr} {d d1 d2 d3 : D} {P : Pst} {pos p apos cpos : Pos} {F : Fin} {l : Addr}
/-! ### new lists that change -/
theorem ew_lstM (h : Aw Γ δ μ es fun ds μ' => ds.length ≤ 100000 ∧ ∀ q, P (.adr q) ((q, .lst ds) :: μ')) : Ew Γ δ μ (.List es pos) P := fun X hX σ C H Q w k =>
  PEw (pe_lst wA_pa) (h X hX σ C H _ w fun vs ds μ' C' H' g w' r ⟨hl, p⟩ => ⟨Nat.le_trans (by rw [r.len]; exact hl) (by decide), fun q hq => by
    have gg : Gr μ ((q, .lst ds) :: μ') C H C' (L2.upd H' q (.lst vs)) := g.trans (Gr.newM hq)
    exact k _ _ _ _ _ gg (w.gr gg (w'.sub.updH (w'.sub.none hq)) (w'.mem.newM hq w'.sub ⟨vs, rfl, r⟩)) (.adr q) (p q)⟩)
theorem ew_nilM (h : ∀ q, P (.adr q) ((q, .lst []) :: μ)) : Ew Γ δ μ (.List [] pos) P := ew_lstM (aw_nil ⟨by decide, h⟩)
/-- any list value, made to change: list(..), a comprehension .. -/
theorem run_frz {sts : List Stmt} (i : Nat) {ν1 ν2 : Mem} {ds : List D} (hi : δ[i]? = some (some (.adr l)) := by rfl) (h : Run Γ (δ.set i (some (.lst ds))) (ν1 ++ ν2) sts F) : Run Γ δ (ν1 ++ (l, .lst ds) :: ν2) sts F := fun X hX σ C H w => by
  obtain ⟨eC, o, ho, vs, eo, ha⟩ := w.mem.at_
  subst eo
  have gg : Gr (ν1 ++ (l, .lst ds) :: ν2) (ν1 ++ ν2) C H (L2.upd C l (.lst vs)) H := Gr.frzM eC
  have w' := w.gr gg (w.sub.upd1 ho) (w.mem.frzM ho)
  have w2 : Wd Γ (L2.upd C l (.lst vs)) H σ (δ.set i (some (.lst ds))) (ν1 ++ ν2) := ⟨w'.base, w'.sub, by rw [List.length_set]; exact w'.len, fun j d e => by
    rw [List.getElem?_set] at e
    split at e
    · rename_i q
      split at e
      · cases e
        obtain ⟨v, e1, e2⟩ := w'.sl i _ hi
        cases e2
        exact ⟨_, by rw [← q]; exact e1, .lst upd_same (DatAll.mono (Le.new eC) _ _ ha)⟩
      · cases e
    · exact w'.sl j d e, w'.mem, w'.exc⟩
  exact h.from_ hX w2 gg
/-! ### o.append(e) -/
theorem ew_append (ho : Ev Γ δ μ o (.adr l)) (he : Ew Γ δ μ e fun y μ1 => ∃ ν1 ds ν2, μ1 = ν1 ++ (l, .lst ds) :: ν2 ∧ ds.length < 100000 ∧ P .non (ν1 ++ (l, .lst (ds ++ [y])) :: ν2)) (hin : ∃ ds, (l, MO.lst ds) ∈ μ)
    (hbase : ∀ env, attributeBase o "append" env (eval o env) = eval o env := by intro _; rfl)
    (hfew : ∀ env, ((backTo cpos (starEach [e] env)).all (fun x => !x.1) && (backToKw cpos (keywordEach [] env)).all (fun x => x.1.isSome)
      && decide ([e].length + ([] : List Keyword).length + (if ([] : List Keyword).isEmpty then 0 else 1) < 30)) = true := by intro _; rfl)
    (hline : (apos.endLine == cpos.line) = true := by rfl) (hs : ∀ env, starEach [e] env = (false, eval e env) :: starEach [] env := by intro _; rfl) : Ew Γ δ μ (.Call (.Attribute o "append" apos) [e] [] cpos) P := fun X hX σ C H Q w k =>
  PEw (pe_bm PySem.F.plainAttrs_list PySem.F.slot_list_append PySem.F.type_list_append mt_append wE_pe (pa_cons wE_pe pa_nil (hs _)) (hbase _) (hfew _) hline (hs _)) (ho X hX σ C H _ w fun v d μ1 C1 H1 g1 w1 r1 ⟨e1, e2⟩ => by
    subst e1; subst e2
    cases r1
    obtain ⟨ds0, hm⟩ := hin
    obtain ⟨_, o1, ho1, vs1, eo1, _⟩ := w1.mem.ok _ hm
    subst eo1
    refine ⟨.inl ⟨rfl, vs1, .inl (.inl ho1)⟩, ?_⟩
    refine he X hX σ C1 H1 _ w1 fun v2 y μ2 C2 H2 g2 w2 r2 ⟨ν1, ds, ν2, e3, hl, hp⟩ => ?_
    subst e3
    obtain ⟨eC, o, ho, vs, eo, ha⟩ := w2.mem.at_
    subst eo
    have da : DatAll Γ.K C2 (vs ++ [v2]) (ds ++ [y]) := ha.append (.cons r2 .nil)
    have gg : Gr μ1 (ν1 ++ (l, .lst (ds ++ [y])) :: ν2) C H C2 (L2.upd H2 l (.lst (vs ++ [v2]))) := (g1.trans g2).trans Gr.updM
    exact ⟨l, vs, v2, rfl, rfl, ho, Nat.lt_of_lt_of_le (by rw [ha.len]; exact hl) (by decide), k .non .non _ _ _ gg (w.gr gg (w2.sub.updH eC) (w2.mem.updM ⟨_, rfl, da⟩)) .non hp⟩)
/-! ### o[i] = v -/
theorem tg_setM {P : Sd → Mem → Prop} {i : Int} {j : Nat} {ν1 ν2 : Mem} {ds : List D} (ho : Ev Γ δ (ν1 ++ (l, .lst ds) :: ν2) o (.adr l)) (hi : Ev Γ δ (ν1 ++ (l, .lst ds) :: ν2) a (.int i)) (hj : ixN ds.length i = some j) (h : P δ (ν1 ++ (l, .lst (ds.set j d)) :: ν2))
    (ha : ∀ env v, assign (.Subscript o a pos) env v = (do
      let ov ← holding [v] (eval o env)
      let iv ← holding [v, ov] (eval a env)
      standAt pos
      holding [v, ov, iv] (setItem ov iv v)
      release [v, ov, iv] []) := by intro _ _; rfl) : Tg Γ (.Subscript o a pos) [] d δ (ν1 ++ (l, .lst ds) :: ν2) P := fun X hX σ C H v Q w r k =>
  PGw (pg_sub wE_pe wE_pe set_list (ha _)) (ho X hX σ C H _ w fun v1 d1 μ1 C1 H1 g1 w1 r1 ⟨e1, e2⟩ => by
    subst e1; subst e2
    cases r1
    refine hi X hX σ C1 H1 _ w1 fun v2 d2 μ2 C2 H2 g2 w2 r2 ⟨e1, e2⟩ => ?_
    subst e1; subst e2
    cases r2
    obtain ⟨eC, o, ho, vs, eo, hda⟩ := w2.mem.at_
    subst eo
    have da : DatAll Γ.K C2 (vs.set j v) (ds.set j d) := DatAll.set (Dat.mono (g1.trans g2).core _ _ r) j hda
    have gg : Gr (ν1 ++ (l, .lst ds) :: ν2) (ν1 ++ (l, .lst (ds.set j d)) :: ν2) C H C2 (L2.upd H2 l (.lst (vs.set j v))) := (g1.trans g2).trans Gr.updM
    exact ⟨l, vs, i, j, rfl, rfl, ho, by rw [hda.len]; exact hj, k σ δ _ _ _ Agr.refl gg (w.gr gg (w2.sub.updH eC) (w2.mem.updM ⟨_, rfl, da⟩)) h⟩)
/-! ### == [] of a list that changes -/
theorem op_memL {op : CmpOp} {t : Bool} {n : Nat} {ds : List D} {p2 : Pos} (ha : Ev Γ δ μ a (.adr l)) (hm : (l, MO.lst ds) ∈ μ) (hp : Pd n (.lst ds)) (hn : n ≤ 64) (hb : behindInMarks op (.List [] p2) = false)
    (hop : ∀ b, Bop Γ (compareOp op) (.lst ds) (.lst b) (.bl t) ∨ b ≠ []) : Ev Γ δ μ (.Compare a [op] [.List [] p2] pos) (.bl t) := fun X hX σ C H Q w k =>
  PEw (pe_cmpR wOp_op wE_pe wE_pe hb) (ha X hX σ C H _ w fun v d μ1 C1 H1 g1 w1 r1 ⟨e1, e2⟩ => by
    subst e1; subst e2
    cases r1
    have q := ev_lst (Γ := Γ) (δ := δ) (μ := μ1) (pos := p2) (av_nil)
    refine q X hX σ C1 H1 _ w1 fun v2 d2 μ2 C2 H2 g2 w2 r2 ⟨e1, e2⟩ => ?_
    subst e1; subst e2
    obtain ⟨eC, o, ho, vs, eo, hda⟩ := w2.mem.ok _ hm
    subst eo
    rcases hop [] with h | h
    · refine h X hX (L2.upd C2 l (.lst vs)) H2 _ _ _ (w2.sub.upd1 ho) (.lst upd_same (DatAll.mono (Le.new eC) _ _ hda)) (Dat.mono (Le.new eC) _ _ r2) fun v3 C3 H3 n3 r3 => ?_
      cases r3
      have n4 : Nw C2 H2 C2 H3 := ⟨Le.refl _, w2.sub.trans n3.keep, n3.keep, fun _ _ e => e⟩
      exact k _ _ _ C2 H3 ((g1.trans g2).trans n4.gr) (w2.nw n4) (.bl t) ⟨rfl, rfl⟩
    · exact absurd rfl h)
theorem ev_neNilM {n : Nat} {ds : List D} {p2 : Pos} (ha : Ev Γ δ μ a (.adr l)) (hm : (l, MO.lst ds) ∈ μ) (hp : Pd n (.lst ds)) (hn : n ≤ 64 := by decide) : Ev Γ δ μ (.Compare a [.NotEq] [.List [] p2] pos) (.bl (!ds.isEmpty)) :=
  op_memL ha hm hp hn (nomark _) fun b => by
    cases b with
    | nil => exact .inl (b_neNil hp hn)
    | cons _ _ => exact .inr (by simp)
theorem ev_eqNilM {n : Nat} {ds : List D} {p2 : Pos} (ha : Ev Γ δ μ a (.adr l)) (hm : (l, MO.lst ds) ∈ μ) (hp : Pd n (.lst ds)) (hn : n ≤ 64 := by decide) : Ev Γ δ μ (.Compare a [.Eq] [.List [] p2] pos) (.bl ds.isEmpty) :=
  op_memL ha hm hp hn (nomark _) fun b => by
    cases b with
    | nil => exact .inl (b_eqNil hp hn)
    | cons _ _ => exact .inr (by simp)
/-! ### a op b op c -/
theorem ev_chain {op op' : CmpOp} {t u : Bool} (ha : Ev Γ δ μ a d1) (hb : Ev Γ δ μ b d2) (h1 : Bop Γ (compareOp op) d1 d2 (.bl t)) (hc : Ev Γ δ μ c d3) (h2 : Bop Γ (compareOp op') d2 d3 (.bl u)) (hm : lastMarks [op, op'] [b, c] = false := by with_unfolding_all rfl) : Ev Γ δ μ (.Compare a [op, op'] [b, c] pos) (.bl (t && u)) := fun X hX σ C H Q w k =>
  PEw (pe_chain wOp_op wOp_op wE_pe wE_pe wE_pe hm) (ha X hX σ C H _ w fun v1 e1 μ1 C1 H1 g1 w1 r1 ⟨z1, z2⟩ => by
    subst z1; subst z2
    refine hb X hX σ C1 H1 _ w1 fun v2 e2 μ2 C2 H2 g2 w2 r2 ⟨z1, z2⟩ => ?_
    subst z1; subst z2
    refine h1 X hX C2 H2 v1 v2 _ w2.sub (Dat.mono g2.core _ _ r1) r2 fun v C3 H3 n3 r3 => ?_
    cases r3
    refine ⟨t, rfl, ?_⟩
    cases t with
    | false => exact k _ _ _ C3 H3 ((g1.trans g2).trans n3.gr) (w2.nw n3) (.bl false) ⟨rfl, rfl⟩
    | true =>
      show wE X c σ H3 _
      refine hc X hX σ C3 H3 _ (w2.nw n3) fun v4 e4 μ4 C4 H4 g4 w4 r4 ⟨z1, z2⟩ => ?_
      subst z1; subst z2
      refine h2 X hX C4 H4 v2 v4 _ w4.sub (Dat.mono (n3.core.trans g4.core) _ _ r2) r4 fun v C5 H5 n5 r5 => ?_
      exact k _ _ _ C5 H5 ((((g1.trans g2).trans n3.gr).trans g4).trans n5.gr) (w4.nw n5) r5 ⟨by rw [Bool.true_and], rfl⟩)
theorem tv_chain {op op' : CmpOp} {t u : Bool} (ha : Ev Γ δ μ a d1) (hb : Ev Γ δ μ b d2) (h1 : Bop Γ (compareOp op) d1 d2 (.bl t)) (hc : Ev Γ δ μ c d3) (h2 : Bop Γ (compareOp op') d2 d3 (.bl u)) (hm : lastMarks [op, op'] [b, c] = false := by with_unfolding_all rfl) : Tv Γ δ μ (.Compare a [op, op'] [b, c] pos) (t && u) := fun X hX σ C H Q w k =>
  PTw (pt_chain wOp_op wOp_op wE_pe wE_pe wE_pe hm) (ha X hX σ C H _ w fun v1 e1 μ1 C1 H1 g1 w1 r1 ⟨z1, z2⟩ => by
    subst z1; subst z2
    refine hb X hX σ C1 H1 _ w1 fun v2 e2 μ2 C2 H2 g2 w2 r2 ⟨z1, z2⟩ => ?_
    subst z1; subst z2
    refine h1 X hX C2 H2 v1 v2 _ w2.sub (Dat.mono g2.core _ _ r1) r2 fun v C3 H3 n3 r3 => ?_
    cases r3
    refine ⟨t, rfl, ?_⟩
    cases t with
    | false => exact ⟨false, rfl, k _ _ C3 H3 ((g1.trans g2).trans n3.gr) (w2.nw n3) ⟨rfl, rfl⟩⟩
    | true =>
      show wE X c σ H3 _
      refine hc X hX σ C3 H3 _ (w2.nw n3) fun v4 e4 μ4 C4 H4 g4 w4 r4 ⟨z1, z2⟩ => ?_
      subst z1; subst z2
      refine h2 X hX C4 H4 v2 v4 _ w4.sub (Dat.mono (n3.core.trans g4.core) _ _ r2) r4 fun v C5 H5 n5 r5 => ?_
      cases r5
      exact ⟨u, rfl, k _ _ C5 H5 ((((g1.trans g2).trans n3.gr).trans g4).trans n5.gr) (w4.nw n5) ⟨by rw [Bool.true_and], rfl⟩⟩)
/-! ### self.f = e -/
def hasF (f : Str) (ns : List Str) : Bool := ns.contains f
theorem putF_new {f : Str} {y : V} : ∀ {ns : List Str} {vs : List V}, f ∉ ns → ns.length = vs.length → putF f y (ns.zip vs) = (ns ++ [f]).zip (vs ++ [y])
  | [], [], _, _ => rfl
  | n :: ns, v :: vs, h, e => by
    have hn : ¬ n = f := fun z => h (by rw [z]; exact List.mem_cons_self)
    show (if n = f then _ else (n, v) :: putF f y (ns.zip vs)) = _
    rw [if_neg hn, putF_new (fun z => h (List.mem_cons_of_mem _ z)) (by simpa using e)]
    rfl
theorem putF_old {f : Str} {y : V} : ∀ {ns : List Str} {vs : List V} {j : Nat}, ns.Nodup → ns[j]? = some f → ns.length = vs.length → putF f y (ns.zip vs) = ns.zip (vs.set j y)
  | n :: ns, v :: vs, 0, _, h, e => by
    have hn : n = f := by simpa using h
    show (if n = f then (n, y) :: ns.zip vs else _) = _
    rw [if_pos hn]
    rfl
  | n :: ns, v :: vs, j + 1, nd, h, e => by
    have h' : ns[j]? = some f := by simpa using h
    have hn : ¬ n = f := fun z => (List.nodup_cons.mp nd).1 (by rw [z]; exact List.mem_of_getElem? h')
    show (if n = f then _ else (n, v) :: putF f y (ns.zip vs)) = _
    rw [if_neg hn, putF_old (List.nodup_cons.mp nd).2 h' (by simpa using e)]
    rfl
  | [], _, j, _, h, e => by simp at h
  | n :: ns, [], _, _, _, e => by simp at e
theorem ru_fld {f : Str} {x Cl : Addr} {pos' : Pos} (hv : Ew Γ δ μ e fun d μ1 => ∃ ν1 ns fs ν2, μ1 = ν1 ++ (x, .ins Cl ns fs) :: ν2 ∧ Ev Γ δ μ1 o (.adr x) ∧ f ∉ ns ∧ ns.length < 900 ∧ F.nx δ (ν1 ++ (x, .ins Cl (ns ++ [f]) (fs ++ [d])) :: ν2)) (hc : Cls Γ.K Cl) (hn : NoAttr Γ.K Cl f)
    (hs : ∀ env, swapsWith e (some (.Attribute o f pos')) pos.line env = pure false := by intro _; rfl) : Ru1 Γ δ μ (.Assign [.Attribute o f pos'] e pos) F := fun X hX σ C H w =>
  PSw (ps_fld wE_pe wE_pe (hs _)) (hv X hX σ C H _ w fun v d μ1 C1 H1 g1 w1 r1 ⟨ν1, ns, fs, ν2, e1, h2, hf, hl, hq⟩ => by
    subst e1
    refine h2 X hX σ C1 H1 _ w1 fun v2 d2 μ2 C2 H2 g2 w2 r2 ⟨z1, z2⟩ => ?_
    subst z1; subst z2
    cases r2
    obtain ⟨eC, o, ho, dx, vs, eo, hlen, hda⟩ := w2.mem.at_
    subst eo
    have da : DatAll Γ.K C2 (vs ++ [v]) (fs ++ [d]) := hda.append (.cons (Dat.mono g2.core _ _ r1) .nil)
    refine ⟨x, Cl, dx, _, rfl, ho, by rw [hX.K]; exact hc, by rw [hX.K]; exact hn, ?_, ?_⟩
    · rw [List.length_zip]; omega
    · rw [putF_new hf hlen]
      have gg : Gr μ (ν1 ++ (x, .ins Cl (ns ++ [f]) (fs ++ [d])) :: ν2) C H C2 (L2.upd H2 x (.ins Cl dx ((ns ++ [f]).zip (vs ++ [v])))) := (g1.trans g2).trans Gr.updM
      exact ⟨C2, δ, _, gg, w.gr gg (w2.sub.updH eC) (w2.mem.updM ⟨dx, vs ++ [v], rfl, by simp [hlen], da⟩), hq⟩)
/-- a field that is there -/
theorem ru_fldS {f : Str} {x Cl : Addr} {pos' : Pos} (hv : Ew Γ δ μ e fun d μ1 => ∃ ν1 ns fs ν2 j, μ1 = ν1 ++ (x, .ins Cl ns fs) :: ν2 ∧ Ev Γ δ μ1 o (.adr x) ∧ ns[j]? = some f ∧ ns.Nodup ∧ ns.length < 900 ∧ F.nx δ (ν1 ++ (x, .ins Cl ns (fs.set j d)) :: ν2)) (hc : Cls Γ.K Cl) (hn : NoAttr Γ.K Cl f)
    (hs : ∀ env, swapsWith e (some (.Attribute o f pos')) pos.line env = pure false := by intro _; rfl) : Ru1 Γ δ μ (.Assign [.Attribute o f pos'] e pos) F := fun X hX σ C H w =>
  PSw (ps_fld wE_pe wE_pe (hs _)) (hv X hX σ C H _ w fun v d μ1 C1 H1 g1 w1 r1 ⟨ν1, ns, fs, ν2, j, e1, h2, hf, hnd, hl, hq⟩ => by
    subst e1
    refine h2 X hX σ C1 H1 _ w1 fun v2 d2 μ2 C2 H2 g2 w2 r2 ⟨z1, z2⟩ => ?_
    subst z1; subst z2
    cases r2
    obtain ⟨eC, o, ho, dx, vs, eo, hlen, hda⟩ := w2.mem.at_
    subst eo
    have da : DatAll Γ.K C2 (vs.set j v) (fs.set j d) := DatAll.set (Dat.mono g2.core _ _ r1) j hda
    refine ⟨x, Cl, dx, _, rfl, ho, by rw [hX.K]; exact hc, by rw [hX.K]; exact hn, ?_, ?_⟩
    · rw [List.length_zip]; omega
    · rw [putF_old hnd hf hlen]
      have gg : Gr μ (ν1 ++ (x, .ins Cl ns (fs.set j d)) :: ν2) C H C2 (L2.upd H2 x (.ins Cl dx (ns.zip (vs.set j v)))) := (g1.trans g2).trans Gr.updM
      exact ⟨C2, δ, _, gg, w.gr gg (w2.sub.updH eC) (w2.mem.updM ⟨dx, vs.set j v, rfl, by simp [hlen], da⟩), hq⟩)
/-! ### raise X('m') -/
structure Xn (K : PySem.W.Frag) (mg : Str → Option Value) (x : Str) (C : Addr) : Prop where
  ex : ∃ B newId initId bmB, ExcBaseFacts B newId initId bmB ∧ PySem.W.excIn K C bmB newId = true
  g : mg x = some (.ref C)
  kp : PySem.W.keepIn K (.ref C) = true
  s1 : PySem.W.subIn K (.ref C) (.type "BaseException") = some true
  s2 : PySem.W.typeIn K (.ref C) = some (.type "type")
theorem ru_raise {x m : Str} {C : Addr} {j : Nat} {p2 pos' : Pos} (hx : Xn Γ.K Γ.mg x C) (h : Γ.XP (.ref C) μ) (hg : Γ.sc.names.lookup x = some .globalImplicit := by rfl) (hdb : (x == ("__debug__" : Str)) = false := by decide) : Ru1 Γ δ μ (.Raise (some (.Call (.Name x p) [.Constant (.str m) j p2] [] pos)) none pos') F := fun X hX σ C H w => by
  obtain ⟨B, newId, initId, bmB, f1, f2⟩ := hx.ex
  exact PSw (ps_raise hX.calm hX.tk (pmk_own f1 (by rw [hX.K]; exact f2) (by rw [hX.mg]; exact hx.g) (by rw [hX.K]; exact hx.kp) (raises_own (by rw [hX.K]; exact hx.s1) (by rw [hX.K]; exact hx.s2)) (hX.gl hg) hdb)) (w.exc _ none μ C H Gr.refl w.sub w.mem h)
end
/-! ### comprehensions by lists of a type -/
section
variable {Γ : Gam} {δ : Sd} {μ : Mem} {elt tg iter c : Expr} {P : Pst} {pos p : Pos} {scope : Scope} {F : Fin}
/-- one turn: the tests' answer, the item -/
def Elc (Γ : Gam) (δ : Sd) (μ : Mem) (scope : Scope) (tg elt : Expr) (ifs : List Expr) (vs ixs : List Nat) (d : D) (t : Bool) (y : D) : Prop := Tg (Γ.blk scope) tg ixs d (wipeD δ vs) μ fun δ2 μ2 => μ2 = μ ∧ Cw (Γ.blk scope) δ2 μ ifs fun b μ3 => μ3 = μ ∧ b = t ∧ (t = true → Ev (Γ.blk scope) δ2 μ elt y)
def keepL {α : Type} (xs : List α) (q : α → Bool) (f : α → D) : List D := (xs.filter q).map f
theorem keep_take {α : Type} {xs : List α} {q : α → Bool} {f : α → D} {i : Nat} {x : α} (h : xs[i]? = some x) : keepL (xs.take (i + 1)) q f = keepL (xs.take i) q f ++ (if q x = true then [f x] else []) := by
  unfold keepL
  rw [List.take_add_one, h, List.filter_append, List.map_append]
  congr 1
  cases hq : q x <;> simp [hq]
theorem lc_ty {α : Type} {ifs : List Expr} (xs : List α) (g : α → D) (q : α → Bool) (f : α → D) (vs ixs : List Nat) {R : Pst} (hi : Iv Γ δ μ tg iter (xs.map g)) (hlen : xs.length ≤ 100000) (he : ∀ x ∈ xs, Elc Γ δ μ scope tg elt ifs vs ixs (g x) (q x) (f x)) (hR : R (.lst (keepL xs q f)) μ) :
    Iw Γ δ μ tg iter fun ds μ1 => ds.length ≤ 100000 ∧ ∃ I : Nat → List D → Mem → Prop, I 0 [] μ1 ∧
    (∀ i d acc μ', ds[i]? = some d → I i acc μ' → Tg (Γ.blk scope) tg ixs d (wipeD δ vs) μ' fun δ2 μ2 => Cw (Γ.blk scope) δ2 μ2 ifs fun b μ3 => (b = true → Ew (Γ.blk scope) δ2 μ3 elt fun y μ4 => I (i + 1) (acc ++ [y]) μ4) ∧ (b = false → I (i + 1) acc μ3)) ∧ ∀ acc μ', I ds.length acc μ' → R (.lst acc) μ' :=
  hi.w ⟨by rw [List.length_map]; exact hlen, fun i acc μ' => acc = keepL (xs.take i) q f ∧ μ' = μ, ⟨by simp [keepL], rfl⟩, fun i d acc μ' e ⟨e1, e2⟩ => by
    subst e2
    obtain ⟨x, h1, rfl⟩ := map_at e
    refine Tg.imp (he x (List.mem_of_getElem? h1)) fun δ2 μ2 ⟨e3, hc⟩ => ?_
    subst e3
    intro X hX σ C H Q w k
    refine hc X hX σ C H Q w fun b μ3 C3 H3 g3 w3 ⟨e4, e5, hy⟩ => k b μ3 C3 H3 g3 w3 ?_
    subst e4; subst e5
    refine ⟨fun z => (hy z).w ⟨?_, rfl⟩, fun z => ⟨?_, rfl⟩⟩
    · rw [e1, keep_take h1, if_pos z]
    · rw [e1, keep_take h1, if_neg (by rw [z]; decide), List.append_nil], fun acc μ' ⟨e1, e2⟩ => by
    rw [List.length_map, List.take_length] at e1
    rw [e1, e2]
    exact hR⟩
theorem ev_lc {α : Type} {ifs : List Expr} (xs : List α) (g : α → D) (q : α → Bool) (f : α → D) (own : List (Str × Nat)) (ixs : List Nat) (hi : Iv Γ δ μ tg iter (xs.map g)) (hlen : xs.length ≤ 100000) (he : ∀ x ∈ xs, Elc Γ δ μ scope tg elt ifs (own.map (·.2)) ixs (g x) (q x) (f x))
    (hv : ∀ j ∈ ixs, j ∈ own.map (·.2) := by decide) (ok : BlkOk Γ.N Γ.sc scope own := by exact L2.blkOk_by (by kernel_rfl)) (hs : ∀ env x, foldedSetIterable iter env x = pure x := by intro _ _; rfl) : Ev Γ δ μ (.ListComp elt [⟨tg, iter, ifs, 0⟩] scope pos) (.lst (keepL xs q f)) :=
  ew_lc own ixs ok hv (lc_ty (R := fun d' μ' => d' = .lst (keepL xs q f) ∧ μ' = μ) xs g q f _ ixs hi hlen he ⟨rfl, rfl⟩) hs
theorem ru_lc {α : Type} {ifs : List Expr} {y : Str} {py spos : Pos} (i : Nat) (xs : List α) (g : α → D) (q : α → Bool) (f : α → D) (own : List (Str × Nat)) (ixs : List Nat) (hi : Iv Γ δ μ tg iter (xs.map g)) (hlen : xs.length ≤ 100000) (he : ∀ x ∈ xs, Elc Γ δ μ scope tg elt ifs (own.map (·.2)) ixs (g x) (q x) (f x)) (hR : F.nx (δ.set i (some (.lst (keepL xs q f)))) μ)
    (hv : ∀ j ∈ ixs, j ∈ own.map (·.2) := by decide) (ok : BlkOk Γ.N Γ.sc scope own := by exact L2.blkOk_by (by kernel_rfl)) (hN : Γ.N[i]? = some y := by rfl) (hx : Γ.sc.names.lookup y = some .local := by rfl) (hsw : ∀ env, env.scope = Γ.sc → swapsWith (.ListComp elt [⟨tg, iter, ifs, 0⟩] scope pos) (some (.Name y py)) spos.line env = pure true := by intro env h; cases env; cases h; rfl)
    (hs : ∀ env x, foldedSetIterable iter env x = pure x := by intro _ _; rfl) : Ru1 Γ δ μ (.Assign [.Name y py] (.ListComp elt [⟨tg, iter, ifs, 0⟩] scope pos) spos) F :=
  ru_setLc i own ixs ok hv (lc_ty (R := fun d μ' => F.nx (δ.set i (some d)) μ') xs g q f _ ixs hi hlen he hR) hN hx hsw hs
theorem keep_all {α : Type} (xs : List α) (f : α → D) : keepL xs (fun _ => true) f = xs.map f := by
  unfold keepL
  rw [List.filter_eq_self.mpr fun _ _ => rfl]
/-- a name, no test -/
theorem elc_n (i : Nat) {x : Str} {vs : List Nat} {d y : D} (h : Ev (Γ.blk scope) ((wipeD δ vs).set i (some d)) μ elt y) (hN : Γ.N[i]? = some x := by rfl) (hx : (relS scope Γ.sc).names.lookup x = some .local := by rfl) : Elc Γ δ μ scope (.Name x p) elt [] vs [i] d true y :=
  tg_n (Γ := Γ.blk scope) i ⟨rfl, cw_no ⟨rfl, rfl, fun _ => h⟩⟩ hN (.inl hx) (.inl hx)
/-- a name, a test -/
theorem elc_t (i : Nat) {x : Str} {vs : List Nat} {d y : D} {t : Bool} (ht : Tv (Γ.blk scope) ((wipeD δ vs).set i (some d)) μ c t) (h : t = true → Ev (Γ.blk scope) ((wipeD δ vs).set i (some d)) μ elt y) (hN : Γ.N[i]? = some x := by rfl) (hx : (relS scope Γ.sc).names.lookup x = some .local := by rfl) : Elc Γ δ μ scope (.Name x p) elt [c] vs [i] d t y :=
  tg_n (Γ := Γ.blk scope) i ⟨rfl, cw_one (ht.w ⟨rfl, rfl, h⟩)⟩ hN (.inl hx) (.inl hx)
/-- two names -/
theorem elc_2 (i j : Nat) {x y : Str} {px py pt : Pos} {kt : Nat} {vs : List Nat} {a b z : D} (h : Ev (Γ.blk scope) (((wipeD δ vs).set i (some a)).set j (some b)) μ elt z) (hN : Γ.N[i]? = some x := by rfl) (hM : Γ.N[j]? = some y := by rfl) (hx : (relS scope Γ.sc).names.lookup x = some .local := by rfl) (hy : (relS scope Γ.sc).names.lookup y = some .local := by rfl) :
    Elc Γ δ μ scope (.Tuple [.Name x px, .Name y py] kt pt) elt [] vs ([i] ++ ([j] ++ [])) (.tup [a, b]) true z :=
  tg_tup (Γ := Γ.blk scope) (ds := [a, b]) (tgs_cons (Γ := Γ.blk scope) (tg_n (Γ := Γ.blk scope) i (tgs_cons (Γ := Γ.blk scope) (tg_n (Γ := Γ.blk scope) j (tgs_nil (Γ := Γ.blk scope) ⟨rfl, cw_no ⟨rfl, rfl, fun _ => h⟩⟩) hM (.inl hy) (.inl hy))) hN (.inl hx) (.inl hx)))
end
end Dl

set_option maxRecDepth 100000
set_option maxHeartbeats 2000000
namespace Dl
open PySem PySem.Spec PyProof.Rows L2
section
variable {Γ : Gam} {δ : Sd} {μ : Mem} {e o a b c : Expr} {es : List Expr} {d r : D} {P : Pst} {pos p apos : Pos} {S : Dl.Spec} {x m : Str} {Cl : Addr} {k n : Nat} {F : Fin}
theorem ev_ifI {t : Bool} {i j : Int} (h : Tv Γ δ μ c t) (h1 : t = true → Ev Γ δ μ a (.int i)) (h2 : t = false → Ev Γ δ μ b (.int j)) : Ev Γ δ μ (.IfExp c a b pos) (.int (if t = true then i else j)) :=
  ew_if (h.w ⟨fun q => by subst q; exact h1 rfl, fun q => by subst q; exact h2 rfl⟩)
theorem ev_ifS {t : Bool} {i j : Str} (h : Tv Γ δ μ c t) (h1 : t = true → Ev Γ δ μ a (.str i)) (h2 : t = false → Ev Γ δ μ b (.str j)) : Ev Γ δ μ (.IfExp c a b pos) (.str (if t = true then i else j)) :=
  ew_if (h.w ⟨fun q => by subst q; exact h1 rfl, fun q => by subst q; exact h2 rfl⟩)
/-- what a spec gives without a look at any object -/
def Pure (S : Dl.Spec) (ds : List D) (r : D) : Prop := ∀ P : Pst, P r [] → S ds [] P NoX
theorem cal_pure {ds : List D} (h : Pure S ds r) (q : P r μ) : Cal Γ S ds μ P := ⟨[], μ, NoX, rfl, h _ q, fun _ _ x => x.elim⟩
theorem ev_callV {ds : List D} (F : Γ.gn x k n S) (ha : Av Γ δ μ (e :: es) ds) (hp : Pure S ds r) (hl : ds.length = n := by rfl) (hk : k ≤ Γ.k := by decide) (hn : (e :: es).length = n := by rfl) (hg : Γ.sc.names.lookup x = some .globalImplicit := by rfl) (hdb : (x == ("__debug__" : Str)) = false := by decide)
    (he : ∀ env, starEach (e :: es) env = (false, eval e env) :: starEach es env := by intro _; rfl) (hpl : ∀ env, (backTo pos (starEach es env)).any (·.1) = false := by intro _; rfl) : Ev Γ δ μ (.Call (.Name x p) (e :: es) [] pos) r :=
  ew_call F hk hn (ha.w ⟨hl, cal_pure hp ⟨rfl, rfl⟩⟩) hg hdb he hpl
theorem ev_methV {ds : List D} (F : Γ.mn Cl m k n S) (ho : Ev Γ δ μ o d) (hr : Recv Cl m μ d) (ha : Av Γ δ μ (e :: es) ds) (hp : Pure S (d :: ds) r) (hl : (d :: ds).length = n := by rfl) (hk : k ≤ Γ.k := by decide)
    (he : ∀ env, starEach (e :: es) env = (false, eval e env) :: starEach es env := by intro _; rfl) (hpl : ∀ env, (backTo pos (starEach es env)).any (·.1) = false := by intro _; rfl)
    (ht : ∀ env, ∃ pl, eval (.Call (.Attribute o m apos) (e :: es) [] pos) env = (do
      let ov ← eval o env
      standAt apos.atName
      let (f, first) ← holding [ov] (getMethod ov m pl)
      callWith pos f first (backTo pos (starEach (e :: es) env)) (backToKw pos (keywordEach [] env))) := by intro _; exact ⟨_, rfl⟩) : Ev Γ δ μ (.Call (.Attribute o m apos) (e :: es) [] pos) r :=
  ew_meth F hk (ho.w ⟨hr, ha.w ⟨hl, cal_pure hp ⟨rfl, rfl⟩⟩⟩) he hpl ht
theorem ev_methV0 (F : Γ.mn Cl m k 1 S) (ho : Ev Γ δ μ o d) (hr : Recv Cl m μ d) (hp : Pure S [d] r) (hk : k ≤ Γ.k := by decide)
    (ht : ∀ env, ∃ pl, eval (.Call (.Attribute o m apos) [] [] pos) env = (do
      let ov ← eval o env
      standAt apos.atName
      let (f, first) ← holding [ov] (getMethod ov m pl)
      callWith pos f first (backTo pos (starEach [] env)) (backToKw pos (keywordEach [] env))) := by intro _; exact ⟨_, rfl⟩) : Ev Γ δ μ (.Call (.Attribute o m apos) [] [] pos) r :=
  ew_meth0 F hk (ho.w ⟨hr, cal_pure hp ⟨rfl, rfl⟩⟩) ht
/-- an instance made -/
theorem ev_makeV {ds : List D} {ns : List Str} {fs : List D} (F : Γ.cn x Cl k n S) (ha : Av Γ δ μ (e :: es) ds) (hp : ∀ a (P : Pst), P .non [(a, .ins Cl ns fs)] → S (.adr a :: ds) [(a, .ins Cl [] [])] P NoX) (hl : ds.length + 1 = n := by rfl) (hk : k + 1 ≤ Γ.k := by decide) (hg : Γ.sc.names.lookup x = some .globalImplicit := by rfl) (hdb : (x == ("__debug__" : Str)) = false := by decide)
    (he : ∀ env, starEach (e :: es) env = (false, eval e env) :: starEach es env := by intro _; rfl) (hpl : ∀ env, (backTo pos (starEach es env)).any (·.1) = false := by intro _; rfl) : Ev Γ δ μ (.Call (.Name x p) (e :: es) [] pos) (.obj Cl ns fs) :=
  ew_make F hk (ha.w ⟨hl, fun a => ⟨NoX, hp a _ ⟨rfl, ns, fs, rfl, rfl, rfl⟩, fun _ _ x => x.elim⟩⟩) hg hdb he hpl
/-- a call that lets an exception out for sure, or gives: whatever -/
theorem ew_callX {ds : List D} {XP : Value → Mem → Prop} (F : Γ.gn x k n S) (ha : Av Γ δ μ (e :: es) ds) (hp : S ds [] (fun d μ' => P d (μ' ++ μ)) XP) (hx : ∀ cls μ', XP cls μ' → Γ.XP cls μ) (hl : ds.length = n := by rfl) (hk : k ≤ Γ.k := by decide) (hn : (e :: es).length = n := by rfl) (hg : Γ.sc.names.lookup x = some .globalImplicit := by rfl) (hdb : (x == ("__debug__" : Str)) = false := by decide)
    (he : ∀ env, starEach (e :: es) env = (false, eval e env) :: starEach es env := by intro _; rfl) (hpl : ∀ env, (backTo pos (starEach es env)).any (·.1) = false := by intro _; rfl) : Ew Γ δ μ (.Call (.Name x p) (e :: es) [] pos) P :=
  ew_call F hk hn (ha.w ⟨hl, [], μ, XP, rfl, hp, hx⟩) hg hdb he hpl
theorem ew_methX {ds : List D} {XP : Value → Mem → Prop} (F : Γ.mn Cl m k n S) (ho : Ev Γ δ μ o d) (hr : Recv Cl m μ d) (ha : Av Γ δ μ (e :: es) ds) (hp : S (d :: ds) [] (fun d μ' => P d (μ' ++ μ)) XP) (hx : ∀ cls μ', XP cls μ' → Γ.XP cls μ) (hl : (d :: ds).length = n := by rfl) (hk : k ≤ Γ.k := by decide)
    (he : ∀ env, starEach (e :: es) env = (false, eval e env) :: starEach es env := by intro _; rfl) (hpl : ∀ env, (backTo pos (starEach es env)).any (·.1) = false := by intro _; rfl)
    (ht : ∀ env, ∃ pl, eval (.Call (.Attribute o m apos) (e :: es) [] pos) env = (do
      let ov ← eval o env
      standAt apos.atName
      let (f, first) ← holding [ov] (getMethod ov m pl)
      callWith pos f first (backTo pos (starEach (e :: es) env)) (backToKw pos (keywordEach [] env))) := by intro _; exact ⟨_, rfl⟩) : Ew Γ δ μ (.Call (.Attribute o m apos) (e :: es) [] pos) P :=
  ew_meth F hk (ho.w ⟨hr, ha.w ⟨hl, [], μ, XP, rfl, hp, hx⟩⟩) he hpl ht
theorem ew_makeX {ds : List D} {XP : Value → Mem → Prop} (F : Γ.cn x Cl k n S) (ha : Av Γ δ μ (e :: es) ds) (hp : ∀ a, S (.adr a :: ds) [(a, .ins Cl [] [])] (fun d μ' => d = .non ∧ ∃ ns fs, μ' = [(a, .ins Cl ns fs)] ∧ P (.obj Cl ns fs) μ) XP) (hx : ∀ cls μ', XP cls μ' → Γ.XP cls μ) (hl : ds.length + 1 = n := by rfl) (hk : k + 1 ≤ Γ.k := by decide) (hg : Γ.sc.names.lookup x = some .globalImplicit := by rfl) (hdb : (x == ("__debug__" : Str)) = false := by decide)
    (he : ∀ env, starEach (e :: es) env = (false, eval e env) :: starEach es env := by intro _; rfl) (hpl : ∀ env, (backTo pos (starEach es env)).any (·.1) = false := by intro _; rfl) : Ew Γ δ μ (.Call (.Name x p) (e :: es) [] pos) P :=
  ew_make F hk (ha.w ⟨hl, fun a => ⟨XP, hp a, hx⟩⟩) hg hdb he hpl
/-! indexes -/
theorem atI_nat' {α : Type} {xs : List α} {i : Int} {x : α} (h0 : 0 ≤ i) (h : xs[i.toNat]? = some x) : atI xs i = some x := by
  have e : i = ((i.toNat : Nat) : Int) := by omega
  rw [e]
  exact atI_nat h
/-- the i-th int -/
def gi (xs : List Int) (i : Int) : Int := xs.getD i.toNat 0
theorem gi_at {xs : List Int} {i : Int} (h0 : 0 ≤ i) (h : i < xs.length) : xs[i.toNat]? = some (gi xs i) := by
  unfold gi
  have e : i.toNat < xs.length := by omega
  rw [List.getD_eq_getElem?_getD, List.getElem?_eq_getElem e]
  rfl
theorem atI_int {xs : List Int} {i : Int} (h0 : 0 ≤ i) (h : i < xs.length) : atI (xs.map D.int) i = some (.int (gi xs i)) :=
  atI_nat' h0 (by rw [List.getElem?_map, gi_at h0 h]; rfl)
theorem atI_last' {α : Type} {xs : List α} {x : α} : atI (xs ++ [x]) (-1) = some x := atI_last xs x
end
end Dl

set_option maxRecDepth 100000
set_option maxHeartbeats 2000000
/-! zip of two or three lists or tuples, enumerate of a tuple -/
namespace Zn
open PySem
/-- an iterator over a list (true) or a tuple -/
def SI : Bool → Heap → Addr → Addr → Nat → Prop
  | true, h, i, l, k => h.IsListIter i l k
  | false, h, i, l, k => h.IsTupleIter i l k
def SC : Bool → Heap → Addr → Array Value → Prop
  | true, h, l, xs => h.IsList l xs
  | false, h, l, xs => h.IsTuple l xs
theorem SI.at_ {b : Bool} {h h' : Heap} {i l : Addr} {k : Nat} (x : SI b h i l k) (e : ∀ o, h.get? i = some o → h'.get? i = some o) : SI b h' i l k := by
  cases b with
  | true => exact Heap.IsListIter.at (show h.IsListIter i l k from x) e
  | false => exact Heap.IsTupleIter.at (show h.IsTupleIter i l k from x) e
theorem SC.at_ {b : Bool} {h h' : Heap} {l : Addr} {xs : Array Value} (x : SC b h l xs) (e : ∀ o, h.get? l = some o → h'.get? l = some o) : SC b h' l xs := by
  cases b with
  | true => exact Heap.IsList.at (show h.IsList l xs from x) e
  | false => exact Heap.IsTuple.at (show h.IsTuple l xs from x) e
theorem SI.obj {b : Bool} {h : Heap} {i l : Addr} {k : Nat} (x : SI b h i l k) : ∃ o, h.get? i = some o ∧ ∀ v, o.data ≠ .cell v := by
  cases b with
  | true => obtain ⟨o, e, _, d⟩ := show h.IsListIter i l k from x; exact ⟨o, e, fun v q => by rw [d] at q; cases q⟩
  | false => obtain ⟨o, e, _, d⟩ := show h.IsTupleIter i l k from x; exact ⟨o, e, fun v q => by rw [d] at q; cases q⟩
abbrev IsT (h : Heap) (T : Addr) (vs : Array Value) : Prop := h.get? T = some { cls := .type "tuple", data := .seq vs }
theorem nn (x y : Nat) (h : x ≠ y) : x ≠ y := h
section
variable {prog : Program} {w : World} {A : Around} {E : Value → Shared → Prop} {s : Shared}
theorem nextS_item {b : Bool} {it l : Addr} {i : Nat} {items : Array Value} {x : Value} {Q : Value → Shared → Prop} (hit : SI b s.heap it l i) (hl : SC b s.heap l items) (hx : items[i]? = some x)
    (hQ : ∀ h', SI b h' it l (i + 1) → Heap.SameBut it s.heap h' → Q x { s with heap := h' }) : wpAny (model prog w) A (Builtin.SmallTypes.nextOf (.ref it)) Q E s := by
  cases b with
  | true => exact wpAny_nextOf_list_item (show s.heap.IsListIter it l i from hit) (show s.heap.IsList l items from hl) hx hQ
  | false => exact RZ.nextOf_tuple_item (show s.heap.IsTupleIter it l i from hit) (show s.heap.IsTuple l items from hl) hx hQ
theorem nextS_end {b : Bool} {it l : Addr} {i : Nat} {items : Array Value} {Q : Value → Shared → Prop} (hh : A.handled = none) (hit : SI b s.heap it l i) (hl : SC b s.heap l items) (hx : items[i]? = none)
    (hE : ∀ h' e, Heap.ExtBut it s.heap h' → (∃ o, h'.get? e = some o ∧ o.cls = .type "StopIteration") → E (.ref e) { s with heap := h' }) : wpAny (model prog w) A (Builtin.SmallTypes.nextOf (.ref it)) Q E s := by
  cases b with
  | true => exact wpAny_nextOf_list_end hh (show s.heap.IsListIter it l i from hit) (show s.heap.IsList l items from hl) hx hE
  | false => exact RZ.nextOf_tuple_end hh (show s.heap.IsTupleIter it l i from hit) (show s.heap.IsTuple l items from hl) hx hE
end
section
variable {prog : Program} {w : World} {A : Around} {E : Value → Shared → Prop} {s : Shared}
theorem updT2 {T : Addr} {a1 a2 x : Value} {k : Nat} {Q : Unit → Shared → Prop} (hT : IsT s.heap T #[a1, a2])
    (h : ∀ h', h'.get? T = some { cls := .type "tuple", data := .seq ((#[a1, a2] : Array Value).setIfInBounds k x) } → Heap.SameBut T s.heap h' → Q () { s with heap := h' }) :
    wpAny (model prog w) A (updateSeq T (·.setIfInBounds k x)) Q E s := by
  refine wpAny_updateSeq hT rfl (h _ ?_ (Heap.SameBut.update ..))
  rw [Heap.get?_update_self _ hT rfl]
  simp [Obj.mapSeq]
theorem next_item2 {n0 l1 l2 : Nat} {b1 b2 : Bool} {k : Nat} {xs1 xs2 : Array Value} {a1 a2 : Value} {x1 x2 : Value} {Q : Value → Shared → Prop} (hl1 : l1 < n0) (hl2 : l2 < n0) (hz : IsZip s.heap (n0 + 4) (n0 + 2) (n0 + 3) .none) (hTI : IsT s.heap (n0 + 2) #[.ref n0, .ref (n0 + 1)]) (hTO : IsT s.heap (n0 + 3) #[a1, a2]) (h1 : SI b1 s.heap n0 l1 k) (c1 : SC b1 s.heap l1 xs1) (h2 : SI b2 s.heap (n0 + 1) l2 k) (c2 : SC b2 s.heap l2 xs2) (e1 : xs1[k]? = some x1) (e2 : xs2[k]? = some x2)
    (hQ : ∀ h', IsZip h' (n0 + 4) (n0 + 2) (n0 + 3) (rawInt s.heap.objs.size) → IsT h' (n0 + 3) #[x1, x2] → SI b1 h' n0 l1 (k + 1) → SI b2 h' (n0 + 1) l2 (k + 1) → IsT h' s.heap.objs.size #[x1, x2] → h'.objs.size = s.heap.objs.size + 1 →
      (∀ c o, c ≠ (n0 + 4) → c ≠ (n0 + 3) → c ≠ n0 → c ≠ (n0 + 1) → s.heap.get? c = some o → h'.get? c = some o) → Q (.ref s.heap.objs.size) { s with heap := h' }) :
    wpAny (model prog w) A (Builtin.«zip.__next__» ⟨[.ref (n0 + 4)], []⟩) (fun fin s' => ∃ v, fin = .done (.ret v) ∧ Q v s') E s := by
  show wpAny _ _ (field (.ref _) 2 >>= _) _ _ _
  refine wpAny_bind (wpAny_field hz rfl (x := .bool false) rfl ?_)
  show wpAny _ _ (field (.ref _) 3 >>= _) _ _ _
  refine wpAny_bind (wpAny_field hz rfl (x := .ref (n0 + 2)) rfl ?_)
  refine wpAny_bind (wpAny_seqItems hTI rfl ?_)
  show wpAny _ _ (Builtin.SmallTypes.ownedTupleIsFree (.ref _) >>= _) _ _ _
  refine wpAny_bind ?_
  unfold Builtin.SmallTypes.ownedTupleIsFree
  refine wpAny_bind (wpAny_field hz rfl (x := .none) rfl (wpAny_pure ?_))
  simp only [if_true]
  refine wpAny_bind (wpAny_rule ?_)
  refine wpAny_bind (wpAny_field hz rfl (x := .ref (n0 + 3)) rfl ?_)
  refine wpAny_bind (wpAny_setField_rec hz (by simp) fun g0 z0 s0 => ?_)
  replace z0 : IsZip g0 (n0 + 4) (n0 + 2) (n0 + 3) .ellipsis := z0
  have up0 : ∀ c o, c ≠ (n0 + 4) → s.heap.get? c = some o → g0.get? c = some o := fun c o c1 e => s0.extBut _ _ c1 e
  have T0 : IsT g0 (n0 + 3) #[a1, a2] := up0 _ _ (nn _ _ (by omega)) hTO
  replace h1 := h1.at_ fun o e => up0 _ o (nn _ _ (by omega)) e
  replace c1 := c1.at_ fun o e => up0 _ o (nn _ _ (by omega)) e
  replace h2 := h2.at_ fun o e => up0 _ o (nn _ _ (by omega)) e
  replace c2 := c2.at_ fun o e => up0 _ o (nn _ _ (by omega)) e
  refine wpAny_bind ?_
  simp only [List.zipIdx_cons, List.zipIdx_nil, List.forIn_cons, List.forIn_nil]
  refine wpAny_bind (wpAny_bind (wpAny_onRaise ?_))
  show wpAny _ _ (Builtin.SmallTypes.nextOf (.ref n0) >>= _) _ _ _
  refine wpAny_bind (nextS_item h1 c1 e1 fun p1 q1 s1a => wpAny_pure ?_)
  have T1a : IsT p1 (n0 + 3) #[a1, a2] := s1a.extBut _ _ (nn _ _ (by omega)) T0
  refine wpAny_bind (wpAny_seqItems T1a rfl ?_)
  refine wpAny_bind (updT2 T1a fun g1 T1 s1b => ?_)
  replace T1 : IsT g1 (n0 + 3) #[x1, a2] := T1
  have up1 : ∀ c o, c ≠ n0 → c ≠ (n0 + 3) → g0.get? c = some o → g1.get? c = some o := fun c o c1 c2 e => s1b.extBut _ _ c2 (s1a.extBut _ _ c1 e)
  have z1 : IsZip g1 (n0 + 4) (n0 + 2) (n0 + 3) .ellipsis := up1 _ _ (nn _ _ (by omega)) (nn _ _ (by omega)) z0
  replace h1 := q1.at_ fun o e => s1b.extBut _ _ (nn _ _ (by omega)) e
  replace c1 := c1.at_ fun o e => up1 _ o (nn _ _ (by omega)) (nn _ _ (by omega)) e
  replace h2 := h2.at_ fun o e => up1 _ o (nn _ _ (by omega)) (nn _ _ (by omega)) e
  replace c2 := c2.at_ fun o e => up1 _ o (nn _ _ (by omega)) (nn _ _ (by omega)) e
  refine wpAny_bind (wpAny_letGo (wpAny_pure ?_))
  refine wpAny_bind (wpAny_bind (wpAny_onRaise ?_))
  show wpAny _ _ (Builtin.SmallTypes.nextOf (.ref (n0 + 1)) >>= _) _ _ _
  refine wpAny_bind (nextS_item h2 c2 e2 fun p2 q2 s2a => wpAny_pure ?_)
  have T2a : IsT p2 (n0 + 3) #[x1, a2] := s2a.extBut _ _ (nn _ _ (by omega)) T1
  refine wpAny_bind (wpAny_seqItems T2a rfl ?_)
  refine wpAny_bind (updT2 T2a fun g2 T2 s2b => ?_)
  replace T2 : IsT g2 (n0 + 3) #[x1, x2] := T2
  have up2 : ∀ c o, c ≠ (n0 + 1) → c ≠ (n0 + 3) → g1.get? c = some o → g2.get? c = some o := fun c o c1 c2 e => s2b.extBut _ _ c2 (s2a.extBut _ _ c1 e)
  have z2 : IsZip g2 (n0 + 4) (n0 + 2) (n0 + 3) .ellipsis := up2 _ _ (nn _ _ (by omega)) (nn _ _ (by omega)) z1
  replace h2 := q2.at_ fun o e => s2b.extBut _ _ (nn _ _ (by omega)) e
  replace h1 := h1.at_ fun o e => up2 _ o (nn _ _ (by omega)) (nn _ _ (by omega)) e
  replace c1 := c1.at_ fun o e => up2 _ o (nn _ _ (by omega)) (nn _ _ (by omega)) e
  replace c2 := c2.at_ fun o e => up2 _ o (nn _ _ (by omega)) (nn _ _ (by omega)) e
  refine wpAny_bind (wpAny_letGo (wpAny_pure (wpAny_pure ?_)))
  refine wpAny_bind (wpAny_seqItems T2 rfl ?_)
  refine wpAny_bind (wpAny_newTuple ?_)
  have hsz : g2.objs.size = s.heap.objs.size := by rw [s2b.1, s2a.1, s1b.1, s1a.1, s0.1]
  have upA : ∀ c o, c ≠ (n0 + 4) → c ≠ (n0 + 3) → c ≠ n0 → c ≠ (n0 + 1) → s.heap.get? c = some o → g2.get? c = some o := fun c o cz ct d1 d2 e => up2 _ _ d2 ct (up1 _ _ d1 ct (up0 _ _ cz e))
  have hzlt : (n0 + 4) < g2.objs.size := Heap.lt_size z2
  show wpAny _ _ (Builtin.SmallTypes.ownedTupleHandOut (.ref _) (.ref g2.objs.size) >>= _) _ _ _
  refine wpAny_bind ?_
  unfold Builtin.SmallTypes.ownedTupleHandOut
  have zP : IsZip (g2.push { cls := .type "tuple", data := .seq #[x1, x2] }) (n0 + 4) (n0 + 2) (n0 + 3) .ellipsis := Heap.get?_push_of_some _ z2
  refine wpAny_bind (wpAny_setField_rec zP (by simp) fun f7 z7 s7 => ?_)
  replace z7 : IsZip f7 (n0 + 4) (n0 + 2) (n0 + 3) (rawInt g2.objs.size) := z7
  refine wpAny_setField_rec z7 (by simp) fun f8 z8 s8 => ?_
  replace z8 : IsZip f8 (n0 + 4) (n0 + 2) (n0 + 3) (rawInt g2.objs.size) := z8
  have up : ∀ c o, c ≠ (n0 + 4) → g2.get? c = some o → f8.get? c = some o := fun c o c1 e => s8.extBut _ _ c1 (s7.extBut _ _ c1 (Heap.get?_push_of_some _ e))
  have t8 : IsT f8 g2.objs.size #[x1, x2] := s8.extBut _ _ (Nat.ne_of_gt hzlt) (s7.extBut _ _ (Nat.ne_of_gt hzlt) (Heap.get?_push_size _ rfl))
  have n8 : f8.objs.size = g2.objs.size + 1 := by rw [s8.1, s7.1, Heap.size_push]
  rw [hsz] at z8 t8 n8
  refine wpAny_pure ⟨_, rfl, ?_⟩
  show Q (.ref g2.objs.size) _
  rw [hsz]
  exact hQ f8 z8 (up _ _ (nn _ _ (by omega)) T2) (h1.at_ fun o e => up _ o (nn _ _ (by omega)) e) (h2.at_ fun o e => up _ o (nn _ _ (by omega)) e) t8 n8 fun c o cz ct d1 d2 e => up c o cz (upA c o cz ct d1 d2 e)
theorem next_end2 {n0 l1 l2 : Nat} {b1 b2 : Bool} {k : Nat} {xs1 xs2 : Array Value} {a1 a2 : Value} {Q : Fin → Shared → Prop} (hh : A.handled = none) (hl1 : l1 < n0) (hl2 : l2 < n0) (hz : IsZip s.heap (n0 + 4) (n0 + 2) (n0 + 3) .none) (hTI : IsT s.heap (n0 + 2) #[.ref n0, .ref (n0 + 1)]) (hTO : IsT s.heap (n0 + 3) #[a1, a2]) (h1 : SI b1 s.heap n0 l1 k) (c1 : SC b1 s.heap l1 xs1) (h2 : SI b2 s.heap (n0 + 1) l2 k) (c2 : SC b2 s.heap l2 xs2) (hend : xs1[k]? = none ∨ xs2[k]? = none)
    (hE : ∀ h' e, (∀ c o, c ≠ (n0 + 4) → c ≠ (n0 + 3) → c ≠ n0 → c ≠ (n0 + 1) → s.heap.get? c = some o → h'.get? c = some o) → (∃ o, h'.get? e = some o ∧ o.cls = .type "StopIteration") → E (.ref e) { s with heap := h' }) :
    wpAny (model prog w) A (Builtin.«zip.__next__» ⟨[.ref (n0 + 4)], []⟩) Q E s := by
  show wpAny _ _ (field (.ref _) 2 >>= _) _ _ _
  refine wpAny_bind (wpAny_field hz rfl (x := .bool false) rfl ?_)
  show wpAny _ _ (field (.ref _) 3 >>= _) _ _ _
  refine wpAny_bind (wpAny_field hz rfl (x := .ref (n0 + 2)) rfl ?_)
  refine wpAny_bind (wpAny_seqItems hTI rfl ?_)
  show wpAny _ _ (Builtin.SmallTypes.ownedTupleIsFree (.ref _) >>= _) _ _ _
  refine wpAny_bind ?_
  unfold Builtin.SmallTypes.ownedTupleIsFree
  refine wpAny_bind (wpAny_field hz rfl (x := .none) rfl (wpAny_pure ?_))
  simp only [if_true]
  refine wpAny_bind (wpAny_rule ?_)
  refine wpAny_bind (wpAny_field hz rfl (x := .ref (n0 + 3)) rfl ?_)
  refine wpAny_bind (wpAny_setField_rec hz (by simp) fun g0 z0 s0 => ?_)
  replace z0 : IsZip g0 (n0 + 4) (n0 + 2) (n0 + 3) .ellipsis := z0
  have up0 : ∀ c o, c ≠ (n0 + 4) → s.heap.get? c = some o → g0.get? c = some o := fun c o c1 e => s0.extBut _ _ c1 e
  have T0 : IsT g0 (n0 + 3) #[a1, a2] := up0 _ _ (nn _ _ (by omega)) hTO
  replace h1 := h1.at_ fun o e => up0 _ o (nn _ _ (by omega)) e
  replace c1 := c1.at_ fun o e => up0 _ o (nn _ _ (by omega)) e
  replace h2 := h2.at_ fun o e => up0 _ o (nn _ _ (by omega)) e
  replace c2 := c2.at_ fun o e => up0 _ o (nn _ _ (by omega)) e
  refine wpAny_bind ?_
  simp only [List.zipIdx_cons, List.zipIdx_nil, List.forIn_cons, List.forIn_nil]
  cases ex1 : xs1[k]? with
  | none =>
    refine wpAny_bind (wpAny_bind (wpAny_onRaise ?_))
    show wpAny _ _ (Builtin.SmallTypes.nextOf (.ref n0) >>= _) _ _ _
    refine wpAny_bind (nextS_end hh h1 c1 ex1 fun p1 e s1a he => ?_)
    obtain ⟨oe, hoe, hce⟩ := he
    have zz : IsZip p1 (n0 + 4) (n0 + 2) (n0 + 3) .ellipsis := s1a _ _ (nn _ _ (by omega)) z0
    have hez : e ≠ (n0 + 4) := fun x => by subst x; rw [zz] at hoe; cases hoe; simp at hce
    exact wpAny_setField_rec zz (by simp) fun f3 _ s3 => hE f3 e (fun c o cz ct d1 d2 e0 => s3.extBut _ _ cz (s1a _ _ d1 (up0 _ _ cz e0))) ⟨oe, s3.extBut _ _ hez hoe, hce⟩
  | some x1 =>
    refine wpAny_bind (wpAny_bind (wpAny_onRaise ?_))
    show wpAny _ _ (Builtin.SmallTypes.nextOf (.ref n0) >>= _) _ _ _
    refine wpAny_bind (nextS_item h1 c1 ex1 fun p1 q1 s1a => wpAny_pure ?_)
    have T1a : IsT p1 (n0 + 3) #[a1, a2] := s1a.extBut _ _ (nn _ _ (by omega)) T0
    refine wpAny_bind (wpAny_seqItems T1a rfl ?_)
    refine wpAny_bind (updT2 T1a fun g1 T1 s1b => ?_)
    replace T1 : IsT g1 (n0 + 3) #[x1, a2] := T1
    have up1 : ∀ c o, c ≠ n0 → c ≠ (n0 + 3) → g0.get? c = some o → g1.get? c = some o := fun c o c1 c2 e => s1b.extBut _ _ c2 (s1a.extBut _ _ c1 e)
    have z1 : IsZip g1 (n0 + 4) (n0 + 2) (n0 + 3) .ellipsis := up1 _ _ (nn _ _ (by omega)) (nn _ _ (by omega)) z0
    replace h1 := q1.at_ fun o e => s1b.extBut _ _ (nn _ _ (by omega)) e
    replace c1 := c1.at_ fun o e => up1 _ o (nn _ _ (by omega)) (nn _ _ (by omega)) e
    replace h2 := h2.at_ fun o e => up1 _ o (nn _ _ (by omega)) (nn _ _ (by omega)) e
    replace c2 := c2.at_ fun o e => up1 _ o (nn _ _ (by omega)) (nn _ _ (by omega)) e
    refine wpAny_bind (wpAny_letGo (wpAny_pure ?_))
    cases ex2 : xs2[k]? with
    | none =>
      refine wpAny_bind (wpAny_bind (wpAny_onRaise ?_))
      show wpAny _ _ (Builtin.SmallTypes.nextOf (.ref (n0 + 1)) >>= _) _ _ _
      refine wpAny_bind (nextS_end hh h2 c2 ex2 fun p2 e s2a he => ?_)
      obtain ⟨oe, hoe, hce⟩ := he
      have zz : IsZip p2 (n0 + 4) (n0 + 2) (n0 + 3) .ellipsis := s2a _ _ (nn _ _ (by omega)) z1
      have hez : e ≠ (n0 + 4) := fun x => by subst x; rw [zz] at hoe; cases hoe; simp at hce
      exact wpAny_setField_rec zz (by simp) fun f3 _ s3 => hE f3 e (fun c o cz ct d1 d2 e0 => s3.extBut _ _ cz (s2a _ _ d2 (up1 _ _ d1 ct (up0 _ _ cz e0)))) ⟨oe, s3.extBut _ _ hez hoe, hce⟩
    | some x2 =>
      rcases hend with q | q
      · rw [ex1] at q; cases q
      · rw [ex2] at q; cases q
theorem py_item2 {n0 l1 l2 : Nat} {b1 b2 : Bool} {k : Nat} {xs1 xs2 : Array Value} {a1 a2 : Value} {x1 x2 : Value} {Q : Option Value → Shared → Prop} (hl1 : l1 < n0) (hl2 : l2 < n0) (hz : IsZip s.heap (n0 + 4) (n0 + 2) (n0 + 3) .none) (hTI : IsT s.heap (n0 + 2) #[.ref n0, .ref (n0 + 1)]) (hTO : IsT s.heap (n0 + 3) #[a1, a2]) (h1 : SI b1 s.heap n0 l1 k) (c1 : SC b1 s.heap l1 xs1) (h2 : SI b2 s.heap (n0 + 1) l2 k) (c2 : SC b2 s.heap l2 xs2) (e1 : xs1[k]? = some x1) (e2 : xs2[k]? = some x2)
    (hQ : ∀ h', IsZip h' (n0 + 4) (n0 + 2) (n0 + 3) (rawInt s.heap.objs.size) → IsT h' (n0 + 3) #[x1, x2] → SI b1 h' n0 l1 (k + 1) → SI b2 h' (n0 + 1) l2 (k + 1) → IsT h' s.heap.objs.size #[x1, x2] → h'.objs.size = s.heap.objs.size + 1 →
      (∀ c o, c ≠ (n0 + 4) → c ≠ (n0 + 3) → c ≠ n0 → c ≠ (n0 + 1) → s.heap.get? c = some o → h'.get? c = some o) → Q (some (.ref s.heap.objs.size)) { s with heap := h' }) : wpAny (model prog w) A (pyNext (.ref (n0 + 4))) Q E s := by
  have hT : s.TypeIs (.ref (n0 + 4)) "zip" := ⟨_, hz, rfl⟩
  unfold pyNext
  exact wpAny_bind (wpAny_attempt (wpAny_callSpecial?_slot (name := Str.ofString "__next__") hT F.slot_zip_next
    (wpAny_call_entry F.slot_zip_next hT F.entry_zip_next
      (next_item2 hl1 hl2 hz hTI hTO h1 c1 h2 c2 e1 e2 fun h' y0 y1 y2 y3 y4 y5 y6 => wpAny_pure (hQ h' y0 y1 y2 y3 y4 y5 y6)) (F.args_zip_next_1 _))))
theorem py_end2 {n0 l1 l2 : Nat} {b1 b2 : Bool} {k : Nat} {xs1 xs2 : Array Value} {a1 a2 : Value} {Q : Option Value → Shared → Prop} (hh : A.handled = none) (hl1 : l1 < n0) (hl2 : l2 < n0) (hz : IsZip s.heap (n0 + 4) (n0 + 2) (n0 + 3) .none) (hTI : IsT s.heap (n0 + 2) #[.ref n0, .ref (n0 + 1)]) (hTO : IsT s.heap (n0 + 3) #[a1, a2]) (h1 : SI b1 s.heap n0 l1 k) (c1 : SC b1 s.heap l1 xs1) (h2 : SI b2 s.heap (n0 + 1) l2 k) (c2 : SC b2 s.heap l2 xs2) (hend : xs1[k]? = none ∨ xs2[k]? = none)
    (hQ : ∀ h', (∀ c o, c ≠ (n0 + 4) → c ≠ (n0 + 3) → c ≠ n0 → c ≠ (n0 + 1) → s.heap.get? c = some o → h'.get? c = some o) → Q none { s with heap := h' }) : wpAny (model prog w) A (pyNext (.ref (n0 + 4))) Q E s := by
  have hT : s.TypeIs (.ref (n0 + 4)) "zip" := ⟨_, hz, rfl⟩
  unfold pyNext
  refine wpAny_bind (wpAny_attempt (wpAny_callSpecial?_slot (name := Str.ofString "__next__") hT F.slot_zip_next
    (wpAny_call_entry F.slot_zip_next hT F.entry_zip_next (next_end2 hh hl1 hl2 hz hTI hTO h1 c1 h2 c2 hend fun h' e hk he => ?_) (F.args_zip_next_1 _))))
  obtain ⟨o, ho, hc⟩ := he
  refine wpAny_bind (wpAny_isInstance (T := "StopIteration") (b := true) ⟨o, ho, hc⟩ isSubtype_stop ?_)
  exact wpAny_pure (hQ _ hk)
end
section
variable {prog : Program} {w : World} {A : Around} {E : Value → Shared → Prop} {s : Shared}
theorem updT3 {T : Addr} {a1 a2 a3 x : Value} {k : Nat} {Q : Unit → Shared → Prop} (hT : IsT s.heap T #[a1, a2, a3])
    (h : ∀ h', h'.get? T = some { cls := .type "tuple", data := .seq ((#[a1, a2, a3] : Array Value).setIfInBounds k x) } → Heap.SameBut T s.heap h' → Q () { s with heap := h' }) :
    wpAny (model prog w) A (updateSeq T (·.setIfInBounds k x)) Q E s := by
  refine wpAny_updateSeq hT rfl (h _ ?_ (Heap.SameBut.update ..))
  rw [Heap.get?_update_self _ hT rfl]
  simp [Obj.mapSeq]
theorem next_item3 {n0 l1 l2 l3 : Nat} {b1 b2 b3 : Bool} {k : Nat} {xs1 xs2 xs3 : Array Value} {a1 a2 a3 : Value} {x1 x2 x3 : Value} {Q : Value → Shared → Prop} (hl1 : l1 < n0) (hl2 : l2 < n0) (hl3 : l3 < n0) (hz : IsZip s.heap (n0 + 5) (n0 + 3) (n0 + 4) .none) (hTI : IsT s.heap (n0 + 3) #[.ref n0, .ref (n0 + 1), .ref (n0 + 2)]) (hTO : IsT s.heap (n0 + 4) #[a1, a2, a3]) (h1 : SI b1 s.heap n0 l1 k) (c1 : SC b1 s.heap l1 xs1) (h2 : SI b2 s.heap (n0 + 1) l2 k) (c2 : SC b2 s.heap l2 xs2) (h3 : SI b3 s.heap (n0 + 2) l3 k) (c3 : SC b3 s.heap l3 xs3) (e1 : xs1[k]? = some x1) (e2 : xs2[k]? = some x2) (e3 : xs3[k]? = some x3)
    (hQ : ∀ h', IsZip h' (n0 + 5) (n0 + 3) (n0 + 4) (rawInt s.heap.objs.size) → IsT h' (n0 + 4) #[x1, x2, x3] → SI b1 h' n0 l1 (k + 1) → SI b2 h' (n0 + 1) l2 (k + 1) → SI b3 h' (n0 + 2) l3 (k + 1) → IsT h' s.heap.objs.size #[x1, x2, x3] → h'.objs.size = s.heap.objs.size + 1 →
      (∀ c o, c ≠ (n0 + 5) → c ≠ (n0 + 4) → c ≠ n0 → c ≠ (n0 + 1) → c ≠ (n0 + 2) → s.heap.get? c = some o → h'.get? c = some o) → Q (.ref s.heap.objs.size) { s with heap := h' }) :
    wpAny (model prog w) A (Builtin.«zip.__next__» ⟨[.ref (n0 + 5)], []⟩) (fun fin s' => ∃ v, fin = .done (.ret v) ∧ Q v s') E s := by
  show wpAny _ _ (field (.ref _) 2 >>= _) _ _ _
  refine wpAny_bind (wpAny_field hz rfl (x := .bool false) rfl ?_)
  show wpAny _ _ (field (.ref _) 3 >>= _) _ _ _
  refine wpAny_bind (wpAny_field hz rfl (x := .ref (n0 + 3)) rfl ?_)
  refine wpAny_bind (wpAny_seqItems hTI rfl ?_)
  show wpAny _ _ (Builtin.SmallTypes.ownedTupleIsFree (.ref _) >>= _) _ _ _
  refine wpAny_bind ?_
  unfold Builtin.SmallTypes.ownedTupleIsFree
  refine wpAny_bind (wpAny_field hz rfl (x := .none) rfl (wpAny_pure ?_))
  simp only [if_true]
  refine wpAny_bind (wpAny_rule ?_)
  refine wpAny_bind (wpAny_field hz rfl (x := .ref (n0 + 4)) rfl ?_)
  refine wpAny_bind (wpAny_setField_rec hz (by simp) fun g0 z0 s0 => ?_)
  replace z0 : IsZip g0 (n0 + 5) (n0 + 3) (n0 + 4) .ellipsis := z0
  have up0 : ∀ c o, c ≠ (n0 + 5) → s.heap.get? c = some o → g0.get? c = some o := fun c o c1 e => s0.extBut _ _ c1 e
  have T0 : IsT g0 (n0 + 4) #[a1, a2, a3] := up0 _ _ (nn _ _ (by omega)) hTO
  replace h1 := h1.at_ fun o e => up0 _ o (nn _ _ (by omega)) e
  replace c1 := c1.at_ fun o e => up0 _ o (nn _ _ (by omega)) e
  replace h2 := h2.at_ fun o e => up0 _ o (nn _ _ (by omega)) e
  replace c2 := c2.at_ fun o e => up0 _ o (nn _ _ (by omega)) e
  replace h3 := h3.at_ fun o e => up0 _ o (nn _ _ (by omega)) e
  replace c3 := c3.at_ fun o e => up0 _ o (nn _ _ (by omega)) e
  refine wpAny_bind ?_
  simp only [List.zipIdx_cons, List.zipIdx_nil, List.forIn_cons, List.forIn_nil]
  refine wpAny_bind (wpAny_bind (wpAny_onRaise ?_))
  show wpAny _ _ (Builtin.SmallTypes.nextOf (.ref n0) >>= _) _ _ _
  refine wpAny_bind (nextS_item h1 c1 e1 fun p1 q1 s1a => wpAny_pure ?_)
  have T1a : IsT p1 (n0 + 4) #[a1, a2, a3] := s1a.extBut _ _ (nn _ _ (by omega)) T0
  refine wpAny_bind (wpAny_seqItems T1a rfl ?_)
  refine wpAny_bind (updT3 T1a fun g1 T1 s1b => ?_)
  replace T1 : IsT g1 (n0 + 4) #[x1, a2, a3] := T1
  have up1 : ∀ c o, c ≠ n0 → c ≠ (n0 + 4) → g0.get? c = some o → g1.get? c = some o := fun c o c1 c2 e => s1b.extBut _ _ c2 (s1a.extBut _ _ c1 e)
  have z1 : IsZip g1 (n0 + 5) (n0 + 3) (n0 + 4) .ellipsis := up1 _ _ (nn _ _ (by omega)) (nn _ _ (by omega)) z0
  replace h1 := q1.at_ fun o e => s1b.extBut _ _ (nn _ _ (by omega)) e
  replace c1 := c1.at_ fun o e => up1 _ o (nn _ _ (by omega)) (nn _ _ (by omega)) e
  replace h2 := h2.at_ fun o e => up1 _ o (nn _ _ (by omega)) (nn _ _ (by omega)) e
  replace c2 := c2.at_ fun o e => up1 _ o (nn _ _ (by omega)) (nn _ _ (by omega)) e
  replace h3 := h3.at_ fun o e => up1 _ o (nn _ _ (by omega)) (nn _ _ (by omega)) e
  replace c3 := c3.at_ fun o e => up1 _ o (nn _ _ (by omega)) (nn _ _ (by omega)) e
  refine wpAny_bind (wpAny_letGo (wpAny_pure ?_))
  refine wpAny_bind (wpAny_bind (wpAny_onRaise ?_))
  show wpAny _ _ (Builtin.SmallTypes.nextOf (.ref (n0 + 1)) >>= _) _ _ _
  refine wpAny_bind (nextS_item h2 c2 e2 fun p2 q2 s2a => wpAny_pure ?_)
  have T2a : IsT p2 (n0 + 4) #[x1, a2, a3] := s2a.extBut _ _ (nn _ _ (by omega)) T1
  refine wpAny_bind (wpAny_seqItems T2a rfl ?_)
  refine wpAny_bind (updT3 T2a fun g2 T2 s2b => ?_)
  replace T2 : IsT g2 (n0 + 4) #[x1, x2, a3] := T2
  have up2 : ∀ c o, c ≠ (n0 + 1) → c ≠ (n0 + 4) → g1.get? c = some o → g2.get? c = some o := fun c o c1 c2 e => s2b.extBut _ _ c2 (s2a.extBut _ _ c1 e)
  have z2 : IsZip g2 (n0 + 5) (n0 + 3) (n0 + 4) .ellipsis := up2 _ _ (nn _ _ (by omega)) (nn _ _ (by omega)) z1
  replace h2 := q2.at_ fun o e => s2b.extBut _ _ (nn _ _ (by omega)) e
  replace h1 := h1.at_ fun o e => up2 _ o (nn _ _ (by omega)) (nn _ _ (by omega)) e
  replace c1 := c1.at_ fun o e => up2 _ o (nn _ _ (by omega)) (nn _ _ (by omega)) e
  replace c2 := c2.at_ fun o e => up2 _ o (nn _ _ (by omega)) (nn _ _ (by omega)) e
  replace h3 := h3.at_ fun o e => up2 _ o (nn _ _ (by omega)) (nn _ _ (by omega)) e
  replace c3 := c3.at_ fun o e => up2 _ o (nn _ _ (by omega)) (nn _ _ (by omega)) e
  refine wpAny_bind (wpAny_letGo (wpAny_pure ?_))
  refine wpAny_bind (wpAny_bind (wpAny_onRaise ?_))
  show wpAny _ _ (Builtin.SmallTypes.nextOf (.ref (n0 + 2)) >>= _) _ _ _
  refine wpAny_bind (nextS_item h3 c3 e3 fun p3 q3 s3a => wpAny_pure ?_)
  have T3a : IsT p3 (n0 + 4) #[x1, x2, a3] := s3a.extBut _ _ (nn _ _ (by omega)) T2
  refine wpAny_bind (wpAny_seqItems T3a rfl ?_)
  refine wpAny_bind (updT3 T3a fun g3 T3 s3b => ?_)
  replace T3 : IsT g3 (n0 + 4) #[x1, x2, x3] := T3
  have up3 : ∀ c o, c ≠ (n0 + 2) → c ≠ (n0 + 4) → g2.get? c = some o → g3.get? c = some o := fun c o c1 c2 e => s3b.extBut _ _ c2 (s3a.extBut _ _ c1 e)
  have z3 : IsZip g3 (n0 + 5) (n0 + 3) (n0 + 4) .ellipsis := up3 _ _ (nn _ _ (by omega)) (nn _ _ (by omega)) z2
  replace h3 := q3.at_ fun o e => s3b.extBut _ _ (nn _ _ (by omega)) e
  replace h1 := h1.at_ fun o e => up3 _ o (nn _ _ (by omega)) (nn _ _ (by omega)) e
  replace c1 := c1.at_ fun o e => up3 _ o (nn _ _ (by omega)) (nn _ _ (by omega)) e
  replace h2 := h2.at_ fun o e => up3 _ o (nn _ _ (by omega)) (nn _ _ (by omega)) e
  replace c2 := c2.at_ fun o e => up3 _ o (nn _ _ (by omega)) (nn _ _ (by omega)) e
  replace c3 := c3.at_ fun o e => up3 _ o (nn _ _ (by omega)) (nn _ _ (by omega)) e
  refine wpAny_bind (wpAny_letGo (wpAny_pure (wpAny_pure ?_)))
  refine wpAny_bind (wpAny_seqItems T3 rfl ?_)
  refine wpAny_bind (wpAny_newTuple ?_)
  have hsz : g3.objs.size = s.heap.objs.size := by rw [s3b.1, s3a.1, s2b.1, s2a.1, s1b.1, s1a.1, s0.1]
  have upA : ∀ c o, c ≠ (n0 + 5) → c ≠ (n0 + 4) → c ≠ n0 → c ≠ (n0 + 1) → c ≠ (n0 + 2) → s.heap.get? c = some o → g3.get? c = some o := fun c o cz ct d1 d2 d3 e => up3 _ _ d3 ct (up2 _ _ d2 ct (up1 _ _ d1 ct (up0 _ _ cz e)))
  have hzlt : (n0 + 5) < g3.objs.size := Heap.lt_size z3
  show wpAny _ _ (Builtin.SmallTypes.ownedTupleHandOut (.ref _) (.ref g3.objs.size) >>= _) _ _ _
  refine wpAny_bind ?_
  unfold Builtin.SmallTypes.ownedTupleHandOut
  have zP : IsZip (g3.push { cls := .type "tuple", data := .seq #[x1, x2, x3] }) (n0 + 5) (n0 + 3) (n0 + 4) .ellipsis := Heap.get?_push_of_some _ z3
  refine wpAny_bind (wpAny_setField_rec zP (by simp) fun f7 z7 s7 => ?_)
  replace z7 : IsZip f7 (n0 + 5) (n0 + 3) (n0 + 4) (rawInt g3.objs.size) := z7
  refine wpAny_setField_rec z7 (by simp) fun f8 z8 s8 => ?_
  replace z8 : IsZip f8 (n0 + 5) (n0 + 3) (n0 + 4) (rawInt g3.objs.size) := z8
  have up : ∀ c o, c ≠ (n0 + 5) → g3.get? c = some o → f8.get? c = some o := fun c o c1 e => s8.extBut _ _ c1 (s7.extBut _ _ c1 (Heap.get?_push_of_some _ e))
  have t8 : IsT f8 g3.objs.size #[x1, x2, x3] := s8.extBut _ _ (Nat.ne_of_gt hzlt) (s7.extBut _ _ (Nat.ne_of_gt hzlt) (Heap.get?_push_size _ rfl))
  have n8 : f8.objs.size = g3.objs.size + 1 := by rw [s8.1, s7.1, Heap.size_push]
  rw [hsz] at z8 t8 n8
  refine wpAny_pure ⟨_, rfl, ?_⟩
  show Q (.ref g3.objs.size) _
  rw [hsz]
  exact hQ f8 z8 (up _ _ (nn _ _ (by omega)) T3) (h1.at_ fun o e => up _ o (nn _ _ (by omega)) e) (h2.at_ fun o e => up _ o (nn _ _ (by omega)) e) (h3.at_ fun o e => up _ o (nn _ _ (by omega)) e) t8 n8 fun c o cz ct d1 d2 d3 e => up c o cz (upA c o cz ct d1 d2 d3 e)
theorem next_end3 {n0 l1 l2 l3 : Nat} {b1 b2 b3 : Bool} {k : Nat} {xs1 xs2 xs3 : Array Value} {a1 a2 a3 : Value} {Q : Fin → Shared → Prop} (hh : A.handled = none) (hl1 : l1 < n0) (hl2 : l2 < n0) (hl3 : l3 < n0) (hz : IsZip s.heap (n0 + 5) (n0 + 3) (n0 + 4) .none) (hTI : IsT s.heap (n0 + 3) #[.ref n0, .ref (n0 + 1), .ref (n0 + 2)]) (hTO : IsT s.heap (n0 + 4) #[a1, a2, a3]) (h1 : SI b1 s.heap n0 l1 k) (c1 : SC b1 s.heap l1 xs1) (h2 : SI b2 s.heap (n0 + 1) l2 k) (c2 : SC b2 s.heap l2 xs2) (h3 : SI b3 s.heap (n0 + 2) l3 k) (c3 : SC b3 s.heap l3 xs3) (hend : xs1[k]? = none ∨ xs2[k]? = none ∨ xs3[k]? = none)
    (hE : ∀ h' e, (∀ c o, c ≠ (n0 + 5) → c ≠ (n0 + 4) → c ≠ n0 → c ≠ (n0 + 1) → c ≠ (n0 + 2) → s.heap.get? c = some o → h'.get? c = some o) → (∃ o, h'.get? e = some o ∧ o.cls = .type "StopIteration") → E (.ref e) { s with heap := h' }) :
    wpAny (model prog w) A (Builtin.«zip.__next__» ⟨[.ref (n0 + 5)], []⟩) Q E s := by
  show wpAny _ _ (field (.ref _) 2 >>= _) _ _ _
  refine wpAny_bind (wpAny_field hz rfl (x := .bool false) rfl ?_)
  show wpAny _ _ (field (.ref _) 3 >>= _) _ _ _
  refine wpAny_bind (wpAny_field hz rfl (x := .ref (n0 + 3)) rfl ?_)
  refine wpAny_bind (wpAny_seqItems hTI rfl ?_)
  show wpAny _ _ (Builtin.SmallTypes.ownedTupleIsFree (.ref _) >>= _) _ _ _
  refine wpAny_bind ?_
  unfold Builtin.SmallTypes.ownedTupleIsFree
  refine wpAny_bind (wpAny_field hz rfl (x := .none) rfl (wpAny_pure ?_))
  simp only [if_true]
  refine wpAny_bind (wpAny_rule ?_)
  refine wpAny_bind (wpAny_field hz rfl (x := .ref (n0 + 4)) rfl ?_)
  refine wpAny_bind (wpAny_setField_rec hz (by simp) fun g0 z0 s0 => ?_)
  replace z0 : IsZip g0 (n0 + 5) (n0 + 3) (n0 + 4) .ellipsis := z0
  have up0 : ∀ c o, c ≠ (n0 + 5) → s.heap.get? c = some o → g0.get? c = some o := fun c o c1 e => s0.extBut _ _ c1 e
  have T0 : IsT g0 (n0 + 4) #[a1, a2, a3] := up0 _ _ (nn _ _ (by omega)) hTO
  replace h1 := h1.at_ fun o e => up0 _ o (nn _ _ (by omega)) e
  replace c1 := c1.at_ fun o e => up0 _ o (nn _ _ (by omega)) e
  replace h2 := h2.at_ fun o e => up0 _ o (nn _ _ (by omega)) e
  replace c2 := c2.at_ fun o e => up0 _ o (nn _ _ (by omega)) e
  replace h3 := h3.at_ fun o e => up0 _ o (nn _ _ (by omega)) e
  replace c3 := c3.at_ fun o e => up0 _ o (nn _ _ (by omega)) e
  refine wpAny_bind ?_
  simp only [List.zipIdx_cons, List.zipIdx_nil, List.forIn_cons, List.forIn_nil]
  cases ex1 : xs1[k]? with
  | none =>
    refine wpAny_bind (wpAny_bind (wpAny_onRaise ?_))
    show wpAny _ _ (Builtin.SmallTypes.nextOf (.ref n0) >>= _) _ _ _
    refine wpAny_bind (nextS_end hh h1 c1 ex1 fun p1 e s1a he => ?_)
    obtain ⟨oe, hoe, hce⟩ := he
    have zz : IsZip p1 (n0 + 5) (n0 + 3) (n0 + 4) .ellipsis := s1a _ _ (nn _ _ (by omega)) z0
    have hez : e ≠ (n0 + 5) := fun x => by subst x; rw [zz] at hoe; cases hoe; simp at hce
    exact wpAny_setField_rec zz (by simp) fun f3 _ s3 => hE f3 e (fun c o cz ct d1 d2 d3 e0 => s3.extBut _ _ cz (s1a _ _ d1 (up0 _ _ cz e0))) ⟨oe, s3.extBut _ _ hez hoe, hce⟩
  | some x1 =>
    refine wpAny_bind (wpAny_bind (wpAny_onRaise ?_))
    show wpAny _ _ (Builtin.SmallTypes.nextOf (.ref n0) >>= _) _ _ _
    refine wpAny_bind (nextS_item h1 c1 ex1 fun p1 q1 s1a => wpAny_pure ?_)
    have T1a : IsT p1 (n0 + 4) #[a1, a2, a3] := s1a.extBut _ _ (nn _ _ (by omega)) T0
    refine wpAny_bind (wpAny_seqItems T1a rfl ?_)
    refine wpAny_bind (updT3 T1a fun g1 T1 s1b => ?_)
    replace T1 : IsT g1 (n0 + 4) #[x1, a2, a3] := T1
    have up1 : ∀ c o, c ≠ n0 → c ≠ (n0 + 4) → g0.get? c = some o → g1.get? c = some o := fun c o c1 c2 e => s1b.extBut _ _ c2 (s1a.extBut _ _ c1 e)
    have z1 : IsZip g1 (n0 + 5) (n0 + 3) (n0 + 4) .ellipsis := up1 _ _ (nn _ _ (by omega)) (nn _ _ (by omega)) z0
    replace h1 := q1.at_ fun o e => s1b.extBut _ _ (nn _ _ (by omega)) e
    replace c1 := c1.at_ fun o e => up1 _ o (nn _ _ (by omega)) (nn _ _ (by omega)) e
    replace h2 := h2.at_ fun o e => up1 _ o (nn _ _ (by omega)) (nn _ _ (by omega)) e
    replace c2 := c2.at_ fun o e => up1 _ o (nn _ _ (by omega)) (nn _ _ (by omega)) e
    replace h3 := h3.at_ fun o e => up1 _ o (nn _ _ (by omega)) (nn _ _ (by omega)) e
    replace c3 := c3.at_ fun o e => up1 _ o (nn _ _ (by omega)) (nn _ _ (by omega)) e
    refine wpAny_bind (wpAny_letGo (wpAny_pure ?_))
    cases ex2 : xs2[k]? with
    | none =>
      refine wpAny_bind (wpAny_bind (wpAny_onRaise ?_))
      show wpAny _ _ (Builtin.SmallTypes.nextOf (.ref (n0 + 1)) >>= _) _ _ _
      refine wpAny_bind (nextS_end hh h2 c2 ex2 fun p2 e s2a he => ?_)
      obtain ⟨oe, hoe, hce⟩ := he
      have zz : IsZip p2 (n0 + 5) (n0 + 3) (n0 + 4) .ellipsis := s2a _ _ (nn _ _ (by omega)) z1
      have hez : e ≠ (n0 + 5) := fun x => by subst x; rw [zz] at hoe; cases hoe; simp at hce
      exact wpAny_setField_rec zz (by simp) fun f3 _ s3 => hE f3 e (fun c o cz ct d1 d2 d3 e0 => s3.extBut _ _ cz (s2a _ _ d2 (up1 _ _ d1 ct (up0 _ _ cz e0)))) ⟨oe, s3.extBut _ _ hez hoe, hce⟩
    | some x2 =>
      refine wpAny_bind (wpAny_bind (wpAny_onRaise ?_))
      show wpAny _ _ (Builtin.SmallTypes.nextOf (.ref (n0 + 1)) >>= _) _ _ _
      refine wpAny_bind (nextS_item h2 c2 ex2 fun p2 q2 s2a => wpAny_pure ?_)
      have T2a : IsT p2 (n0 + 4) #[x1, a2, a3] := s2a.extBut _ _ (nn _ _ (by omega)) T1
      refine wpAny_bind (wpAny_seqItems T2a rfl ?_)
      refine wpAny_bind (updT3 T2a fun g2 T2 s2b => ?_)
      replace T2 : IsT g2 (n0 + 4) #[x1, x2, a3] := T2
      have up2 : ∀ c o, c ≠ (n0 + 1) → c ≠ (n0 + 4) → g1.get? c = some o → g2.get? c = some o := fun c o c1 c2 e => s2b.extBut _ _ c2 (s2a.extBut _ _ c1 e)
      have z2 : IsZip g2 (n0 + 5) (n0 + 3) (n0 + 4) .ellipsis := up2 _ _ (nn _ _ (by omega)) (nn _ _ (by omega)) z1
      replace h2 := q2.at_ fun o e => s2b.extBut _ _ (nn _ _ (by omega)) e
      replace h1 := h1.at_ fun o e => up2 _ o (nn _ _ (by omega)) (nn _ _ (by omega)) e
      replace c1 := c1.at_ fun o e => up2 _ o (nn _ _ (by omega)) (nn _ _ (by omega)) e
      replace c2 := c2.at_ fun o e => up2 _ o (nn _ _ (by omega)) (nn _ _ (by omega)) e
      replace h3 := h3.at_ fun o e => up2 _ o (nn _ _ (by omega)) (nn _ _ (by omega)) e
      replace c3 := c3.at_ fun o e => up2 _ o (nn _ _ (by omega)) (nn _ _ (by omega)) e
      refine wpAny_bind (wpAny_letGo (wpAny_pure ?_))
      cases ex3 : xs3[k]? with
      | none =>
        refine wpAny_bind (wpAny_bind (wpAny_onRaise ?_))
        show wpAny _ _ (Builtin.SmallTypes.nextOf (.ref (n0 + 2)) >>= _) _ _ _
        refine wpAny_bind (nextS_end hh h3 c3 ex3 fun p3 e s3a he => ?_)
        obtain ⟨oe, hoe, hce⟩ := he
        have zz : IsZip p3 (n0 + 5) (n0 + 3) (n0 + 4) .ellipsis := s3a _ _ (nn _ _ (by omega)) z2
        have hez : e ≠ (n0 + 5) := fun x => by subst x; rw [zz] at hoe; cases hoe; simp at hce
        exact wpAny_setField_rec zz (by simp) fun f3 _ s3 => hE f3 e (fun c o cz ct d1 d2 d3 e0 => s3.extBut _ _ cz (s3a _ _ d3 (up2 _ _ d2 ct (up1 _ _ d1 ct (up0 _ _ cz e0))))) ⟨oe, s3.extBut _ _ hez hoe, hce⟩
      | some x3 =>
        rcases hend with q | q | q
        · rw [ex1] at q; cases q
        · rw [ex2] at q; cases q
        · rw [ex3] at q; cases q
theorem py_item3 {n0 l1 l2 l3 : Nat} {b1 b2 b3 : Bool} {k : Nat} {xs1 xs2 xs3 : Array Value} {a1 a2 a3 : Value} {x1 x2 x3 : Value} {Q : Option Value → Shared → Prop} (hl1 : l1 < n0) (hl2 : l2 < n0) (hl3 : l3 < n0) (hz : IsZip s.heap (n0 + 5) (n0 + 3) (n0 + 4) .none) (hTI : IsT s.heap (n0 + 3) #[.ref n0, .ref (n0 + 1), .ref (n0 + 2)]) (hTO : IsT s.heap (n0 + 4) #[a1, a2, a3]) (h1 : SI b1 s.heap n0 l1 k) (c1 : SC b1 s.heap l1 xs1) (h2 : SI b2 s.heap (n0 + 1) l2 k) (c2 : SC b2 s.heap l2 xs2) (h3 : SI b3 s.heap (n0 + 2) l3 k) (c3 : SC b3 s.heap l3 xs3) (e1 : xs1[k]? = some x1) (e2 : xs2[k]? = some x2) (e3 : xs3[k]? = some x3)
    (hQ : ∀ h', IsZip h' (n0 + 5) (n0 + 3) (n0 + 4) (rawInt s.heap.objs.size) → IsT h' (n0 + 4) #[x1, x2, x3] → SI b1 h' n0 l1 (k + 1) → SI b2 h' (n0 + 1) l2 (k + 1) → SI b3 h' (n0 + 2) l3 (k + 1) → IsT h' s.heap.objs.size #[x1, x2, x3] → h'.objs.size = s.heap.objs.size + 1 →
      (∀ c o, c ≠ (n0 + 5) → c ≠ (n0 + 4) → c ≠ n0 → c ≠ (n0 + 1) → c ≠ (n0 + 2) → s.heap.get? c = some o → h'.get? c = some o) → Q (some (.ref s.heap.objs.size)) { s with heap := h' }) : wpAny (model prog w) A (pyNext (.ref (n0 + 5))) Q E s := by
  have hT : s.TypeIs (.ref (n0 + 5)) "zip" := ⟨_, hz, rfl⟩
  unfold pyNext
  exact wpAny_bind (wpAny_attempt (wpAny_callSpecial?_slot (name := Str.ofString "__next__") hT F.slot_zip_next
    (wpAny_call_entry F.slot_zip_next hT F.entry_zip_next
      (next_item3 hl1 hl2 hl3 hz hTI hTO h1 c1 h2 c2 h3 c3 e1 e2 e3 fun h' y0 y1 y2 y3 y4 y5 y6 y7 => wpAny_pure (hQ h' y0 y1 y2 y3 y4 y5 y6 y7)) (F.args_zip_next_1 _))))
theorem py_end3 {n0 l1 l2 l3 : Nat} {b1 b2 b3 : Bool} {k : Nat} {xs1 xs2 xs3 : Array Value} {a1 a2 a3 : Value} {Q : Option Value → Shared → Prop} (hh : A.handled = none) (hl1 : l1 < n0) (hl2 : l2 < n0) (hl3 : l3 < n0) (hz : IsZip s.heap (n0 + 5) (n0 + 3) (n0 + 4) .none) (hTI : IsT s.heap (n0 + 3) #[.ref n0, .ref (n0 + 1), .ref (n0 + 2)]) (hTO : IsT s.heap (n0 + 4) #[a1, a2, a3]) (h1 : SI b1 s.heap n0 l1 k) (c1 : SC b1 s.heap l1 xs1) (h2 : SI b2 s.heap (n0 + 1) l2 k) (c2 : SC b2 s.heap l2 xs2) (h3 : SI b3 s.heap (n0 + 2) l3 k) (c3 : SC b3 s.heap l3 xs3) (hend : xs1[k]? = none ∨ xs2[k]? = none ∨ xs3[k]? = none)
    (hQ : ∀ h', (∀ c o, c ≠ (n0 + 5) → c ≠ (n0 + 4) → c ≠ n0 → c ≠ (n0 + 1) → c ≠ (n0 + 2) → s.heap.get? c = some o → h'.get? c = some o) → Q none { s with heap := h' }) : wpAny (model prog w) A (pyNext (.ref (n0 + 5))) Q E s := by
  have hT : s.TypeIs (.ref (n0 + 5)) "zip" := ⟨_, hz, rfl⟩
  unfold pyNext
  refine wpAny_bind (wpAny_attempt (wpAny_callSpecial?_slot (name := Str.ofString "__next__") hT F.slot_zip_next
    (wpAny_call_entry F.slot_zip_next hT F.entry_zip_next (next_end3 hh hl1 hl2 hl3 hz hTI hTO h1 c1 h2 c2 h3 c3 hend fun h' e hk he => ?_) (F.args_zip_next_1 _))))
  obtain ⟨o, ho, hc⟩ := he
  refine wpAny_bind (wpAny_isInstance (T := "StopIteration") (b := true) ⟨o, ho, hc⟩ isSubtype_stop ?_)
  exact wpAny_pure (hQ _ hk)
end
end Zn

set_option maxRecDepth 100000
set_option maxHeartbeats 2000000
namespace Zn
open PySem PySem.Spec PyProof.Rows L2 Dl
def Sq (K : PySem.W.Frag) : Bool → Hp → Addr → List V → Prop
  | true, H, a, xs => SqL K H a xs
  | false, H, a, xs => SqT K H a xs
theorem Sq.get {X : Cx} {pins : List (Addr × Obj)} {σ : L2.St} {H : Hp} {s : Shared} {b : Bool} {a : Addr} {xs : List V} (I : Inv X pins σ H s) (h : Sq X.K b H a xs) : ∃ its : List Value, Vals xs its ∧ SC b s.heap a its.toArray ∧ a < s.heap.objs.size := by
  cases b with
  | true =>
    obtain ⟨its, rv, p, _⟩ := I.list (show SqL X.K H a xs from h)
    exact ⟨its, rv, p.isList, p.lt⟩
  | false =>
    obtain ⟨its, rv, p, _⟩ := I.tuple (show SqT X.K H a xs from h)
    exact ⟨its, rv, (show s.heap.IsTuple a its.toArray from p), p.lt⟩
theorem Sq.inj {X : Cx} {pins : List (Addr × Obj)} {σ : L2.St} {H : Hp} {s : Shared} {b : Bool} {a : Addr} {xs ys : List V} (I : Inv X pins σ H s) (h : Sq X.K b H a xs) (h' : Sq X.K b H a ys) : xs = ys := by
  cases b with
  | true => exact I.list_inj (show SqL X.K H a xs from h) h'
  | false => exact I.tuple_inj (show SqT X.K H a xs from h) h'
theorem F_typeCall_zip_3 (a b c : Value) : checkTypeCall "zip" ⟨[a, b, c], []⟩ = pure () := by kernel_rfl
theorem F_newCall_zip_3 (a b c : Value) : checkBuiltinCall "zip.__new__" ⟨[.type "zip", a, b, c], []⟩ = pure () := by kernel_rfl
theorem F_args_object_init_4 (a b c d : Value) : argsOk "object.__init__" ⟨[a, b, c, d], []⟩ := by
  unfold argsOk; rw [signature?_of (id := "object.__init__") (n := ['_', '_', 't', 'i', 'n', 'i', '_', '_']) (o := ['t', 'c', 'e', 'j', 'b', 'o']) (by kernel_rfl) F.owner_object]; kernel_rfl
def It2 (K : PySem.W.Frag) (b1 b2 : Bool) (a1 a2 : Addr) : It :=
  ⟨fun i H => ∃ (X1 X2 : List V) (x1 x2 : V), Sq K b1 H a1 X1 ∧ Sq K b2 H a2 X2 ∧ X1[i]? = some x1 ∧ X2[i]? = some x2,
    fun i H v H' => ∃ T x1 x2, v = .ref T ∧ H T = none ∧ H' = upd H T (.tup [x1, x2]) ∧ (∀ X1, Sq K b1 H a1 X1 → X1[i]? = some x1) ∧ (∀ X2, Sq K b2 H a2 X2 → X2[i]? = some x2),
    fun i H => ∃ X1 X2 : List V, Sq K b1 H a1 X1 ∧ Sq K b2 H a2 X2 ∧ (X1.length ≤ i ∨ X2.length ≤ i)⟩
def Tn2 (b1 b2 : Bool) (n0 : Nat) (a1 a2 : Addr) (i : Nat) (h : Heap) : Prop := IsZip h (n0 + 4) (n0 + 2) (n0 + 3) .none ∧ IsT h (n0 + 2) #[.ref n0, .ref (n0 + 1)] ∧ (∃ y1 y2, IsT h (n0 + 3) #[y1, y2]) ∧ SI b1 h n0 a1 i ∧ SI b2 h (n0 + 1) a2 i
theorem mem2 {n0 c : Nat} (hc : c ∈ ([(n0 + 4), (n0 + 2), (n0 + 3), n0, (n0 + 1)] : List Addr)) : c = (n0 + 4) ∨ c = (n0 + 2) ∨ c = (n0 + 3) ∨ c = n0 ∨ c = (n0 + 1) := by simpa using hc
theorem lt2 {n0 c : Nat} (hc : c ∈ ([(n0 + 4), (n0 + 2), (n0 + 3), n0, (n0 + 1)] : List Addr)) : c < n0 + 5 := by
  have := mem2 hc
  omega
theorem ge2 {n0 c : Nat} (hc : c ∈ ([(n0 + 4), (n0 + 2), (n0 + 3), n0, (n0 + 1)] : List Addr)) : n0 ≤ c := by
  have := mem2 hc
  omega
theorem turn2 {P : Program} {w : World} {K : PySem.W.Frag} {elts : List Expr} {kk : Nat} {tpos : Pos} {b1 b2 : Bool} {n0 : Nat} {a1 a2 : Nat} (l1 : a1 < n0) (l2 : a2 < n0) :
    Turn P w K (.Tuple elts kk tpos) (It2 K b1 b2 a1 a2) [(n0 + 4), (n0 + 2), (n0 + 3), n0, (n0 + 1)] (n0 + 4) (Tn2 b1 b2 n0 a1 a2) where
  mem := List.mem_cons_self
  obj := fun i h st c hc => by
    obtain ⟨hz, hTI, ⟨y1, y2, hTO⟩, h1, h2⟩ := st
    rcases mem2 hc with q | q | q | q | q
    · rw [q]; exact ⟨_, hz, fun v q => nomatch q⟩
    · rw [q]; exact ⟨_, hTI, fun v q => nomatch q⟩
    · rw [q]; exact ⟨_, hTO, fun v q => nomatch q⟩
    · rw [q]; exact h1.obj
    · rw [q]; exact h2.obj
  keep := fun i h h' st k => by
    obtain ⟨hz, hTI, ⟨y1, y2, hTO⟩, h1, h2⟩ := st
    exact ⟨k _ (by simp) _ hz, k _ (by simp) _ hTI, ⟨y1, y2, k _ (by simp) _ hTO⟩, h1.at_ fun o q => k _ (by simp) o q, h2.at_ fun o q => k _ (by simp) o q⟩
  item := by
    intro X hP hw hK hc i pins s σ H E I hf st hg
    subst hP hw hK
    obtain ⟨hz, hTI, ⟨y1, y2, hTO⟩, h1, h2⟩ := st
    obtain ⟨X1, X2, x1, x2, hq1, hq2, hx1, hx2⟩ := hg
    obtain ⟨its1, rv1, c1, _⟩ := hq1.get I
    obtain ⟨u1, hu1, ru1⟩ := rv1.get hx1
    obtain ⟨its2, rv2, c2, _⟩ := hq2.get I
    obtain ⟨u2, hu2, ru2⟩ := rv2.get hx2
    have hzl : (n0 + 4) < s.heap.objs.size := Heap.lt_size hz
    refine py_item2 l1 l2 hz hTI hTO h1 c1 h2 c2 (by simpa using hu1) (by simpa using hu2) fun h' z' TO' h1' h2' hT hsz hk => ?_
    refine ⟨_, rfl, wpAny_letOwnedTupleGo_zip (s := { s with heap := h' }) z' fun h'' z'' sb => ?_⟩
    have hT2 : h''.get? s.heap.objs.size = some { cls := .type "tuple", data := .seq #[u1, u2] } := (sb.2 _ (Nat.ne_of_gt hzl)).trans hT
    have new : ObjOk X.prog X.w (upd H s.heap.objs.size (.tup [x1, x2])) h'' s.heap.objs.size (.tup [x1, x2]) :=
      ⟨by show 2 ≤ sizeLine; decide, [u1, u2], (.cons ru1 (.cons ru2 .nil)), ⟨_, hT2, rfl, _, rfl⟩⟩
    have I1 : Inv X pins σ (upd H s.heap.objs.size (.tup [x1, x2])) { s with heap := h'' } :=
      I.turnedNew (t' := s.toks) (ch := [(n0 + 4), (n0 + 2), (n0 + 3), n0, (n0 + 1)]) (fun c o hb q => (sb.2 c (fun q' => hb (by simp [q']))).trans (hk c o (fun q' => hb (by simp [q'])) (fun q' => hb (by simp [q'])) (fun q' => hb (by simp [q'])) (fun q' => hb (by simp [q'])) q)) hf (Nat.le_refl _) new
    refine ⟨.ref s.heap.objs.size, _, I1, rfl, ⟨_, x1, x2, rfl, I.hok.fresh (Nat.le_refl _), rfl, fun l hl => by rw [Sq.inj I hl hq1]; exact hx1, fun l hl => by rw [Sq.inj I hl hq2]; exact hx2⟩, ⟨z'', ?_, ⟨u1, u2, ?_⟩, ?_, ?_⟩, fun c hcm => ?_⟩
    · exact (sb.2 _ (nn _ _ (by omega))).trans (hk _ _ (nn _ _ (by omega)) (nn _ _ (by omega)) (nn _ _ (by omega)) (nn _ _ (by omega)) hTI)
    · exact (sb.2 _ (nn _ _ (by omega))).trans TO'
    · exact h1'.at_ fun o q => (sb.2 _ (nn _ _ (by omega))).trans q
    · exact h2'.at_ fun o q => (sb.2 _ (nn _ _ (by omega))).trans q
    · have hlt : c < s.heap.objs.size := by
        have := lt2 hcm
        have e2 := hzl
        exact Nat.lt_of_lt_of_le this (by exact e2)
      rw [upd_ne (Nat.ne_of_lt hlt)]
      exact (hf c hcm).1
  done := by
    intro X hP hw hK hc i pins s σ H E I hf st hg
    subst hP hw hK
    obtain ⟨hz, hTI, ⟨y1, y2, hTO⟩, h1, h2⟩ := st
    obtain ⟨X1, X2, hq1, hq2, hend⟩ := hg
    obtain ⟨its1, rv1, c1, _⟩ := hq1.get I
    have n1 := rv1.length
    obtain ⟨its2, rv2, c2, _⟩ := hq2.get I
    have n2 := rv2.length
    have he : its1.toArray[i]? = none ∨ its2.toArray[i]? = none := by
      rcases hend with q | q
      · exact .inl (by simp; omega)
      · exact .inr ((by simp; omega))
    exact py_end2 (I.ok.hd hc) l1 l2 hz hTI hTO h1 c1 h2 c2 he fun h' hk => ⟨rfl, I.turnedL (t' := s.toks) (ch := [(n0 + 4), (n0 + 2), (n0 + 3), n0, (n0 + 1)]) (fun c o hb q =>
      hk c o (fun q' => hb (by simp [q'])) (fun q' => hb (by simp [q'])) (fun q' => hb (by simp [q'])) (fun q' => hb (by simp [q'])) q) hf⟩
  self := fun A i s Q E st h => wpAny_pyIter_zip st.1 h
def It3 (K : PySem.W.Frag) (b1 b2 b3 : Bool) (a1 a2 a3 : Addr) : It :=
  ⟨fun i H => ∃ (X1 X2 X3 : List V) (x1 x2 x3 : V), Sq K b1 H a1 X1 ∧ Sq K b2 H a2 X2 ∧ Sq K b3 H a3 X3 ∧ X1[i]? = some x1 ∧ X2[i]? = some x2 ∧ X3[i]? = some x3,
    fun i H v H' => ∃ T x1 x2 x3, v = .ref T ∧ H T = none ∧ H' = upd H T (.tup [x1, x2, x3]) ∧ (∀ X1, Sq K b1 H a1 X1 → X1[i]? = some x1) ∧ (∀ X2, Sq K b2 H a2 X2 → X2[i]? = some x2) ∧ (∀ X3, Sq K b3 H a3 X3 → X3[i]? = some x3),
    fun i H => ∃ X1 X2 X3 : List V, Sq K b1 H a1 X1 ∧ Sq K b2 H a2 X2 ∧ Sq K b3 H a3 X3 ∧ (X1.length ≤ i ∨ X2.length ≤ i ∨ X3.length ≤ i)⟩
def Tn3 (b1 b2 b3 : Bool) (n0 : Nat) (a1 a2 a3 : Addr) (i : Nat) (h : Heap) : Prop := IsZip h (n0 + 5) (n0 + 3) (n0 + 4) .none ∧ IsT h (n0 + 3) #[.ref n0, .ref (n0 + 1), .ref (n0 + 2)] ∧ (∃ y1 y2 y3, IsT h (n0 + 4) #[y1, y2, y3]) ∧ SI b1 h n0 a1 i ∧ SI b2 h (n0 + 1) a2 i ∧ SI b3 h (n0 + 2) a3 i
theorem mem3 {n0 c : Nat} (hc : c ∈ ([(n0 + 5), (n0 + 3), (n0 + 4), n0, (n0 + 1), (n0 + 2)] : List Addr)) : c = (n0 + 5) ∨ c = (n0 + 3) ∨ c = (n0 + 4) ∨ c = n0 ∨ c = (n0 + 1) ∨ c = (n0 + 2) := by simpa using hc
theorem lt3 {n0 c : Nat} (hc : c ∈ ([(n0 + 5), (n0 + 3), (n0 + 4), n0, (n0 + 1), (n0 + 2)] : List Addr)) : c < n0 + 6 := by
  have := mem3 hc
  omega
theorem ge3 {n0 c : Nat} (hc : c ∈ ([(n0 + 5), (n0 + 3), (n0 + 4), n0, (n0 + 1), (n0 + 2)] : List Addr)) : n0 ≤ c := by
  have := mem3 hc
  omega
theorem turn3 {P : Program} {w : World} {K : PySem.W.Frag} {elts : List Expr} {kk : Nat} {tpos : Pos} {b1 b2 b3 : Bool} {n0 : Nat} {a1 a2 a3 : Nat} (l1 : a1 < n0) (l2 : a2 < n0) (l3 : a3 < n0) :
    Turn P w K (.Tuple elts kk tpos) (It3 K b1 b2 b3 a1 a2 a3) [(n0 + 5), (n0 + 3), (n0 + 4), n0, (n0 + 1), (n0 + 2)] (n0 + 5) (Tn3 b1 b2 b3 n0 a1 a2 a3) where
  mem := List.mem_cons_self
  obj := fun i h st c hc => by
    obtain ⟨hz, hTI, ⟨y1, y2, y3, hTO⟩, h1, h2, h3⟩ := st
    rcases mem3 hc with q | q | q | q | q | q
    · rw [q]; exact ⟨_, hz, fun v q => nomatch q⟩
    · rw [q]; exact ⟨_, hTI, fun v q => nomatch q⟩
    · rw [q]; exact ⟨_, hTO, fun v q => nomatch q⟩
    · rw [q]; exact h1.obj
    · rw [q]; exact h2.obj
    · rw [q]; exact h3.obj
  keep := fun i h h' st k => by
    obtain ⟨hz, hTI, ⟨y1, y2, y3, hTO⟩, h1, h2, h3⟩ := st
    exact ⟨k _ (by simp) _ hz, k _ (by simp) _ hTI, ⟨y1, y2, y3, k _ (by simp) _ hTO⟩, h1.at_ fun o q => k _ (by simp) o q, h2.at_ fun o q => k _ (by simp) o q, h3.at_ fun o q => k _ (by simp) o q⟩
  item := by
    intro X hP hw hK hc i pins s σ H E I hf st hg
    subst hP hw hK
    obtain ⟨hz, hTI, ⟨y1, y2, y3, hTO⟩, h1, h2, h3⟩ := st
    obtain ⟨X1, X2, X3, x1, x2, x3, hq1, hq2, hq3, hx1, hx2, hx3⟩ := hg
    obtain ⟨its1, rv1, c1, _⟩ := hq1.get I
    obtain ⟨u1, hu1, ru1⟩ := rv1.get hx1
    obtain ⟨its2, rv2, c2, _⟩ := hq2.get I
    obtain ⟨u2, hu2, ru2⟩ := rv2.get hx2
    obtain ⟨its3, rv3, c3, _⟩ := hq3.get I
    obtain ⟨u3, hu3, ru3⟩ := rv3.get hx3
    have hzl : (n0 + 5) < s.heap.objs.size := Heap.lt_size hz
    refine py_item3 l1 l2 l3 hz hTI hTO h1 c1 h2 c2 h3 c3 (by simpa using hu1) (by simpa using hu2) (by simpa using hu3) fun h' z' TO' h1' h2' h3' hT hsz hk => ?_
    refine ⟨_, rfl, wpAny_letOwnedTupleGo_zip (s := { s with heap := h' }) z' fun h'' z'' sb => ?_⟩
    have hT2 : h''.get? s.heap.objs.size = some { cls := .type "tuple", data := .seq #[u1, u2, u3] } := (sb.2 _ (Nat.ne_of_gt hzl)).trans hT
    have new : ObjOk X.prog X.w (upd H s.heap.objs.size (.tup [x1, x2, x3])) h'' s.heap.objs.size (.tup [x1, x2, x3]) :=
      ⟨by show 3 ≤ sizeLine; decide, [u1, u2, u3], (.cons ru1 (.cons ru2 (.cons ru3 .nil))), ⟨_, hT2, rfl, _, rfl⟩⟩
    have I1 : Inv X pins σ (upd H s.heap.objs.size (.tup [x1, x2, x3])) { s with heap := h'' } :=
      I.turnedNew (t' := s.toks) (ch := [(n0 + 5), (n0 + 3), (n0 + 4), n0, (n0 + 1), (n0 + 2)]) (fun c o hb q => (sb.2 c (fun q' => hb (by simp [q']))).trans (hk c o (fun q' => hb (by simp [q'])) (fun q' => hb (by simp [q'])) (fun q' => hb (by simp [q'])) (fun q' => hb (by simp [q'])) (fun q' => hb (by simp [q'])) q)) hf (Nat.le_refl _) new
    refine ⟨.ref s.heap.objs.size, _, I1, rfl, ⟨_, x1, x2, x3, rfl, I.hok.fresh (Nat.le_refl _), rfl, fun l hl => by rw [Sq.inj I hl hq1]; exact hx1, fun l hl => by rw [Sq.inj I hl hq2]; exact hx2, fun l hl => by rw [Sq.inj I hl hq3]; exact hx3⟩, ⟨z'', ?_, ⟨u1, u2, u3, ?_⟩, ?_, ?_, ?_⟩, fun c hcm => ?_⟩
    · exact (sb.2 _ (nn _ _ (by omega))).trans (hk _ _ (nn _ _ (by omega)) (nn _ _ (by omega)) (nn _ _ (by omega)) (nn _ _ (by omega)) (nn _ _ (by omega)) hTI)
    · exact (sb.2 _ (nn _ _ (by omega))).trans TO'
    · exact h1'.at_ fun o q => (sb.2 _ (nn _ _ (by omega))).trans q
    · exact h2'.at_ fun o q => (sb.2 _ (nn _ _ (by omega))).trans q
    · exact h3'.at_ fun o q => (sb.2 _ (nn _ _ (by omega))).trans q
    · have hlt : c < s.heap.objs.size := by
        have := lt3 hcm
        have e2 := hzl
        exact Nat.lt_of_lt_of_le this (by exact e2)
      rw [upd_ne (Nat.ne_of_lt hlt)]
      exact (hf c hcm).1
  done := by
    intro X hP hw hK hc i pins s σ H E I hf st hg
    subst hP hw hK
    obtain ⟨hz, hTI, ⟨y1, y2, y3, hTO⟩, h1, h2, h3⟩ := st
    obtain ⟨X1, X2, X3, hq1, hq2, hq3, hend⟩ := hg
    obtain ⟨its1, rv1, c1, _⟩ := hq1.get I
    have n1 := rv1.length
    obtain ⟨its2, rv2, c2, _⟩ := hq2.get I
    have n2 := rv2.length
    obtain ⟨its3, rv3, c3, _⟩ := hq3.get I
    have n3 := rv3.length
    have he : its1.toArray[i]? = none ∨ its2.toArray[i]? = none ∨ its3.toArray[i]? = none := by
      rcases hend with q | q | q
      · exact .inl (by simp; omega)
      · exact .inr (.inl (by simp; omega))
      · exact .inr (.inr ((by simp; omega)))
    exact py_end3 (I.ok.hd hc) l1 l2 l3 hz hTI hTO h1 c1 h2 c2 h3 c3 he fun h' hk => ⟨rfl, I.turnedL (t' := s.toks) (ch := [(n0 + 5), (n0 + 3), (n0 + 4), n0, (n0 + 1), (n0 + 2)]) (fun c o hb q =>
      hk c o (fun q' => hb (by simp [q'])) (fun q' => hb (by simp [q'])) (fun q' => hb (by simp [q'])) (fun q' => hb (by simp [q'])) (fun q' => hb (by simp [q'])) q) hf⟩
  self := fun A i s Q E st h => wpAny_pyIter_zip st.1 h
end Zn

set_option maxRecDepth 100000
set_option maxHeartbeats 2000000
namespace Zn
open PySem PySem.Spec PyProof.Rows L2 Dl
abbrev zLLLH1 (h : Heap) (l1 : Addr) : Heap := h.push { cls := .type "list_iterator", data := .fields #[.ref l1, .int 0 0] }
abbrev zLLLH2 (h : Heap) (l1 l2 : Addr) : Heap := (zLLLH1 h l1).push { cls := .type "list_iterator", data := .fields #[.ref l2, .int 0 0] }
abbrev zLLLH3 (h : Heap) (l1 l2 l3 : Addr) : Heap := (zLLLH2 h l1 l2).push { cls := .type "list_iterator", data := .fields #[.ref l3, .int 0 0] }
abbrev zLLLHa (h : Heap) (l1 l2 l3 : Addr) : Heap := (zLLLH3 h l1 l2 l3).push { cls := .type "tuple", data := .seq #[.ref h.objs.size, .ref (zLLLH1 h l1).objs.size, .ref (zLLLH2 h l1 l2).objs.size] }
abbrev zLLLHb (h : Heap) (l1 l2 l3 : Addr) : Heap := (zLLLHa h l1 l2 l3).push { cls := .type "tuple", data := .seq #[.none, .none, .none] }
abbrev zLLLHc (h : Heap) (l1 l2 l3 : Addr) : Heap := (zLLLHb h l1 l2 l3).push { cls := .type "zip", data := .fields #[.none, .bool false, .bool false, .ref (zLLLH3 h l1 l2 l3).objs.size, .ref (zLLLHa h l1 l2 l3).objs.size] }
theorem zLLL_new (l1 l2 l3 : Addr) (xs1 xs2 xs3 : Array Value) :
    Meets (Builtin.«zip.__new__» ⟨[.type "zip", .ref l1, .ref l2, .ref l3], []⟩) (fun _ R s => s.heap.IsList l1 xs1 ∧ s.heap.IsList l2 xs2 ∧ s.heap.IsList l3 xs3 ∧
      R (.ok (.ret (.ref (zLLLHb s.heap l1 l2 l3).objs.size))) { s with heap := zLLLHc s.heap l1 l2 l3 }) :=
  .of_wp fun prog w A R s h => by
    obtain ⟨hp, g, d, tk, os⟩ := s; obtain ⟨hl1, hl2, hl3, h⟩ := h
    have hsub := sub_zip
    have hL1 : Heap.IsList (Shared.heap ⟨hp, g, d, tk, os⟩) l1 xs1 := hl1
    have hL2 : Heap.IsList (Shared.heap ⟨(hp).push { cls := .type "list_iterator", data := .fields #[.ref l1, .int 0 0] }, g, d, tk, os⟩) l2 xs2 := Heap.IsList.push (hl2) _
    have hL3 : Heap.IsList (Shared.heap ⟨((hp).push { cls := .type "list_iterator", data := .fields #[.ref l1, .int 0 0] }).push { cls := .type "list_iterator", data := .fields #[.ref l2, .int 0 0] }, g, d, tk, os⟩) l3 xs3 := Heap.IsList.push (Heap.IsList.push (hl3) _) _
    wp_walk using wpAny_pyIter_list hL1, wpAny_pyIter_list hL2, wpAny_pyIter_list hL3
    exact ⟨_, rfl, h⟩
theorem call_zLLL {prog : Program} {w : World} {A : Around} {E : Value → Shared → Prop} {s : Shared} {l1 l2 l3 : Addr} {xs1 xs2 xs3 : Array Value} {Q : Value → Shared → Prop} (hl1 : s.heap.IsList l1 xs1) (hl2 : s.heap.IsList l2 xs2) (hl3 : s.heap.IsList l3 xs3)
    (h : ∀ h', Tn3 true true true s.heap.objs.size l1 l2 l3 0 h' → (∀ c o, s.heap.get? c = some o → h'.get? c = some o) → Q (.ref (s.heap.objs.size + 5)) { s with heap := h' }) :
    wpAny (model prog w) A (call (.type "zip") [.ref l1, .ref l2, .ref l3]) Q E s := by
  refine callType_new F.called_zip (by decide) (F_typeCall_zip_3 _ _ _) (F_newCall_zip_3 _ _ _) (fun obj => F_args_object_init_4 obj _ _ _) F.entry_zip_new
    (zLLL_new l1 l2 l3 xs1 xs2 xs3) ⟨hl1, hl2, hl3, ?_⟩
  have z1 : (zLLLH1 s.heap l1).objs.size = s.heap.objs.size + 1 := Heap.size_push ..
  have z2 : (zLLLH2 s.heap l1 l2).objs.size = s.heap.objs.size + 2 := by rw [Heap.size_push, z1]
  have z3 : (zLLLH3 s.heap l1 l2 l3).objs.size = s.heap.objs.size + 3 := by rw [Heap.size_push, z2]
  have za : (zLLLHa s.heap l1 l2 l3).objs.size = s.heap.objs.size + 4 := by rw [Heap.size_push, z3]
  have zb : (zLLLHb s.heap l1 l2 l3).objs.size = s.heap.objs.size + 5 := by rw [Heap.size_push, za]
  have gz : (zLLLHc s.heap l1 l2 l3).get? (zLLLHb s.heap l1 l2 l3).objs.size = some _ := Heap.get?_push_size _ rfl
  have gb : (zLLLHc s.heap l1 l2 l3).get? (zLLLHa s.heap l1 l2 l3).objs.size = some _ := Heap.get?_push_of_some _ (Heap.get?_push_size _ rfl)
  have ga : (zLLLHc s.heap l1 l2 l3).get? (zLLLH3 s.heap l1 l2 l3).objs.size = some _ := Heap.get?_push_of_some _ (Heap.get?_push_of_some _ (Heap.get?_push_size _ rfl))
  have g3 : (zLLLHc s.heap l1 l2 l3).get? (zLLLH2 s.heap l1 l2).objs.size = some _ := Heap.get?_push_of_some _ (Heap.get?_push_of_some _ (Heap.get?_push_of_some _ (Heap.get?_push_size _ rfl)))
  have g2 : (zLLLHc s.heap l1 l2 l3).get? (zLLLH1 s.heap l1).objs.size = some _ := Heap.get?_push_of_some _ (Heap.get?_push_of_some _ (Heap.get?_push_of_some _ (Heap.get?_push_of_some _ (Heap.get?_push_size _ rfl))))
  have g1 : (zLLLHc s.heap l1 l2 l3).get? s.heap.objs.size = some _ := Heap.get?_push_of_some _ (Heap.get?_push_of_some _ (Heap.get?_push_of_some _ (Heap.get?_push_of_some _ (Heap.get?_push_of_some _ (Heap.get?_push_size _ rfl)))))
  show _ ∧ _
  rw [z3, za, zb] at gz
  rw [za] at gb
  rw [z1, z2, z3] at ga
  rw [z1] at g2
  rw [z2] at g3
  rw [zb]
  exact ⟨⟨_, gz, rfl⟩, h _ ⟨gz, ga, ⟨_, _, _, gb⟩, ⟨_, g1, rfl, rfl⟩, ⟨_, g2, rfl, rfl⟩, ⟨_, g3, rfl, rfl⟩⟩ fun c o x => Heap.get?_push_of_some _ (Heap.get?_push_of_some _ (Heap.get?_push_of_some _ (Heap.get?_push_of_some _ (Heap.get?_push_of_some _ (Heap.get?_push_of_some _ (x))))))⟩
def i_zLLL (K : PySem.W.Frag) (ta : TA) : TI := fun σ H R => ta σ H fun vs H1 => ∃ a1 a2 a3 X1 X2 X3, vs = [.ref a1, .ref a2, .ref a3] ∧ Sq K true H1 a1 X1 ∧ Sq K true H1 a2 X2 ∧ Sq K true H1 a3 X3 ∧ R (It3 K true true true a1 a2 a3) H1
theorem pi_zLLL {X : Cx} {e1 e2 e3 : Expr} {ta : TA} {p pos tpos : Pos} {elts : List Expr} {kk : Nat} (hg : Gl X "zip") (hm : X.mg "zip" = none) (ha : PA X [e1, e2, e3] ta)
    (hs : starEach [e1, e2, e3] X.env = (false, eval e1 X.env) :: starEach [e2, e3] X.env := by rfl) (hpl : (backTo pos (starEach [e2, e3] X.env)).any (·.1) = false := by rfl) :
    PI X (.Tuple elts kk tpos) (.Call (.Name "zip" p) [e1, e2, e3] [] pos) (i_zLLL X.K ta) := by
  refine ⟨fun pins s σ H R I h => ?_⟩
  refine Call_ (ld_blt I hg hm PyProof.Rows.boot_zip (PyProof.Rows.callWith_type1 (thn (ha.run pos pins s σ H _ I h) fun us s1 ⟨vs, H1, I1, r1, q1⟩ => ?_) hs hpl))
  obtain ⟨a1, a2, a3, X1, X2, X3, ex, q1, q2, q3, q⟩ := q1
  subst ex
  obtain ⟨us1, rfl, rfl⟩ : ∃ us1 : List Value, us = us1 ∧ us1 = [Value.ref a1, Value.ref a2, Value.ref a3] := ⟨us, rfl, by
    cases r1 with | cons r1a r1b =>
    cases r1b with | cons r2a r2b =>
    cases r2b with | cons r3a r3b =>
    cases r3b
    cases r1a
    cases r2a
    cases r3a
    rfl⟩
  obtain ⟨its1, rv1, p1, la1⟩ := q1.get I1
  obtain ⟨its2, rv2, p2, la2⟩ := q2.get I1
  obtain ⟨its3, rv3, p3, la3⟩ := q3.get I1
  refine call_zLLL p1 p2 p3 fun h' st hk => wpAny_pyIter_zip st.1 ?_
  have I2 : Inv X pins σ H1 { s1 with heap := h' } := I1.kept (t' := s1.toks) hk
  refine ⟨_, _, _, _, H1, rfl, I2, turn3 la1 la2 la3, st, fun c hcm => ?_, q⟩
  have hle : s1.heap.objs.size ≤ c := ge3 hcm
  exact I1.fpOk hle (I1.hok.fresh hle)
abbrev zTLH1 (h : Heap) (l1 : Addr) : Heap := h.push { cls := .type "tuple_iterator", data := .fields #[.ref l1, .int 0 0] }
abbrev zTLH2 (h : Heap) (l1 l2 : Addr) : Heap := (zTLH1 h l1).push { cls := .type "list_iterator", data := .fields #[.ref l2, .int 0 0] }
abbrev zTLHa (h : Heap) (l1 l2 : Addr) : Heap := (zTLH2 h l1 l2).push { cls := .type "tuple", data := .seq #[.ref h.objs.size, .ref (zTLH1 h l1).objs.size] }
abbrev zTLHb (h : Heap) (l1 l2 : Addr) : Heap := (zTLHa h l1 l2).push { cls := .type "tuple", data := .seq #[.none, .none] }
abbrev zTLHc (h : Heap) (l1 l2 : Addr) : Heap := (zTLHb h l1 l2).push { cls := .type "zip", data := .fields #[.none, .bool false, .bool false, .ref (zTLH2 h l1 l2).objs.size, .ref (zTLHa h l1 l2).objs.size] }
theorem zTL_new (l1 l2 : Addr) (xs1 xs2 : Array Value) :
    Meets (Builtin.«zip.__new__» ⟨[.type "zip", .ref l1, .ref l2], []⟩) (fun _ R s => s.heap.IsTuple l1 xs1 ∧ s.heap.IsList l2 xs2 ∧
      R (.ok (.ret (.ref (zTLHb s.heap l1 l2).objs.size))) { s with heap := zTLHc s.heap l1 l2 }) :=
  .of_wp fun prog w A R s h => by
    obtain ⟨hp, g, d, tk, os⟩ := s; obtain ⟨hl1, hl2, h⟩ := h
    have hsub := sub_zip
    have hL1 : Heap.IsTuple (Shared.heap ⟨hp, g, d, tk, os⟩) l1 xs1 := hl1
    have hL2 : Heap.IsList (Shared.heap ⟨(hp).push { cls := .type "tuple_iterator", data := .fields #[.ref l1, .int 0 0] }, g, d, tk, os⟩) l2 xs2 := Heap.IsList.push (hl2) _
    wp_walk using wpAny_pyIter_tuple hL1, wpAny_pyIter_list hL2
    exact ⟨_, rfl, h⟩
theorem call_zTL {prog : Program} {w : World} {A : Around} {E : Value → Shared → Prop} {s : Shared} {l1 l2 : Addr} {xs1 xs2 : Array Value} {Q : Value → Shared → Prop} (hl1 : s.heap.IsTuple l1 xs1) (hl2 : s.heap.IsList l2 xs2)
    (h : ∀ h', Tn2 false true s.heap.objs.size l1 l2 0 h' → (∀ c o, s.heap.get? c = some o → h'.get? c = some o) → Q (.ref (s.heap.objs.size + 4)) { s with heap := h' }) :
    wpAny (model prog w) A (call (.type "zip") [.ref l1, .ref l2]) Q E s := by
  refine callType_new F.called_zip (by decide) (F.typeCall_zip_2 _ _) (F.newCall_zip_2 _ _) (fun obj => F.args_object_init_3 obj _ _) F.entry_zip_new
    (zTL_new l1 l2 xs1 xs2) ⟨hl1, hl2, ?_⟩
  have z1 : (zTLH1 s.heap l1).objs.size = s.heap.objs.size + 1 := Heap.size_push ..
  have z2 : (zTLH2 s.heap l1 l2).objs.size = s.heap.objs.size + 2 := by rw [Heap.size_push, z1]
  have za : (zTLHa s.heap l1 l2).objs.size = s.heap.objs.size + 3 := by rw [Heap.size_push, z2]
  have zb : (zTLHb s.heap l1 l2).objs.size = s.heap.objs.size + 4 := by rw [Heap.size_push, za]
  have gz : (zTLHc s.heap l1 l2).get? (zTLHb s.heap l1 l2).objs.size = some _ := Heap.get?_push_size _ rfl
  have gb : (zTLHc s.heap l1 l2).get? (zTLHa s.heap l1 l2).objs.size = some _ := Heap.get?_push_of_some _ (Heap.get?_push_size _ rfl)
  have ga : (zTLHc s.heap l1 l2).get? (zTLH2 s.heap l1 l2).objs.size = some _ := Heap.get?_push_of_some _ (Heap.get?_push_of_some _ (Heap.get?_push_size _ rfl))
  have g2 : (zTLHc s.heap l1 l2).get? (zTLH1 s.heap l1).objs.size = some _ := Heap.get?_push_of_some _ (Heap.get?_push_of_some _ (Heap.get?_push_of_some _ (Heap.get?_push_size _ rfl)))
  have g1 : (zTLHc s.heap l1 l2).get? s.heap.objs.size = some _ := Heap.get?_push_of_some _ (Heap.get?_push_of_some _ (Heap.get?_push_of_some _ (Heap.get?_push_of_some _ (Heap.get?_push_size _ rfl))))
  show _ ∧ _
  rw [z2, za, zb] at gz
  rw [za] at gb
  rw [z1, z2] at ga
  rw [z1] at g2
  rw [zb]
  exact ⟨⟨_, gz, rfl⟩, h _ ⟨gz, ga, ⟨_, _, gb⟩, ⟨_, g1, rfl, rfl⟩, ⟨_, g2, rfl, rfl⟩⟩ fun c o x => Heap.get?_push_of_some _ (Heap.get?_push_of_some _ (Heap.get?_push_of_some _ (Heap.get?_push_of_some _ (Heap.get?_push_of_some _ (x)))))⟩
def i_zTL (K : PySem.W.Frag) (ta : TA) : TI := fun σ H R => ta σ H fun vs H1 => ∃ a1 a2 X1 X2, vs = [.ref a1, .ref a2] ∧ Sq K false H1 a1 X1 ∧ Sq K true H1 a2 X2 ∧ R (It2 K false true a1 a2) H1
theorem pi_zTL {X : Cx} {e1 e2 : Expr} {ta : TA} {p pos tpos : Pos} {elts : List Expr} {kk : Nat} (hg : Gl X "zip") (hm : X.mg "zip" = none) (ha : PA X [e1, e2] ta)
    (hs : starEach [e1, e2] X.env = (false, eval e1 X.env) :: starEach [e2] X.env := by rfl) (hpl : (backTo pos (starEach [e2] X.env)).any (·.1) = false := by rfl) :
    PI X (.Tuple elts kk tpos) (.Call (.Name "zip" p) [e1, e2] [] pos) (i_zTL X.K ta) := by
  refine ⟨fun pins s σ H R I h => ?_⟩
  refine Call_ (ld_blt I hg hm PyProof.Rows.boot_zip (PyProof.Rows.callWith_type1 (thn (ha.run pos pins s σ H _ I h) fun us s1 ⟨vs, H1, I1, r1, q1⟩ => ?_) hs hpl))
  obtain ⟨a1, a2, X1, X2, ex, q1, q2, q⟩ := q1
  subst ex
  obtain ⟨us1, rfl, rfl⟩ : ∃ us1 : List Value, us = us1 ∧ us1 = [Value.ref a1, Value.ref a2] := ⟨us, rfl, by
    cases r1 with | cons r1a r1b =>
    cases r1b with | cons r2a r2b =>
    cases r2b
    cases r1a
    cases r2a
    rfl⟩
  obtain ⟨its1, rv1, p1, la1⟩ := q1.get I1
  obtain ⟨its2, rv2, p2, la2⟩ := q2.get I1
  refine call_zTL p1 p2 fun h' st hk => wpAny_pyIter_zip st.1 ?_
  have I2 : Inv X pins σ H1 { s1 with heap := h' } := I1.kept (t' := s1.toks) hk
  refine ⟨_, _, _, _, H1, rfl, I2, turn2 la1 la2, st, fun c hcm => ?_, q⟩
  have hle : s1.heap.objs.size ≤ c := ge2 hcm
  exact I1.fpOk hle (I1.hok.fresh hle)
end Zn

set_option maxRecDepth 100000
set_option maxHeartbeats 2000000
namespace Zn
open PySem PySem.Spec PyProof.Rows L2 Dl
section
variable {prog : Program} {w : World} {A : Around} {E : Value → Shared → Prop} {s : Shared}
/-- enumerate of a tuple: a turn -/
theorem en_item {e it l : Addr} {i : Nat} {items : Array Value} {x old : Value} {Q : Value → Shared → Prop}
    (he : IsEnum s.heap e it i old) (hit : SI false s.heap it l i) (hl : SC false s.heap l items) (hx : items[i]? = some x) (hne : e ≠ it)
    (hQ : ∀ h', IsEnumOut h' e it ((i : Int) + 1) x s.heap.objs.size → SI false h' it l (i + 1) →
      h'.get? s.heap.objs.size = some { cls := .type "tuple", data := .seq #[.int i s.toks, x] } → h'.objs.size = s.heap.objs.size + 1 →
      (∀ b o, b ≠ e → b ≠ it → s.heap.get? b = some o → h'.get? b = some o) → Q (.ref s.heap.objs.size) { s with heap := h', toks := s.toks + 1 }) :
    wpAny (model prog w) A (Builtin.«enumerate.__next__» ⟨[.ref e], []⟩) (fun fin s' => ∃ v, fin = .done (.ret v) ∧ Q v s') E s := by
  obtain ⟨hp, g, d, tk, os⟩ := s
  have hel : e < hp.objs.size := Heap.lt_size he
  show wpAny _ _ (field (.ref e) 2 >>= _) _ _ _
  refine wpAny_bind (wpAny_field he rfl (x := .ref it) rfl ?_)
  refine wpAny_bind (nextS_item hit hl hx fun g1 i1 s1 => ?_)
  have e1 : IsEnum g1 e it i old := s1.extBut _ _ hne he
  show wpAny _ _ (field (.ref e) 3 >>= _) _ _ ⟨g1, g, d, tk, os⟩
  refine wpAny_bind (wpAny_field e1 rfl (x := rawInt i) rfl ?_)
  show wpAny _ _ (field (.ref e) 4 >>= _) _ _ ⟨g1, g, d, tk, os⟩
  refine wpAny_bind (wpAny_field e1 rfl (x := .none) rfl ?_)
  show wpAny _ _ (mkInt i >>= _) _ _ ⟨g1, g, d, tk, os⟩
  refine wpAny_bind (wpAny_mkInt ?_)
  show wpAny _ _ (setField (.ref e) 3 (rawInt ((i : Int) + 1)) >>= _) _ _ ⟨g1, g, d, tk + 1, os⟩
  refine wpAny_bind (wpAny_setField_rec e1 (by simp) fun g2 e2 s2 => ?_)
  replace e2 : IsEnum g2 e it ((i : Int) + 1) old := e2
  show wpAny _ _ (setField (.ref e) 4 .none >>= _) _ _ ⟨g2, g, d, tk + 1, os⟩
  refine wpAny_bind (wpAny_setField_rec e2 (by simp) fun g3 e3 s3 => ?_)
  replace e3 : IsEnum g3 e it ((i : Int) + 1) old := e3
  show wpAny _ _ (newTuple [.int i tk, x] >>= _) _ _ ⟨g3, g, d, tk + 1, os⟩
  refine wpAny_bind (wpAny_newTuple ?_)
  have e4 : IsEnum (g3.push { cls := .type "tuple", data := .seq #[.int i tk, x] }) e it ((i : Int) + 1) old := Heap.get?_push_of_some _ e3
  generalize h4 : g3.push { cls := .type "tuple", data := .seq #[.int i tk, x] } = g4 at e4
  have hsz : g3.objs.size = hp.objs.size := by rw [s3.1, s2.1]; exact s1.1
  have t4 : g4.get? hp.objs.size = some { cls := .type "tuple", data := .seq #[.int i tk, x] } := by rw [← h4, ← hsz]; exact Heap.get?_push_size _ rfl
  have z4 : g4.objs.size = hp.objs.size + 1 := by rw [← h4, Heap.size_push, hsz]
  have k4 : ∀ b o, b ≠ e → b ≠ it → hp.get? b = some o → g4.get? b = some o := fun b o hb hi q => by
    rw [← h4]; exact Heap.get?_push_of_some _ (s3.extBut b o hb (s2.extBut b o hb (s1.extBut b o hi q)))
  have i4 : SI false g4 it l (i + 1) := i1.at_ fun o q => by
    rw [← h4]; exact Heap.get?_push_of_some _ (s3.extBut _ o (Ne.symm hne) (s2.extBut _ o (Ne.symm hne) q))
  show wpAny _ _ (Builtin.SmallTypes.ownedTupleIsFree (.ref e) >>= _) _ _ ⟨g4, g, d, tk + 1, os⟩
  rw [hsz]
  refine wpAny_bind ?_
  unfold Builtin.SmallTypes.ownedTupleIsFree
  refine wpAny_bind (wpAny_field e4 rfl (x := .none) rfl (wpAny_pure ?_))
  simp only [if_true]
  refine wpAny_bind (wpAny_rule ?_)
  refine wpAny_bind (wpAny_field e4 rfl (x := old) rfl ?_)
  refine wpAny_bind (wpAny_setField_rec e4 (by simp) fun g5 e5 s5 => ?_)
  replace e5 : IsEnum g5 e it ((i : Int) + 1) x := e5
  show wpAny _ _ (Builtin.SmallTypes.ownedTupleHandOut (.ref e) (.ref hp.objs.size) >>= _) _ _ ⟨g5, g, d, tk + 1, os⟩
  refine wpAny_bind ?_
  unfold Builtin.SmallTypes.ownedTupleHandOut
  refine wpAny_bind (wpAny_setField_rec e5 (by simp) fun g6 e6 s6 => ?_)
  replace e6 : IsEnumOut g6 e it ((i : Int) + 1) x hp.objs.size := e6
  refine wpAny_setField_rec e6 (by simp) fun g7 e7 s7 => ?_
  replace e7 : IsEnumOut g7 e it ((i : Int) + 1) x hp.objs.size := e7
  have up : ∀ b o, b ≠ e → g4.get? b = some o → g7.get? b = some o := fun b o hb q => s7.extBut b o hb (s6.extBut b o hb (s5.extBut b o hb q))
  refine wpAny_bind (wpAny_letGo (wpAny_pure ⟨_, rfl, hQ g7 e7 (i4.at_ fun o q => up _ o (Ne.symm hne) q) (up _ _ (Nat.ne_of_gt hel) t4) ?_ fun b o hb hi q => up b o hb (k4 b o hb hi q)⟩))
  show g7.objs.size = hp.objs.size + 1
  rw [s7.1, s6.1, s5.1, z4]
theorem py_en_item {e it l : Addr} {i : Nat} {items : Array Value} {x old : Value} {Q : Option Value → Shared → Prop}
    (he : IsEnum s.heap e it i old) (hit : SI false s.heap it l i) (hl : SC false s.heap l items) (hx : items[i]? = some x) (hne : e ≠ it)
    (hQ : ∀ h', IsEnumOut h' e it ((i : Int) + 1) x s.heap.objs.size → SI false h' it l (i + 1) →
      h'.get? s.heap.objs.size = some { cls := .type "tuple", data := .seq #[.int i s.toks, x] } → h'.objs.size = s.heap.objs.size + 1 →
      (∀ b o, b ≠ e → b ≠ it → s.heap.get? b = some o → h'.get? b = some o) → Q (some (.ref s.heap.objs.size)) { s with heap := h', toks := s.toks + 1 }) :
    wpAny (model prog w) A (pyNext (.ref e)) Q E s := by
  have hT : s.TypeIs (.ref e) "enumerate" := ⟨_, he, rfl⟩
  unfold pyNext
  exact wpAny_bind (wpAny_attempt (wpAny_callSpecial?_slot (name := Str.ofString "__next__") hT PySem.F.slot_enumerate_next
    (wpAny_call_entry PySem.F.slot_enumerate_next hT PySem.F.entry_enumerate_next
      (en_item he hit hl hx hne fun h' a b c d k => wpAny_pure (hQ h' a b c d k)) (PySem.F.args_enumerate_next_1 _))))
theorem py_en_end {e it l : Addr} {i : Nat} {items : Array Value} {old : Value} {Q : Option Value → Shared → Prop} (hh : A.handled = none)
    (he : IsEnum s.heap e it i old) (hit : SI false s.heap it l i) (hl : SC false s.heap l items) (hx : items[i]? = none)
    (hQ : ∀ h', Heap.ExtBut it s.heap h' → Q none { s with heap := h' }) : wpAny (model prog w) A (pyNext (.ref e)) Q E s := by
  have hT : s.TypeIs (.ref e) "enumerate" := ⟨_, he, rfl⟩
  unfold pyNext
  refine wpAny_bind (wpAny_attempt (wpAny_callSpecial?_slot (name := Str.ofString "__next__") hT PySem.F.slot_enumerate_next
    (wpAny_call_entry PySem.F.slot_enumerate_next hT PySem.F.entry_enumerate_next ?_ (PySem.F.args_enumerate_next_1 _))))
  show wpAny _ _ (field (.ref e) 2 >>= _) _ _ _
  refine wpAny_bind (wpAny_field he rfl (x := .ref it) rfl ?_)
  refine wpAny_bind (nextS_end hh hit hl hx fun h' x he' hx' => ?_)
  obtain ⟨o, ho, hc⟩ := hx'
  refine wpAny_bind (wpAny_isInstance (T := "StopIteration") (b := true) ⟨o, ho, hc⟩ isSubtype_stop ?_)
  exact wpAny_pure (hQ _ he')
end
/-- enumerate of a tuple is made -/
theorem en_new (l : Addr) (items : Array Value) : Meets (Builtin.«enumerate.__new__» ⟨[.type "enumerate", .ref l], []⟩) (fun _ R s => s.heap.IsTuple l items ∧
    R (.ok (.ret (.ref (s.heap.push { cls := .type "tuple_iterator", data := .fields #[.ref l, .int 0 0] }).objs.size)))
      { s with heap := (s.heap.push { cls := .type "tuple_iterator", data := .fields #[.ref l, .int 0 0] }).push { cls := .type "enumerate", data := .fields #[.none, .bool false, .ref s.heap.objs.size, rawInt 0, .none, .none] } }) :=
  .of_wp fun prog w A R s h => by
    obtain ⟨hp, g, d, tk, os⟩ := s; obtain ⟨hl, h⟩ := h
    have hL : Heap.IsTuple (Shared.heap ⟨hp, g, d, tk, os⟩) l items := hl
    have hsub := sub_enumerate
    wp_walk
    refine wpAny_stack_any fun st => wpAny_pure ?_
    split
    · rename_i c _ _ _ _ _
      cases (c == Value.type "enumerate")
      · wp_walk using wpAny_pyIter_tuple hL
        exact ⟨_, rfl, h⟩
      · wp_walk using wpAny_pyIter_tuple hL
        exact ⟨_, rfl, h⟩
    · wp_walk using wpAny_pyIter_tuple hL
      exact ⟨_, rfl, h⟩
theorem call_en {prog : Program} {w : World} {A : Around} {E : Value → Shared → Prop} {s : Shared} {l : Addr} {items : Array Value} {Q : Value → Shared → Prop} (hL : s.heap.IsTuple l items)
    (h : ∀ h', IsEnum h' (s.heap.objs.size + 1) s.heap.objs.size 0 .none → SI false h' s.heap.objs.size l 0 → (∀ b o, s.heap.get? b = some o → h'.get? b = some o) → Q (.ref (s.heap.objs.size + 1)) { s with heap := h' }) :
    wpAny (model prog w) A (call (.type "enumerate") [.ref l]) Q E s := by
  refine callType_new PySem.F.called_enumerate (by decide) (PySem.F.typeCall_enumerate_1 _) (PySem.F.newCall_enumerate_1 _) (fun obj => PySem.F.args_object_init_2 obj _) PySem.F.entry_enumerate_new
    (en_new l items) ⟨hL, ?_⟩
  have hz : (s.heap.push { cls := .type "tuple_iterator", data := .fields #[.ref l, .int 0 0] }).objs.size = s.heap.objs.size + 1 := Heap.size_push ..
  have hE := Heap.get?_push_size (s.heap.push { cls := .type "tuple_iterator", data := .fields #[.ref l, .int 0 0] }) (o := { cls := .type "enumerate", data := .fields #[.none, .bool false, .ref s.heap.objs.size, rawInt 0, .none, .none] }) rfl
  show _ ∧ _
  rw [hz] at hE ⊢
  exact ⟨⟨_, hE, rfl⟩, h _ hE ⟨_, Heap.get?_push_of_some _ (Heap.get?_push_size _ rfl), rfl, rfl⟩ fun b o x => Heap.get?_push_of_some _ (Heap.get?_push_of_some _ x)⟩
/-- the tuple at a, each item in a new pair -/
def IteT (K : PySem.W.Frag) (a : Addr) : It :=
  ⟨fun i H => ∃ (xs : List V) (x : V), SqT K H a xs ∧ xs[i]? = some x, fun i H v H' => ∃ T x, v = .ref T ∧ H T = none ∧ H' = upd H T (.tup [.int (i : Nat), x]) ∧ ∀ xs, SqT K H a xs → xs[i]? = some x, fun i H => ∃ xs : List V, SqT K H a xs ∧ xs.length ≤ i⟩
theorem turn_en {P : Program} {w : World} {K : PySem.W.Frag} {elts : List Expr} {kk : Nat} {tpos : Pos} (a e it : Addr) :
    Turn P w K (.Tuple elts kk tpos) (IteT K a) [e, it] e (fun i h => (∃ old, IsEnum h e it ((i : Nat) : Int) old) ∧ SI false h it a i ∧ e ≠ it) where
  mem := List.mem_cons_self
  obj := fun i h st b hb => by
    obtain ⟨⟨old, he⟩, hi, _⟩ := st
    have e' : b = e ∨ b = it := by simpa using hb
    rcases e' with z | z
    · rw [z]; exact ⟨_, he, fun v q => nomatch q⟩
    · rw [z]; exact hi.obj
  keep := fun i h h' st k => let ⟨⟨old, he⟩, hi, hne⟩ := st; ⟨⟨old, k e (by simp) _ he⟩, hi.at_ fun o q => k it (by simp) o q, hne⟩
  item := by
    intro X hP hw hK hc i pins s σ H E I hf st hg
    subst hP hw hK
    obtain ⟨⟨old, he⟩, hit, hne⟩ := st
    obtain ⟨xs, x, hq, hx⟩ := hg
    obtain ⟨its, rv, p, _⟩ := Sq.get (b := false) I hq
    obtain ⟨u, hu, ru⟩ := rv.get hx
    have hel : e < s.heap.objs.size := Heap.lt_size he
    have hil : it < s.heap.objs.size := by obtain ⟨_, q, _⟩ := hit.obj; exact Heap.lt_size q
    refine py_en_item he hit p (x := u) (by simpa using hu) hne fun h' ho hit' hT hsz hk => ?_
    refine ⟨_, rfl, wpAny_letOwnedTupleGo_enum (s := { s with heap := h', toks := s.toks + 1 }) ho fun h'' he' sb => ?_⟩
    have hT2 : h''.get? s.heap.objs.size = some { cls := .type "tuple", data := .seq #[.int i s.toks, u] } := (sb.2 _ (Nat.ne_of_gt hel)).trans hT
    have new : ObjOk X.prog X.w (upd H s.heap.objs.size (.tup [.int (i : Nat), x])) h'' s.heap.objs.size (.tup [.int (i : Nat), x]) :=
      ⟨by show 2 ≤ sizeLine; decide, [.int i s.toks, u], .cons ⟨_, rfl⟩ (.cons ru .nil), ⟨_, hT2, rfl, _, rfl⟩⟩
    have I1 : Inv X pins σ (upd H s.heap.objs.size (.tup [.int (i : Nat), x])) { s with heap := h'', toks := s.toks + 1 } :=
      I.turnedNew (ch := [e, it]) (fun b ob hb q => (sb.2 b (fun z => hb (by simp [z]))).trans (hk b ob (fun z => hb (by simp [z])) (fun z => hb (by simp [z])) q)) hf (Nat.le_refl _) new
    refine ⟨.ref s.heap.objs.size, _, I1, rfl, ⟨_, x, rfl, I.hok.fresh (Nat.le_refl _), rfl, fun ys hy => by rw [I.tuple_inj hy hq]; exact hx⟩, ⟨⟨u, ?_⟩, hit'.at_ fun o q => (sb.2 it (Ne.symm hne)).trans q, hne⟩, fun b hb => ?_⟩
    · have e1 : ((i + 1 : Nat) : Int) = (i : Int) + 1 := by omega
      rw [e1]; exact he'
    · have hb' : b < s.heap.objs.size := by
        have e' : b = e ∨ b = it := by simpa using hb
        rcases e' with z | z
        · rw [z]; exact hel
        · rw [z]; exact hil
      rw [upd_ne (Nat.ne_of_lt hb')]
      exact (hf b hb).1
  done := by
    intro X hP hw hK hc i pins s σ H E I hf st hg
    subst hP hw hK
    obtain ⟨⟨old, he⟩, hit, hne⟩ := st
    obtain ⟨xs, hq, hx⟩ := hg
    obtain ⟨its, rv, p, _⟩ := Sq.get (b := false) I hq
    obtain ⟨f0, f1, f2, f3, f4, f5⟩ := hf it (by simp)
    have hl := rv.length
    exact py_en_end (I.ok.hd hc) he hit p (by simp; omega) fun h' eb => ⟨rfl, I.turned (t' := s.toks) (fun b o hb q => eb b o hb q) f0 f1 f3 f4 f5⟩
  self := fun A i s Q E st h => let ⟨⟨_, he⟩, _⟩ := st; wpAny_pyIter_enum he h
def iEnumT (K : PySem.W.Frag) (ta : TA) : TI := fun σ H R => ta σ H fun vs H1 => ∃ a xs, vs = [.ref a] ∧ SqT K H1 a xs ∧ R (IteT K a) H1
theorem pi_enumT {X : Cx} {e : Expr} {ta : TA} {p pos tpos : Pos} {elts : List Expr} {kk : Nat} (hg : Gl X "enumerate") (hm : X.mg "enumerate" = none) (ha : PA X [e] ta) (hs : starEach [e] X.env = [(false, eval e X.env)] := by rfl) :
    PI X (.Tuple elts kk tpos) (.Call (.Name "enumerate" p) [e] [] pos) (iEnumT X.K ta) := by
  refine ⟨fun pins s σ H R I h => ?_⟩
  refine Call_ (ld_blt I hg hm boot_enumerate (PyProof.Rows.callWith_type1 (thn (ha.run pos pins s σ H _ I h) fun us s1 ⟨vs, H1, I1, r1, q1⟩ => ?_) hs rfl))
  obtain ⟨a, xs, ex, hq, q⟩ := q1
  subst ex
  cases r1 with
  | cons r rr =>
    cases rr
    cases r
    obtain ⟨its, rv, p', _⟩ := Sq.get (b := false) I1 hq
    refine call_en p' fun h' he hit hk => wpAny_pyIter_enum he ?_
    have I2 : Inv X pins σ H1 { s1 with heap := h' } := I1.kept (t' := s1.toks) hk
    refine ⟨s1.heap.objs.size + 1, [s1.heap.objs.size + 1, s1.heap.objs.size], _, _, H1, rfl, I2, turn_en a (s1.heap.objs.size + 1) s1.heap.objs.size, ⟨⟨.none, he⟩, hit, Nat.succ_ne_self _⟩, fun b hb => ?_, q⟩
    have e' : b = s1.heap.objs.size + 1 ∨ b = s1.heap.objs.size := by simpa using hb
    have hle : s1.heap.objs.size ≤ b := by
      rcases e' with z | z
      · rw [z]; exact Nat.le_add_right _ _
      · rw [z]; exact Nat.le_refl _
    exact I1.fpOk hle (I1.hok.fresh hle)
/-! ### by data -/
section
variable {Γ : Gam} {δ : Sd} {μ : Mem} {e a b c : Expr} {d : D} {ds : List D} {pos p tpos : Pos} {R : List D → Mem → Prop} {K : PySem.W.Frag} {C H : Hp} {elts : List Expr} {kk : Nat}
theorem walk_enumT {x : Addr} {vs : List V} (h : Rd C x (.tup vs)) (ha : DatAll K C vs ds) : Walk K C (IteT K x) (enumD 0 ds) := fun i C1 H1 l1 l2 => by
  have h1 : SqT K H1 x vs := .inl (l2.rd (l1.rd h))
  refine ⟨fun d e => ?_, fun q => ⟨vs, h1, by rw [ha.len, ← enumD_len 0]; exact q⟩⟩
  obtain ⟨d', e0, rfl⟩ := enumD_get e
  obtain ⟨v, e1, r⟩ := ha.get e0
  refine ⟨⟨vs, v, h1, e1⟩, fun y H' ⟨T, z, e2, hT, e3, e4⟩ => ?_⟩
  subst e2; subst e3
  have e4 := e4 vs h1
  rw [e1] at e4
  cases e4
  refine ⟨_, Nw.add l2 hT, .tup (.inl upd_same) (.cons ?_ (.cons (Dat.mono (l1.trans (Le.new (l2.none hT))) _ _ r) .nil))⟩
  rw [Nat.zero_add]
  exact .int _
theorem iw_enumT (hf : Free Γ.mg) (h : Ew Γ δ μ a fun d μ' => ∃ ds, d = .tup ds ∧ R (enumD 0 ds) μ') (hg : Γ.sc.names.lookup ("enumerate" : Str) = some .globalImplicit := by rfl) (hs : ∀ env, starEach [a] env = [(false, eval a env)] := by intro _; rfl) : Iw Γ δ μ (.Tuple elts kk tpos) (.Call (.Name "enumerate" p) [a] [] pos) R := fun X hX σ C H Q w k =>
  PIw (pi_enumT (hX.gl hg) (by rw [hX.mg]; exact hf _ (by decide)) (pa_cons wE_pe pa_nil (hs _)) (hs _)) (h X hX σ C H _ w fun v d μ' C' H' g w' r ⟨ds, e, q⟩ => by
    subst e
    cases r with | tup e1 a1 =>
    refine ⟨_, _, rfl, .inl (w'.sub.rd e1), k _ _ μ' C' H' g w' ?_ q⟩
    rw [hX.K]
    exact walk_enumT e1 a1)
theorem iv_enumT (hf : Free Γ.mg) (h : Ev Γ δ μ a (.tup ds)) (hg : Γ.sc.names.lookup ("enumerate" : Str) = some .globalImplicit := by rfl) (hs : ∀ env, starEach [a] env = [(false, eval a env)] := by intro _; rfl) : Iv Γ δ μ (.Tuple elts kk tpos) (.Call (.Name "enumerate" p) [a] [] pos) (enumD 0 ds) := iw_enumT hf (h.w ⟨ds, rfl, rfl, rfl⟩) hg hs
/-- three lists, item by item -/
def z3D : List D → List D → List D → List D
  | a :: as, b :: bs, c :: cs => .tup [a, b, c] :: z3D as bs cs
  | _, _, _ => []
theorem z3D_get : ∀ {xs ys zs : List D} {i : Nat} {t : D}, (z3D xs ys zs)[i]? = some t → ∃ a b c, xs[i]? = some a ∧ ys[i]? = some b ∧ zs[i]? = some c ∧ t = .tup [a, b, c]
  | a :: as, b :: bs, c :: cs, 0, t, h => by
    simp [z3D] at h
    exact ⟨a, b, c, by simp, by simp, by simp, h.symm⟩
  | a :: as, b :: bs, c :: cs, i + 1, t, h => by
    obtain ⟨x, y, z, h1, h2, h3, h4⟩ := z3D_get (xs := as) (ys := bs) (zs := cs) (i := i) (by simpa [z3D] using h)
    exact ⟨x, y, z, by simpa using h1, by simpa using h2, by simpa using h3, h4⟩
  | [], _, _, _, _, h => by simp [z3D] at h
  | _ :: _, [], _, _, _, h => by simp [z3D] at h
  | _ :: _, _ :: _, [], _, _, h => by simp [z3D] at h
theorem z3D_end : ∀ {xs ys zs : List D} {i : Nat}, (z3D xs ys zs).length ≤ i → xs.length ≤ i ∨ ys.length ≤ i ∨ zs.length ≤ i
  | a :: as, b :: bs, c :: cs, 0, h => by simp [z3D] at h
  | a :: as, b :: bs, c :: cs, i + 1, h => by
    have := z3D_end (xs := as) (ys := bs) (zs := cs) (i := i) (by simpa [z3D] using h)
    simpa using this
  | [], _, _, _, _ => by simp
  | _ :: _, [], _, _, _ => by simp
  | _ :: _, _ :: _, [], _, _ => by simp
theorem iv_zip3 {xs ys zs : List D} (hf : Free Γ.mg) (h1 : Ev Γ δ μ a (.lst xs)) (h2 : Ev Γ δ μ b (.lst ys)) (h3 : Ev Γ δ μ c (.lst zs)) (hg : Γ.sc.names.lookup ("zip" : Str) = some .globalImplicit := by rfl)
    (hs : ∀ env, starEach [a, b, c] env = (false, eval a env) :: starEach [b, c] env := by intro _; rfl) (hs2 : ∀ env, starEach [b, c] env = (false, eval b env) :: starEach [c] env := by intro _; rfl) (hs3 : ∀ env, starEach [c] env = (false, eval c env) :: starEach [] env := by intro _; rfl)
    (hpl : ∀ env, (backTo pos (starEach [b, c] env)).any (·.1) = false := by intro _; rfl) : Iv Γ δ μ (.Tuple elts kk tpos) (.Call (.Name "zip" p) [a, b, c] [] pos) (z3D xs ys zs) := fun X hX σ C H Q w k =>
  PIw (pi_zLLL (hX.gl hg) (by rw [hX.mg]; exact hf _ (by decide)) (pa_cons wE_pe (pa_cons wE_pe (pa_cons wE_pe pa_nil (hs3 _)) (hs2 _)) (hs _)) (hs _) (hpl _)) (h1 X hX σ C H _ w fun v1 d1 μ1 C1 H1 g1 w1 r1 ⟨e1, e2⟩ => by
    subst e1; subst e2
    refine h2 X hX σ C1 H1 _ w1 fun v2 d2 μ2 C2 H2 g2 w2 r2 ⟨e1, e2⟩ => ?_
    subst e1; subst e2
    refine h3 X hX σ C2 H2 _ w2 fun v3 d3 μ3 C3 H3 g3 w3 r3 ⟨e1, e2⟩ => ?_
    subst e1; subst e2
    cases Dat.mono g3.core _ _ (Dat.mono g2.core _ _ r1) with | lst o1 a1 =>
    cases Dat.mono g3.core _ _ r2 with | lst o2 a2 =>
    cases r3 with | lst o3 a3 =>
    refine ⟨_, _, _, _, _, _, rfl, .inl (.inl (w3.sub _ _ o1)), .inl (.inl (w3.sub _ _ o2)), .inl (.inl (w3.sub _ _ o3)), k _ _ _ C3 H3 ((g1.trans g2).trans g3) w3 ?_ ⟨rfl, rfl⟩⟩
    intro i Ca Ha l1 l2
    have q1 := l2 _ _ (l1 _ _ o1)
    have q2 := l2 _ _ (l1 _ _ o2)
    have q3 := l2 _ _ (l1 _ _ o3)
    refine ⟨fun d e => ?_, fun q => ⟨_, _, _, .inl (.inl q1), .inl (.inl q2), .inl (.inl q3), by rw [a1.len, a2.len, a3.len]; exact z3D_end q⟩⟩
    obtain ⟨x, y, z, x1, x2, x3, rfl⟩ := z3D_get e
    obtain ⟨v1, y1, s1⟩ := a1.get x1
    obtain ⟨v2, y2, s2⟩ := a2.get x2
    obtain ⟨v3, y3, s3⟩ := a3.get x3
    refine ⟨⟨_, _, _, _, _, _, .inl (.inl q1), .inl (.inl q2), .inl (.inl q3), y1, y2, y3⟩, fun u H' ⟨T, t1, t2, t3, e2, hT, e3, f1, f2, f3⟩ => ?_⟩
    subst e2; subst e3
    have f1 := f1 _ (.inl (.inl q1))
    have f2 := f2 _ (.inl (.inl q2))
    have f3 := f3 _ (.inl (.inl q3))
    rw [y1] at f1
    rw [y2] at f2
    rw [y3] at f3
    cases f1; cases f2; cases f3
    have up : Le C3 (L2.upd Ca T (.tup [v1, v2, v3])) := l1.trans (Le.new (l2.none hT))
    exact ⟨_, Nw.add l2 hT, .tup (.inl upd_same) (.cons (Dat.mono up _ _ s1) (.cons (Dat.mono up _ _ s2) (.cons (Dat.mono up _ _ s3) .nil)))⟩)
end
end Zn

set_option maxRecDepth 100000
set_option maxHeartbeats 2000000
namespace Dl
open PySem PySem.Spec PyProof.Rows L2 PySem.W
section
variable {Γ : Gam} {δ : Sd} {μ : Mem} {e a b : Expr} {d d1 d2 : D} {pos p : Pos} {α : Type} [DecidableEq α] [DatumOrd α]
/-- a typed value as data -/
structure Enc (α : Type) [DecidableEq α] [Datum α] (g : α → D) (n : Nat) : Prop where
  to : ∀ x, toP (g x) = Datum.toD x
  pd : ∀ x, Pd n (g x)
theorem toD_inj {α : Type} [DecidableEq α] [Datum α] {x y : α} (h : Datum.toD x = Datum.toD y) : x = y := by
  have e1 := Datum.eqv x y
  have e2 := Datum.eqv x x
  rw [← h, e2] at e1
  simpa using e1.symm
theorem holds_of {α : Type} [DecidableEq α] [Datum α] {g : α → D} {n : Nat} (G : Enc α g n) {X : Cx} {pins : List (Addr × Obj)} {σ : L2.St} {C H : Hp} {s : Shared} {v : V} {u : Value} {x : α} (I : Inv X pins σ H s) (l : Le C H) (r : Dat X.K C v (g x)) (rv : RelV v u) : Holds s.heap u x := by
  obtain ⟨as, h⟩ := Dp.reads I (toP (g x)) v u (pd_dp l n _ v (G.pd x) r) rv
  exact ⟨as, by rw [← G.to x]; exact h⟩
theorem holdAll_of {α : Type} [DecidableEq α] [Datum α] {g : α → D} {n : Nat} (G : Enc α g n) {X : Cx} {pins : List (Addr × Obj)} {σ : L2.St} {C H : Hp} {s : Shared} (I : Inv X pins σ H s) (l : Le C H) : ∀ {xs : List α} {vs : List V} {us : List Value}, DatAll X.K C vs (xs.map g) → Vals vs us → HoldAll s.heap us xs
  | [], _, _, .nil, .nil => .nil
  | x :: xs, _, _, .cons r t, .cons q w => .cons (holds_of G I l r q) (holdAll_of G I l t w)
theorem wOp_raw {X : Cx} {f : Value → Value → Sem Value} {x y : V} {H : Hp} {Q : VK} (h : ∀ (pins : List (Addr × Obj)) (s : Shared) (σ : L2.St) (v u : Value), Inv X pins σ H s → RelV x v → RelV y u → wpAny (model X.prog X.w) X.A (f v u) (EP X pins σ Q) X.xe s) : wOp X f x y H Q := h
/-- t < u, of alike data -/
theorem b_ltD {g : α → D} {n : Nat} (G : Enc α g n) {x y : α} (hd : Datum.depth α ≤ 64 := by decide) : Bop Γ (compareOp .Lt) (g x) (g y) (.bl (DatumOrd.lt x y)) := fun X hX C H v u Q l r1 r2 k pins s σ v' u' I q1 q2 => by
  rw [← hX.K] at r1 r2
  exact lt_datum (holds_of G I l r1 q1) (holds_of G I l r2 q2) (by have := hX.room.units; omega) ⟨.bl _, H, I, rfl, k _ C H (Nw.refl l) (.bl _)⟩
theorem b_eqD {g : α → D} {n : Nat} (G : Enc α g n) {x y : α} (hd : Datum.depth α ≤ 64 := by decide) : Bop Γ (compareOp .Eq) (g x) (g y) (.bl (decide (x = y))) := fun X hX C H v u Q l r1 r2 k pins s σ v' u' I q1 q2 => by
  rw [← hX.K] at r1 r2
  exact eq_datum (holds_of G I l r1 q1) (holds_of G I l r2 q2) (by have := hX.room.units; omega) ⟨.bl _, H, I, rfl, k _ C H (Nw.refl l) (.bl _)⟩
theorem b_neD {g : α → D} {n : Nat} (G : Enc α g n) {x y : α} (hd : Datum.depth α ≤ 64 := by decide) : Bop Γ (compareOp .NotEq) (g x) (g y) (.bl (decide (x ≠ y))) := fun X hX C H v u Q l r1 r2 k pins s σ v' u' I q1 q2 => by
  rw [← hX.K] at r1 r2
  exact ne_datum (holds_of G I l r1 q1) (holds_of G I l r2 q2) (by have := hX.room.units; omega) ⟨.bl _, H, I, rfl, k _ C H (Nw.refl l) (.bl _)⟩
theorem c_min_list {g : α → D} {n : Nat} (G : Enc α g n) {x : α} {xs : List α} (hd : Datum.depth α ≤ 40 := by decide) : Cop Γ (.builtin "min") [.lst ((x :: xs).map g)] (g (minOf x xs)) := fun X hX C H vs Q l r k pins s σ us I rv => by
  rw [← hX.K] at r
  obtain ⟨v, rfl, r0⟩ := r.one
  obtain ⟨u, rfl, q0⟩ := vals1 rv
  cases r0 with | lst e1 a1 =>
  obtain rfl : u = _ := q0
  obtain ⟨its, rits, pl, hz⟩ := I.list (.inl (.inl (l _ _ e1)))
  have hH : HoldAll s.heap its.toArray.toList (x :: xs) := by simpa using holdAll_of G I l a1 rits
  refine min_list_datum (I.ok.hd hX.calm) (show s.heap.IsList _ its.toArray from pl.isList) hH (by have := hX.room.units; omega) fun i u h' tk hi hh hk => ?_
  obtain ⟨y, hy, hy2⟩ := hH.at (i := i) (v := u) (by simpa using hi)
  have ey : y = minOf x xs := by
    obtain ⟨as, r1⟩ := hy2.keeps hk
    obtain ⟨bs, r2⟩ := hh
    exact toD_inj (r1.unique _ _ r2).1
  obtain ⟨v2, hv2, hd2⟩ := a1.get (i := i) (d := g y) (by rw [List.getElem?_map, hy]; rfl)
  obtain ⟨u2, hu2, ru2⟩ := rits.get hv2
  have e2 : u2 = u := by
    have : its[i]? = some u := by simpa using hi
    rw [hu2] at this
    exact Option.some.inj this
  subst e2
  refine ⟨v2, H, I.kept hk, ru2, k v2 C H (Nw.refl l) ?_⟩
  rw [← ey, ← hX.K]
  exact hd2
theorem c_min_tuple {g : α → D} {n : Nat} (G : Enc α g n) {x : α} {xs : List α} (hd : Datum.depth α ≤ 40 := by decide) : Cop Γ (.builtin "min") [.tup ((x :: xs).map g)] (g (minOf x xs)) := fun X hX C H vs Q l r k pins s σ us I rv => by
  rw [← hX.K] at r
  obtain ⟨v, rfl, r0⟩ := r.one
  obtain ⟨u, rfl, q0⟩ := vals1 rv
  cases r0 with | tup e1 a1 =>
  obtain rfl : u = _ := q0
  obtain ⟨its, rits, pl, hz⟩ := I.tuple (.inl (l.rd e1))
  have hH : HoldAll s.heap its.toArray.toList (x :: xs) := by simpa using holdAll_of G I l a1 rits
  refine min_tuple_datum (I.ok.hd hX.calm) (show s.heap.IsTuple _ its.toArray from pl) hH (by have := hX.room.units; omega) fun i u h' tk hi hh hk => ?_
  obtain ⟨y, hy, hy2⟩ := hH.at (i := i) (v := u) (by simpa using hi)
  have ey : y = minOf x xs := by
    obtain ⟨as, r1⟩ := hy2.keeps hk
    obtain ⟨bs, r2⟩ := hh
    exact toD_inj (r1.unique _ _ r2).1
  obtain ⟨v2, hv2, hd2⟩ := a1.get (i := i) (d := g y) (by rw [List.getElem?_map, hy]; rfl)
  obtain ⟨u2, hu2, ru2⟩ := rits.get hv2
  have e2 : u2 = u := by
    have : its[i]? = some u := by simpa using hi
    rw [hu2] at this
    exact Option.some.inj this
  subst e2
  refine ⟨v2, H, I.kept hk, ru2, k v2 C H (Nw.refl l) ?_⟩
  rw [← ey, ← hX.K]
  exact hd2
theorem c_max_list {g : α → D} {n : Nat} (G : Enc α g n) {x : α} {xs : List α} (hd : Datum.depth α ≤ 40 := by decide) : Cop Γ (.builtin "max") [.lst ((x :: xs).map g)] (g (maxOf x xs)) := fun X hX C H vs Q l r k pins s σ us I rv => by
  rw [← hX.K] at r
  obtain ⟨v, rfl, r0⟩ := r.one
  obtain ⟨u, rfl, q0⟩ := vals1 rv
  cases r0 with | lst e1 a1 =>
  obtain rfl : u = _ := q0
  obtain ⟨its, rits, pl, hz⟩ := I.list (.inl (.inl (l _ _ e1)))
  have hH : HoldAll s.heap its.toArray.toList (x :: xs) := by simpa using holdAll_of G I l a1 rits
  refine max_list_datum (I.ok.hd hX.calm) (show s.heap.IsList _ its.toArray from pl.isList) hH (by have := hX.room.units; omega) fun i u h' tk hi hh hk => ?_
  obtain ⟨y, hy, hy2⟩ := hH.at (i := i) (v := u) (by simpa using hi)
  have ey : y = maxOf x xs := by
    obtain ⟨as, r1⟩ := hy2.keeps hk
    obtain ⟨bs, r2⟩ := hh
    exact toD_inj (r1.unique _ _ r2).1
  obtain ⟨v2, hv2, hd2⟩ := a1.get (i := i) (d := g y) (by rw [List.getElem?_map, hy]; rfl)
  obtain ⟨u2, hu2, ru2⟩ := rits.get hv2
  have e2 : u2 = u := by
    have : its[i]? = some u := by simpa using hi
    rw [hu2] at this
    exact Option.some.inj this
  subst e2
  refine ⟨v2, H, I.kept hk, ru2, k v2 C H (Nw.refl l) ?_⟩
  rw [← ey, ← hX.K]
  exact hd2
theorem c_max_tuple {g : α → D} {n : Nat} (G : Enc α g n) {x : α} {xs : List α} (hd : Datum.depth α ≤ 40 := by decide) : Cop Γ (.builtin "max") [.tup ((x :: xs).map g)] (g (maxOf x xs)) := fun X hX C H vs Q l r k pins s σ us I rv => by
  rw [← hX.K] at r
  obtain ⟨v, rfl, r0⟩ := r.one
  obtain ⟨u, rfl, q0⟩ := vals1 rv
  cases r0 with | tup e1 a1 =>
  obtain rfl : u = _ := q0
  obtain ⟨its, rits, pl, hz⟩ := I.tuple (.inl (l.rd e1))
  have hH : HoldAll s.heap its.toArray.toList (x :: xs) := by simpa using holdAll_of G I l a1 rits
  refine max_tuple_datum (I.ok.hd hX.calm) (show s.heap.IsTuple _ its.toArray from pl) hH (by have := hX.room.units; omega) fun i u h' tk hi hh hk => ?_
  obtain ⟨y, hy, hy2⟩ := hH.at (i := i) (v := u) (by simpa using hi)
  have ey : y = maxOf x xs := by
    obtain ⟨as, r1⟩ := hy2.keeps hk
    obtain ⟨bs, r2⟩ := hh
    exact toD_inj (r1.unique _ _ r2).1
  obtain ⟨v2, hv2, hd2⟩ := a1.get (i := i) (d := g y) (by rw [List.getElem?_map, hy]; rfl)
  obtain ⟨u2, hu2, ru2⟩ := rits.get hv2
  have e2 : u2 = u := by
    have : its[i]? = some u := by simpa using hi
    rw [hu2] at this
    exact Option.some.inj this
  subst e2
  refine ⟨v2, H, I.kept hk, ru2, k v2 C H (Nw.refl l) ?_⟩
  rw [← ey, ← hX.K]
  exact hd2
end
end Dl

set_option maxRecDepth 100000
set_option maxHeartbeats 2000000
namespace Dl
open PySem PySem.Spec PyProof.Rows L2 PySem.W
section
variable {Γ : Gam} {δ : Sd} {μ : Mem} {e o a b c tg : Expr} {d d1 d2 d3 : D} {pos p cpos apos : Pos} {l : Addr}
/-- a test of a list that changes against [] -/
theorem tv_memL {op : CmpOp} {t : Bool} {ds : List D} {p2 : Pos} (ha : Ev Γ δ μ a (.adr l)) (hm : (l, MO.lst ds) ∈ μ) (hb : behindInMarks op (.List [] p2) = false)
    (hop : Bop Γ (compareOp op) (.lst ds) (.lst []) (.bl t)) : Tv Γ δ μ (.Compare a [op] [.List [] p2] pos) t := fun X hX σ C H Q w k =>
  PTw (pt_cmpR wOp_op wE_pe wE_pe hb) (ha X hX σ C H _ w fun v d μ1 C1 H1 g1 w1 r1 ⟨e1, e2⟩ => by
    subst e1; subst e2
    cases r1
    have q := ev_lst (Γ := Γ) (δ := δ) (μ := μ1) (pos := p2) (av_nil)
    refine q X hX σ C1 H1 _ w1 fun v2 d2 μ2 C2 H2 g2 w2 r2 ⟨e1, e2⟩ => ?_
    subst e1; subst e2
    obtain ⟨eC, o, ho, vs, eo, hda⟩ := w2.mem.ok _ hm
    subst eo
    refine hop X hX (L2.upd C2 l (.lst vs)) H2 _ _ _ (w2.sub.upd1 ho) (.lst upd_same (DatAll.mono (Le.new eC) _ _ hda)) (Dat.mono (Le.new eC) _ _ r2) fun v3 C3 H3 n3 r3 => ?_
    cases r3
    have n4 : Nw C2 H2 C2 H3 := ⟨Le.refl _, w2.sub.trans n3.keep, n3.keep, fun _ _ e => e⟩
    exact ⟨t, rfl, k _ _ C2 H3 ((g1.trans g2).trans n4.gr) (w2.nw n4) ⟨rfl, rfl⟩⟩)
theorem tv_neNilM {n : Nat} {ds : List D} {p2 : Pos} (ha : Ev Γ δ μ a (.adr l)) (hm : (l, MO.lst ds) ∈ μ) (hp : Pd n (.lst ds)) (hn : n ≤ 64 := by decide) : Tv Γ δ μ (.Compare a [.NotEq] [.List [] p2] pos) (!ds.isEmpty) := tv_memL ha hm (nomark _) (b_neNil hp hn)
theorem tv_eqNilM {n : Nat} {ds : List D} {p2 : Pos} (ha : Ev Γ δ μ a (.adr l)) (hm : (l, MO.lst ds) ∈ μ) (hp : Pd n (.lst ds)) (hn : n ≤ 64 := by decide) : Tv Γ δ μ (.Compare a [.Eq] [.List [] p2] pos) ds.isEmpty := tv_memL ha hm (nomark _) (b_eqNil hp hn)
/-- range(n) -/
def rngN (n : Nat) : List D := (List.range n).map fun (i : Nat) => D.int (i : Int)
theorem rng01 (n : Nat) : rngD 0 1 n = rngN n := by
  unfold rngD rngN
  exact List.map_congr_left fun i _ => by rw [Int.zero_add, Int.mul_one]
theorem rngD1 (a : Int) (n : Nat) : rngD a 1 n = (List.range n).map fun (i : Nat) => D.int (a + (i : Int)) := by
  unfold rngD
  exact List.map_congr_left fun i _ => by rw [Int.mul_one]
theorem iv_rN (hf : Free Γ.mg) {n : Nat} (h : Ev Γ δ μ a (.int (n : Int))) (hb : n ≤ 1000000000) (hg : Γ.sc.names.lookup ("range" : Str) = some .globalImplicit := by rfl) (hs : ∀ env, starEach [a] env = [(false, eval a env)] := by intro _; rfl) : Iv Γ δ μ tg (.Call (.Name "range" p) [a] [] pos) (rngN n) := by
  have := iv_r1 (tg := tg) (p := p) (pos := pos) hf h (by omega) hg hs
  rw [Int.toNat_natCast, rng01] at this
  exact this
theorem iv_rA (hf : Free Γ.mg) {i j : Int} (h : Ev Γ δ μ a (.int i)) (h2 : Ev Γ δ μ b (.int j)) (hb : (-1000000000 ≤ i ∧ i ≤ 1000000000) ∧ (-1000000000 ≤ j ∧ j ≤ 1000000000)) (hg : Γ.sc.names.lookup ("range" : Str) = some .globalImplicit := by rfl) (hs : ∀ env, starEach [a, b] env = [(false, eval a env), (false, eval b env)] := by intro _; rfl) (hs2 : ∀ env, starEach [b] env = [(false, eval b env)] := by intro _; rfl) :
    Iv Γ δ μ tg (.Call (.Name "range" p) [a, b] [] pos) ((List.range (j - i).toNat).map fun (k : Nat) => D.int (i + (k : Int))) := by
  have := iv_r2 (tg := tg) (p := p) (pos := pos) hf h h2 hb hg hs hs2
  rw [rngD1] at this
  exact this
/-- range(i, j, c), c positive -/
theorem iw_r3 (hf : Free Γ.mg) {i : Int} {R : List D → Mem → Prop} (h : Ev Γ δ μ a (.int i)) (hi : -1000000000 ≤ i ∧ i ≤ 1000000000) (h2 : Ew Γ δ μ b fun d μ' => ∃ j cc : Int, d = .int j ∧ (-1000000000 ≤ j ∧ j ≤ 1000000000) ∧ Ev Γ δ μ' c (.int cc) ∧ (0 < cc ∧ cc ≤ 1000000000) ∧ R (rngD i cc (Builtin.Range.rangeSize i j cc).toNat) μ')
    (hg : Γ.sc.names.lookup ("range" : Str) = some .globalImplicit := by rfl)
    (hs : ∀ env, starEach [a, b, c] env = (false, eval a env) :: starEach [b, c] env := by intro _; rfl) (hs2 : ∀ env, starEach [b, c] env = (false, eval b env) :: starEach [c] env := by intro _; rfl) (hs3 : ∀ env, starEach [c] env = (false, eval c env) :: starEach [] env := by intro _; rfl)
    (hpl : ∀ env, (backTo pos (starEach [b, c] env)).any (·.1) = false := by intro _; rfl) : Iw Γ δ μ tg (.Call (.Name "range" p) [a, b, c] [] pos) R := fun X hX σ C H Q w k =>
  PIw (pi_range3 (hX.gl hg) (by rw [hX.mg]; exact hf _ (by decide)) (pa_cons wE_pe (pa_cons wE_pe (pa_cons wE_pe pa_nil (hs3 _)) (hs2 _)) (hs _)) (hs _) (hpl _)) (h X hX σ C H _ w fun v1 d1 μ1 C1 H1 g1 w1 r1 ⟨e1, e2⟩ => by
    subst e1; subst e2
    cases r1
    refine h2 X hX σ C1 H1 _ w1 fun v2 d2 μ2 C2 H2 g2 w2 r2 ⟨j, cc, e1, hj, h3, hc, hR⟩ => ?_
    subst e1
    cases r2
    refine h3 X hX σ C2 H2 _ w2 fun v3 d3 μ3 C3 H3 g3 w3 r3 ⟨e1, e2⟩ => ?_
    subst e1; subst e2
    cases r3
    exact ⟨i, j, cc, _, rfl, rgC_pos hi hj hc, k _ _ _ C3 H3 ((g1.trans g2).trans g3) w3 (walk_rngC i cc _) hR⟩)
theorem cut_from {α : Type} (xs : List α) (k : Nat) : cutA xs (some (k : Int)) none = xs.drop k := by
  unfold cutA
  rw [HT.sIx_nat, HT.sIx_none]
  by_cases h : k ≤ xs.length
  · rw [Nat.min_eq_left h, List.take_of_length_le (by rw [List.length_drop]; exact Nat.le_refl _)]
  · rw [Nat.min_eq_right (by omega), List.drop_of_length_le (Nat.le_refl _), List.drop_of_length_le (by omega), List.take_nil]
theorem cut_to {α : Type} (xs : List α) (k : Nat) : cutA xs none (some (k : Int)) = xs.take k := by
  unfold cutA
  rw [HT.sIx_nat, HT.sIx_none, List.drop_zero, Nat.sub_zero]
  by_cases h : k ≤ xs.length
  · rw [Nat.min_eq_left h]
  · rw [Nat.min_eq_right (by omega), List.take_of_length_le (Nat.le_refl _), List.take_of_length_le (by omega)]
theorem Enc.int : Enc Int D.int 0 := ⟨fun _ => rfl, fun _ => trivial⟩
end
end Dl
namespace Zn
open PySem L2 Dl
theorem z3D_len : ∀ (xs ys zs : List D), (z3D xs ys zs).length = min xs.length (min ys.length zs.length)
  | a :: as, b :: bs, c :: cs => by
    have := z3D_len as bs cs
    simp only [z3D, List.length_cons, this]
    omega
  | [], _, _ => by simp [z3D]
  | _ :: _, [], _ => by simp [z3D]
  | _ :: _, _ :: _, [] => by simp [z3D]
end Zn

set_option maxRecDepth 100000
set_option maxHeartbeats 2000000
/-! a[::-1], a.index(k), list(..) made to change, max(l, default=d), zip of two -/
namespace RvT
open PySem PySem.Spec PyProof.Rows L2 HT
section
variable {prog : Program} {w : World} {A : Around} {E : Value → Shared → Prop} {s : Shared}
theorem places_rev (n : Nat) : Builtin.Slice.slicePlaces ((n : Int) - 1) (-1) (-1) = n := by
  unfold Builtin.Slice.slicePlaces
  have h1 : ¬ ((-1 : Int) > 0) := by decide
  simp only [h1, if_false]
  by_cases h : (n : Int) - 1 > -1
  · simp only [h, if_true]
    have e : ((n : Int) - 1 - -1 - 1) / (- -1) = (n : Int) - 1 := by
      rw [show (- -1 : Int) = 1 by decide, Int.ediv_one]
      omega
    rw [e]
    omega
  · simp only [h, if_false]
    omega
theorem applied_rev {sl : Addr} {vk : Value} {n : Nat} {Q : Int × Int × Nat → Shared → Prop} (hs : s.heap.IsSliceOf sl .none .none vk) (pk : IsPart vk (some (-1)))
    (h : Q ((n : Int) - 1, -1, n) s) : wpAny (model prog w) A (Builtin.Slice.sliceApplied (.ref sl) (pure (n : Int))) Q E s := by
  obtain ⟨os, hos, hcs, hds⟩ := id hs
  unfold Builtin.Slice.sliceApplied Builtin.Slice.sliceFields
  refine wpAny_bind (wpAny_bind (wpAny_field hos hds (x := .none) rfl (wpAny_bind (wpAny_field hos hds (x := .none) rfl (wpAny_bind (wpAny_field hos hds (x := vk) rfl (wpAny_pure ?_)))))))
  refine wpAny_bind (slicePart_ pk ?_)
  show wpAny _ _ (if ((-1 : Int) == 0) = true then _ else _) _ _ s
  rw [if_neg (by decide)]
  refine wpAny_bind (slicePart_none (wpAny_bind (slicePart_none (wpAny_bind (wpAny_pure ?_)))))
  show wpAny _ _ (pure (((n : Int) - 1), (-1 : Int), Builtin.Slice.slicePlaces ((n : Int) - 1) (-1) (-1))) _ _ s
  rw [places_rev]
  exact wpAny_pure h
theorem pick_rev (xs : Array Value) : ((List.range xs.size).filterMap fun (m : Nat) => xs[((xs.size : Int) - 1 + (m : Int) * (-1)).toNat]?).toArray = xs.toList.reverse.toArray := by
  have e : (fun (m : Nat) => xs[((xs.size : Int) - 1 + (m : Int) * (-1)).toNat]?) = (fun i => xs[i]?) ∘ fun m => xs.size - 1 - m := by
    funext m
    have : ((xs.size : Int) - 1 + (m : Int) * (-1)).toNat = xs.size - 1 - m := by omega
    rw [this]
    rfl
  rw [e, ← List.filterMap_map, PySem.W.krv_range, List.filterMap_reverse, PySem.W.krv_all]
theorem getItem_tuple_rev {t sl : Addr} {items : Array Value} {vk : Value} {Q : Value → Shared → Prop} (ht : IsTup s.heap t items) (hs : s.heap.IsSliceOf sl .none .none vk) (pk : IsPart vk (some (-1)))
    (h : Q (.ref s.heap.objs.size) { s with heap := s.heap.push { cls := .type "tuple", data := .seq items.toList.reverse.toArray } })
    (hsz : items.size ≤ sizeLine) : wpAny (model prog w) A (getItem (.ref t) (.ref sl)) Q E s := by
  have htake : sizeOk (.seq items.toList.reverse.toArray) := by
    show items.toList.reverse.toArray.size ≤ sizeLine
    rw [List.size_toArray, List.length_reverse, Array.length_toList]
    exact hsz
  obtain ⟨os, hos, hcs, hds⟩ := id hs
  have hTs : s.TypeIs (.ref sl) "slice" := ⟨os, hos, hcs⟩
  unfold getItem
  try with_reducible refine wpAny_holding ?_
  first | refine wpAny_bind (wpAny_pure ?_) | skip
  refine wpAny_bind (wpAny_sequenceKey ht.typeIs (by decide) ?_)
  refine wpAny_bind (wpAny_callSpecial?_slot (name := Str.ofString "__getitem__") ht.typeIs PyProof.Rows.slot_tuple_getitem
    (wpAny_call_entry PyProof.Rows.slot_tuple_getitem ht.typeIs entry_tuple_getitem ?_ (args_tuple_getitem _ _)))
  show wpAny _ _ (Builtin.Tuple.tupleItemsOf (.ref t) >>= _) _ _ s
  refine wpAny_bind (tupleItemsOf_ ht ?_)
  refine wpAny_bind (wpAny_typeOf hTs ?_)
  rw [if_pos (by decide)]
  refine wpAny_bind (applied_rev hs pk ?_)
  have hno : ¬ ((((items.size : Int) - 1) == 0 && (-1 : Int) == 1 && items.size == items.size) = true) := by
    intro q
    rw [Bool.and_eq_true, Bool.and_eq_true] at q
    exact absurd (eq_of_beq q.1.2) (by decide)
  show wpAny _ _ (if (((items.size : Int) - 1) == 0 && (-1 : Int) == 1 && items.size == items.size) = true then _ else _) _ _ s
  rw [if_neg hno, pick_rev]
  first
    | exact wpAny_bind (m := Builtin.Tuple.tupleExact _) (wpAny_newObj_type (wpAny_pure ⟨_, rfl, wpAny_pure h⟩) htake)
    | exact wpAny_bind (m := Builtin.Tuple.tupleExact _) (wpAny_newObj_type (wpAny_bind (wpAny_pure (wpAny_pure ⟨_, rfl, wpAny_pure h⟩))) htake)
    | exact wpAny_bind (wpAny_bind (m := Builtin.Tuple.tupleExact _) (wpAny_newObj_type (wpAny_pure (wpAny_pure ⟨_, rfl, wpAny_pure h⟩)) htake))
    | exact wpAny_bind (wpAny_bind (m := Builtin.Tuple.tupleExact _) (wpAny_newObj_type (wpAny_pure ⟨_, rfl, wpAny_pure h⟩) htake))
end
/-- x[::-1], by values -/
def SlV (X : Cx) (r : V → Hp → VK → Prop) : Prop :=
  ∀ (pins : List (Addr × Obj)) (s : Shared) (σ : L2.St) (H : Hp) (x : V) (v vk : Value) (sl : Addr) (Q : VK), Inv X pins σ H s → RelV x v → s.heap.IsSliceOf sl .none .none vk → IsPart vk (some (-1)) → r x H Q →
    ∃ T id, typeLookup (.type T) "__getitem__" = pure (some (.builtin id)) ∧ s.TypeIs v T ∧ wpAny (model X.prog X.w) X.A (getItem v (.ref sl)) (EP X pins σ Q) X.xe s
def tRev (r : V → Hp → VK → Prop) (te ts : TE) : TE := fun σ H Q => te σ H fun x H1 => ts σ H1 fun y H2 => y = .int (-1) ∧ r x H2 Q
section
variable {X : Cx} {e st : Expr} {te ts : TE} {p2 pos : Pos}
theorem pe_rev {r : V → Hp → VK → Prop} (hr : SlV X r) (he : PE X e te) (hst : PE X st ts) : PE X (.Subscript e (.Slice none none (some st) p2) pos) (tRev r te ts) := by
  refine ⟨fun pins s σ H Q I h => ?_⟩
  refine Subscript_ (thn (he.run pins s σ H _ I h) fun v s1 ⟨x, H1, I1, r1, q1⟩ => ?_)
  refine wpAny_Slice ?_
  rw [evalPart_none]
  refine wpAny_pure ?_
  refine wpAny_pure ?_
  rw [evalPart_some]
  refine thn (hst.run pins s1 σ H1 _ I1 q1) fun vk s2 ⟨y, H2, I2, r2, ey, q2⟩ => ?_
  subst ey
  obtain ⟨t, rfl⟩ := r2
  have I4 : Inv X pins σ H2 { s2 with heap := s2.heap.push { cls := .type "slice", data := .fields #[.none, .none, .int (-1) t] } } := I2.kept (t' := s2.toks) fun b ob q => Heap.get?_push_of_some _ q
  obtain ⟨T, id, hT, ht, hg⟩ := hr pins { s2 with heap := s2.heap.push { cls := .type "slice", data := .fields #[.none, .none, .int (-1) t] } } σ H2 x v (.int (-1) t) s2.heap.objs.size Q I4 r1 (Heap.IsSliceOf.new ..) (.int (-1) t) q2
  show wpAny (model X.prog X.w) X.A (subscriptTail e (.Slice none none (some st) p2) v (.ref s2.heap.objs.size)) (EP X pins σ Q) X.xe { s2 with heap := s2.heap.push { cls := .type "slice", data := .fields #[.none, .none, .int (-1) t] } }
  exact tail_any (ops := [v, .ref s2.heap.objs.size]) ht hT hg (by with_unfolding_all rfl)
def rRevL (K : PySem.W.Frag) : V → Hp → VK → Prop := fun x H Q => ∃ a xs, x = .ref a ∧ SqL K H a xs ∧ ∀ p, H p = none → Q (.ref p) (upd H p (.lst xs.reverse))
theorem rev_list : SlV X (rRevL X.K) := by
  intro pins s σ H x v vk sl Q I rx hs pk h
  obtain ⟨a, xs, rfl, hx, q⟩ := h
  cases rx
  obtain ⟨its, r, ht, hz⟩ := I.list hx
  have hlen := r.length
  refine ⟨"list", _, slot_list_getitem.lookup, ht.isList.typeIs, ?_⟩
  refine wpAny_getItem_list_slice ht.isList hs .none .none pk (by decide) ?_ (by rw [List.size_toArray] <;> omega)
  rw [PySem.W.krv_pick]
  refine ⟨.ref s.heap.objs.size, _, I.laid (t' := s.toks) (o := .lst xs.reverse) (fun b ob q => Heap.get?_push_of_some _ q) (Nat.le_refl _) ?_, rfl, q _ (I.hok.fresh (Nat.le_refl _))⟩
  exact ⟨by rw [List.length_reverse]; exact hz, _, 0, r.reverse, Heap.get?_push_size _ rfl⟩
def rRevT (K : PySem.W.Frag) : V → Hp → VK → Prop := fun x H Q => ∃ a xs, x = .ref a ∧ SqT K H a xs ∧ ∀ p, H p = none → Q (.ref p) (upd H p (.tup xs.reverse))
theorem rev_tuple : SlV X (rRevT X.K) := by
  intro pins s σ H x v vk sl Q I rx hs pk h
  obtain ⟨a, xs, rfl, hx, q⟩ := h
  cases rx
  obtain ⟨its, r, ht, hz⟩ := I.tuple hx
  have hlen : its.toArray.size = xs.length := by rw [List.size_toArray]; exact r.length.symm
  refine ⟨"tuple", _, PyProof.Rows.slot_tuple_getitem.lookup, ht.typeIs, ?_⟩
  refine getItem_tuple_rev ht hs pk ?_ (by rw [hlen]; exact hz)
  refine ⟨.ref s.heap.objs.size, _, I.laid (t' := s.toks) (o := .tup xs.reverse) (fun b ob q => Heap.get?_push_of_some _ q) (Nat.le_refl _) ?_, rfl, q _ (I.hok.fresh (Nat.le_refl _))⟩
  exact ⟨by rw [List.length_reverse]; exact hz, _, r.reverse, IsTup.new _ _⟩
/-! ### t.index(k), ints -/
def tTidx (K : PySem.W.Frag) (to : TE) (ta : TA) : TE := fun σ H Q => to σ H fun x H1 => (∃ (p : Addr) (ob : Obj) (xs : List V), x = .ref p ∧ H1 p = some (.frz ob (.tup xs)) ∧ ob.dict = none) ∧ ta σ H1 fun ys H2 => ∃ (p : Addr) (ns : List Int) (k : Int), x = .ref p ∧ ys = [.int k] ∧ SqT K H2 p (ns.map V.int) ∧ k ∈ ns ∧ Q (.int (ns.idxOf k : Nat)) H2
theorem pe_tidx {o e : Expr} {to : TE} {ta : TA} {apos cpos : Pos} (ho : PE X o to) (ha : PA X [e] ta)
    (hbase : attributeBase o "index" X.env (eval o X.env) = eval o X.env := by rfl)
    (hfew : ((backTo cpos (starEach [e] X.env)).all (fun x => !x.1) && (backToKw cpos (keywordEach [] X.env)).all (fun x => x.1.isSome)
      && decide ([e].length + ([] : List Keyword).length + (if ([] : List Keyword).isEmpty then 0 else 1) < 30)) = true := by rfl)
    (hline : (apos.endLine == cpos.line) = true := by rfl) (hs : starEach [e] X.env = (false, eval e X.env) :: starEach [] X.env := by rfl) :
    PE X (.Call (.Attribute o "index" apos) [e] [] cpos) (tTidx X.K to ta) := by
  refine ⟨fun pins s σ H Q I h => ?_⟩
  refine wpAny_Call_method_late hbase hfew hline rfl (thn (ho.run pins s σ H _ I h) fun v s1 ⟨x, H1, I1, r1, ⟨p, ob, xs, ex, hq, hd⟩, q1⟩ => ?_)
  subst ex
  cases r1
  have hob := (I1.hok p _ hq).1
  refine ⟨"tuple", "tuple.index", PySem.F.plainAttrs_tuple, PySem.F.slot_tuple_index, PySem.F.type_tuple_index, ?_, fun a e => ?_, ?_⟩
  · obtain ⟨its, rv, ⟨o1, ho1, hc1, _⟩, hz⟩ := I1.tuple (.inl (.inr ⟨ob, hq⟩))
    exact ⟨o1, ho1, hc1⟩
  · cases e
    exact ⟨ob, hob, hd⟩
  have hA := ha.run cpos pins s1 σ H1 _ I1 q1
  rw [hs] at hA ⊢
  refine Calls.callWith_builtin (by rfl) (Calls.evalArgs_plain ?_)
  refine thn hA fun us s2 ⟨vs, H2, I2, r2, p', ns, k, e1, e2, hq2, hk, q2⟩ => ?_
  cases e1
  subst e2
  obtain ⟨u, rfl, t, rfl⟩ := vals1 r2
  obtain ⟨its2, rv2, pl2, hz2⟩ := I2.tuple hq2
  exact PySem.SeqAt.tuple_index_ints (show s2.heap.IsTuple _ its2.toArray from pl2) (intsAre_of rv2) hk ⟨.int (ns.idxOf k : Nat), H2, I2.kept (t' := s2.toks + 1) fun _ _ e => e, ⟨_, rfl⟩, q2⟩
/-! ### l.index(k), ints -/
def rLidx (K : PySem.W.Frag) : V → List V → Hp → VK → Prop := fun x xs H Q => ∃ (p : Addr) (ns : List Int) (k : Int), x = .ref p ∧ xs = [.int k] ∧ SqL K H p (ns.map V.int) ∧ k ∈ ns ∧ Q (.int (ns.idxOf k : Nat)) H
theorem mt_lidx : MtR X "list.index" (rLidx X.K) := by
  intro pins s σ H x xs v us Q I rx rs h
  obtain ⟨p, ns, k, rfl, rfl, hq, hk, q⟩ := h
  cases rx
  obtain ⟨u, rfl, t, rfl⟩ := vals1 rs
  obtain ⟨its, r, pl, hz⟩ := I.list hq
  exact PySem.SeqAt.list_index_ints pl.isList (intsAre_of r) (by rw [List.length_map] at hz; exact hz) hk ⟨.int (ns.idxOf k : Nat), H, I.kept (t' := s.toks + 1) fun _ _ e => e, ⟨_, rfl⟩, q⟩
/-! ### tuple(l), known as an object -/
def rTupFz (K : PySem.W.Frag) : List V → Hp → VK → Prop := fun xs H Q => ∃ (p : Addr) (ys : List V), xs = [.ref p] ∧ SqL K H p ys ∧ ∀ (q : Addr) (ob : Obj), H q = none → ob.dict = none → Q (.ref q) (upd H q (.frz ob (.tup ys)))
theorem call_tupFz : CallR X (.type "tuple") (rTupFz X.K) := by
  intro pins s σ H xs us Q I rs h
  obtain ⟨p, ys, rfl, hq, q⟩ := h
  obtain ⟨u, rfl, rx⟩ := vals1 rs
  cases rx
  obtain ⟨its, r', pl, hz⟩ := I.list hq
  have hlen := r'.length
  refine call_tuple_list pl.isList (fun h' kp => ?_) (by simp only [List.size_toArray] <;> omega)
  have I1 : Inv X pins σ H { s with heap := h' } := I.kept (t' := s.toks) kp
  have I2 : Inv X pins σ (upd H h'.objs.size (.frz { cls := .type "tuple", data := .seq its.toArray } (.tup ys))) { s with heap := h'.push { cls := .type "tuple", data := .seq its.toArray } } :=
    I1.laid (t' := s.toks) (fun b o e => Heap.get?_push_of_some _ e) (Nat.le_refl _) (show ObjOk X.prog X.w _ _ _ (.frz _ (.tup ys)) from ⟨Heap.get?_push_size _ rfl, hz, its, r', IsTup.new _ _⟩)
  exact ⟨.ref h'.objs.size, _, I2, rfl, q _ _ (I1.hok.fresh (Nat.le_refl _)) rfl⟩
end
end RvT

set_option maxRecDepth 100000
set_option maxHeartbeats 2000000
namespace Dl
open PySem PySem.Spec PyProof.Rows L2 PySem.W
section
variable {Γ : Gam} {δ : Sd} {μ : Mem} {e e2 a b o st : Expr} {d : D} {ds : List D} {P : Pst} {pos p p2 apos cpos : Pos} {l : Addr} {ns : List Int}
/-! ### a[::-1] -/
theorem ev_revL (ha : Ev Γ δ μ a (.lst ds)) (hs : Ev Γ δ μ st (.int (-1))) : Ev Γ δ μ (.Subscript a (.Slice none none (some st) p2) pos) (.lst ds.reverse) := fun X hX σ C H Q w k =>
  PEw (RvT.pe_rev RvT.rev_list wE_pe wE_pe) (ha X hX σ C H _ w fun v1 d1 μ1 C1 H1 g1 w1 r1 ⟨e1, e2⟩ => by
    subst e1; subst e2
    refine hs X hX σ C1 H1 _ w1 fun v2 d2 μ2 C2 H2 g2 w2 r2 ⟨e1, e2⟩ => ?_
    subst e1; subst e2
    cases r2
    cases Dat.mono g2.core _ _ r1 with | lst ho ha =>
    refine ⟨rfl, _, _, rfl, .inl (.inl (w2.sub _ _ ho)), fun p hp => ?_⟩
    exact k _ _ _ _ _ ((g1.trans g2).trans (Nw.add w2.sub hp).gr) (w2.nw (Nw.add w2.sub hp)) (.lst upd_same (DatAll.mono (Le.new (w2.sub.none hp)) _ _ ha.reverse)) ⟨rfl, rfl⟩)
theorem ev_revT (ha : Ev Γ δ μ a (.tup ds)) (hs : Ev Γ δ μ st (.int (-1))) : Ev Γ δ μ (.Subscript a (.Slice none none (some st) p2) pos) (.tup ds.reverse) := fun X hX σ C H Q w k =>
  PEw (RvT.pe_rev RvT.rev_tuple wE_pe wE_pe) (ha X hX σ C H _ w fun v1 d1 μ1 C1 H1 g1 w1 r1 ⟨e1, e2⟩ => by
    subst e1; subst e2
    refine hs X hX σ C1 H1 _ w1 fun v2 d2 μ2 C2 H2 g2 w2 r2 ⟨e1, e2⟩ => ?_
    subst e1; subst e2
    cases r2
    cases Dat.mono g2.core _ _ r1 with | tup ho ha =>
    refine ⟨rfl, _, _, rfl, .inl (w2.sub.rd ho), fun p hp => ?_⟩
    exact k _ _ _ _ _ ((g1.trans g2).trans (Nw.add w2.sub hp).gr) (w2.nw (Nw.add w2.sub hp)) (.tup (.inl upd_same) (DatAll.mono (Le.new (w2.sub.none hp)) _ _ ha.reverse)) ⟨rfl, rfl⟩)
/-! ### a.index(k) -/
theorem ev_idxL {k : Int} (ho : Ev Γ δ μ o (.lst (ns.map D.int))) (he : Ev Γ δ μ e (.int k)) (hk : k ∈ ns)
    (hbase : ∀ env, attributeBase o "index" env (eval o env) = eval o env := by intro _; rfl)
    (hfew : ∀ env, ((backTo cpos (starEach [e] env)).all (fun x => !x.1) && (backToKw cpos (keywordEach [] env)).all (fun x => x.1.isSome)
      && decide ([e].length + ([] : List Keyword).length + (if ([] : List Keyword).isEmpty then 0 else 1) < 30)) = true := by intro _; rfl)
    (hline : (apos.endLine == cpos.line) = true := by rfl) (hs : ∀ env, starEach [e] env = (false, eval e env) :: starEach [] env := by intro _; rfl) : Ev Γ δ μ (.Call (.Attribute o "index" apos) [e] [] cpos) (.int (ns.idxOf k : Nat)) := fun X hX σ C H Q w kk =>
  PEw (pe_bm PySem.F.plainAttrs_list PySem.F.slot_list_index PySem.F.type_list_index RvT.mt_lidx wE_pe (pa_cons wE_pe pa_nil (hs _)) (hbase _) (hfew _) hline (hs _)) (ho X hX σ C H _ w fun v d μ1 C1 H1 g1 w1 r1 ⟨e1, e2⟩ => by
    subst e1; subst e2
    cases r1 with | lst hol ha =>
    have ev := ha.ints
    subst ev
    refine ⟨.inl ⟨rfl, _, .inl (.inl (w1.sub _ _ hol))⟩, ?_⟩
    refine he X hX σ C1 H1 _ w1 fun v2 y μ2 C2 H2 g2 w2 r2 ⟨e1, e2⟩ => ?_
    subst e1; subst e2
    cases r2
    exact ⟨_, ns, k, rfl, rfl, .inl (.inl (w2.sub _ _ (g2.core _ _ hol))), hk, kk _ _ _ _ _ (g1.trans g2) w2 (.int _) ⟨rfl, rfl⟩⟩)
theorem ev_idxM {k : Int} (ho : Ev Γ δ μ o (.adr l)) (hm : (l, MO.lst (ns.map D.int)) ∈ μ) (he : Ev Γ δ μ e (.int k)) (hk : k ∈ ns)
    (hbase : ∀ env, attributeBase o "index" env (eval o env) = eval o env := by intro _; rfl)
    (hfew : ∀ env, ((backTo cpos (starEach [e] env)).all (fun x => !x.1) && (backToKw cpos (keywordEach [] env)).all (fun x => x.1.isSome)
      && decide ([e].length + ([] : List Keyword).length + (if ([] : List Keyword).isEmpty then 0 else 1) < 30)) = true := by intro _; rfl)
    (hline : (apos.endLine == cpos.line) = true := by rfl) (hs : ∀ env, starEach [e] env = (false, eval e env) :: starEach [] env := by intro _; rfl) : Ev Γ δ μ (.Call (.Attribute o "index" apos) [e] [] cpos) (.int (ns.idxOf k : Nat)) := fun X hX σ C H Q w kk =>
  PEw (pe_bm PySem.F.plainAttrs_list PySem.F.slot_list_index PySem.F.type_list_index RvT.mt_lidx wE_pe (pa_cons wE_pe pa_nil (hs _)) (hbase _) (hfew _) hline (hs _)) (ho X hX σ C H _ w fun v d μ1 C1 H1 g1 w1 r1 ⟨e1, e2⟩ => by
    subst e1; subst e2
    cases r1
    obtain ⟨_, o1, ho1, vs1, eo1, _⟩ := w1.mem.ok _ hm
    subst eo1
    refine ⟨.inl ⟨rfl, vs1, .inl (.inl ho1)⟩, ?_⟩
    refine he X hX σ C1 H1 _ w1 fun v2 y μ2 C2 H2 g2 w2 r2 ⟨e1, e2⟩ => ?_
    subst e1; subst e2
    cases r2
    obtain ⟨_, o2, ho2, vs2, eo2, ha⟩ := w2.mem.ok _ hm
    subst eo2
    have ev := ha.ints
    subst ev
    exact ⟨_, ns, k, rfl, rfl, .inl (.inl ho2), hk, kk _ _ _ _ _ (g1.trans g2) w2 (.int _) ⟨rfl, rfl⟩⟩)
/-! ### a tuple known as an object: o.index(k) -/
def fzD (o : Obj) (ns : List Int) : D := .ext fun _ => .frz o (.tup (ns.map V.int))
theorem fz_tup {K : PySem.W.Frag} {C : Hp} {ob : Obj} {v : V} (r : Dat K C v (fzD ob ns)) : Dat K C v (.tup (ns.map D.int)) := by
  cases r with | ext h =>
  exact .tup (.inr ⟨ob, h⟩) (DatAll.ofInts ns)
theorem Ev.sub {d' : D} (h : Ev Γ δ μ e d) (q : ∀ C v, Dat Γ.K C v d → Dat Γ.K C v d') : Ev Γ δ μ e d' := fun X hX σ C H Q w k => h X hX σ C H Q w fun v d1 μ1 C1 H1 g1 w1 r1 ⟨e1, e2⟩ => by
  subst e1; subst e2
  exact k v d' μ1 C1 H1 g1 w1 (q _ _ r1) ⟨rfl, rfl⟩
theorem Ew.sub {P' : Pst} (h : Ew Γ δ μ e P) (q : ∀ d μ', P d μ' → ∃ d', (∀ C v, Dat Γ.K C v d → Dat Γ.K C v d') ∧ P' d' μ') : Ew Γ δ μ e P' := fun X hX σ C H Q w k => h X hX σ C H Q w fun v d1 μ1 C1 H1 g1 w1 r1 p => by
  obtain ⟨d', h1, h2⟩ := q _ _ p
  exact k v d' μ1 C1 H1 g1 w1 (h1 _ _ r1) h2
theorem Ev.fz {ob : Obj} (h : Ev Γ δ μ e (fzD ob ns)) : Ev Γ δ μ e (.tup (ns.map D.int)) := h.sub fun _ _ r => fz_tup r
theorem fz_obj {K : PySem.W.Frag} {C : Hp} {ob : Obj} {v : V} {Cl : Addr} {f : Str} (r : Dat K C v (.obj Cl [f] [fzD ob ns])) : Dat K C v (.obj Cl [f] [.tup (ns.map D.int)]) := by
  cases r with | obj h1 h2 h3 =>
  cases h3 with | cons r1 r2 =>
  cases r2
  exact .obj h1 h2 (.cons (fz_tup r1) .nil)
theorem ev_idxT {ob : Obj} {k : Int} (hob : ob.dict = none) (ho : Ev Γ δ μ o (fzD ob ns)) (he : Ev Γ δ μ e (.int k)) (hk : k ∈ ns)
    (hbase : ∀ env, attributeBase o "index" env (eval o env) = eval o env := by intro _; rfl)
    (hfew : ∀ env, ((backTo cpos (starEach [e] env)).all (fun x => !x.1) && (backToKw cpos (keywordEach [] env)).all (fun x => x.1.isSome)
      && decide ([e].length + ([] : List Keyword).length + (if ([] : List Keyword).isEmpty then 0 else 1) < 30)) = true := by intro _; rfl)
    (hline : (apos.endLine == cpos.line) = true := by rfl) (hs : ∀ env, starEach [e] env = (false, eval e env) :: starEach [] env := by intro _; rfl) : Ev Γ δ μ (.Call (.Attribute o "index" apos) [e] [] cpos) (.int (ns.idxOf k : Nat)) := fun X hX σ C H Q w kk =>
  PEw (RvT.pe_tidx wE_pe (pa_cons wE_pe pa_nil (hs _)) (hbase _) (hfew _) hline (hs _)) (ho X hX σ C H _ w fun v d μ1 C1 H1 g1 w1 r1 ⟨e1, e2⟩ => by
    subst e1; subst e2
    cases r1 with | ext hol =>
    refine ⟨⟨_, _, _, rfl, w1.sub _ _ hol, hob⟩, ?_⟩
    refine he X hX σ C1 H1 _ w1 fun v2 y μ2 C2 H2 g2 w2 r2 ⟨e1, e2⟩ => ?_
    subst e1; subst e2
    cases r2
    exact ⟨_, ns, k, rfl, rfl, .inl (.inr ⟨_, w2.sub _ _ (g2.core _ _ hol)⟩), hk, kk _ _ _ _ _ (g1.trans g2) w2 (.int _) ⟨rfl, rfl⟩⟩)
/-- tuple(a) of a list: known as an object -/
theorem ew_tupFz (hm : Γ.mg "tuple" = none) (ha : Ev Γ δ μ e (.lst (ns.map D.int))) (h : ∀ ob : Obj, ob.dict = none → P (fzD ob ns) μ) (hg : Γ.sc.names.lookup ("tuple" : Str) = some .globalImplicit := by rfl)
    (he : ∀ env, starEach [e] env = (false, eval e env) :: starEach [] env := by intro _; rfl) (hpl : ∀ env, (backTo pos (starEach [] env)).any (·.1) = false := by intro _; rfl) : Ew Γ δ μ (.Call (.Name "tuple" p) [e] [] pos) P := fun X hX σ C H Q w k =>
  PEw (pe_callTy RvT.call_tupFz (hX.gl hg) (by rw [hX.mg]; exact hm) PyProof.Rows.boot_tuple (pa_cons wE_pe pa_nil (he _)) (by decide) (by decide) (he _) (hpl _)) (ha X hX σ C H _ w fun v d' μ1 C1 H1 g1 w1 r1 ⟨e1, e2⟩ => by
    subst e1; subst e2
    cases r1 with | lst ho ha =>
    have ev := ha.ints
    subst ev
    refine ⟨_, _, rfl, .inl (.inl (w1.sub _ _ ho)), fun q ob hq hob => ?_⟩
    have nw := Nw.add (o := .frz ob (.tup (ns.map V.int))) w1.sub hq
    exact k _ _ _ _ _ (g1.trans nw.gr) (w1.nw nw) (.ext upd_same) (h ob hob))
/-! ### list(a), made to change -/
theorem ew_listM (hm : Γ.mg "list" = none) (ha : Ev Γ δ μ e d) (hd : d = .lst ds ∨ d = .tup ds) (h : ∀ q, P (.adr q) ((q, .lst ds) :: μ)) (hg : Γ.sc.names.lookup ("list" : Str) = some .globalImplicit := by rfl)
    (he : ∀ env, starEach [e] env = (false, eval e env) :: starEach [] env := by intro _; rfl) (hpl : ∀ env, (backTo pos (starEach [] env)).any (·.1) = false := by intro _; rfl) : Ew Γ δ μ (.Call (.Name "list" p) [e] [] pos) P := fun X hX σ C H Q w k =>
  PEw (pe_callTy call_list_of (hX.gl hg) (by rw [hX.mg]; exact hm) PyProof.Rows.boot_list (pa_cons wE_pe pa_nil (he _)) (by decide) (by decide) (he _) (hpl _)) (ha X hX σ C H _ w fun v d' μ1 C1 H1 g1 w1 r1 ⟨e1, e2⟩ => by
    subst e1; subst e2
    rcases hd with rfl | rfl
    · cases r1 with | @lst _ vs _ ho ha =>
      refine ⟨_, _, rfl, .inl (.inl (.inl (w1.sub _ _ ho))), fun q hq => ?_⟩
      have gg := g1.trans (Gr.newM (x := q) (m := .lst ds) (o := .lst vs) hq)
      exact k _ _ _ _ _ gg (w.gr gg (w1.sub.updH (w1.sub.none hq)) (w1.mem.newM hq w1.sub ⟨_, rfl, ha⟩)) (.adr q) (h q)
    · cases r1 with | @tup _ vs _ ho ha =>
      refine ⟨_, _, rfl, .inr (.inl (w1.sub.rd ho)), fun q hq => ?_⟩
      have gg := g1.trans (Gr.newM (x := q) (m := .lst ds) (o := .lst vs) hq)
      exact k _ _ _ _ _ gg (w.gr gg (w1.sub.updH (w1.sub.none hq)) (w1.mem.newM hq w1.sub ⟨_, rfl, ha⟩)) (.adr q) (h q))
/-! ### max(a, default=m) -/
def maxDf : List Int → Int → Int
  | [], m => m
  | y :: ys, _ => maxOf y ys
def rMaxDf (K : PySem.W.Frag) : List V → List V → Hp → VK → Prop := fun vs zs H Q => ∃ (a : Addr) (ns : List Int) (m : Int), vs = [.ref a] ∧ zs = [.int m] ∧ SqL K H a (ns.map V.int) ∧ Q (.int (maxDf ns m)) H
theorem crk_maxDf {X : Cx} (hc : X.calm = true) (hu : X.A.units + 64 < cLine) : CallRK X (.builtin "max") [Str.ofString "default"] (rMaxDf X.K) := by
  intro pins s σ H xs zs us ws Q I r1 r2 h
  obtain ⟨a, ns, m, rfl, rfl, hq, q⟩ := h
  obtain ⟨u, rfl, q0⟩ := vals1 r1
  obtain ⟨z, rfl, q1⟩ := vals1 r2
  obtain rfl : u = _ := q0
  obtain ⟨t, rfl⟩ := q1
  obtain ⟨its, rits, pl, hz⟩ := I.list hq
  have hH : HoldAll s.heap its.toArray.toList ns := by simpa using holdAll_of Enc.int I (C := fun _ => none) (fun _ _ e => by cases e) (DatAll.ofInts ns) rits
  refine max_list_datum_default (xs := ns) (I.ok.hd hc) (show s.heap.IsList _ its.toArray from pl.isList) hH (by show X.A.units + 1 + 0 < cLine; omega) (fun e h' tk hk => ?_) fun y ys i u h' tk e hi hh hk => ?_
  · subst e
    exact ⟨.int m, H, I.kept hk, ⟨_, rfl⟩, q⟩
  · obtain ⟨y', hy, hy2⟩ := hH.at (i := i) (v := u) (by simpa using hi)
    have ey : y' = maxOf y ys := by
      obtain ⟨as, r1⟩ := hy2.keeps hk
      obtain ⟨bs, r2⟩ := hh
      exact toD_inj (r1.unique _ _ r2).1
    obtain ⟨u2, hu2, ru2⟩ := rits.get (i := i) (x := .int y') (by rw [List.getElem?_map, hy]; rfl)
    have e2 : u2 = u := by
      have : its[i]? = some u := by simpa using hi
      rw [hu2] at this
      exact Option.some.inj this
    subst e2
    subst e
    refine ⟨.int y', H, I.kept hk, ru2, ?_⟩
    rw [ey]
    exact q
theorem ev_maxDfM {m : Int} {kp : Pos} (hmx : Γ.mg "max" = none) (ha : Ev Γ δ μ e (.adr l)) (hm : (l, MO.lst (ns.map D.int)) ∈ μ) (hb : Ev Γ δ μ e2 (.int m)) (hg : Γ.sc.names.lookup ("max" : Str) = some .globalImplicit := by rfl)
    (he : ∀ env, starEach [e] env = (false, eval e env) :: starEach [] env := by intro _; rfl)
    (hpl : ∀ env, (backTo pos (starEach [e] env)).any (·.1) = false := by intro _; rfl)
    (hbt : ∀ env, backTo pos (starEach [e] env) = (false, eval e env) :: backTo pos (starEach [] env) := by intro _; rfl)
    (hall : ∀ env, (backToKw pos (keywordEach [⟨some "default", e2, kp⟩] env)).all (·.1.isSome) = true := by intro _; rfl) (hnone : ∀ env, (backToKw pos (keywordEach [⟨some "default", e2, kp⟩] env)).any (·.1.isNone) = false := by intro _; rfl) (hks : ∀ env, (backToKw pos (keywordEach [⟨some "default", e2, kp⟩] env)).filterMap (·.1) = [Str.ofString "default"] := by intro _; rfl) :
    Ev Γ δ μ (.Call (.Name "max" p) [e] [⟨some "default", e2, kp⟩] pos) (.int (maxDf ns m)) := fun X hX σ C H Q w k =>
  PEw (pe_callBK (crk_maxDf hX.calm hX.room.units) (hX.gl hg) (by rw [hX.mg]; exact hmx) PyProof.Rows.boot_max (pa_cons wE_pe pa_nil (he _)) (pk_cons wE_pe pk_nil) (by decide) (by decide) (hbt _) (hpl _) (hall _) (hnone _) (hks _)) (ha X hX σ C H _ w fun v1 d1 μ1 C1 H1 g1 w1 r1 ⟨e1, e2⟩ => by
    subst e1; subst e2
    cases r1
    refine hb X hX σ C1 H1 _ w1 fun v2 d2 μ2 C2 H2 g2 w2 r2 ⟨e1, e2⟩ => ?_
    subst e1; subst e2
    cases r2
    obtain ⟨_, o2, ho2, vs2, eo2, ha⟩ := w2.mem.ok _ hm
    subst eo2
    have ev := ha.ints
    subst ev
    exact ⟨_, ns, m, rfl, rfl, .inl (.inl ho2), k _ _ _ _ _ (g1.trans g2) w2 (.int _) ⟨rfl, rfl⟩⟩)
end
/-! ### zip of two -/
def zipD : List D → List D → List D
  | a :: as, b :: bs => .tup [a, b] :: zipD as bs
  | _, _ => []
theorem zipD_get : ∀ {xs ys : List D} {i : Nat} {t : D}, (zipD xs ys)[i]? = some t → ∃ a b, xs[i]? = some a ∧ ys[i]? = some b ∧ t = .tup [a, b]
  | a :: as, b :: bs, 0, t, h => by
    simp [zipD] at h
    exact ⟨a, b, by simp, by simp, h.symm⟩
  | a :: as, b :: bs, i + 1, t, h => by
    obtain ⟨x, y, h1, h2, h4⟩ := zipD_get (xs := as) (ys := bs) (i := i) (by simpa [zipD] using h)
    exact ⟨x, y, by simpa using h1, by simpa using h2, h4⟩
  | [], _, _, _, h => by simp [zipD] at h
  | _ :: _, [], _, _, h => by simp [zipD] at h
theorem zipD_end : ∀ {xs ys : List D} {i : Nat}, (zipD xs ys).length ≤ i → xs.length ≤ i ∨ ys.length ≤ i
  | a :: as, b :: bs, 0, h => by simp [zipD] at h
  | a :: as, b :: bs, i + 1, h => by
    have := zipD_end (xs := as) (ys := bs) (i := i) (by simpa [zipD] using h)
    simpa using this
  | [], _, _, _ => by simp
  | _ :: _, [], _, _ => by simp
theorem zipD_map {α β : Type} (f : α → D) (g : β → D) : ∀ (xs : List α) (ys : List β), zipD (xs.map f) (ys.map g) = (xs.zip ys).map fun p => .tup [f p.1, g p.2]
  | [], _ => rfl
  | _ :: _, [] => rfl
  | x :: xs, y :: ys => congrArg (D.tup [f x, g y] :: ·) (zipD_map f g xs ys)
section
variable {Γ : Gam} {δ : Sd} {μ : Mem} {a b : Expr} {pos p tpos : Pos} {elts : List Expr} {kk : Nat} {xs ys : List D}
theorem iv_zipLL (hf : Free Γ.mg) (h1 : Ev Γ δ μ a (.lst xs)) (h2 : Ev Γ δ μ b (.lst ys)) (hg : Γ.sc.names.lookup ("zip" : Str) = some .globalImplicit := by rfl)
    (hs : ∀ env, starEach [a, b] env = (false, eval a env) :: starEach [b] env := by intro _; rfl) (hs2 : ∀ env, starEach [b] env = (false, eval b env) :: starEach [] env := by intro _; rfl)
    (hpl : ∀ env, (backTo pos (starEach [b] env)).any (·.1) = false := by intro _; rfl) : Iv Γ δ μ (.Tuple elts kk tpos) (.Call (.Name "zip" p) [a, b] [] pos) (zipD xs ys) := fun X hX σ C H Q w k =>
  PIw (pi_zip (hX.gl hg) (by rw [hX.mg]; exact hf _ (by decide)) (pa_cons wE_pe (pa_cons wE_pe pa_nil (hs2 _)) (hs _)) (hs _) (hpl _)) (h1 X hX σ C H _ w fun v1 d1 μ1 C1 H1 g1 w1 r1 ⟨e1, e2⟩ => by
    subst e1; subst e2
    refine h2 X hX σ C1 H1 _ w1 fun v2 d2 μ2 C2 H2 g2 w2 r2 ⟨e1, e2⟩ => ?_
    subst e1; subst e2
    cases Dat.mono g2.core _ _ r1 with | lst o1 a1 =>
    cases r2 with | lst o2 a2 =>
    refine ⟨_, _, _, _, rfl, .inl (.inl (w2.sub _ _ o1)), .inl (.inl (w2.sub _ _ o2)), k _ _ _ C2 H2 (g1.trans g2) w2 ?_ ⟨rfl, rfl⟩⟩
    rw [hX.K]
    intro i Ca Ha l1 l2
    have q1 := l2 _ _ (l1 _ _ o1)
    have q2 := l2 _ _ (l1 _ _ o2)
    refine ⟨fun d e => ?_, fun q => ⟨_, _, .inl (.inl q1), .inl (.inl q2), by rw [a1.len, a2.len]; exact zipD_end q⟩⟩
    obtain ⟨x, y, x1, x2, rfl⟩ := zipD_get e
    obtain ⟨v1, y1, s1⟩ := a1.get x1
    obtain ⟨v2, y2, s2⟩ := a2.get x2
    refine ⟨⟨_, _, _, _, .inl (.inl q1), .inl (.inl q2), y1, y2⟩, fun u H' ⟨T, t1, t2, e2, hT, e3, f1, f2⟩ => ?_⟩
    subst e2; subst e3
    have f1 := f1 _ (.inl (.inl q1))
    have f2 := f2 _ (.inl (.inl q2))
    rw [y1] at f1
    rw [y2] at f2
    cases f1; cases f2
    have up : Le C2 (L2.upd Ca T (.tup [v1, v2])) := l1.trans (Le.new (l2.none hT))
    exact ⟨_, Nw.add l2 hT, .tup (.inl upd_same) (.cons (Dat.mono up _ _ s1) (.cons (Dat.mono up _ _ s2) .nil))⟩)
theorem iv_zipTL (hf : Free Γ.mg) (h1 : Ev Γ δ μ a (.tup xs)) (h2 : Ev Γ δ μ b (.lst ys)) (hg : Γ.sc.names.lookup ("zip" : Str) = some .globalImplicit := by rfl)
    (hs : ∀ env, starEach [a, b] env = (false, eval a env) :: starEach [b] env := by intro _; rfl) (hs2 : ∀ env, starEach [b] env = (false, eval b env) :: starEach [] env := by intro _; rfl)
    (hpl : ∀ env, (backTo pos (starEach [b] env)).any (·.1) = false := by intro _; rfl) : Iv Γ δ μ (.Tuple elts kk tpos) (.Call (.Name "zip" p) [a, b] [] pos) (zipD xs ys) := fun X hX σ C H Q w k =>
  PIw (Zn.pi_zTL (hX.gl hg) (by rw [hX.mg]; exact hf _ (by decide)) (pa_cons wE_pe (pa_cons wE_pe pa_nil (hs2 _)) (hs _)) (hs _) (hpl _)) (h1 X hX σ C H _ w fun v1 d1 μ1 C1 H1 g1 w1 r1 ⟨e1, e2⟩ => by
    subst e1; subst e2
    refine h2 X hX σ C1 H1 _ w1 fun v2 d2 μ2 C2 H2 g2 w2 r2 ⟨e1, e2⟩ => ?_
    subst e1; subst e2
    cases Dat.mono g2.core _ _ r1 with | tup o1 a1 =>
    cases r2 with | lst o2 a2 =>
    refine ⟨_, _, _, _, rfl, .inl (w2.sub.rd o1), .inl (.inl (w2.sub _ _ o2)), k _ _ _ C2 H2 (g1.trans g2) w2 ?_ ⟨rfl, rfl⟩⟩
    rw [hX.K]
    intro i Ca Ha l1 l2
    have q1 := l2.rd (l1.rd o1)
    have q2 := l2 _ _ (l1 _ _ o2)
    refine ⟨fun d e => ?_, fun q => ⟨_, _, .inl q1, .inl (.inl q2), by rw [a1.len, a2.len]; exact zipD_end q⟩⟩
    obtain ⟨x, y, x1, x2, rfl⟩ := zipD_get e
    obtain ⟨v1, y1, s1⟩ := a1.get x1
    obtain ⟨v2, y2, s2⟩ := a2.get x2
    refine ⟨⟨_, _, _, _, .inl q1, .inl (.inl q2), y1, y2⟩, fun u H' ⟨T, t1, t2, e2, hT, e3, f1, f2⟩ => ?_⟩
    subst e2; subst e3
    have f1 := f1 _ (.inl q1)
    have f2 := f2 _ (.inl (.inl q2))
    rw [y1] at f1
    rw [y2] at f2
    cases f1; cases f2
    have up : Le C2 (L2.upd Ca T (.tup [v1, v2])) := l1.trans (Le.new (l2.none hT))
    exact ⟨_, Nw.add l2 hT, .tup (.inl upd_same) (.cons (Dat.mono up _ _ s1) (.cons (Dat.mono up _ _ s2) .nil))⟩)
end
end Dl

set_option maxRecDepth 100000
set_option maxHeartbeats 2000000
namespace Sp
open PySem L2 Dl
def prD (p : Int × Int) : D := .tup [.int p.1, .int p.2]
def spStep (a least : Int) (acc : List (Int × Int)) (i : Nat) (h : Int) : List (Int × Int) :=
  if decide (least ≤ h) = true then (match acc.getLast? with
    | some p => if decide (p.2 = a + (i : Int) - 1) = true then acc.set (acc.length - 1) (p.1, a + (i : Int)) else acc ++ [(a + (i : Int), a + (i : Int))]
    | none => acc ++ [(a + (i : Int), a + (i : Int))]) else acc
def spTo (a least : Int) (hs : List Int) : Nat → List (Int × Int)
  | 0 => []
  | n + 1 => spStep a least (spTo a least hs n) n (hs.getD n 0)
theorem spStep_len (a least : Int) (acc : List (Int × Int)) (i : Nat) (h : Int) : (spStep a least acc i h).length ≤ acc.length + 1 := by
  unfold spStep
  split
  · split
    · split <;> simp
    · simp
  · omega
theorem spTo_len (a least : Int) (hs : List Int) : ∀ n, (spTo a least hs n).length ≤ n
  | 0 => by simp [spTo]
  | n + 1 => by
    have h1 := spTo_len a least hs n
    have h2 := spStep_len a least (spTo a least hs n) n (hs.getD n 0)
    show (spStep a least (spTo a least hs n) n (hs.getD n 0)).length ≤ n + 1
    omega
theorem pd_prs (xs : List (Int × Int)) : Pd 2 (.lst (xs.map prD)) := by
  show ∀ x ∈ xs.map prD, Pd 1 x
  intro x hx
  obtain ⟨p, _, rfl⟩ := List.mem_map.mp hx
  show ∀ y ∈ [D.int p.1, D.int p.2], Pd 0 y
  intro y hy
  rcases List.mem_cons.mp hy with rfl | hy
  · trivial
  · rcases List.mem_cons.mp hy with rfl | hy
    · trivial
    · cases hy
theorem set_map {α β : Type} (f : α → β) : ∀ (xs : List α) (i : Nat) (x : α), (xs.map f).set i (f x) = (xs.set i x).map f
  | [], _, _ => rfl
  | y :: ys, 0, x => rfl
  | y :: ys, i + 1, x => congrArg (f y :: ·) (set_map f ys i x)
def SP (a least : Int) (hs : List Int) (i : Nat) (spans : List (Int × Int)) (start : Option Int) : Prop :=
  (i ≤ hs.length ∧ ((start = none ∧ spTo a least hs i = spans ∧ ∀ p ∈ spans, p.2 < a + (i : Int) - 1) ∨ (∃ s, start = some s ∧ spTo a least hs i = spans ++ [(a + s, a + (i : Int) - 1)] ∧ ∀ p ∈ spans, p.2 < a + (i : Int) - 1))) ∨ (i = hs.length + 1 ∧ start = none ∧ spTo a least hs hs.length = spans)
def spNext (a : Int) (i : Nat) (spans : List (Int × Int)) : Option Int → Bool → List (Int × Int) × Option Int
  | none, true => (spans, some (i : Int))
  | none, false => (spans, none)
  | some s, true => (spans, some s)
  | some s, false => (spans ++ [(a + s, a + (i : Int) - 1)], none)
theorem sp_step {a least : Int} {hs : List Int} {i : Nat} {spans : List (Int × Int)} {start : Option Int} (h : SP a least hs i spans start) (hi : i ≤ hs.length) {b : Bool} (hb : b = (decide ((i : Int) < hs.length) && decide (least ≤ gi hs i))) : SP a least hs (i + 1) (spNext a i spans start b).1 (spNext a i spans start b).2 := by
  have hs1 : spTo a least hs (i + 1) = spStep a least (spTo a least hs i) i (gi hs i) := by
    show spStep a least (spTo a least hs i) i (hs.getD i 0) = _
    unfold gi
    rw [Int.toNat_natCast]
  have c1 : a + ((i + 1 : Nat) : Int) - 1 = a + (i : Int) := by omega
  rcases h with ⟨_, h⟩ | ⟨h, _⟩
  · by_cases hn : i < hs.length
    · rw [decide_eq_true (by omega : (i : Int) < hs.length), Bool.true_and] at hb
      refine .inl ⟨hn, ?_⟩
      rcases h with ⟨rfl, h1, h2⟩ | ⟨s, rfl, h1, h2⟩
      · cases b with
        | true =>
          refine .inr ⟨(i : Int), rfl, ?_, fun p hp => by have := h2 p hp; omega⟩
          rw [hs1, h1]
          unfold spStep
          rw [if_pos hb.symm, c1]
          show _ = spans ++ [(a + (i : Int), a + (i : Int))]
          cases hg : spans.getLast? with
          | none => rfl
          | some p =>
            have hm := List.mem_of_getLast? hg
            have := h2 p hm
            exact if_neg (by rw [decide_eq_true_eq]; omega)
        | false =>
          refine .inl ⟨rfl, ?_, fun p hp => by have := h2 p hp; omega⟩
          rw [hs1, h1]
          unfold spStep
          rw [if_neg (by rw [← hb]; decide)]
          rfl
      · cases b with
        | true =>
          refine .inr ⟨s, rfl, ?_, fun p hp => by have := h2 p hp; omega⟩
          rw [hs1, h1]
          unfold spStep
          rw [if_pos hb.symm, c1]
          have e : (spans ++ [(a + s, a + (i : Int) - 1)]).getLast? = some (a + s, a + (i : Int) - 1) := by simp
          rw [e]
          show (if decide (a + (i : Int) - 1 = a + (i : Int) - 1) = true then _ else _) = spans ++ [(a + s, a + (i : Int))]
          rw [if_pos (by simp)]
          simp
        | false =>
          refine .inl ⟨rfl, ?_, fun p hp => ?_⟩
          · rw [hs1, h1]
            unfold spStep
            rw [if_neg (by rw [← hb]; decide)]
            rfl
          · rcases List.mem_append.mp hp with z | z
            · have := h2 p z
              omega
            · rw [List.mem_singleton.mp z]
              show a + (i : Int) - 1 < _
              omega
    · have ei : i = hs.length := by omega
      rw [decide_eq_false (by omega : ¬ (i : Int) < hs.length), Bool.false_and] at hb
      subst hb
      refine .inr ⟨by omega, ?_⟩
      rw [← ei]
      rcases h with ⟨rfl, h1, h2⟩ | ⟨s, rfl, h1, h2⟩
      · exact ⟨rfl, h1⟩
      · exact ⟨rfl, h1⟩
  · omega
theorem sp_len {a least : Int} {hs : List Int} {i : Nat} {spans : List (Int × Int)} {start : Option Int} (h : SP a least hs i spans start) (hi : i ≤ hs.length) : spans.length ≤ hs.length := by
  have hl := spTo_len a least hs i
  rcases h with ⟨_, ⟨_, h1, _⟩ | ⟨s, _, h1, _⟩⟩ | ⟨h, _⟩
  · rw [h1] at hl; omega
  · rw [h1, List.length_append] at hl
    simp at hl
    omega
  · omega
def stD : Option Int → D
  | none => .non
  | some s => .int s
theorem pdI (xs : List Int) : Pd 1 (.lst (xs.map D.int)) := by
  show ∀ x ∈ xs.map D.int, Pd 0 x
  intro x hx
  obtain ⟨p, _, rfl⟩ := List.mem_map.mp hx
  trivial
theorem pd2 (a b : Int) : Pd 1 (.tup [.int a, .int b]) := by
  show ∀ x ∈ [D.int a, D.int b], Pd 0 x
  intro y hy
  rcases List.mem_cons.mp hy with rfl | hy
  · trivial
  · rcases List.mem_cons.mp hy with rfl | hy
    · trivial
    · cases hy
theorem pdB (xs : List Bool) : Pd 1 (.lst (xs.map D.bl)) := by
  show ∀ x ∈ xs.map D.bl, Pd 0 x
  intro x hx
  obtain ⟨p, _, rfl⟩ := List.mem_map.mp hx
  trivial
theorem enumD_from (f : Int → D) : ∀ (xs : List Int) (j : Nat), enumD j (xs.map f) = (List.range xs.length).map fun (i : Nat) => D.tup [.int ((j + i : Nat) : Int), f (xs.getD i 0)]
  | [], _ => rfl
  | x :: xs, j => by
    show D.tup [.int ((j : Nat) : Int), f x] :: enumD (j + 1) (xs.map f) = _
    rw [enumD_from f xs (j + 1), List.length_cons, List.range_succ_eq_map, List.map_cons, List.map_map]
    congr 1
    apply List.map_congr_left
    intro i _
    show D.tup [.int ((j + 1 + i : Nat) : Int), f (xs.getD i 0)] = D.tup [.int ((j + (i + 1) : Nat) : Int), f ((x :: xs).getD (i + 1) 0)]
    rw [show j + 1 + i = j + (i + 1) by omega]
    rfl
theorem enumD_ints (xs : List Int) : enumD 0 (xs.map D.int) = (List.range xs.length).map fun (i : Nat) => D.tup [.int (i : Int), .int (xs.getD i 0)] := by
  rw [enumD_from]
  apply List.map_congr_left
  intro i _
  rw [Nat.zero_add]
theorem maxOf_maxI (x : Int) (xs : List Int) : PySem.W.maxOf x xs = maxI (x :: xs) := by
  have key : ∀ (xs : List Int) (a : Int), (PySem.W.maxOf a xs = a ∨ PySem.W.maxOf a xs ∈ xs) ∧ a ≤ PySem.W.maxOf a xs ∧ ∀ y ∈ xs, y ≤ PySem.W.maxOf a xs := by
    intro xs
    induction xs with
    | nil => intro a; exact ⟨.inl rfl, Int.le_refl _, fun y hy => by cases hy⟩
    | cons z zs ih =>
      intro a
      have e : PySem.W.maxOf a (z :: zs) = PySem.W.maxOf (if PySem.W.DatumOrd.lt a z = true then z else a) zs := rfl
      have el : PySem.W.DatumOrd.lt a z = decide (a < z) := rfl
      rw [e, el]
      obtain ⟨h1, h2, h3⟩ := ih (if decide (a < z) = true then z else a)
      by_cases q : a < z
      · rw [if_pos (decide_eq_true q)] at h1 h2 h3 ⊢
        refine ⟨.inr ?_, by omega, fun y hy => ?_⟩
        · rcases h1 with h1 | h1
          · rw [h1]; exact List.mem_cons_self
          · exact List.mem_cons_of_mem _ h1
        · rcases List.mem_cons.mp hy with rfl | hy
          · exact h2
          · exact h3 y hy
      · rw [if_neg (by rw [decide_eq_true_eq]; exact q)] at h1 h2 h3 ⊢
        refine ⟨?_, h2, fun y hy => ?_⟩
        · rcases h1 with h1 | h1
          · exact .inl h1
          · exact .inr (List.mem_cons_of_mem _ h1)
        · rcases List.mem_cons.mp hy with rfl | hy
          · omega
          · exact h3 y hy
  obtain ⟨h1, h2, h3⟩ := key xs x
  refine max_eq ?_ fun y hy => ?_
  · rcases h1 with h1 | h1
    · rw [h1]; exact List.mem_cons_self
    · exact List.mem_cons_of_mem _ h1
  · rcases List.mem_cons.mp hy with rfl | hy
    · exact h2
    · exact h3 y hy
end Sp

set_option maxRecDepth 100000
set_option maxHeartbeats 2000000
namespace Dl
open PySem PySem.Spec PyProof.Rows L2
theorem b_pow {Γ : Gam} {i j : Int} (h : CPow i j) : Bop Γ (binaryOp .Pow) (.int i) (.int j) (.int (i ^ j.toNat)) := bop_IC (g := fun i j => i ^ j.toNat) (fun X => op_pow) h
end Dl
namespace Lw
open PySem L2 Dl
/-- the law's dice -/
abbrev dm (x0 x1 x2 : Int) : MO := .lst [.int x0, .int x1, .int x2]
def S_dice : Dl.Spec := fun ds μ P _ => ∃ c : Int, ds = [.int c] ∧ ∀ q x0 x1 x2, P (.adr q) ((q, dm x0 x1 x2) :: μ)
def S_roll : Dl.Spec := fun ds μ P _ => ∃ (l : Addr) (x0 x1 x2 many : Int), ds = [.adr l, .int many] ∧ (0 < many ∧ many ≤ 100000000) ∧ μ = [(l, dm x0 x1 x2)] ∧ ∀ r y0 y1 y2, 0 ≤ r → r < many → P (.int r) [(l, dm y0 y1 y2)]
def S_rounds : Dl.Spec := fun ds μ P _ => ∃ (cs : List Int), ds = [.lsq (cs.map D.int), .int 1] ∧ ∀ q x0 x1 x2, P (.lst [.adr q]) ((q, dm x0 x1 x2) :: μ)
end Lw
namespace Lw
open PySem PySem.Spec PyProof.Rows L2 Dl
variable {Γ : Gam} {δ : Sd} {e1 e2 : Expr} {P : Pst} {pos p : Pos} {l : Addr} {x0 x1 x2 many : Int} {ν : Mem}
/-- a roll of the law's dice -/
theorem ew_roll {kk : Nat} (G : Γ.gn "_law_roll" kk 2 S_roll) (h1 : Ev Γ δ ((l, dm x0 x1 x2) :: ν) e1 (.adr l)) (h2 : Ev Γ δ ((l, dm x0 x1 x2) :: ν) e2 (.int many)) (hm : 0 < many ∧ many ≤ 100000000) (hk : kk ≤ Γ.k) (h : ∀ r y0 y1 y2, 0 ≤ r → r < many → P (.int r) ((l, dm y0 y1 y2) :: ν)) (hg : Γ.sc.names.lookup ("_law_roll" : Str) = some .globalImplicit := by rfl)
    (he : ∀ env, starEach [e1, e2] env = (false, eval e1 env) :: starEach [e2] env := by intro _; rfl) (hs2 : ∀ env, starEach [e2] env = (false, eval e2 env) :: starEach [] env := by intro _; rfl) (hpl : ∀ env, (backTo pos (starEach [e2] env)).any (·.1) = false := by intro _; rfl) : Ew Γ δ ((l, dm x0 x1 x2) :: ν) (.Call (.Name "_law_roll" p) [e1, e2] [] pos) P :=
  ew_call G hk rfl ((av_cons h1 (av_cons h2 av_nil hs2) he).w ⟨rfl, [(l, dm x0 x1 x2)], ν, NoX, rfl, ⟨l, x0, x1, x2, many, rfl, hm, rfl, fun r y0 y1 y2 a b => h r y0 y1 y2 a b⟩, fun _ _ z => z.elim⟩) hg (by decide) he hpl
end Lw

set_option maxRecDepth 100000
set_option maxHeartbeats 2000000
namespace Dl
open PySem PySem.Spec PyProof.Rows L2
/-- a lambda's function object -/
def FunO (f : Addr) (q : Str) (params : Arguments) (body : Expr) (scope : Scope) (clos : List (Str × Addr)) (c' : Addr) : HO := .ext fun h => ∃ pm ctv : Value, h.get? f = some (PySem.W.kla_obj "<lambda>" q params body scope clos pm c' ctv)
theorem funO_ok {P : Program} {w : World} {H : Hp} {h : Heap} {f c' : Addr} {q : Str} {params : Arguments} {body : Expr} {scope : Scope} {clos : List (Str × Addr)} {pm ctv : Value} (e : h.get? f = some (PySem.W.kla_obj "<lambda>" q params body scope clos pm c' ctv)) : ObjOk P w H h f (FunO f q params body scope clos c') :=
  ⟨⟨pm, ctv, e⟩, ⟨_, e⟩, fun h1 h2 ⟨pm, ctv, a⟩ st => ⟨pm, ctv, st _ a⟩⟩
section
variable {X : Cx} {pins : List (Addr × Obj)} {σ : L2.St} {H : Hp} {s : Shared}
/-- a lambda is made: what it writes -/
theorem lam_new {c P : Addr} {ps : Array Value} {params : Arguments} {body : Expr} {scope : Scope} {pos : Pos} {E : Value → Shared → Prop} {Q : Value → Shared → Prop} (I : Inv X pins σ H s) (TB : LamX.TabB X.base X.mg c P) (hcode : X.env.code = .ref c) (hP : H P = some (.tbl ps)) (ht : TriplesOk ps.toList)
    (hit : ∀ cv, codeAmong pos ps.toList = some cv → ∃ c', cv = .ref c' ∧ H c' = some (LamX.CodeO c' (X.env.qual ++ "<lambda>"))) (hdef : defaultsOf params X.env = ([], [])) (hfree : ∀ y ∈ scope.names, y.2 = .free → ∃ c, X.env.cells.lookup y.1 = some c)
    (h : ∀ (f c' : Addr) (H1 : Hp) (s' : Shared), ((H1 = H ∧ codeAmong pos ps.toList = some (.ref c')) ∨ (H c' = none ∧ c' ≠ P ∧ H1 = upd (upd H P (.tbl (ps ++ #[rawInt pos.line, rawInt pos.col, .ref c']))) c' (LamX.CodeO c' (X.env.qual ++ "<lambda>")))) → H1 f = none → f ∉ frs X.stack →
      Inv X pins σ (upd H1 f (FunO f (X.env.qual ++ "<lambda>") params body scope (cloFrom X.env.cells scope.names []) c')) s' → Q (.ref f) s') :
    wpAny (model X.prog X.w) X.A (eval (.Lambda params body scope pos) X.env) Q E s := by
  refine PySem.W.kla_eval hdef ?_
  have bP : s.heap.BuiltinsAt X.mg P := TB.bm.keeps I.bk
  have hP' : s.heap.get? P = some { cls := .none, data := .fields ps } := I.hok P _ hP
  have nofr : ∀ f, s.heap.objs.size ≤ f → f ∉ frs X.stack := fun f hf z => by
    rcases List.mem_cons.mp (I.stkSub _ z) with e | e
    · have h1 := I.lt
      rw [← e] at h1
      exact Nat.lt_irrefl _ (Nat.lt_of_lt_of_le h1 hf)
    · exact I.nofs hf e
  cases hc : codeAmong pos ps.toList with
  | none =>
    refine PySem.W.kla_makeFunction (mg := X.mg) (c := c) (P := P) (ps := ps) (closure_ok hfree) I.ok.glob (I.mod.glob.keeps I.bk) hcode (TB.code.keeps I.bk) hP' ht hc TB.gP bP fun c' ctv h' tk hx hge hlt hrec htb => ?_
    obtain ⟨c2, oc, vs, t, e2, hoc, hd, hv⟩ := hrec
    cases e2
    have hsz : s.heap.objs.size ≤ h'.objs.size := Nat.le_trans hge (Nat.le_of_lt hlt)
    have nC : H c' = none := I.hok.fresh hge
    have I1 := LamX.inv_table (t' := tk) (more := #[rawInt pos.line, rawInt pos.col, .ref c']) (h' := h') I hP (fun b o hb e => hx b o hb e) htb hge ⟨oc, vs, t, hoc, hd, hv⟩
    have nF := I1.hok.fresh (Nat.le_refl h'.objs.size)
    have I2 := I1.laid (a := h'.objs.size) (t' := tk) (h' := h'.push (PySem.W.kla_obj "<lambda>" (X.env.qual ++ "<lambda>") params body scope (cloFrom X.env.cells scope.names []) ((X.mg "__name__").getD .none) c' ctv)) (fun b o e => Heap.get?_push_of_some _ e) (Nat.le_refl _)
      (funO_ok (Heap.get?_push_size _ rfl))
    exact h h'.objs.size c' _ _ (.inr ⟨nC, (fun z => by rw [z, hP] at nC; cases nC), rfl⟩) nF (nofr _ hsz) I2
  | some cv =>
    obtain ⟨c', e, hco⟩ := hit cv hc
    subst e
    refine PySem.W.kla_makeFunctionHit (mg := X.mg) (c := c) (P := P) (ps := ps) (closure_ok hfree) I.ok.glob (I.mod.glob.keeps I.bk) hcode (TB.code.keeps I.bk) hP' ht hc bP fun ctv h' tk hx hsz => ?_
    have nF := I.hok.fresh hsz
    have I2 := I.laid (a := h'.objs.size) (t' := tk) (h' := h'.push (PySem.W.kla_obj "<lambda>" (X.env.qual ++ "<lambda>") params body scope (cloFrom X.env.cells scope.names []) ((X.mg "__name__").getD .none) c' ctv)) (fun b o e => Heap.get?_push_of_some _ (hx b o e)) hsz
      (funO_ok (Heap.get?_push_size _ rfl))
    exact h h'.objs.size c' _ _ (.inl ⟨rfl, hc⟩) nF (nofr _ hsz) I2
end
/-- one entry of the memory is written, all else is kept -/
theorem mem_entry {K : PySem.W.Frag} {C H C2 H2 : Hp} {ν1 ν2 : Mem} {a : Addr} {m m' : MO} {o' : HO} (mo : MemOk K C H (ν1 ++ (a, m) :: ν2)) (hC : Le C C2) (hn : ∀ b, H b ≠ none → C b = none → C2 b = none) (hk : ∀ b o, b ≠ a → H b = some o → H2 b = some o) (ha : H2 a = some o') (q : MoOk K C2 o' m') :
    Gr (ν1 ++ (a, m) :: ν2) (ν1 ++ (a, m') :: ν2) C H C2 H2 ∧ MemOk K C2 H2 (ν1 ++ (a, m') :: ν2) := by
  have ed : dom (ν1 ++ (a, m') :: ν2) = dom (ν1 ++ (a, m) :: ν2) := by
    unfold dom
    simp
  have am : (a, m) ∈ ν1 ++ (a, m) :: ν2 := List.mem_append_right _ List.mem_cons_self
  have ad : a ∈ dom (ν1 ++ (a, m) :: ν2) := List.mem_map.mpr ⟨_, am, rfl⟩
  refine ⟨⟨hC, fun b h1 _ h2 => hn b h1 h2, fun b o hb e => hk b o (fun z => hb (by rw [z]; exact ad)) e, fun b hb => ?_, fun b hb => .inl (by rw [← ed]; exact hb)⟩, ⟨by rw [ed]; exact mo.nd, fun p hp => ?_⟩⟩
  · by_cases z : b = a
    · rw [z, ha]; simp
    · cases e : H b with
      | none => exact absurd e hb
      | some o => rw [hk b o z e]; simp
  · have nd := mo.nd
    rw [dom_app, List.nodup_append] at nd
    have old : p ∈ ν1 ++ (a, m) :: ν2 → p.1 ≠ a → C2 p.1 = none ∧ ∃ o, H2 p.1 = some o ∧ MoOk K C2 o p.2 := fun hp hne => by
      obtain ⟨e, o, ho, k⟩ := mo.ok p hp
      exact ⟨hn _ (by rw [ho]; simp) e, o, hk _ _ hne ho, k.mono hC⟩
    rcases List.mem_append.mp hp with z | z
    · refine old (List.mem_append_left _ z) fun e => ?_
      exact nd.2.2 p.1 (List.mem_map.mpr ⟨p, z, rfl⟩) a (by show a ∈ a :: dom ν2; exact List.mem_cons_self) e
    · rcases List.mem_cons.mp z with rfl | z
      · obtain ⟨e, o, ho, _⟩ := mo.ok _ am
        exact ⟨hn _ (by show H a ≠ none; rw [ho]; simp) e, o', ha, q⟩
      · refine old (List.mem_append_right _ (List.mem_cons_of_mem _ z)) fun e => ?_
        have n2 : (a :: dom ν2).Nodup := nd.2.1
        exact (List.nodup_cons.mp n2).1 (by rw [← e]; exact List.mem_map.mpr ⟨p, z, rfl⟩)
section
variable {Γ : Gam} {δ : Sd} {ν1 ν2 : Mem} {PP c : Addr} {q : Str} {cs : List Addr} {cl : List (Str × Addr)} {params : Arguments} {body : Expr} {scope : Scope} {pos : Pos} {P : Pst}
/-- a lambda, as a value -/
theorem ew_lam (hc : Γ.code = some c) (TB : LamX.TabB Γ.base Γ.mg c PP) (hq : Γ.qual ++ "<lambda>" = q) (hcl : ∀ X, Γ.kn X → X.env.cells = cl) (L : LamX.LamS Γ.sc scope)
    (h : ∀ c', P (.ext fun f => FunO f q params body scope (cloFrom cl scope.names []) c') (ν1 ++ (PP, .tbl q (c' :: cs)) :: ν2)) (hdef : ∀ env, defaultsOf params env = ([], []) := by intro _; rfl) : Ew Γ δ (ν1 ++ (PP, .tbl q cs) :: ν2) (.Lambda params body scope pos) P := fun X hX σ C H Q w k pins s I => by
  have am : (PP, MO.tbl q cs) ∈ ν1 ++ (PP, .tbl q cs) :: ν2 := List.mem_append_right _ List.mem_cons_self
  obtain ⟨eC, o, ho, ps, rfl, ht, ha, hb⟩ := w.mem.ok _ am
  have hb' : ∀ c ∈ cs, C c = some (LamX.CodeO c q) := hb
  have eq : X.env.qual ++ "<lambda>" = q := by rw [hX.qual]; exact hq
  have ecl := hcl X hX.kn
  have LX : LamX.LamS X.env.scope scope := by rw [hX.sc]; exact L
  refine lam_new I (by rw [hX.base, hX.mg]; exact TB) (hX.code c hc) ho ht (fun cv hcv => ?_) (hdef _) (LX.has I.ok) fun f c' H1 s' hcase nF nfr I2 => ?_
  · obtain ⟨c', e1, e2⟩ := ha _ _ hcv
    exact ⟨c', e1, by rw [eq]; exact w.sub _ _ (hb' _ e2)⟩
  · rw [eq, ecl] at I2
    rw [eq] at hcase
    generalize hfo : FunO f q params body scope (cloFrom cl scope.names []) c' = fo at I2
    rcases hcase with ⟨rfl, hcv⟩ | ⟨nC, nP, rfl⟩
    · obtain ⟨c2, e1, e2⟩ := ha _ _ hcv
      cases e1
      have l2 : Le (upd C f fo) (upd H1 f fo) := w.sub.upd2
      have fC : C f = none := w.sub.none nF
      have fP : PP ≠ f := ne_of_none ho nF
      obtain ⟨g, m⟩ := mem_entry (C2 := upd C f fo) (H2 := upd H1 f fo) (m' := .tbl q (c' :: cs)) (o' := .tbl ps) w.mem (Le.new fC) (fun b h1 h2 => by rw [upd_ne (fun z => h1 (by rw [z]; exact nF))]; exact h2) (fun b o _ e => Le.new nF _ _ e) (by rw [upd_ne fP]; exact ho)
        ⟨ps, rfl, ht, fun p cv hh => (ha p cv hh).imp fun d ⟨x, y⟩ => ⟨x, List.mem_cons_of_mem _ y⟩, fun d hd => by
          rcases List.mem_cons.mp hd with rfl | hd
          · exact Le.new fC _ _ (hb' _ e2)
          · exact Le.new fC _ _ (hb' _ hd)⟩
      refine ⟨.ref f, _, I2, rfl, k _ _ _ (upd C f fo) _ g (w.gr g l2 m) (.ext (o := fun f => FunO f q params body scope (cloFrom cl scope.names []) c') (by rw [hfo]; exact upd_same)) ?_⟩
      exact h c'
    · generalize hco : LamX.CodeO c' q = co at I2 nF
      generalize hps : (ps ++ #[rawInt pos.line, rawInt pos.col, .ref c'] : Array Value) = ps2 at I2 nF
      have cC : C c' = none := w.sub.none nC
      have hPc : PP ≠ c' := fun z => nP z.symm
      have nf1 : (upd (upd H PP (.tbl ps2)) c' co) PP = some (.tbl ps2) := by rw [upd_ne hPc, upd_same]
      have fP : PP ≠ f := ne_of_none nf1 nF
      have hfc : f ≠ c' := fun z => by rw [z, upd_same] at nF; cases nF
      have nHf : H f = none := by
        rw [upd_ne hfc, upd_ne (fun z => fP z.symm)] at nF
        exact nF
      have fC : (upd C c' co) f = none := by
        rw [upd_ne hfc]
        exact w.sub.none nHf
      have lC : Le C (upd (upd C c' co) f fo) := (Le.new cC).trans (Le.new fC)
      have l2 : Le (upd (upd C c' co) f fo) (upd (upd (upd H PP (.tbl ps2)) c' co) f fo) := by
        refine Le.upd2 (Le.upd2 fun b o e => ?_)
        rw [upd_ne (fun z => by rw [z, eC] at e; cases e)]
        exact w.sub _ _ e
      have eL : ps2.toList = ps.toList ++ [rawInt pos.line, rawInt pos.col, .ref c'] := by rw [← hps]; simp
      obtain ⟨g, m⟩ := mem_entry (C2 := upd (upd C c' co) f fo) (H2 := upd (upd (upd H PP (.tbl ps2)) c' co) f fo) (m' := .tbl q (c' :: cs)) (o' := .tbl ps2) w.mem lC
        (fun b h1 h2 => by rw [upd_ne (fun z => h1 (by rw [z]; exact nHf)), upd_ne (fun z => h1 (by rw [z]; exact nC))]; exact h2)
        (fun b o hb e => by rw [upd_ne (ne_of_none e nHf), upd_ne (ne_of_none e nC), upd_ne hb]; exact e) (by rw [upd_ne fP]; exact nf1)
        ⟨ps2, rfl, by rw [eL]; exact PySem.TriplesOk_snoc _ _ _ _ ht, fun p cv hh => by
          rw [eL] at hh
          rcases LamX.among_app _ ht hh with z | z
          · obtain ⟨d, x, y⟩ := ha p cv z
            exact ⟨d, x, List.mem_cons_of_mem _ y⟩
          · exact ⟨c', z, List.mem_cons_self⟩, fun d hd => by
          rcases List.mem_cons.mp hd with rfl | hd
          · rw [upd_ne hfc.symm, upd_same, hco]
          · exact lC _ _ (hb' _ hd)⟩
      refine ⟨.ref f, _, I2, rfl, k _ _ _ _ _ g (w.gr g l2 m) (.ext (o := fun f => FunO f q params body scope (cloFrom cl scope.names []) c') (by rw [hfo]; exact upd_same)) ?_⟩
      exact h c'
/-- the maker's cells, by a name -/
theorem run_cl {sts : List Stmt} {μ : Mem} {F : Fin} (h : ∀ cl, Run { Γ with kn := fun X => X.env.cells = cl } δ μ sts F) : Run Γ δ μ sts F := fun X hX σ C H w =>
  have cv : ∀ {σ' : L2.St} {C' H' : Hp} {δ' : Sd} {μ' : Mem}, Wd { Γ with kn := fun Y => Y.env.cells = X.env.cells } C' H' σ' δ' μ' → Wd Γ C' H' σ' δ' μ' := fun w => ⟨w.base, w.sub, w.len, w.sl, w.mem, w.exc⟩
  wSs_mono (h X.env.cells X ⟨hX.prog, hX.w, hX.K, hX.mg, hX.base, hX.N, hX.nd, hX.sc, hX.qual, hX.code, hX.calm, hX.room, hX.tk, hX.po, hX.fn, rfl⟩ σ C H ⟨w.base, w.sub, w.len, w.sl, w.mem, w.exc⟩) (fun σ' H' ⟨C', δ', μ', g, w', q⟩ => ⟨C', δ', μ', g, cv w', q⟩) (fun v H' q => q) (fun σ' H' ⟨C', δ', μ', g, w', q⟩ => ⟨C', δ', μ', g, cv w', q⟩) (fun σ' H' ⟨C', δ', μ', g, w', q⟩ => ⟨C', δ', μ', g, cv w', q⟩)
end
end Dl

set_option maxRecDepth 100000
set_option maxHeartbeats 2000000
namespace Dl
open PySem PySem.Spec PyProof.Rows L2
section
variable {X : Cx} {pins : List (Addr × Obj)} {σ : L2.St} {H : Hp} {s : Shared}
/-- a comprehension whose block may ask what the maker's state is: Kn is told of the block's context -/
theorem wE_lcK {Q : VK} {elt tg iter : Expr} {ifs : List Expr} {scope : Scope} {own : List (Str × Nat)} {pos : Pos} {wi : TI} {g : TG} {tt : TT} {te : TE} (Kn : Cx → Prop)
    (hc : X.calm = true) (hN : X.N.Nodup) (hi : PI X tg iter wi) (ok : BlkOk X.N X.env.scope scope own)
    (hKn : ∀ pins H3 s3 C cl fp, Inv X pins σ H3 s3 → (∀ b ∈ fp, FpOk X pins H3 b) → Kn (X.blk s3 H3 scope (compEnvC scope cl C X.env) fp))
    (hg : ∀ (s : Shared) (H : Hp) (C : Addr) (cl : List (Str × Addr)) (fp : List Addr), Kn (X.blk s H scope (compEnvC scope cl C X.env) fp) → PG (X.blk s H scope (compEnvC scope cl C X.env) fp) tg g)
    (ht : ∀ (s : Shared) (H : Hp) (C : Addr) (cl : List (Str × Addr)) (fp : List Addr), Kn (X.blk s H scope (compEnvC scope cl C X.env) fp) → PTs (X.blk s H scope (compEnvC scope cl C X.env) fp) ifs tt)
    (he : ∀ (s : Shared) (H : Hp) (C : Addr) (cl : List (Str × Addr)) (fp : List Addr), Kn (X.blk s H scope (compEnvC scope cl C X.env) fp) → PE (X.blk s H scope (compEnvC scope cl C X.env) fp) elt te)
    (hs : ∀ x, foldedSetIterable iter X.env x = pure x) (h : tLc wi g tt te (own.map (·.2)) σ H Q) : wE X (.ListComp elt [⟨tg, iter, ifs, 0⟩] scope pos) σ H Q := fun pins s I => by
  have hfree : ∀ y ∈ scope.names, y.2 = .free → ∃ c, X.env.cells.lookup y.1 = some c := fun y hy e => I.ok.has _ (ok.free y hy e)
  rw [eval_ListComp]
  refine wpAny_comprehension_free (use := none) rfl hs (closure_ok hfree) ok.kind (fun y hy e => by rw [ok.uniq y hy, e]) (thn (hi.run pins s σ H _ I h) fun xv s1 hx => thn hx fun itv s2 h2 => ?_)
  obtain ⟨it, fp, tn, J, H2, e, I2, T, st2, f2, q⟩ := h2
  subst e
  refine wpAny_newObj_type (newEnv_comp ?_) (by show 0 ≤ sizeLine; decide)
  obtain ⟨D, hD⟩ : ∃ D, s2.heap.objs.size = D := ⟨_, rfl⟩
  rw [hD]
  have hDn : H2 D = none := I2.hok.fresh (Nat.le_of_eq hD)
  obtain ⟨W, ⟨m0, w0⟩, turn⟩ := q D hDn
  obtain ⟨s3, hs3⟩ : ∃ s3, ({ s2 with heap := s2.heap.push { cls := .type "list", data := .seq ([] : List Value).toArray } } : Shared) = s3 := ⟨_, rfl⟩
  rw [hs3]
  have h3 : s3.heap = s2.heap.push { cls := .type "list", data := .seq ([] : List Value).toArray } := by rw [← hs3]
  have k3 : ∀ b o, s2.heap.get? b = some o → s3.heap.get? b = some o := fun b o e => by
    rw [h3]
    exact Heap.get?_push_of_some _ e
  have I3 : Inv X pins σ (upd H2 D (.lst [])) s3 := by
    rw [← hs3]
    exact I2.laid (t' := s2.toks) (fun b o e => Heap.get?_push_of_some _ e) (Nat.le_of_eq hD) ⟨Nat.zero_le _, [], 0, .nil, by rw [← hD]; exact Heap.get?_push_size _ rfl⟩
  have fpk : ∀ b ∈ fp, FpOk X pins (upd H2 D (.lst [])) b ∧ b < s3.heap.objs.size := fun b hb => by
    obtain ⟨o, e, _⟩ := T.obj _ _ st2 b hb
    have lt := Heap.lt_size e
    refine ⟨⟨?_, (f2 b hb).2⟩, Heap.lt_size (k3 _ _ e)⟩
    rw [upd_ne (fun z => by rw [hD] at lt; exact absurd lt (by rw [z]; exact Nat.lt_irrefl _))]
    exact (f2 b hb).1
  have st3 : tn 0 s3.heap := T.keep _ _ _ st2 fun b _ o e => k3 _ _ e
  have I4 := block_start I3 ok hN fpk
  have know := hKn pins (upd H2 D (.lst [])) s3 s3.heap.objs.size (cellsFrom (s3.heap.objs.size + 1) scope.names (cloFrom X.env.cells scope.names [])) fp I3 fun b hb => (fpk b hb).1
  have pg := hg _ _ _ _ _ know
  have pt := ht _ _ _ _ _ know
  have pe := he _ _ _ _ _ know
  have nfp : ∀ b ∈ fp, (upd H2 D (.lst [])) b = none := fun b hb => (fpk b hb).1.1
  show codeAny _ _ (.compStart (.ListComp elt [⟨tg, iter, ifs, 0⟩] scope pos) 0 (.ref it) (.ref D) (compEnvC scope (cellsFrom (s3.heap.objs.size + 1) scope.names (cloFrom X.env.cells scope.names [])) s3.heap.objs.size X.env)) (compPost (model X.prog X.w) X.A X.xe none (EP X pins σ Q) (.ref D) s3.heap.objs.size) { s3 with heap := pushCells (s3.heap.push { cls := .type "dict", data := .dict #[] }) scope.names }
  generalize hce : compEnvC scope (cellsFrom (s3.heap.objs.size + 1) scope.names (cloFrom X.env.cells scope.names [])) s3.heap.objs.size X.env = ce at I4 pg pt pe know ⊢
  have cL : ce.locals = s3.heap.objs.size := by rw [← hce]; rfl
  generalize hH3 : upd H2 D (.lst []) = H3 at I3 I4 pg pt pe w0 nfp fpk know
  generalize hs4 : ({ s3 with heap := pushCells (s3.heap.push { cls := .type "dict", data := .dict #[] }) scope.names } : Shared) = s4 at I4 ⊢
  have st4 : tn 0 s4.heap := T.keep _ _ _ st3 fun b _ o e => by
    rw [← hs4]
    exact pushCells_keeps _ _ _ _ (Heap.get?_push_of_some _ e)
  have own_ok : ∀ {σ' : L2.St} {H' : Hp} {s' : Shared}, Inv (X.blk s3 H3 scope ce fp) [] σ' H' s' → (∀ b ∈ fp, H' b = none) → ∀ b ∈ fp, FpOk (X.blk s3 H3 scope ce fp) [] H' b := fun {σ' H' s'} I' hn b hb =>
    ⟨hn b hb, (I'.ok.exf b hb).1, I'.ok.exfs b hb, .inl hb, fun x c e => (I'.ok.exf b hb).2 x c e, fun p hp => absurd (show p ∈ ([] : List (Addr × Obj)) ++ [] from hp) (by simp)⟩
  have loop : codeAny (model X.prog X.w) X.A (.compLoop (.ListComp elt [⟨tg, iter, ifs, 0⟩] scope pos) 0 (.ref it) (.ref D) ce) (compPost (model X.prog X.w) X.A X.xe none (EP X pins σ Q) (.ref D) s3.heap.objs.size) s4 := by
    refine compLoop_any (fun n s' => ∃ i H', Inv (X.blk s3 H3 scope ce fp) [] (wipe σ (own.map (·.2))) H' s' ∧ tn i s'.heap ∧ (∀ b ∈ fp, H' b = none) ∧ W i n H') ?_ m0 ⟨0, H3, I4, st4, nfp, w0⟩
    rintro n s5 ⟨i, H5, I5, st5, n5, w5⟩
    rcases turn i n H5 w5 with ⟨stop, qq⟩ | ⟨go, Nx, hNx, step⟩
    · refine thnF (T.done (X.blk s3 H3 scope ce fp) rfl rfl rfl hc i [] s5 _ H5 (fun _ _ => False) I5 (own_ok I5 n5) st5 stop) fun r s6 ⟨hr, I6⟩ => ?_
      subst hr
      have I7 : Inv X pins σ H5 s6 := I3.call' (ch := fp) I6.os I6.base I6.hok I6.bare fun b hb => ⟨(fpk b hb).1.2.2.2.1, (fpk b hb).1.2.1, (fpk b hb).1.2.2.2.2.1, (fpk b hb).1.2.2.2.2.2⟩
      have nC : H5 s3.heap.objs.size = none := by
        have z : H5 ce.locals = none := I6.free
        rw [cL] at z
        exact z
      obtain ⟨m, hn, _⟩ := I6.loc
      have hn : s6.heap.Ns ce.locals m := hn
      rw [cL] at hn
      refine ⟨m, hn, fun h'' sb => ?_⟩
      obtain ⟨f0, f1, f2, f3, f4, f5⟩ := I3.fpOk (Nat.le_refl _) nC
      exact ⟨.ref D, H5, I7.turned (t' := s6.toks) (fun b o hb e => (sb.2 b hb).trans e) f0 f1 f3 f4 f5, rfl, qq⟩
    · refine thnF (T.item (X.blk s3 H3 scope ce fp) rfl rfl rfl hc i [] s5 _ H5 (fun _ _ => False) I5 (own_ok I5 n5) st5 go) fun r s6 ⟨u, hr, h6⟩ => ?_
      subst hr
      refine thnF h6 fun _ s7 ⟨x, H7, I7, r7, y7, st7, n7⟩ => ?_
      have I7' := I7.pinned (own_ok I7 n7) (T.obj _ _ st7)
      refine thnF (pg.run _ s7 _ H7 x u _ I7' r7 (step x H7 y7)) fun _ s8 ⟨σ8, H8, I8, hw8, q8⟩ => ?_
      refine thnF (pt.run _ s8 σ8 H8 _ I8 q8) fun b s9 ⟨H9, I9, q9⟩ => ?_
      have fin : ∀ {s' : Shared} {H' : Hp}, Inv (X.blk s3 H3 scope ce fp) ([] ++ pinsAt fp s7.heap) σ8 H' s' → Nx H' → ∃ m, m < n ∧ ∃ i H', Inv (X.blk s3 H3 scope ce fp) [] (wipe σ (own.map (·.2))) H' s' ∧ tn i s'.heap ∧ (∀ b ∈ fp, H' b = none) ∧ W i m H' := fun {s' H'} I' nx => by
        obtain ⟨m', hm, w'⟩ := hNx H' nx
        have pk : ∀ b ∈ fp, ∀ o, s7.heap.get? b = some o → s'.heap.get? b = some o ∧ H' b = none := fun b hb o e =>
          let z := I'.pin (b, o) (List.mem_append_right _ (List.mem_append_right _ (mem_pinsAt hb e)))
          ⟨z.1, z.2.1⟩
        refine ⟨m', hm, i + 1, H', (I'.unpinned (pins := [])).weak (by rw [← hw8, wipe_length]) (fun j v e => ?_), T.keep _ _ _ st7 fun b hb o e => (pk b hb o e).1, fun b hb => ?_, w'⟩
        · rw [← hw8] at e
          exact (wipe_some e).1
        · obtain ⟨o, e, _⟩ := T.obj _ _ st7 b hb
          exact (pk b hb o e).2
      cases b with
      | false =>
        simp only [Bool.false_eq_true, if_false] at q9 ⊢
        exact fin I9 q9
      | true =>
        simp only [if_true] at q9 ⊢
        refine thnF (pe.run _ s9 σ8 H9 _ I9 q9) fun z s10 ⟨yv, H10, I10, r10, acc, hD10, hz10, nx⟩ => ?_
        exact app_ok (X := X.blk s3 H3 scope ce fp) I10 hD10 hz10 r10 fun s11 I11 => fin I11 nx
  exact codeAny_compStart_list loop (T.self X.A 0 _ _ _ st4 loop)
end
/-- what a block knows of its maker -/
def Maker (Γ : Gam) (δ : Sd) (scope : Scope) (C : Hp) (X' : Cx) : Prop := ∃ (X : Cx) (pins : List (Addr × Obj)) (σ : L2.St) (H3 : Hp) (s3 : Shared) (env : Env) (fp : List Addr), Fits Γ X ∧ Inv X pins σ H3 s3 ∧ (σ.length = δ.length ∧ ∀ (i : Nat) d, δ[i]? = some (some d) → ∃ v, σ[i]? = some (some v) ∧ Dat Γ.K C v d) ∧ X' = X.blk s3 H3 scope env fp ∧ ∀ b ∈ fp, FpOk X pins H3 b
def Gam.blkK (Γ : Gam) (δ : Sd) (scope : Scope) (C : Hp) : Gam := { Γ.blk scope with B := C, kn := Maker Γ δ scope C }
section
variable {Γ : Gam} {δ : Sd} {μ : Mem} {elt tg iter c : Expr} {ifs : List Expr} {P : Pst} {pos : Pos} {scope : Scope} {own : List (Str × Nat)} {ixs : List Nat}
theorem Fits.blkK {X X' : Cx} {C : Hp} (f : Fits Γ X) (b : Blk X scope X') (k : Maker Γ δ scope C X') : Fits (Γ.blkK δ scope C) X' := by
  have g := f.blk b
  exact ⟨g.prog, g.w, g.K, g.mg, g.base, g.N, g.nd, g.sc, g.qual, g.code, g.calm, g.room, g.tk, g.po, g.fn, k⟩
def gBK (X : Cx) (kn : Cx → Prop) (scope : Scope) (tg : Expr) : TG := fun v σ H Q => ∀ X', Blk X scope X' → kn X' → wG X' tg v σ H Q
def ttBK (X : Cx) (kn : Cx → Prop) (scope : Scope) (ifs : List Expr) : TT := fun σ H Q => ∀ X', Blk X scope X' → kn X' → wTs X' ifs σ H Q
def teBK (X : Cx) (kn : Cx → Prop) (scope : Scope) (e : Expr) : TE := fun σ H Q => ∀ X', Blk X scope X' → kn X' → wE X' e σ H Q
theorem lcK_rd (own : List (Str × Nat)) (ixs : List Nat) (ok : BlkOk Γ.N Γ.sc scope own) (hv : ∀ j ∈ ixs, j ∈ own.map (·.2)) {C : Hp} (h : Iw Γ δ μ tg iter fun ds μ1 => ds.length ≤ 100000 ∧ ∃ I : Nat → List D → Mem → Prop, I 0 [] μ1 ∧
    (∀ i d acc μ', ds[i]? = some d → I i acc μ' → Tg (Γ.blkK δ scope C) tg ixs d (wipeD δ (own.map (·.2))) μ' fun δ2 μ2 => Cw (Γ.blkK δ scope C) δ2 μ2 ifs fun b μ3 => (b = true → Ew (Γ.blkK δ scope C) δ2 μ3 elt fun y μ4 => I (i + 1) (acc ++ [y]) μ4) ∧ (b = false → I (i + 1) acc μ3)) ∧ ∀ acc μ', I ds.length acc μ' → P (.lst acc) μ') {X : Cx} (hX : Fits Γ X) {σ : L2.St} {H : Hp} {Q : VK} (w : Wd Γ C H σ δ μ) (k : ∀ v d μ' C' H', Gr μ μ' C H C' H' → Wd Γ C' H' σ δ μ' → Dat Γ.K C' v d → P d μ' → Q v H') :
    tLc (wI X tg iter) (gBK X (Maker Γ δ scope C) scope tg) (ttBK X (Maker Γ δ scope C) scope ifs) (teBK X (Maker Γ δ scope C) scope elt) (own.map (·.2)) σ H Q := by
  refine h X hX σ C H _ w fun J ds μ1 C1 H1 g1 w1 wk ⟨hlen, I, i0, step, fin⟩ D0 hD => ?_
  have cD : C1 D0 = none := w1.sub.none hD
  -- the state of a turn
  let St' : Nat → Hp → Prop := fun i H' => ∃ C' acc vs μ', Gr ((D0, .lst []) :: μ1) ((D0, .lst acc) :: μ') C1 (upd H1 D0 (.lst [])) C' H' ∧ Le C' H' ∧ MemOk Γ.K C' H' ((D0, .lst acc) :: μ') ∧ H' D0 = some (.lst vs) ∧ DatAll Γ.K C' vs acc ∧ acc.length ≤ i ∧ I i acc μ'
  have toWd : ∀ {C' H' : Hp} {μ' : Mem}, Le C1 C' → Le C' H' → MemOk Γ.K C' H' μ' → Wd (Γ.blkK δ scope C) C' H' (wipe σ (own.map (·.2))) (wipeD δ (own.map (·.2))) μ' := fun {C' H' μ'} l1 l2 mo =>
    ⟨g1.core.trans l1, l2, (w1.blk (scope := scope)).len, fun i d e => by
      obtain ⟨v, e1, e2⟩ := (w1.blk (scope := scope) (vs := own.map (·.2))).sl i d e
      exact ⟨v, e1, Dat.mono l1 _ _ e2⟩, mo, fun _ _ _ _ _ _ _ _ x => x.elim⟩
  refine ⟨fun i m H' => m = ds.length - i ∧ i ≤ ds.length ∧ St' i H', ⟨_, rfl, Nat.zero_le _, C1, [], [], μ1, Gr.refl, w1.sub.updH cD, w1.mem.newM hD w1.sub ⟨[], rfl, .nil⟩, upd_same, .nil, Nat.le_refl _, i0⟩, ?_⟩
  rintro i m H' ⟨rfl, hi, C', acc, vs, μ', g, l, mo, hH, ha, hl, hI⟩
  obtain ⟨wgo, wst⟩ := wk i C' H' g.core l
  by_cases hlt : i < ds.length
  · refine .inr ?_
    obtain ⟨hgo, hy⟩ := wgo _ (List.getElem?_eq_getElem hlt)
    refine ⟨hgo, St' (i + 1), fun H3 h3 => ⟨ds.length - (i + 1), by omega, rfl, hlt, h3⟩, fun x H2 hx X' hb hkn => ?_⟩
    obtain ⟨C2, n2, r2⟩ := hy x H2 hx
    have mo2 := n2.mem mo
    have stay : ∀ {μa μb : Mem} {Ca Ha Cb Hb : Hp} {va : List V} {acca : List D}, MemOk Γ.K Ca Ha ((D0, .lst acca) :: μa) → Gr μa μb Ca Ha Cb Hb → Ha D0 = some (.lst va) → MemOk Γ.K Cb Hb μb → DatAll Γ.K Ca va acca → Hb D0 = some (.lst va) ∧ MemOk Γ.K Cb Hb ((D0, .lst acca) :: μb) := fun {μa μb Ca Ha Cb Hb va acca} m1 gg e m2 da => by
      have nd := m1.nd
      rw [dom_cons, List.nodup_cons] at nd
      have e2 := gg.keep _ _ nd.1 e
      refine ⟨e2, ⟨?_, fun p hp => ?_⟩⟩
      · rw [dom_cons, List.nodup_cons]
        refine ⟨fun z => ?_, m2.nd⟩
        rcases gg.dom _ z with z | z
        · exact nd.1 z
        · rw [e] at z
          cases z
      · rcases List.mem_cons.mp hp with z | z
        · subst z
          exact ⟨gg.new _ (by rw [e]; simp) nd.1 (m1.ok _ List.mem_cons_self).1, _, e2, va, rfl, DatAll.mono gg.core _ _ da⟩
        · exact m2.ok p z
    refine step i _ acc μ' (List.getElem?_eq_getElem hlt) hI X' (hX.blkK hb hkn) _ C2 H2 x _ (toWd (g.core.trans n2.core) n2.sub mo2.tail) r2 fun σ3 δ3 μ3 C3 H3 ag g3 w3 q3 => ?_
    have h2D := n2.keep _ _ hH
    obtain ⟨h3D, mo3⟩ := stay mo2 g3 h2D w3.mem (DatAll.mono n2.core _ _ ha)
    refine ⟨ag.wipe hv, fun X'' hb2 hkn2 => ?_⟩
    refine q3 X'' (hX.blkK hb2 hkn2) σ3 C3 H3 _ w3 fun b μ4 C4 H4 g4 w4 q4 => ?_
    have da3 := DatAll.mono (n2.core.trans g3.core) _ _ ha
    obtain ⟨h4D, mo4⟩ := stay mo3 g4 h3D w4.mem da3
    have da4 := DatAll.mono g4.core _ _ da3
    have gg : Gr ((D0, .lst []) :: μ1) ((D0, .lst acc) :: μ4) C1 (upd H1 D0 (.lst [])) C4 H4 := ((g.trans n2.gr).trans (g3.cons (m := .lst acc) (m' := .lst acc))).trans (g4.cons (m := .lst acc) (m' := .lst acc))
    cases b with
    | false => exact ⟨C4, acc, vs, μ4, gg, w4.sub, mo4, h4D, da4, Nat.le_succ_of_le hl, q4.2 rfl⟩
    | true =>
      show ∀ X', Blk X scope X' → Maker Γ δ scope C X' → wE X' elt σ3 H4 _
      intro X3 hb3 hkn3
      refine q4.1 rfl X3 (hX.blkK hb3 hkn3) σ3 C4 H4 _ w4 fun v y μ5 C5 H5 g5 w5 r5 q5 => ?_
      obtain ⟨h5D, mo5⟩ := stay mo4 g5 h4D w5.mem da4
      have da5 := DatAll.mono g5.core _ _ da4
      have da6 : DatAll Γ.K C5 (vs ++ [v]) (acc ++ [y]) := da5.append (.cons r5 .nil)
      have cD5 : C5 D0 = none := (mo5.ok _ List.mem_cons_self).1
      refine ⟨vs, h5D, ?_, C5, acc ++ [y], vs ++ [v], μ5, (gg.trans (g5.cons (m := .lst acc) (m' := .lst acc))).trans (Gr.upd (by rw [dom_cons]; exact List.mem_cons_self) fun b hb => hb), w5.sub.updH cD5, mo5.upd ⟨_, rfl, da6⟩, upd_same, da6, by simp; omega, q5⟩
      have e1 := da5.len
      exact Nat.lt_of_le_of_lt (by omega : vs.length ≤ 100000) (by decide)
  · have e : i = ds.length := by omega
    subst e
    refine .inl ⟨wst (Nat.le_refl _), ?_⟩
    have cD' : C' D0 = none := (mo.ok _ List.mem_cons_self).1
    have gf : Gr μ μ' C H (upd C' D0 (.lst vs)) H' := ((g1.trans (Gr.newM hD)).trans g).trans (Gr.frz cD')
    exact k _ _ μ' _ _ gf (w.gr gf (l.upd1 hH) (mo.frz hH)) (.lst upd_same (DatAll.mono (Le.new cD') _ _ ha)) (fin acc μ' hI)
theorem ew_lcK (own : List (Str × Nat)) (ixs : List Nat) (ok : BlkOk Γ.N Γ.sc scope own) (hv : ∀ j ∈ ixs, j ∈ own.map (·.2)) (h : ∀ C, Le Γ.B C → Iw Γ δ μ tg iter fun ds μ1 => ds.length ≤ 100000 ∧ ∃ I : Nat → List D → Mem → Prop, I 0 [] μ1 ∧
    (∀ i d acc μ', ds[i]? = some d → I i acc μ' → Tg (Γ.blkK δ scope C) tg ixs d (wipeD δ (own.map (·.2))) μ' fun δ2 μ2 => Cw (Γ.blkK δ scope C) δ2 μ2 ifs fun b μ3 => (b = true → Ew (Γ.blkK δ scope C) δ2 μ3 elt fun y μ4 => I (i + 1) (acc ++ [y]) μ4) ∧ (b = false → I (i + 1) acc μ3)) ∧ ∀ acc μ', I ds.length acc μ' → P (.lst acc) μ')
    (hs : ∀ env x, foldedSetIterable iter env x = pure x := by intro _ _; rfl) : Ew Γ δ μ (.ListComp elt [⟨tg, iter, ifs, 0⟩] scope pos) P := fun X hX σ C H Q w k =>
  wE_lcK (Maker Γ δ scope C) (g := gBK X (Maker Γ δ scope C) scope tg) (tt := ttBK X (Maker Γ δ scope C) scope ifs) (te := teBK X (Maker Γ δ scope C) scope elt) hX.calm (by rw [hX.N]; exact hX.nd) wI_pi (own := own) (by rw [hX.N, hX.sc]; exact ok)
    (fun pins H3 s3 CC cl fp I hf => ⟨X, pins, σ, H3, s3, _, fp, hX, I, ⟨w.len, w.sl⟩, rfl, hf⟩)
    (fun s H C cl fp kn => ⟨fun pins s' σ H v u Q I r q => q _ (blkI _ _ _ _ _) kn pins s' u I r⟩) (fun s H C cl fp kn => ⟨fun pins s' σ H Q I q => q _ (blkI _ _ _ _ _) kn pins s' I⟩) (fun s H C cl fp kn => ⟨fun pins s' σ H Q I q => q _ (blkI _ _ _ _ _) kn pins s' I⟩) (hs _) (lcK_rd own ixs ok hv (h C w.base) hX w k)
end
end Dl

set_option maxRecDepth 100000
set_option maxHeartbeats 2000000
namespace Dl
open PySem PySem.Spec PyProof.Rows L2 LamX
section
variable {X : Cx} {pins : List (Addr × Obj)} {σ : L2.St} {H HZ : Hp} {s s1 : Shared}
/-- x(), in a def that got the lambda by a name: the function object is known -/
theorem pe_actK {CXg : CXT} {Eg : XK} {Ng : List Str} {qg : Str} {sg : Scope} {g f c' : Addr} {cdg : Value} {params : Arguments} {body : Expr} {scope : Scope} {k i : Nat} {a : Str} {pn : List (Addr × Obj)} {xe : Value → Shared → Prop} {W : WX} {E : XK} {tb : TE} {p1 p2 : Pos}
    (I : Inv X pins σ H s) (L : LamS X.env.scope scope) (hbind : ∀ pm ctv, bindArgs (PySem.W.kla_fn "<lambda>" (X.env.qual ++ "<lambda>") params body scope (cloFrom X.env.cells scope.names []) pm (.ref c') ctv) ⟨[], []⟩ = pure [])
    (tk : Takes ((cxOf CXg X.prog X.w X.K X.mg X.base Ng qg sg g cdg X.A X.stack s H Eg).tr pn xe) W) (hW : ∀ cls d σ' H', E cls d H' → W cls d σ' H') (hr : Room (k + 1) (X.A.deeper (envOfC qg sg s.heap.objs.size g cdg)))
    (hbody : ∀ (A : Around) (outer : List Env) (s : Shared) (H : Hp), Room k (A.deeper (lamEnv X scope s.heap.objs.size f c')) → PE (lamCx X A outer s H E scope f c') body tb)
    (hN : Ng[i]? = some a) (hv : Vis sg a) (hd : (a == ("__debug__" : Str)) = false := by decide) (hcd : (a == ("__classdict__" : Str)) = false := by decide) :
    PE ((cxOf CXg X.prog X.w X.K X.mg X.base Ng qg sg g cdg X.A X.stack s H Eg).tr pn xe) (.Call (.Name a p1) [] [] p2)
      (fun σZ HZ Q => σZ[i]? = some (some (.ref f)) ∧ HZ f = some (FunO f (X.env.qual ++ "<lambda>") params body scope (cloFrom X.env.cells scope.names []) c') ∧ HZ c' = some (CodeO c' (X.env.qual ++ "<lambda>")) ∧ tb σ HZ Q) := by
  refine ⟨fun pinsZ sZ σZ HZ Q IZ h => ?_⟩
  obtain ⟨hs, hfo, hc, ht⟩ := h
  refine wpAny_Call_Name_kw (thn ((pe_var (pos := p1) (i := i) hN hv hd hcd).run pinsZ sZ σZ HZ (fun v H1 => v = .ref f ∧ H1 = HZ) IZ ⟨.ref f, hs, rfl, rfl⟩) fun u s1 ⟨v, H1, I1, r1, q1⟩ => ?_)
  obtain ⟨ev, eH⟩ := q1
  subst ev
  rw [eH] at I1
  obtain rfl : u = Value.ref f := r1
  obtain ⟨⟨pm, ctv, of1⟩, _, _⟩ := I1.hok f _ hfo
  refine PySem.W.callWith_F0 ⟨_, _, _, _, of1⟩ ?_
  have un : Un (frs X.stack) [] H HZ s.heap s1.heap := I1.base
  obtain ⟨⟨oc, vs, t, hoc, hdc, hvc⟩, _, _⟩ := I1.hok c' _ hc
  have rc : codeAny (model X.prog X.w) (X.A.deeper (envOfC qg sg s.heap.objs.size g cdg)) (.call (.ref f) ⟨[], []⟩) (CR (L2.CX X.prog X.w) (envOfC qg sg s.heap.objs.size g cdg :: X.stack) X.prog X.w HZ s1 Q E) s1 := by
    refine PySem.W.kla_callFunE hr.depth of1 rfl L.co L.gen rfl ⟨c', oc, vs, t, rfl, hoc, hdc, hvc⟩ ?_
    rw [hbind]
    refine wpAny_pure (wpAny_newFunctionEnv (fun y hy => (L.own y hy).2) (fun y hy => absurd hy (by simp)) (fun h₁ hns hsb => ⟨I1.nolimit.fresh _ hsb, ?_⟩) L.kind)
    show codeAny _ _ (.expr body (lamEnv X scope s1.heap.objs.size f c')) _ _
    have kp : ∀ b o, s1.heap.get? b = some o → h₁.get? b = some o := fun b o e => hsb.extBut b o (Nat.ne_of_lt (Heap.lt_size e)) (Heap.get?_push_of_some _ e)
    have J := lam_start2 (A := X.A.deeper (envOfC qg sg s.heap.objs.size g cdg)) (outer := envOfC qg sg s.heap.objs.size g cdg :: X.stack) (E := E) (f := f) (c' := c') (tk := s1.toks + ([] : List (Str × Value)).length) I L I1.env0 hr.hd un hns kp
    refine PySem.W.kla_codeExpr (wpAny_mono ((hbody _ _ s1 HZ (hr.deeper _)).run [] _ _ HZ Q J ht) (fun v s' hq => ?_) fun e s' hq => hq)
    obtain ⟨w', H', J', rv, q⟩ := hq
    exact ⟨w', H', J'.os, J'.bare, J'.base, J'.hok, rv, q⟩
  have hx := passes_call tk hW
  refine wpAny_call (codeAny_mono rc fun r s' hq => ?_)
  cases r with
  | error e => exact hx pinsZ σZ HZ s1 e s' I1 hq
  | ok fl =>
    cases fl with
    | ret u => exact I1.after hq
    | next => exact False.elim hq
    | brk => exact False.elim hq
    | cont => exact False.elim hq
end
end Dl

set_option maxRecDepth 100000
set_option maxHeartbeats 2000000
namespace Dl
open PySem PySem.Spec PyProof.Rows L2 LamX
/-- a def x: try: return a() / except e: return ret -/
structure ToldOk (K : PySem.W.Frag) (mg : Str → Option Value) (x ret : Str) (CS : Addr) : Prop where
  ex : ∃ (g : Addr) (params : Arguments) (sg : Scope) (dV kV doc pm cdv ct oc : Value) (an od : Option Addr) (osl : Array (Option Value)) (Ng : List Str) (a e : Str) (j : Nat) (p1 p2 p3 p4 p5 p6 p7 p8 : Pos) (fd : FuncData),
    fd = PySem.W.fnOf x x params [.Try [.Return (some (.Call (.Name a p1) [] [] p2)) p3] [.ExceptHandler (some (.Name e p4)) none [.Return (some (.Constant (.str ret) j p5)) p6] p7] [] [] p8] sg dV kV doc pm an cdv ct ∧
    K.lookup g = some ⟨oc, od, .func fd, osl⟩ ∧ PySem.W.codeIn K cdv x = true ∧ mg x = some (.ref g) ∧ PySem.W.keepIn K (.ref g) = true ∧ L2.Binds K fd [a] [] ∧ FnScope Ng [a] sg ∧ Ng[0]? = some a ∧ Vis sg a ∧ (a == ("__debug__" : Str)) = false ∧ (a == ("__classdict__" : Str)) = false ∧
    sg.names.lookup e = some .globalImplicit ∧ mg e = some (.ref CS) ∧ (e == ("__debug__" : Str)) = false
def Gam.lam (Γ : Gam) (ls : Scope) (C : Hp) (kk : Nat) (E : XK) (XP : Value → Mem → Prop) : Gam := { Γ with sc := ls, fn := fun _ => false, qual := (PySem.W.envX (Γ.qual ++ "<lambda>") ls 0 0 .none []).qual, code := none, k := kk, B := C, E := E, XP := XP, kn := fun _ => True }
theorem Fits.lam {Γ : Gam} {X : Cx} {ls : Scope} {C : Hp} {kk : Nat} {E : XK} {XP : Value → Mem → Prop} {A : Around} {outer : List Env} {s : Shared} {H : Hp} {f c' : Addr} (h : Fits Γ X) (hr : Room kk (A.deeper (lamEnv X ls s.heap.objs.size f c'))) : Fits (Γ.lam ls C kk E XP) (lamCx X A outer s H E ls f c') :=
  ⟨h.prog, h.w, h.K, h.mg, h.base, h.N, h.nd, rfl, by show (PySem.W.envX (X.env.qual ++ "<lambda>") ls s.heap.objs.size f (.ref c') _).qual = (PySem.W.envX (Γ.qual ++ "<lambda>") ls 0 0 .none []).qual; rw [h.qual], (fun c h => by cases h), rfl, hr, takes_of rfl rfl rfl rfl, passes_of rfl, (fun x h => by cases h), trivial⟩
section
variable {Γ : Gam} {δ δ2 : Sd} {μ : Mem} {C : Hp} {scope ls : Scope} {x y ret q : Str} {CS PP c' : Addr} {cs : List Addr} {cl : List (Str × Addr)} {params : Arguments} {body : Expr} {P : Pst} {pos p py : Pos} {kk : Nat}
/-- x(y) in a comprehension's block, y a lambda of the maker's -/
theorem ew_told (T : ToldOk Γ.K Γ.mg x ret CS) (i : Nat) (hi : δ2[i]? = some (some (.ext fun f => FunO f q params body ls (cloFrom cl ls.names []) c'))) (hN : Γ.N[i]? = some y) (hvy : Vis (relS scope Γ.sc) y) (hm : (PP, MO.tbl q cs) ∈ μ) (hc : c' ∈ cs) (hq : Γ.qual ++ "<lambda>" = q) (hcl : ∀ X, Γ.kn X → X.env.cells = cl) (L : LamS Γ.sc ls)
    (hg : (relS scope Γ.sc).names.lookup x = some .globalImplicit) (hk : kk + 2 ≤ Γ.k)
    (hbind : ∀ (q : Str) (cl : List (Str × Addr)) (pm cv ctv : Value), bindArgs (PySem.W.kla_fn "<lambda>" q params body ls cl pm cv ctv) ⟨[], []⟩ = pure [])
    (hbody : ∀ E, Ew (Γ.lam ls C kk E fun cls μ' => PySem.W.exmOne Γ.K cls (.ref CS) = some true ∧ P (.str ret) μ') δ μ body P)
    (hdb : (x == ("__debug__" : Str)) = false := by decide) (hd : (y == ("__debug__" : Str)) = false := by decide) (hcd : (y == ("__classdict__" : Str)) = false := by decide)
    (hs : ∀ env, starEach [.Name y py] env = (false, eval (.Name y py) env) :: starEach [] env := by intro _; rfl) : Ew (Γ.blkK δ scope C) δ2 μ (.Call (.Name x p) [.Name y py] [] pos) P := fun X' hX' σ C1 H Q w k pins s I => by
  obtain ⟨X, pins0, σ0, H3, s3, env, fp, fX, I3, ⟨hl0, hs0⟩, rfl, hfp⟩ := hX'.kn
  obtain ⟨g, params', sg, dV, kV, doc, pm, cdv, ct, oc, an, od, osl, Ng, a, e, j, p1, p2, p3, p4, p5, p6, p7, p8, fd, rfl, lk, hcdv, hmg, hkp, hbi, Sg, hN0, hva, ha1, ha2, hge, hme, hde⟩ := T.ex
  obtain ⟨v, hv1, dv⟩ := w.sl i _ hi
  cases dv with | ext hfC =>
  rename_i f
  have hfH := w.sub _ _ hfC
  have hco : H c' = some (CodeO c' q) := by
    obtain ⟨_, o, ho, ps, e1, _, _, hb⟩ := w.mem.ok _ hm
    exact w.sub _ _ (hb c' hc)
  have eq : X.env.qual ++ "<lambda>" = q := by rw [fX.qual]; exact hq
  have ecl := hcl X fX.kn
  have LX : LamS X.env.scope ls := by rw [fX.sc]; exact L
  have eK : X.K = Γ.K := fX.K
  refine wpAny_Call_Name_kw (ld_glob I (hX'.gl hg) (by rw [hX'.mg]; exact hmg) ?_ hdb)
  refine PySem.W.callWith_K (h₀ := X.base) I.ok.mod.kin (by show PySem.W.keepIn X.K (.ref g) = true; rw [eK]; exact hkp) ?_ (by rfl) (by rfl)
  refine thn ((pa_cons (pe_var (i := i) (by rw [hX'.N]; exact hN) (hX'.vis hvy) hd hcd) pa_nil (hs _)).run pos pins s σ H (fun vs H1 => vs = [.ref f] ∧ H1 = H) I ⟨.ref f, hv1, rfl, rfl⟩) fun us s1 ⟨vs, H1, I1, rv, e1, e2⟩ => ?_
  subst e1; subst e2
  obtain ⟨u, rfl, ru⟩ : ∃ u, us = [u] ∧ RelV (.ref f) u := by
    cases rv with
    | cons r t => cases t; exact ⟨_, rfl, r⟩
  obtain rfl : u = Value.ref f := ru
  refine ⟨I1.kIn, ?_⟩
  have IX : Inv X pins0 σ0 H1 s1 := I3.call' (ch := fp) I1.os I1.base I1.hok I1.bare fun b hb => ⟨(hfp b hb).2.2.2.1, (hfp b hb).2.1, (hfp b hb).2.2.2.2.1, (hfp b hb).2.2.2.2.2⟩
  have hr : Room (kk + 2) X.A := fX.room.mono hk
  have rc : codeAny (model X.prog X.w) X.A (.call (.ref g) ⟨[.ref f], []⟩) (CR C8.CX0 X.stack X.prog X.w H1 s1 Q C8.E0) s1 := by
    refine run_ofS (K := X.K) (N := Ng) (ps := [a]) (us := [.ref f]) (vs := [.ref f]) (by rw [eK]; exact lk) (by rw [eK]; exact hcdv) Sg hr I1.env0 ((by rw [eK]; exact hbi : L2.Binds X.K _ [a] []) s1 [.ref f] I1.kIn rfl) (.cons rfl .nil) rfl fun hr' => ?_
    let tb : XK → TE := fun E σ HZ Q => ∀ (A : Around) (outer : List Env) (s2 : Shared) (H0 : Hp), Room kk (A.deeper (lamEnv X ls s2.heap.objs.size f c')) → wE (lamCx X A outer s2 H0 E ls f c') body σ HZ Q
    have hG := told_gives (X := X) (Ng := Ng) (x := x) (a := a) (e := e) (q := q) (ret := ret) (sg := sg) (g := g) (CS := CS) (cdg := cdv) (j := j) (p1 := p1) (p2 := p2) (p3 := p3) (p4 := p4) (p5 := p5) (p6 := p6) (p7 := p7) (p8 := p8) hge (by rw [fX.mg]; exact hme) hde (fun _ => rfl)
    refine Exists.elim (hG f c' s1 H1 Q (fun E HZ Q => HZ f = some (FunO f q params body ls (cloFrom cl ls.names []) c') ∧ tb E σ0 HZ Q) (fun W pn xe E p1 p2 tk hW => by
      have hp := pe_actK (CXg := C8.CX0) (Eg := C8.E0) (qg := x) (sg := sg) (Ng := Ng) (g := g) (cdg := cdv) (p1 := p1) (p2 := p2) (f := f) (c' := c') (params := params) (body := body) (scope := ls) (k := kk) (i := 0) (a := a) (pn := pn) (xe := xe) (W := W) (E := E) (tb := tb E) IX LX (fun pm ctv => hbind _ _ _ _ _) tk hW hr' (fun A outer s2 H0 hr2 => ⟨fun pins s σ H Q I h => h A outer s2 H0 hr2 pins s I⟩) hN0 hva ha1 ha2
      rw [eq, ecl] at hp
      exact ⟨fun pinsZ sZ σZ HZ QZ IZ h => hp.run pinsZ sZ σZ HZ QZ IZ ⟨h.1, h.2.2.1, h.2.1, h.2.2.2⟩⟩) hco ?_) fun t' ⟨ht', hq'⟩ => ⟨t', ht'.nox, hq'⟩
    · show _ ∧ _
      refine ⟨hfH, fun A outer s2 H0 hr2 => ?_⟩
      refine hbody _ _ (fX.lam hr2) σ0 C1 H1 _ ⟨w.base, w.sub, hl0, fun i d e => ?_, w.mem, fun cls d μ' C2 H2 g2 l2 m2 x => ?_⟩ fun v d μ' C2 H2 g2 w2 r2 p2 => ?_
      · obtain ⟨v, a1, a2⟩ := hs0 i d e
        exact ⟨v, a1, Dat.mono w.base _ _ a2⟩
      · exact ⟨true, by rw [eK]; exact x.1, fun _ => k (.str ret) (.str ret) μ' C2 H2 g2 (w.gr g2 l2 m2) (.str _) x.2, fun z => by cases z⟩
      · exact k v d μ' C2 H2 g2 (w.gr g2 w2.sub w2.mem) r2 p2
  refine wpAny_call (codeAny_mono rc fun r s2 hq => ?_)
  cases r with
  | error e => exact (show False from hq).elim
  | ok fl =>
    cases fl with
    | ret u => exact I1.after hq
    | next => exact False.elim hq
    | brk => exact False.elim hq
    | cont => exact False.elim hq
end
theorem spD_up {K : PySem.W.Frag} {B B' : Hp} {S : Spec} {n : Nat} (h : Le B B') : ∀ vs H Q E, spD K B' S n vs H Q E → spD K B S n vs H Q E := fun _ _ _ _ ⟨hl, C, ds, μ, P, XP, h1, r⟩ => ⟨hl, C, ds, μ, P, XP, h.trans h1, r⟩
section
variable {P : Program} {w : World} {K : PySem.W.Frag} {mg : Str → Option Value} {base : Heap} {B B' : Hp} {x m : Str} {Cl : Addr} {k n : Nat} {S : Spec}
theorem Gn.up (G : Gn P w K mg base B x k n S) (h : Le B B') : Gn P w K mg base B' x k n S := ⟨by
  obtain ⟨f, fd, ps, h1, h2, h3⟩ := G.ex
  exact ⟨f, fd, ps, h1, h2.imp (spD_up h), h3⟩⟩
theorem Mn.up (G : Mn P w K mg base B Cl m k n S) (h : Le B B') : Mn P w K mg base B' Cl m k n S := ⟨G.cls, by
  obtain ⟨f, fd, ps, h1, h2, h3⟩ := G.ex
  exact ⟨f, fd, ps, h1, h2.imp (spD_up h), h3⟩⟩
theorem Cn.up (G : Cn P w K mg base B x Cl k n S) (h : Le B B') : Cn P w K mg base B' x Cl k n S := ⟨by
  obtain ⟨f, fd, ps, h1, h2, h3⟩ := G.ex
  exact ⟨f, fd, ps, h1, h2.imp (spD_up h), h3⟩⟩
end
end Dl

set_option maxRecDepth 100000
set_option maxHeartbeats 2000000
namespace Dl
open PySem PySem.Spec PyProof.Rows L2
/-! ### code tables known as tables, from the head's empty ones -/
open Classical in
noncomputable def cvT (T : List Addr) (H : Hp) : Hp := fun b => if b ∈ T then some (Gx.TbO b) else H b
def fieldsAt (h : Heap) (b : Addr) : Array Value := match h.get? b with
  | some o => (match o.data with
    | .fields ps => ps
    | _ => #[])
  | none => #[]
open Classical in
noncomputable def bkT (T : List Addr) (h : Heap) (H : Hp) : Hp := fun b => if b ∈ T then some (.tbl (fieldsAt h b)) else H b
section
variable {P : Program} {w : World} {K : PySem.W.Frag} {mg : Str → Option Value} {base : Heap} {H H' : Hp} {h h' : Heap} {T : List Addr}
theorem cvT_in {b : Addr} (hb : b ∈ T) : cvT T H b = some (Gx.TbO b) := if_pos hb
theorem cvT_out {b : Addr} (hb : b ∉ T) : cvT T H b = H b := if_neg hb
theorem bkT_in {b : Addr} (hb : b ∈ T) : bkT T h H b = some (.tbl (fieldsAt h b)) := if_pos hb
theorem bkT_out {b : Addr} (hb : b ∉ T) : bkT T h H b = H b := if_neg hb
theorem tbO_ok {H : Hp} {b : Addr} {ps : Array Value} (e : h.get? b = some (PySem.W.tabObj ps)) (t : TriplesOk ps.toList) : ObjOk P w H h b (Gx.TbO b) := ⟨⟨ps, e, t⟩, ⟨_, e⟩, fun h1 h2 ⟨ps, a, t⟩ st => ⟨ps, st _ a, t⟩⟩
theorem cvT_hok (ok : HOk P w H h) (hT : ∀ b ∈ T, H b = some (.tbl #[])) : HOk P w (cvT T H) h := fun a o e => by
  by_cases ha : a ∈ T
  · rw [cvT_in ha] at e
    cases e
    exact tbO_ok (ps := #[]) (ok a _ (hT a ha)) True.intro
  · rw [cvT_out ha] at e
    refine (ok a o e).stay (fun b u _ q => q) (fun b q => ?_) fun b xs q => ?_
    · rw [cvT_out fun z => by rw [hT b z] at q; cases q]
      exact q
    · rw [cvT_out fun z => by rw [hT b z] at q; cases q]
      exact q
theorem bk_fields (ok : HOk P w H' h') (hT : ∀ b ∈ T, H' b = some (Gx.TbO b)) {b : Addr} (hb : b ∈ T) : h'.get? b = some { cls := .none, data := .fields (fieldsAt h' b) } := by
  obtain ⟨⟨ps, e, _⟩, _, _⟩ := ok b _ (hT b hb)
  have e : h'.get? b = some { cls := .none, data := .fields ps } := e
  have e2 : fieldsAt h' b = ps := by
    unfold fieldsAt
    rw [e]
  rw [e2]
  exact e
theorem bkT_hok (ok : HOk P w H' h') (hT : ∀ b ∈ T, H' b = some (Gx.TbO b)) : HOk P w (bkT T h' H') h' := fun a o e => by
  by_cases ha : a ∈ T
  · rw [bkT_in ha] at e
    cases e
    exact bk_fields ok hT ha
  · rw [bkT_out ha] at e
    have ne : ∀ b o, H' b = some o → (∀ φ, o ≠ .ext φ) → b ∉ T := fun b o q n z => by
      rw [hT b z] at q
      exact n _ (Option.some.inj q).symm
    refine (ok a o e).stay (fun b u _ q => q) (fun b q => ?_) fun b xs q => ?_
    · rw [bkT_out (ne b _ q fun φ z => by cases z)]
      exact q
    · rw [bkT_out (ne b _ q fun φ z => by cases z)]
      exact q
theorem un_conv {fs : List Addr} (u : Un fs [] (cvT T H) H' h h') (hT : ∀ b ∈ T, H b = some (.tbl #[])) (hT' : ∀ b ∈ T, H' b = some (Gx.TbO b)) : Un fs [] H (bkT T h' H') h h' := by
  have no : ∀ b, H b = none → b ∉ T := fun b e z => by rw [hT b z] at e; cases e
  have cv : ∀ b, b ∉ T → cvT T H b = H b := fun b hb => cvT_out hb
  refine ⟨fun b o e n h1 h2 => u.keep b o e (by rw [cv b (no b n)]; exact n) h1 h2, fun b o e n h1 h2 => u.slot b o e (by rw [cv b (no b n)]; exact n) h1 h2, fun b o e n h1 => ?_, u.there, fun b xs e => ?_, fun b o x e => ?_, fun b ps e => ?_⟩
  · rw [bkT_out (no b n)]
    exact u.free b o e (by rw [cv b (no b n)]; exact n) h1
  · have hb : b ∉ T := fun z => by rw [hT b z] at e; cases e
    rw [bkT_out hb]
    exact u.tups b xs (by rw [cv b hb]; exact e)
  · have hb : b ∉ T := fun z => by rw [hT b z] at e; cases e
    rw [bkT_out hb]
    exact u.frzs b o x (by rw [cv b hb]; exact e)
  · by_cases hb : b ∈ T
    · rw [hT b hb] at e
      cases e
      rw [bkT_in hb]
      exact ⟨fieldsAt h' b, by simp⟩
    · rw [bkT_out hb]
      exact u.tbls b ps (by rw [cv b hb]; exact e)
/-- a def that does not let out, from the empty tables at T -/
theorem fn_conv {k : Nat} {f : Addr} {fd : FuncData} {ps : List Str} {sp : Sp} (F : FnOk P w K mg base (L2.CX P w) k f fd ps sp) (T : List Addr) :
    FnOk P w K mg base (L2.CX P w) k f fd ps fun vs H Q E => (∀ b ∈ T, H b = some (.tbl #[])) ∧ sp vs (cvT T H) (fun v H' => (∀ b ∈ T, H' b = some (Gx.TbO b)) ∧ ∀ H'', Q v H'') fun _ _ _ => False := by
  refine ⟨fun vs H Q E h => F.len _ _ _ _ h.2, fun A outer s H args us vs Q E hr e0 hb r h => ?_⟩
  obtain ⟨hT, h⟩ := h
  have no : ∀ b, H b = none → b ∉ T := fun b e z => by rw [hT b z] at e; cases e
  have e1 : Env0 P w K mg base A outer s (cvT T H) := ⟨e0.frames, e0.mod, fun b o e => ⟨(e0.bs b o e).1, by rw [cvT_out (no b (e0.bs b o e).2)]; exact (e0.bs b o e).2⟩, e0.bsz, e0.funs, fun b hb => by rw [cvT_out (no b (e0.frf b hb))]; exact e0.frf b hb, cvT_hok e0.hok hT, e0.bare⟩
  refine codeAny_mono (F.run A outer s (cvT T H) args us vs _ _ hr e1 hb r h) fun x s' hq => ?_
  cases x with
  | error e =>
    obtain ⟨a, BB, H', cls, d, _, _, _, _, _, _, _, z⟩ := hq
    exact z.elim
  | ok fl =>
    cases fl with
    | ret u =>
      obtain ⟨v, H', h1, h2, h3, h4, h5, h6, h7⟩ := hq
      exact ⟨v, bkT T s'.heap H', h1, h2, un_conv h3 hT h6, bkT_hok h4 h6, h5, h7 _⟩
    | next => exact False.elim hq
    | brk => exact False.elim hq
    | cont => exact False.elim hq
end
end Dl

set_option maxRecDepth 100000
set_option maxHeartbeats 4000000
namespace Dl
open PySem L2 LamX
section
variable {W : Addr} {μ : Mem}
/-- what a law's tail needs: the code table, the def that tells -/
structure Tl (K : PySem.W.Frag) (mg : Str → Option Value) (base : Heap) (c PP : Addr) (en : Str) (W : Addr) : Prop where
  tb : TabB base mg c PP
  told : ToldOk K mg "_law_told" en W
  exm : PySem.W.exmOne K (.ref W) (.ref W) = some true
/-- a lambda whose body raises the law's error -/
def Bad (Γ : Gam) (δ : Sd) (μ : Mem) (W : Addr) (kk : Nat) (cl : List (Str × Addr)) (cs : List Addr) (q : Str) (d : D) : Prop := ∃ (params : Arguments) (body : Expr) (ls : Scope) (c' : Addr), d = (.ext fun f => FunO f q params body ls (cloFrom cl ls.names []) c') ∧ c' ∈ cs ∧ LamS Γ.sc ls ∧
  (∀ (q : Str) (cl : List (Str × Addr)) (pm cv ctv : Value), bindArgs (PySem.W.kla_fn "<lambda>" q params body ls cl pm cv ctv) ⟨[], []⟩ = pure []) ∧
  ∀ (C : Hp) (E : XK) (XP : Value → Mem → Prop), Le Γ.B C → XP (.ref W) μ → Ew (Γ.lam ls C kk E XP) δ μ body fun _ _ => False
/-- [1 for f in bad if told(f) != en] -/
theorem ev_bad {Γ : Gam} {δ : Sd} {PP : Addr} {kk : Nat} {cl : List (Str × Addr)} {cs : List Addr} {ds : List D} {elt iter : Expr} {scope : Scope} {y x : Str} {i : Nat} {pos p1 p2 p3 p4 p5 p6 : Pos} {j : Nat} {en : Str} (Tk : ToldOk Γ.K Γ.mg x en W) (hso : PyData.strOk en = true) (hex : PySem.W.exmOne Γ.K (.ref W) (.ref W) = some true) (hm : (PP, MO.tbl q cs) ∈ μ) (hq : Γ.qual ++ "<lambda>" = q) (hcl : ∀ X, Γ.kn X → X.env.cells = cl)
    (hiter : Ev Γ δ μ iter (.lst ds)) (hlen : ds.length ≤ 100000) (hbad : ∀ d ∈ ds, Bad Γ δ μ W kk cl cs q d) (hk : kk + 2 ≤ Γ.k)
    (hN : Γ.N[i]? = some y) (hw : ∀ d : D, ((wipeD δ [i]).set i (some d))[i]? = some (some d)) (hvy : (relS scope Γ.sc).names.lookup y = some .local) (hg : (relS scope Γ.sc).names.lookup x = some .globalImplicit) (ok : BlkOk Γ.N Γ.sc scope [(y, i)])
    (hdb : (x == ("__debug__" : Str)) = false := by decide) (hd : (y == ("__debug__" : Str)) = false := by decide) (hcd : (y == ("__classdict__" : Str)) = false := by decide)
    (hs : ∀ env x, foldedSetIterable iter env x = pure x := by intro _ _; rfl) : Ev Γ δ μ (.ListComp elt [⟨.Name y p1, iter, [.Compare (.Call (.Name x p2) [.Name y p3] [] p4) [.NotEq] [.Constant (.str en) j p5] p6], 0⟩] scope pos) (.lst []) := by
  refine ew_lcK [(y, i)] [i] ok (by intro z hz; exact hz) (fun C hC => Iv.w (iv_list hiter) ⟨hlen, fun _ acc μ' => acc = [] ∧ μ = μ', ⟨rfl, rfl⟩, ?_, ?_⟩) hs
  · rintro n d acc μ' hd2 ⟨rfl, rfl⟩
    obtain ⟨params, body, ls, c', rfl, hc', L, hbind, hb⟩ := hbad d (List.mem_of_getElem? hd2)
    refine tg_n (Γ := Γ.blkK δ scope C) i ?_ hN (.inl hvy) (.inl hvy)
    have told : Ev (Γ.blkK δ scope C) ((wipeD δ [i]).set i (some (.ext fun f => FunO f q params body ls (cloFrom cl ls.names []) c'))) μ (.Call (.Name x p2) [.Name y p3] [] p4) (.str en) :=
      ew_told Tk i (hw _) hN (.inl hvy) hm hc' hq hcl L hg hk hbind (fun E => (hb C E _ hC ⟨hex, rfl, rfl⟩).imp fun _ _ z => z.elim) hdb hd hcd
    exact cw_one (Tv.w (tv_cmp told ev_str (b_neSame (n := 0) hso rfl)) ⟨fun z => (by cases z), fun _ => ⟨rfl, rfl⟩⟩)
  · rintro acc μ' ⟨rfl, rfl⟩
    exact ⟨rfl, rfl⟩

end
end Dl

set_option maxRecDepth 100000
set_option maxHeartbeats 2000000
/-! A generator expression whose element makes others. -/
namespace Dl
open PySem PySem.Spec PyProof.Rows L2 Gx
def Gam.gxN (Γ : Gam) (scope : Scope) (c2 P2 : Addr) : Gam := { Γ.gx scope with code := some c2, B := L2.upd (L2.upd Γ.B c2 (CdO c2 P2)) P2 (TbO P2) }
section
variable {Γ : Gam} {δ : Sd} {μ : Mem} {elt tg iter c : Expr} {P : Pst} {pos p gpos : Pos} {scope : Scope} {own : List (Str × Nat)} {ixs : List Nat} {ds : List D} {c2 P2 : Addr}
theorem Fits.gxN {X : Cx} {A : Around} {s : Shared} {H : Hp} {fp : List Addr} {pn : List (Addr × Obj)} (f : Fits Γ X) (hr : Room (Γ.k - 1) (A.deeper (gEnv X scope s (.ref c2)))) : Fits (Γ.gxN scope c2 P2) (gcx X A s H (gEnv X scope s (.ref c2)) fp pn) :=
  ⟨f.prog, f.w, f.K, f.mg, f.base, f.N, f.nd, rfl, by show X.env.qual ++ _ = _; rw [f.qual]; rfl, (fun c h => by cases h; rfl), rfl, hr, takes0, PassesOwn.never, (fun x h => by cases h), trivial⟩
theorem Gam.gxN_site (hne : c2 ≠ P2) (bm : Bm Γ.base Γ.mg) : (Γ.gxN scope c2 P2).Site := ⟨⟨c2, P2, rfl, .inr (by show (L2.upd (L2.upd Γ.B c2 (CdO c2 P2)) P2 (TbO P2)) c2 = _; rw [upd_ne hne, upd_same]), upd_same⟩, bm⟩
def teGN (X : Cx) (k : Nat) (scope : Scope) (e : Expr) (c2 : Addr) : TE := fun σ H Q => ∀ A s H' fp pn, Room k (A.deeper (gEnv X scope s (.ref c2))) → wE (gcx X A s H' (gEnv X scope s (.ref c2)) fp pn) e σ H Q
/-- what one item does: the element's own code lies at c2, its table at P2 -/
def ElN (Γ : Gam) (δ : Sd) (μ : Mem) (scope : Scope) (tg elt : Expr) (vs ixs : List Nat) (d : D) (J : D → Prop) : Prop := ∀ c2 P2, c2 ≠ P2 → Le Γ.B (Γ.gxN scope c2 P2).B → Tg (Γ.gx scope) tg ixs d (wipeD δ vs) μ fun δ2 μ2 => μ2 = μ ∧ Ew (Γ.gxN scope c2 P2) δ2 μ elt fun y μ3 => μ3 = μ ∧ J y
/-- the table, once the code is there -/
theorem made_mem {σ : L2.St} {PP : Addr} {C H H2 : Hp} {ps : Array Value} (w : Wd Γ C H σ δ μ) (hm : (PP, MO.gt gpos) ∈ μ) (ho : H PP = some (.tbl ps)) (htr : TriplesOk ps.toList)
    (hall : ∀ cv : Value, codeAmong gpos ps.toList = some cv → ∃ c2 P2 : Addr, cv = .ref c2 ∧ C c2 = some (CdO c2 P2) ∧ C P2 = some (TbO P2)) (md : Made (fun c2 P2 => C c2 = some (CdO c2 P2) ∧ C P2 = some (TbO P2)) PP gpos ps H c2 P2 H2) :
    ∃ C2, Gr μ μ C H C2 H2 ∧ Le C2 H2 ∧ MemOk Γ.K C2 H2 μ ∧ C2 c2 = some (CdO c2 P2) ∧ C2 P2 = some (TbO P2) ∧ c2 ≠ P2 := by
  obtain ⟨hne, ⟨rfl, _, h1, h2⟩ | ⟨nC, nP, n1, n2, rfl⟩⟩ := md
  · exact ⟨C, Gr.refl, w.sub, w.mem, h1, h2, hne⟩
  · generalize hps : (ps ++ #[rawInt gpos.line, rawInt gpos.col, .ref c2] : Array Value) = ps2
    have eL : ps2.toList = ps.toList ++ [rawInt gpos.line, rawInt gpos.col, .ref c2] := by rw [← hps]; simp
    have cC : C c2 = none := w.sub.none nC
    have cP : C P2 = none := w.sub.none nP
    have cP' : (L2.upd C c2 (CdO c2 P2)) P2 = none := by rw [upd_ne hne.symm]; exact cP
    have lC : Le C (L2.upd (L2.upd C c2 (CdO c2 P2)) P2 (TbO P2)) := (Le.new cC).trans (Le.new cP')
    obtain ⟨eC, _⟩ := w.mem.ok _ hm
    have l2 : Le (L2.upd (L2.upd C c2 (CdO c2 P2)) P2 (TbO P2)) (L2.upd (L2.upd (L2.upd H PP (.tbl ps2)) c2 (CdO c2 P2)) P2 (TbO P2)) := by
      refine Le.upd2 (Le.upd2 fun b o e => ?_)
      rw [upd_ne (fun z => by rw [z] at e; rw [show C PP = none from eC] at e; cases e)]
      exact w.sub _ _ e
    have at1 : (L2.upd (L2.upd C c2 (CdO c2 P2)) P2 (TbO P2)) c2 = some (CdO c2 P2) := by rw [upd_ne hne, upd_same]
    obtain ⟨ν1, ν2, em⟩ := List.append_of_mem hm
    have mo := w.mem
    rw [em] at mo
    obtain ⟨g, m⟩ := mem_entry (C2 := L2.upd (L2.upd C c2 (CdO c2 P2)) P2 (TbO P2)) (H2 := L2.upd (L2.upd (L2.upd H PP (.tbl ps2)) c2 (CdO c2 P2)) P2 (TbO P2)) (m' := .gt gpos) (o' := .tbl ps2) mo lC
      (fun b h1 h2 => by rw [upd_ne (fun z => h1 (by rw [z]; exact nP)), upd_ne (fun z => h1 (by rw [z]; exact nC))]; exact h2)
      (fun b o hb e => by rw [upd_ne (ne_of_none e nP), upd_ne (ne_of_none e nC), upd_ne hb]; exact e) (by rw [upd_ne n2.symm, upd_ne n1.symm, upd_same])
      ⟨ps2, rfl, by rw [eL]; exact PySem.TriplesOk_snoc _ _ _ _ htr, fun cv hh => by
        rw [eL] at hh
        rcases LamX.among_app _ htr hh with z | z
        · obtain ⟨d, e, x, y, t⟩ := hall cv z
          exact ⟨d, e, x, lC _ _ y, lC _ _ t⟩
        · exact ⟨c2, P2, z, at1, upd_same⟩⟩
    rw [← em] at g m
    exact ⟨_, g, l2, m, at1, upd_same, hne⟩
theorem gx_rdN (own : List (Str × Nat)) (ixs : List Nat) (hv : ∀ j ∈ ixs, j ∈ own.map (·.2)) {X : Cx} (hX : Fits Γ X) {PP : Addr} {σ : L2.St} {C H : Hp} (w : Wd Γ C H σ δ μ) (Jy : Prop → List D → D → Mem → Prop) (Fd : List D → Mem → Prop) {fin : List V → Hp → Prop} {yk : List V → V → Hp → Prop → Prop}
    (h : Iw Γ δ μ tg iter fun ds μ1 => ds.length ≤ 100000 ∧ (PP, MO.gt gpos) ∈ μ1 ∧ ∃ I : Nat → List D → Prop, I 0 [] ∧ (∀ i d dys, ds[i]? = some d → I i dys → ElN Γ δ μ1 scope tg elt (own.map (·.2)) ixs d fun y => Jy (I (i + 1) (dys ++ [y])) dys y μ1) ∧ ∀ dys, I ds.length dys → Fd dys μ1)
    (hfin : ∀ μ1 C' H' ys dys, Gr μ μ1 C H C' H' → Wd Γ C' H' σ δ μ1 → DatAll Γ.K C' ys dys → dys.length ≤ 100000 → Fd dys μ1 → fin ys H')
    (hyk : ∀ μ1 C' H' ys dys vy y (Wd' Wn : Prop), Gr μ μ1 C H C' H' → Wd Γ C' H' σ δ μ1 → DatAll Γ.K C' ys dys → dys.length < 100000 → Dat Γ.K C' vy y → Jy Wd' dys y μ1 → (Wd' → Wn) → yk ys vy H' Wn) :
    tGxN (wI X tg iter) (gG X (Γ.k - 1) scope tg) (teGN X (Γ.k - 1) scope elt) (own.map (·.2)) PP gpos fin yk σ H := by
  refine h X hX σ C H _ w fun J ds μ1 C1 H1 g1 w1 wk ⟨hlen, hm, I, i0, step, fd⟩ => ?_
  obtain ⟨eC, o, ho, ps, rfl, htr, hall⟩ := w1.mem.ok _ hm
  refine ⟨ps, fun c2 P2 => C1 c2 = some (CdO c2 P2) ∧ C1 P2 = some (TbO P2), ho, htr, fun cv hcv => ?_, fun c2 P2 H2 md => ?_⟩
  · obtain ⟨c2, P2, x, y, z⟩ := hall cv hcv
    exact ⟨c2, P2, x, ⟨y, z⟩, w1.sub _ _ y⟩
  obtain ⟨C2, g2, l2, m2, e1, e2, hne⟩ := made_mem w1 hm ho htr hall md
  have w2 : Wd Γ C2 H2 σ δ μ1 := w1.gr g2 l2 m2
  have lB : ∀ {C3 : Hp}, Le C2 C3 → Le (Γ.gxN scope c2 P2).B C3 := fun {C3} l3 b o e => by
    have e : (L2.upd (L2.upd Γ.B c2 (CdO c2 P2)) P2 (TbO P2)) b = some o := e
    by_cases hb : b = P2
    · rw [hb, upd_same] at e
      cases e
      rw [hb]
      exact l3 _ _ e2
    · rw [upd_ne hb] at e
      by_cases hb2 : b = c2
      · rw [hb2, upd_same] at e
        cases e
        rw [hb2]
        exact l3 _ _ e1
      · rw [upd_ne hb2] at e
        exact l3 _ _ (w2.base _ _ e)
  have lBB : Le Γ.B (Γ.gxN scope c2 P2).B := fun b o e => by
    show (L2.upd (L2.upd Γ.B c2 (CdO c2 P2)) P2 (TbO P2)) b = some o
    have q := w2.base _ _ e
    by_cases hb : b = P2
    · rw [hb, e2] at q
      rw [hb, upd_same]
      exact q
    · rw [upd_ne hb]
      by_cases hb2 : b = c2
      · rw [hb2, e1] at q
        rw [hb2, upd_same]
        exact q
      · rw [upd_ne hb2]
        exact e
  refine ⟨fun i m ys H' => m = ds.length - i ∧ i ≤ ds.length ∧ ∃ C' dys, Gr μ1 μ1 C2 H2 C' H' ∧ Le C' H' ∧ MemOk Γ.K C' H' μ1 ∧ DatAll Γ.K C' ys dys ∧ dys.length = i ∧ I i dys, ⟨_, rfl, Nat.zero_le _, C2, [], Gr.refl, l2, m2, .nil, rfl, i0⟩, ?_⟩
  rintro i m ys H' ⟨rfl, hi, C', dys, g, l, mo, ha, hl, hI⟩
  obtain ⟨wgo, wst⟩ := wk i C' H' (g2.core.trans g.core) l
  have toWd : ∀ {C3 H3 : Hp}, Gr μ1 μ1 C2 H2 C3 H3 → Le C3 H3 → MemOk Γ.K C3 H3 μ1 → Wd Γ C3 H3 σ δ μ1 := fun {C3 H3} g3 l3 m3 => w2.gr g3 l3 m3
  by_cases hlt : i < ds.length
  · refine .inr ?_
    obtain ⟨hgo, hy⟩ := wgo _ (List.getElem?_eq_getElem hlt)
    refine ⟨hgo, fun x H3 hx => ?_⟩
    obtain ⟨C3, n3, r3⟩ := hy x H3 hx
    have mo3 := n3.mem mo
    intro A s Hs code fp pn hroom
    refine step i _ dys (List.getElem?_eq_getElem hlt) hI c2 P2 hne lBB _ (hX.gx hroom) _ C3 H3 x _ ((toWd (g.trans n3.gr) n3.sub mo3).gx) r3 fun σ4 δ4 μ4 C4 H4 ag g4 w4 ⟨e4, q4⟩ => ?_
    subst e4
    refine ⟨ag.wipe hv, fun A s Hs fp pn hroom => ?_⟩
    have w4N : Wd (Γ.gxN scope c2 P2) C4 H4 σ4 δ4 μ4 := ⟨lB ((g.trans n3.gr).trans g4).core, w4.sub, w4.len, w4.sl, w4.mem, fun _ _ _ _ _ _ _ _ x => x.elim⟩
    refine q4 _ (hX.gxN hroom) σ4 C4 H4 _ w4N fun vy y μ5 C5 H5 g5 w5 r5 ⟨e5, q5⟩ => ?_
    subst e5
    have gg := ((g.trans n3.gr).trans g4).trans g5
    have da := DatAll.mono ((n3.core.trans g4.core).trans g5.core) _ _ ha
    exact hyk _ C5 H5 ys dys vy y _ _ (g1.trans (g2.trans gg)) (toWd gg w5.sub w5.mem) da (by omega) r5 q5 fun hI' => ⟨ds.length - (i + 1), by omega, rfl, hlt, C5, dys ++ [y], gg, w5.sub, w5.mem, da.append (.cons r5 .nil), by simp [hl], hI'⟩
  · have e : i = ds.length := by omega
    subst e
    exact .inl ⟨wst (Nat.le_refl _), hfin μ1 C' H' ys dys (g1.trans (g2.trans g)) (toWd g l mo) ha (by omega) (fd dys hI)⟩
/-- where the code of a def lies whose expression makes others -/
structure Gam.SiteN (Γ : Gam) (PP : Addr) : Prop where
  ex : ∃ c, Γ.code = some c ∧ PySem.W.CodeHd Γ.base c PP
  bm : Bm Γ.base Γ.mg
theorem ew_sumGN {PP : Addr} (hf : Free Γ.mg) (S : Γ.SiteN PP) (hk : 1 ≤ Γ.k) (own : List (Str × Nat)) (ixs : List Nat) (hv : ∀ j ∈ ixs, j ∈ own.map (·.2)) (ok : BlkOk Γ.N Γ.sc scope own) (G : GScope1 scope)
    (h : Iw Γ δ μ tg iter fun ds μ1 => ds.length ≤ 100000 ∧ (PP, MO.gt gpos) ∈ μ1 ∧ ∃ I : Nat → List D → Prop, I 0 [] ∧ (∀ i d dys, ds[i]? = some d → I i dys → ElN Γ δ μ1 scope tg elt (own.map (·.2)) ixs d fun y => (∃ k, y = .int k) ∧ I (i + 1) (dys ++ [y])) ∧ ∀ ns : List Int, I ds.length (ns.map D.int) → P (.int ns.sum) μ1)
    (hg : Γ.sc.names.lookup ("sum" : Str) = some .globalImplicit := by rfl) (hgf : ∀ env v, genFold iter env v = pure v := by intro _ _; rfl)
    (hst : ∀ env, starEach [.GeneratorExp elt [⟨tg, iter, [], 0⟩] scope gpos] env = (false, eval (.GeneratorExp elt [⟨tg, iter, [], 0⟩] scope gpos) env) :: starEach [] env := by intro _; rfl) :
    Ew Γ δ μ (.Call (.Name "sum" p) [.GeneratorExp elt [⟨tg, iter, [], 0⟩] scope gpos] [] pos) P := fun X hX σ C H Q w k => by
  obtain ⟨cc, h1, h2⟩ := S.ex
  have hkk : Γ.k - 1 + 1 = Γ.k := by omega
  refine PEw (pe_sumGN (k := Γ.k - 1) (g := gG X (Γ.k - 1) scope tg) (te := teGN X (Γ.k - 1) scope elt) (P := PP) hX.calm (by rw [hX.N]; exact hX.nd) (by rw [hkk]; exact hX.room) (hX.gl hg) (by rw [hX.mg]; exact hf _ (by decide)) wI_pi (own := own) (by rw [hX.N, hX.sc]; exact ok) G (hX.code _ h1) (by rw [hX.base]; exact h2) (by rw [hX.base, hX.mg]; exact S.bm)
    (fun A s H code fp pn hr => ⟨fun pins s' σ H v u Q I r q => q A s _ code fp pn hr pins s' u I r⟩) (fun A s H c2 fp pn hr => ⟨fun pins s' σ H Q I q => q A s _ fp pn hr pins s' I⟩) (hgf _) (hst _)) ?_
  refine gx_rdN own ixs hv hX w (fun Wn dys y μ1 => (∃ k, y = .int k) ∧ Wn) (fun dys μ1 => (∀ y ∈ dys, ∃ k, y = D.int k) ∧ ∀ ns : List Int, dys = ns.map D.int → P (.int (ns.sum)) μ1) ?_ (fun μ1 C' H' ys dys g w' r hl ⟨f1, f2⟩ => ?_) (fun μ1 C' H' ys dys vy y Wd' Wn g w' r hl ry ⟨⟨i, e⟩, q⟩ hW => ?_)
  · intro X hX σ C H R w k
    refine h X hX σ C H R w fun J ds μ' C' H' g w' wk ⟨hl, hm, I, i0, st, fd⟩ => k J ds μ' C' H' g w' wk ⟨hl, hm, fun i dys => I i dys ∧ ∀ y ∈ dys, ∃ k, y = D.int k, ⟨i0, fun y hy => by cases hy⟩, fun i d dys e hI c2 P2 hne hle => ?_, fun dys hI => ⟨hI.2, fun ns e => fd ns (e ▸ hI.1)⟩⟩
    refine Tg.imp (st i d dys e hI.1 c2 P2 hne hle) fun δ2 μ2 ⟨e2, q⟩ => ⟨e2, Ew.imp q fun y μ3 ⟨e3, ⟨k, e4⟩, q4⟩ => ⟨e3, ⟨k, e4⟩, q4, fun z hz => ?_⟩⟩
    rcases List.mem_append.mp hz with hz | hz
    · exact hI.2 z hz
    · exact ⟨k, by rw [show z = y by simpa using hz]; exact e4⟩
  · obtain ⟨ns, e1, e2⟩ := int_all r f1
    exact ⟨ns, e2, k _ _ μ1 C' H' g w' (.int _) (f2 ns e1)⟩
  · subst e
    cases ry
    exact ⟨⟨i, rfl⟩, hW q⟩
theorem ew_tupleGN {PP : Addr} (hf : Free Γ.mg) (S : Γ.SiteN PP) (hk : 1 ≤ Γ.k) (own : List (Str × Nat)) (ixs : List Nat) (hv : ∀ j ∈ ixs, j ∈ own.map (·.2)) (ok : BlkOk Γ.N Γ.sc scope own) (G : GScope1 scope)
    (h : Iw Γ δ μ tg iter fun ds μ1 => ds.length ≤ 100000 ∧ (PP, MO.gt gpos) ∈ μ1 ∧ ∃ I : Nat → List D → Prop, I 0 [] ∧ (∀ i d dys, ds[i]? = some d → I i dys → ElN Γ δ μ1 scope tg elt (own.map (·.2)) ixs d fun y => I (i + 1) (dys ++ [y])) ∧ ∀ dys, I ds.length dys → P (.tup dys) μ1)
    (hg : Γ.sc.names.lookup ("tuple" : Str) = some .globalImplicit := by rfl) (hgf : ∀ env v, genFold iter env v = pure v := by intro _ _; rfl)
    (hst : ∀ env, starEach [.GeneratorExp elt [⟨tg, iter, [], 0⟩] scope gpos] env = (false, eval (.GeneratorExp elt [⟨tg, iter, [], 0⟩] scope gpos) env) :: starEach [] env := by intro _; rfl) :
    Ew Γ δ μ (.Call (.Name "tuple" p) [.GeneratorExp elt [⟨tg, iter, [], 0⟩] scope gpos] [] pos) P := fun X hX σ C H Q w k => by
  obtain ⟨cc, h1, h2⟩ := S.ex
  have hkk : Γ.k - 1 + 1 = Γ.k := by omega
  refine PEw (pe_tupleGN (k := Γ.k - 1) (g := gG X (Γ.k - 1) scope tg) (te := teGN X (Γ.k - 1) scope elt) (P := PP) hX.calm (by rw [hX.N]; exact hX.nd) (by rw [hkk]; exact hX.room) (hX.gl hg) (by rw [hX.mg]; exact hf _ (by decide)) wI_pi (own := own) (by rw [hX.N, hX.sc]; exact ok) G (hX.code _ h1) (by rw [hX.base]; exact h2) (by rw [hX.base, hX.mg]; exact S.bm)
    (fun A s H code fp pn hr => ⟨fun pins s' σ H v u Q I r q => q A s _ code fp pn hr pins s' u I r⟩) (fun A s H c2 fp pn hr => ⟨fun pins s' σ H Q I q => q A s _ fp pn hr pins s' I⟩) (hgf _) (hst _)) ?_
  refine gx_rdN own ixs hv hX w (fun Wn dys y μ1 => Wn) (fun dys μ1 => P (.tup dys) μ1) h (fun μ1 C' H' ys dys g w' r hl f1 => fun q hq => ?_) (fun μ1 C' H' ys dys vy y Wd' Wn g w' r hl ry q hW => ⟨Nat.lt_of_le_of_lt (by rw [r.len]; omega : ys.length ≤ 100000) (by decide), hW q⟩)
  have n := Nw.add (o := .tup ys) w'.sub hq
  exact k _ _ μ1 _ _ (g.trans n.gr) (w'.nw n) (.tup (.inl upd_same) (DatAll.mono n.core _ _ r)) f1
/-! by lists of a type -/
theorem ev_sumGN {α : Type} {PP : Addr} (xs : List α) (g : α → D) (f : α → Int) (hf : Free Γ.mg) (S : Γ.SiteN PP) (hm : (PP, MO.gt gpos) ∈ μ) (own : List (Str × Nat)) (ixs : List Nat) (hi : Iv Γ δ μ tg iter (xs.map g)) (hlen : xs.length ≤ 100000) (he : ∀ x ∈ xs, ElN Γ δ μ scope tg elt (own.map (·.2)) ixs (g x) fun y => y = .int (f x)) (hk : 1 ≤ Γ.k := by decide) (hv : ∀ j ∈ ixs, j ∈ own.map (·.2) := by decide) (ok : BlkOk Γ.N Γ.sc scope own := by exact L2.blkOk_by (by kernel_rfl)) (G : GScope1 scope := by exact Gx.gsc_by (by kernel_rfl))
    (hg : Γ.sc.names.lookup ("sum" : Str) = some .globalImplicit := by rfl) (hgf : ∀ env v, genFold iter env v = pure v := by intro _ _; rfl)
    (hst : ∀ env, starEach [.GeneratorExp elt [⟨tg, iter, [], 0⟩] scope gpos] env = (false, eval (.GeneratorExp elt [⟨tg, iter, [], 0⟩] scope gpos) env) :: starEach [] env := by intro _; rfl) :
    Ev Γ δ μ (.Call (.Name "sum" p) [.GeneratorExp elt [⟨tg, iter, [], 0⟩] scope gpos] [] pos) (.int (xs.map f).sum) := ew_sumGN hf S hk own ixs hv ok G (hi.w ⟨by rw [List.length_map]; exact hlen, hm, fun i dys => dys = (xs.take i).map fun x => D.int (f x), rfl, fun i d dys e hI c2 P2 hne hle => by
    obtain ⟨x, h1, rfl⟩ := map_at e
    refine Tg.imp (he x (List.mem_of_getElem? h1) c2 P2 hne hle) fun δ2 μ2 ⟨e2, q⟩ => ⟨e2, Ew.imp q fun y μ3 ⟨e3, e4⟩ => ⟨e3, ?_⟩⟩
    have st : dys ++ [y] = (xs.take (i + 1)).map fun x => D.int (f x) := by rw [hI, e4]; exact (take_map (f := fun x => D.int (f x)) h1).symm
    exact ⟨⟨_, e4⟩, st⟩, fun ns hI => by
    have e : ns = xs.map f := map_int_inj' (by rw [hI, List.length_map, List.take_length, List.map_map]; rfl)
    rw [e]
    exact ⟨rfl, rfl⟩⟩) hg hgf hst
theorem ev_tupleGN {α : Type} {PP : Addr} (xs : List α) (g : α → D) (f : α → D) (hf : Free Γ.mg) (S : Γ.SiteN PP) (hm : (PP, MO.gt gpos) ∈ μ) (own : List (Str × Nat)) (ixs : List Nat) (hi : Iv Γ δ μ tg iter (xs.map g)) (hlen : xs.length ≤ 100000) (he : ∀ x ∈ xs, ElN Γ δ μ scope tg elt (own.map (·.2)) ixs (g x) fun y => y = (f x)) (hk : 1 ≤ Γ.k := by decide) (hv : ∀ j ∈ ixs, j ∈ own.map (·.2) := by decide) (ok : BlkOk Γ.N Γ.sc scope own := by exact L2.blkOk_by (by kernel_rfl)) (G : GScope1 scope := by exact Gx.gsc_by (by kernel_rfl))
    (hg : Γ.sc.names.lookup ("tuple" : Str) = some .globalImplicit := by rfl) (hgf : ∀ env v, genFold iter env v = pure v := by intro _ _; rfl)
    (hst : ∀ env, starEach [.GeneratorExp elt [⟨tg, iter, [], 0⟩] scope gpos] env = (false, eval (.GeneratorExp elt [⟨tg, iter, [], 0⟩] scope gpos) env) :: starEach [] env := by intro _; rfl) :
    Ev Γ δ μ (.Call (.Name "tuple" p) [.GeneratorExp elt [⟨tg, iter, [], 0⟩] scope gpos] [] pos) (.tup (xs.map f)) := ew_tupleGN hf S hk own ixs hv ok G (hi.w ⟨by rw [List.length_map]; exact hlen, hm, fun i dys => dys = (xs.take i).map fun x => (f x), rfl, fun i d dys e hI c2 P2 hne hle => by
    obtain ⟨x, h1, rfl⟩ := map_at e
    refine Tg.imp (he x (List.mem_of_getElem? h1) c2 P2 hne hle) fun δ2 μ2 ⟨e2, q⟩ => ⟨e2, Ew.imp q fun y μ3 ⟨e3, e4⟩ => ⟨e3, ?_⟩⟩
    have st : dys ++ [y] = (xs.take (i + 1)).map fun x => (f x) := by rw [hI, e4]; exact (take_map (f := fun x => (f x)) h1).symm
    exact st, fun dys hI => ⟨by rw [hI, List.length_map, List.take_length], rfl⟩⟩) hg hgf hst
/-- a name, two names -/
theorem elN_v (i : Nat) {x : Str} {pos : Pos} {vs : List Nat} {d y : D} (h : ∀ c2 P2, c2 ≠ P2 → Le Γ.B (Γ.gxN scope c2 P2).B → Ev (Γ.gxN scope c2 P2) ((wipeD δ vs).set i (some d)) μ elt y) (hN : Γ.N[i]? = some x := by rfl) (hx : scope.names.lookup x = some .local := by rfl) : ElN Γ δ μ scope (.Name x pos) elt vs [i] d fun y' => y' = y := fun c2 P2 hne hle =>
  tg_n (Γ := Γ.gx scope) i ⟨rfl, (h c2 P2 hne hle).w ⟨rfl, rfl⟩⟩ hN (.inl hx) (.inl hx)
theorem elN_2 (i j : Nat) {x y : Str} {px py pt : Pos} {kt : Nat} {vs : List Nat} {a b z : D} (h : ∀ c2 P2, c2 ≠ P2 → Le Γ.B (Γ.gxN scope c2 P2).B → Ev (Γ.gxN scope c2 P2) (((wipeD δ vs).set i (some a)).set j (some b)) μ elt z) (hN : Γ.N[i]? = some x := by rfl) (hM : Γ.N[j]? = some y := by rfl) (hx : scope.names.lookup x = some .local := by rfl) (hy : scope.names.lookup y = some .local := by rfl) :
    ElN Γ δ μ scope (.Tuple [.Name x px, .Name y py] kt pt) elt vs ([i] ++ ([j] ++ [])) (.tup [a, b]) fun y' => y' = z := fun c2 P2 hne hle =>
  tg_tup (Γ := Γ.gx scope) (ds := [a, b]) (tgs_cons (Γ := Γ.gx scope) (tg_n (Γ := Γ.gx scope) i (tgs_cons (Γ := Γ.gx scope) (tg_n (Γ := Γ.gx scope) j (tgs_nil (Γ := Γ.gx scope) ⟨rfl, (h c2 P2 hne hle).w ⟨rfl, rfl⟩⟩) hM (.inl hy) (.inl hy))) hN (.inl hx) (.inl hx)))
end
end Dl

set_option maxRecDepth 100000
set_option maxHeartbeats 2000000
/-! The memory as a set: permutations, calls that keep what they are given, objects that change from their birth. -/
namespace Dl
open PySem PySem.Spec PyProof.Rows L2 LamX
section
variable {Γ : Gam} {δ : Sd} {μ μ1 μ2 ν : Mem} {e o a b c : Expr} {es : List Expr} {d : D} {P : Pst} {pos p apos : Pos} {S : Spec} {x m : Str} {Cl : Addr} {k n : Nat} {C H C' H' : Hp}
theorem dom_perm (p : μ.Perm μ1) (b : Addr) : b ∈ dom μ ↔ b ∈ dom μ1 := (p.map _).mem_iff
theorem Gr.perm {μ' : Mem} (g : Gr μ1 μ' C H C' H') (p : μ.Perm μ1) : Gr μ μ' C H C' H' := ⟨g.core, fun b h n e => g.new b h (fun z => n ((dom_perm p b).mpr z)) e, fun b o n e => g.keep b o (fun z => n ((dom_perm p b).mpr z)) e, g.there, fun b hb => (g.dom b hb).imp (fun z => (dom_perm p b).mpr z) id⟩
theorem Gr.permR {μ' : Mem} (g : Gr μ' μ C H C' H') (p : μ.Perm μ1) : Gr μ' μ1 C H C' H' := ⟨g.core, g.new, g.keep, g.there, fun b hb => g.dom b ((dom_perm p b).mpr hb)⟩
theorem Wd.perm {σ : L2.St} (w : Wd Γ C H σ δ μ) (p : μ.Perm μ1) : Wd Γ C H σ δ μ1 := ⟨w.base, w.sub, w.len, w.sl, w.mem.perm p, fun cls d μ' C' H' g s m x => w.exc cls d μ' C' H' (g.perm p) s m x⟩
/-- objects forgotten -/
theorem Wd.drop {σ : L2.St} (w : Wd Γ C H σ δ (μ ++ ν)) : Wd Γ C H σ δ μ ∧ Gr (μ ++ ν) μ C H C H := by
  have g : Gr (μ ++ ν) μ C H C H := ⟨Le.refl _, fun _ _ _ h => h, fun _ _ _ h => h, fun _ h => h, fun b hb => .inl (by rw [dom_app]; exact List.mem_append_left _ hb)⟩
  exact ⟨w.gr g w.sub ⟨by have := w.mem.nd; rw [dom_app, List.nodup_append] at this; exact this.1, fun p hp => w.mem.ok p (List.mem_append_left _ hp)⟩, g⟩
theorem Ew.perm (h : Ew Γ δ μ1 e P) (p : μ.Perm μ1) : Ew Γ δ μ e P := fun X hX σ C H Q w k => h X hX σ C H Q (w.perm p) fun v d μ' C' H' g w' r q => k v d μ' C' H' (g.perm p) w' r q
theorem Ev.perm (h : Ev Γ δ μ1 e d) (p : μ.Perm μ1) : Ev Γ δ μ e d := fun X hX σ C H Q w k => h X hX σ C H Q (w.perm p) fun v d μ' C' H' g w' r ⟨e1, e2⟩ => by
  subst e1; subst e2
  exact k v d μ C' H' ((g.perm p).permR p.symm) (w'.perm p.symm) r ⟨rfl, rfl⟩
theorem Av.perm {ds : List D} (h : Av Γ δ μ1 es ds) (p : μ.Perm μ1) : Av Γ δ μ es ds := fun X hX σ C H Q w k => h X hX σ C H Q (w.perm p) fun v d μ' C' H' g w' r ⟨e1, e2⟩ => by
  subst e1; subst e2
  exact k v d μ C' H' ((g.perm p).permR p.symm) (w'.perm p.symm) r ⟨rfl, rfl⟩
/-- what comes out, in another order, or with less -/
theorem Ew.conv {P' : Pst} (h : Ew Γ δ μ e P) (q : ∀ d μ', P d μ' → ∃ μ'', (∃ ν, μ'.Perm (μ'' ++ ν)) ∧ P' d μ'') : Ew Γ δ μ e P' := fun X hX σ C H Q w k => h X hX σ C H Q w fun v d μ' C' H' g w' r p => by
  obtain ⟨μ'', ⟨ν, pm⟩, p'⟩ := q _ _ p
  obtain ⟨w2, g2⟩ := (w'.perm pm).drop
  exact k v d μ'' C' H' ((g.permR pm).trans g2) w2 r p'
theorem Run.perm {sts : List Stmt} {F : Fin} (h : Run Γ δ μ1 sts F) (p : μ.Perm μ1) : Run Γ δ μ sts F := fun X hX σ C H w =>
  wSs_mono (h X hX σ C H (w.perm p)) (fun σ' H' ⟨C', δ', μ', g, w', q⟩ => ⟨C', δ', μ', g.perm p, w', q⟩) (fun v H' ⟨C', d, μ', g, w', m, r, q⟩ => ⟨C', d, μ', g.perm p, w', m, r, q⟩) (fun σ' H' ⟨C', δ', μ', g, w', q⟩ => ⟨C', δ', μ', g.perm p, w', q⟩) (fun σ' H' ⟨C', δ', μ', g, w', q⟩ => ⟨C', δ', μ', g.perm p, w', q⟩)
theorem Run.drop {sts : List Stmt} {F : Fin} (h : Run Γ δ μ sts F) : Run Γ δ (μ ++ ν) sts F := fun X hX σ C H w => by
  obtain ⟨w2, g2⟩ := w.drop
  exact h.from_ hX w2 g2
/-- a call, the memory as a set; what is let out keeps the memory -/
def Cal' (Γ : Gam) (S : Spec) (ds : List D) (μ : Mem) (P : Pst) : Prop := ∃ μc ν XP, μ.Perm (μc ++ ν) ∧ S ds μc (fun d μ' => ∃ μ2, (∃ ν2, (μ' ++ ν).Perm (μ2 ++ ν2)) ∧ P d μ2) XP ∧ ∀ cls μ', XP cls μ' → ∃ μ2, (∃ ν2, (μ' ++ ν).Perm (μ2 ++ ν2)) ∧ Γ.XP cls μ2
theorem cal_sp' {K : PySem.W.Frag} {σ : L2.St} {C H C0 H0 : Hp} {μ0 : Mem} {Q : VK} {vs : List V} {ds : List D} (hK : K = Γ.K) (w0 : Wd Γ C0 H0 σ δ μ0) (w : Wd Γ C H σ δ μ) (g : Gr μ0 μ C0 H0 C H) (r : DatAll Γ.K C vs ds) (hl : vs.length = n) (h : Cal' Γ S ds μ P) (q : ∀ v d μ' C' H', Gr μ0 μ' C0 H0 C' H' → Wd Γ C' H' σ δ μ' → Dat Γ.K C' v d → P d μ' → Q v H') : spD K Γ.B S n vs H Q Γ.E := by
  subst hK
  obtain ⟨μc, ν, XP, pm, hS, hX⟩ := h
  have w := w.perm pm
  have g := g.permR pm
  have mc : MemOk Γ.K C H μc := ⟨by have := w.mem.nd; rw [dom_app, List.nodup_append] at this; exact this.1, fun p hp => w.mem.ok p (List.mem_append_left _ hp)⟩
  refine ⟨hl, C, ds, μc, _, XP, w.base, w.sub, r, mc, hS, fun v d μ' C' H' g' s' m' r' p' => ?_, fun cls d μ' C' H' g' s' m' x => ?_⟩
  · obtain ⟨g2, m2⟩ := frame_ok w.mem g' m'
    obtain ⟨μ2, ⟨ν2, pm2⟩, p2⟩ := p'
    obtain ⟨w3, g3⟩ := ((w.gr g2 s' m2).perm pm2).drop
    exact q v d _ C' H' (g.trans ((g2.permR pm2).trans g3)) w3 r' p2
  · obtain ⟨g2, m2⟩ := frame_ok w.mem g' m'
    obtain ⟨μ2, ⟨ν2, pm2⟩, p2⟩ := hX cls μ' x
    obtain ⟨w3, g3⟩ := ((w.gr g2 s' m2).perm pm2).drop
    exact w.exc cls d μ2 C' H' ((g2.permR pm2).trans g3) s' w3.mem p2
theorem ew_call' (F : Γ.gn x k n S) (hk : k ≤ Γ.k) (hn : (e :: es).length = n) (ha : Aw Γ δ μ (e :: es) fun ds μ1 => ds.length = n ∧ Cal' Γ S ds μ1 P) (hg : Γ.sc.names.lookup x = some .globalImplicit := by rfl) (hdb : (x == ("__debug__" : Str)) = false := by decide)
    (he : ∀ env, starEach (e :: es) env = (false, eval e env) :: starEach es env := by intro _; rfl) (hpl : ∀ env, (backTo pos (starEach es env)).any (·.1) = false := by intro _; rfl) : Ew Γ δ μ (.Call (.Name x p) (e :: es) [] pos) P := fun X hX σ C H Q w q => by
  obtain ⟨f, fd, ps, hps, hF, hm, hkp, hb⟩ := F.ex
  have hF' : FnOk X.prog X.w X.K X.mg X.base (L2.CX X.prog X.w) k f fd ps (spD X.K Γ.B S n) := by
    rw [hX.prog, hX.w, hX.K, hX.mg, hX.base]
    exact hF
  refine PEw (pe_call (E := Γ.E) hF' (hX.room.mono hk) (hX.gl hg) (by rw [hX.mg]; exact hm) (by rw [hX.K]; exact hkp) (by rw [hX.K]; exact hb) .nil (passes_call hX.tk fun _ _ _ _ h => h) wA_pa hdb (he _) (hpl _)) ?_
  refine ha X hX σ C H _ w fun vs ds μ1 C1 H1 g1 w1 r1 ⟨hl, h1⟩ => ?_
  show spD X.K Γ.B S n (vs ++ []) H1 Q Γ.E
  rw [List.append_nil]
  exact cal_sp' hX.K w w1 g1 r1 (by rw [r1.len]; exact hl) h1 q
theorem ew_meth' (F : Γ.mn Cl m k n S) (hk : k ≤ Γ.k) (ho : Ew Γ δ μ o fun d μ1 => Recv Cl m μ1 d ∧ Aw Γ δ μ1 (e :: es) fun ds μ2 => (d :: ds).length = n ∧ Cal' Γ S (d :: ds) μ2 P)
    (he : ∀ env, starEach (e :: es) env = (false, eval e env) :: starEach es env := by intro _; rfl) (hpl : ∀ env, (backTo pos (starEach es env)).any (·.1) = false := by intro _; rfl)
    (ht : ∀ env, ∃ pl, eval (.Call (.Attribute o m apos) (e :: es) [] pos) env = (do
      let ov ← eval o env
      standAt apos.atName
      let (f, first) ← holding [ov] (getMethod ov m pl)
      callWith pos f first (backTo pos (starEach (e :: es) env)) (backToKw pos (keywordEach [] env))) := by intro _; exact ⟨_, rfl⟩) : Ew Γ δ μ (.Call (.Attribute o m apos) (e :: es) [] pos) P := fun X hX σ C H Q w q => by
  obtain ⟨f, fd, ps, hps, hF, hm, hb⟩ := F.ex
  obtain ⟨pl, ht⟩ := ht X.env
  have hF' : FnOk X.prog X.w X.K X.mg X.base (L2.CX X.prog X.w) k f fd ps (spD X.K Γ.B S n) := by
    rw [hX.prog, hX.w, hX.K, hX.mg, hX.base]
    exact hF
  refine PEw (pe_meth (pl := pl) (E := Γ.E) wE_pe (by rw [hX.K]; exact F.cls) (by rw [hX.K]; exact hm) hF' (hX.room.mono hk) (by rw [hX.K]; exact hb) .nil (passes_call hX.tk fun _ _ _ _ h => h) wA_pa (he _) (hpl _) ht) ?_
  refine ho X hX σ C H _ w fun v d μ1 C1 H1 g1 w1 r1 ⟨hr, h1⟩ => ?_
  obtain ⟨a, dx, fs, ev, ho', hlk⟩ := recv_dat w1 r1 hr
  refine ⟨a, dx, fs, ev, ho', hlk, h1 X hX σ C1 H1 _ w1 fun vs ds μ2 C2 H2 g2 w2 r2 ⟨hl, h2⟩ => ?_⟩
  show spD X.K Γ.B S n (v :: (vs ++ [])) H2 Q Γ.E
  rw [List.append_nil]
  have rr : DatAll Γ.K C2 (v :: vs) (d :: ds) := .cons (Dat.mono g2.core _ _ r1) r2
  exact cal_sp' hX.K w w2 (g1.trans g2) rr (by rw [rr.len]; exact hl) h2 q
theorem ew_meth0' (F : Γ.mn Cl m k 1 S) (hk : k ≤ Γ.k) (ho : Ew Γ δ μ o fun d μ1 => Recv Cl m μ1 d ∧ Cal' Γ S [d] μ1 P)
    (ht : ∀ env, ∃ pl, eval (.Call (.Attribute o m apos) [] [] pos) env = (do
      let ov ← eval o env
      standAt apos.atName
      let (f, first) ← holding [ov] (getMethod ov m pl)
      callWith pos f first (backTo pos (starEach [] env)) (backToKw pos (keywordEach [] env))) := by intro _; exact ⟨_, rfl⟩) : Ew Γ δ μ (.Call (.Attribute o m apos) [] [] pos) P := fun X hX σ C H Q w q => by
  obtain ⟨f, fd, ps, hps, hF, hm, hb⟩ := F.ex
  obtain ⟨pl, ht⟩ := ht X.env
  have hF' : FnOk X.prog X.w X.K X.mg X.base (L2.CX X.prog X.w) k f fd ps (spD X.K Γ.B S 1) := by
    rw [hX.prog, hX.w, hX.K, hX.mg, hX.base]
    exact hF
  refine PEw (pe_meth0 (pl := pl) (E := Γ.E) wE_pe (by rw [hX.K]; exact F.cls) (by rw [hX.K]; exact hm) hF' (hX.room.mono hk) (by rw [hX.K]; exact hb) .nil (passes_call hX.tk fun _ _ _ _ h => h) ht) ?_
  refine ho X hX σ C H _ w fun v d μ1 C1 H1 g1 w1 r1 ⟨hr, h1⟩ => ?_
  obtain ⟨a, dx, fs, ev, ho', hlk⟩ := recv_dat w1 r1 hr
  exact ⟨a, dx, fs, ev, ho', hlk, cal_sp' (vs := [v]) hX.K w w1 g1 (.cons r1 .nil) rfl h1 q⟩
/-- an object made, which changes -/
theorem ew_makeM (F : Γ.cn x Cl k n S) (hk : k + 1 ≤ Γ.k) (ha : Aw Γ δ μ (e :: es) fun ds μ1 => ds.length + 1 = n ∧ ∀ a, ∃ XP, S (.adr a :: ds) [(a, .ins Cl [] [])] (fun d μ' => d = .non ∧ P (.adr a) (μ' ++ μ1)) XP ∧ ∀ cls μ', XP cls μ' → Γ.XP cls μ1)
    (hg : Γ.sc.names.lookup x = some .globalImplicit := by rfl) (hdb : (x == ("__debug__" : Str)) = false := by decide)
    (he : ∀ env, starEach (e :: es) env = (false, eval e env) :: starEach es env := by intro _; rfl) (hpl : ∀ env, (backTo pos (starEach es env)).any (·.1) = false := by intro _; rfl) : Ew Γ δ μ (.Call (.Name x p) (e :: es) [] pos) P := fun X hX σ C H Q w q => by
  obtain ⟨f, fd, ps, hps, hF, hm, hMk, hb⟩ := F.ex
  have hF' : FnOk X.prog X.w X.K X.mg X.base (L2.CX X.prog X.w) k f fd ps (spD X.K Γ.B S n) := by
    rw [hX.prog, hX.w, hX.K, hX.mg, hX.base]
    exact hF
  refine PEw (pe_make (E := Γ.E) (by rw [hX.K]; exact hMk) hF' (hX.room.mono hk) (hX.gl hg) (by rw [hX.mg]; exact hm) (by rw [hX.K]; exact hb) .nil (passes_call hX.tk fun _ _ _ _ h => h) wA_pa hdb (he _) (hpl _)) ?_
  refine ha X hX σ C H _ w fun vs ds μ1 C1 H1 g1 w1 r1 ⟨hl, h1⟩ => fun a dx ha hdx hne => ?_
  show spD X.K Γ.B S n (.ref a :: (vs ++ [])) _ _ Γ.E
  rw [List.append_nil, hX.K]
  obtain ⟨XP, hS, hXP⟩ := h1 a
  have ha' : (upd H1 dx (.own a)) a = none := by rw [upd_ne (Ne.symm hne)]; exact ha
  have cA : C1 a = none := w1.sub.none ha
  have cDx : C1 dx = none := w1.sub.none hdx
  have gN : Gr μ1 ((a, .ins Cl [] []) :: μ1) C1 H1 C1 (upd (upd H1 dx (.own a)) a (.ins Cl dx [])) := (Gr.newX hdx).trans (Gr.newM ha')
  have m0 : MemOk Γ.K C1 (upd H1 dx (.own a)) μ1 := ⟨w1.mem.nd, fun p hp => by
    obtain ⟨e, o, ho, q⟩ := w1.mem.ok p hp
    exact ⟨e, o, by rw [upd_ne (ne_of_none ho hdx)]; exact ho, q⟩⟩
  have l1 : Le C1 (upd H1 dx (.own a)) := w1.sub.updH cDx
  have mN : MemOk Γ.K C1 (upd (upd H1 dx (.own a)) a (.ins Cl dx [])) ((a, .ins Cl [] []) :: μ1) := m0.newM ha' l1 ⟨dx, [], rfl, rfl, .nil⟩
  have lN : Le C1 (upd (upd H1 dx (.own a)) a (.ins Cl dx [])) := l1.updH cA
  have mc : MemOk Γ.K C1 (upd (upd H1 dx (.own a)) a (.ins Cl dx [])) [(a, .ins Cl [] [])] := ⟨by simp [dom], fun p hp => mN.ok p (by
    have : p = (a, MO.ins Cl [] []) := by simpa using hp
    rw [this]; exact List.mem_cons_self)⟩
  refine ⟨by rw [List.length_cons, r1.len]; exact hl, C1, _, [(a, .ins Cl [] [])], _, XP, w1.base, lN, .cons (.adr a) r1, mc, hS, fun v d μ' C' H' g' s' m' r' p' => ?_, fun cls d μ' C' H' g' s' m' x => ?_⟩
  · obtain ⟨ed, p'⟩ := p'
    subst ed
    cases r'
    obtain ⟨g2, m2⟩ := frame_ok (μ := [(a, .ins Cl [] [])]) (ν := μ1) mN g' m'
    have gg : Gr μ (μ' ++ μ1) C H C' H' := (g1.trans gN).trans g2
    exact ⟨rfl, q _ _ _ _ _ gg (w.gr gg s' m2) (.adr a) p'⟩
  · obtain ⟨g2, m2⟩ := frame_ok (μ := [(a, .ins Cl [] [])]) (ν := μ1) mN g' m'
    have g3 : Gr μ1 μ1 C1 H1 C' H' := by
      have gg := gN.trans g2
      exact ⟨gg.core, gg.new, gg.keep, gg.there, fun b hb => .inl hb⟩
    have m3 : MemOk Γ.K C' H' μ1 := ⟨w1.mem.nd, fun p hp => m2.ok p (List.mem_append_right _ hp)⟩
    exact w1.exc cls d μ1 C' H' g3 s' m3 (hXP cls μ' x)
/-! calls that only look at the memory -/
def PureM (S : Spec) (ds : List D) (μc : Mem) (r : D) : Prop := ∀ P : Pst, P r μc → S ds μc P NoX
theorem calM {ds : List D} {μc : Mem} {r : D} (h : PureM S ds μc r) (pm : μ.Perm (μc ++ ν)) (q : P r μ) : Cal' Γ S ds μ P := ⟨μc, ν, NoX, pm, h _ ⟨μ, ⟨[], by rw [List.append_nil]; exact pm.symm⟩, q⟩, fun _ _ x => x.elim⟩
theorem ev_methM {ds : List D} {μc : Mem} {r : D} (F : Γ.mn Cl m k n S) (pm : μ.Perm (μc ++ ν)) (ho : Ev Γ δ μ o d) (hr : Recv Cl m μ d) (ha : Av Γ δ μ (e :: es) ds) (hp : PureM S (d :: ds) μc r) (hl : (d :: ds).length = n := by rfl) (hk : k ≤ Γ.k := by decide)
    (he : ∀ env, starEach (e :: es) env = (false, eval e env) :: starEach es env := by intro _; rfl) (hpl : ∀ env, (backTo pos (starEach es env)).any (·.1) = false := by intro _; rfl)
    (ht : ∀ env, ∃ pl, eval (.Call (.Attribute o m apos) (e :: es) [] pos) env = (do
      let ov ← eval o env
      standAt apos.atName
      let (f, first) ← holding [ov] (getMethod ov m pl)
      callWith pos f first (backTo pos (starEach (e :: es) env)) (backToKw pos (keywordEach [] env))) := by intro _; exact ⟨_, rfl⟩) : Ev Γ δ μ (.Call (.Attribute o m apos) (e :: es) [] pos) r :=
  ew_meth' F hk (ho.w ⟨hr, ha.w ⟨hl, calM hp pm ⟨rfl, rfl⟩⟩⟩) he hpl ht
theorem ev_methM0 {μc : Mem} {r : D} (F : Γ.mn Cl m k 1 S) (pm : μ.Perm (μc ++ ν)) (ho : Ev Γ δ μ o d) (hr : Recv Cl m μ d) (hp : PureM S [d] μc r) (hk : k ≤ Γ.k := by decide)
    (ht : ∀ env, ∃ pl, eval (.Call (.Attribute o m apos) [] [] pos) env = (do
      let ov ← eval o env
      standAt apos.atName
      let (f, first) ← holding [ov] (getMethod ov m pl)
      callWith pos f first (backTo pos (starEach [] env)) (backToKw pos (keywordEach [] env))) := by intro _; exact ⟨_, rfl⟩) : Ev Γ δ μ (.Call (.Attribute o m apos) [] [] pos) r :=
  ew_meth0' F hk (ho.w ⟨hr, calM hp pm ⟨rfl, rfl⟩⟩) ht
theorem ev_callM {ds : List D} {μc : Mem} {r : D} (F : Γ.gn x k n S) (pm : μ.Perm (μc ++ ν)) (ha : Av Γ δ μ (e :: es) ds) (hp : PureM S ds μc r) (hl : ds.length = n := by rfl) (hk : k ≤ Γ.k := by decide) (hn : (e :: es).length = n := by rfl) (hg : Γ.sc.names.lookup x = some .globalImplicit := by rfl) (hdb : (x == ("__debug__" : Str)) = false := by decide)
    (he : ∀ env, starEach (e :: es) env = (false, eval e env) :: starEach es env := by intro _; rfl) (hpl : ∀ env, (backTo pos (starEach es env)).any (·.1) = false := by intro _; rfl) : Ev Γ δ μ (.Call (.Name x p) (e :: es) [] pos) r :=
  ew_call' F hk hn (ha.w ⟨hl, calM hp pm ⟨rfl, rfl⟩⟩) hg hdb he hpl
theorem mem_perm {a : Addr} {mo : MO} (h : (a, mo) ∈ μ) : ∃ ν, μ.Perm ([(a, mo)] ++ ν) := by
  obtain ⟨ν1, ν2, e⟩ := List.append_of_mem h
  exact ⟨ν1 ++ ν2, by rw [e]; exact List.perm_middle⟩
end
section
variable {Γ : Gam} {δ : Sd} {ν1 ν2 : Mem} {ls : Scope} {x ret q : Str} {c CS PP : Addr} {cs : List Addr} {cl : List (Str × Addr)} {params : Arguments} {body : Expr} {P : Pst} {pos p lpos : Pos} {kk : Nat}
/-- x(lambda: body) -/
theorem ew_toldL (T : ToldOk Γ.K Γ.mg x ret CS) (hcd : Γ.code = some c) (TB : LamX.TabB Γ.base Γ.mg c PP) (hq : Γ.qual ++ "<lambda>" = q) (hcl : ∀ X, Γ.kn X → X.env.cells = cl) (L : LamS Γ.sc ls) (hk : kk + 2 ≤ Γ.k)
    (hbind : ∀ (q : Str) (cl : List (Str × Addr)) (pm cv ctv : Value), bindArgs (PySem.W.kla_fn "<lambda>" q params body ls cl pm cv ctv) ⟨[], []⟩ = pure [])
    (hbody : ∀ (c' : Addr) (C : Hp) (E : XK), Le Γ.B C → Ew (Γ.lam ls C kk E fun cls μ' => PySem.W.exmOne Γ.K cls (.ref CS) = some true ∧ P (.str ret) μ') δ (ν1 ++ (PP, .tbl q (c' :: cs)) :: ν2) body P)
    (hg : Γ.sc.names.lookup x = some .globalImplicit := by rfl) (hdb : (x == ("__debug__" : Str)) = false := by decide) (hdef : ∀ env, defaultsOf params env = ([], []) := by intro _; rfl)
    (hs : ∀ env, starEach [.Lambda params body ls lpos] env = (false, eval (.Lambda params body ls lpos) env) :: starEach [] env := by intro _; rfl) : Ew Γ δ (ν1 ++ (PP, .tbl q cs) :: ν2) (.Call (.Name x p) [.Lambda params body ls lpos] [] pos) P := fun X fX σ C H Q w k pins s I => by
  obtain ⟨g, params', sg, dV, kV, doc, pm, cdv, ct, oc, an, od, osl, Ng, a, e, j, p1, p2, p3, p4, p5, p6, p7, p8, fd, rfl, lk, hcdv, hmg, hkp, hbi, Sg, hN0, hva, ha1, ha2, hge, hme, hde⟩ := T.ex
  have eq : X.env.qual ++ "<lambda>" = q := by rw [fX.qual]; exact hq
  have ecl := hcl X fX.kn
  have LX : LamS X.env.scope ls := by rw [fX.sc]; exact L
  have eK : X.K = Γ.K := fX.K
  refine wpAny_Call_Name_kw (ld_glob I (fX.gl hg) (by rw [fX.mg]; exact hmg) ?_ hdb)
  refine PySem.W.callWith_K (h₀ := X.base) I.ok.mod.kin (by show PySem.W.keepIn X.K (.ref g) = true; rw [eK]; exact hkp) ?_ (by rfl) (by rfl)
  refine thn ((pa_cons wE_pe pa_nil (hs _)).run pos pins s σ H (fun vs H1 => ∃ (f c' : Addr) (C1 : Hp), vs = [.ref f] ∧ Gr (ν1 ++ (PP, .tbl q cs) :: ν2) (ν1 ++ (PP, .tbl q (c' :: cs)) :: ν2) C H C1 H1 ∧ Wd Γ C1 H1 σ δ (ν1 ++ (PP, .tbl q (c' :: cs)) :: ν2) ∧ C1 f = some (FunO f q params body ls (cloFrom cl ls.names []) c')) I
    (ew_lam hcd TB hq hcl L (P := fun d μ' => ∃ c', d = (.ext fun f => FunO f q params body ls (cloFrom cl ls.names []) c') ∧ μ' = (ν1 ++ (PP, .tbl q (c' :: cs)) :: ν2)) (fun c' => ⟨c', rfl, rfl⟩) hdef X fX σ C H _ w fun v d μ1 C1 H1 g1 w1 r1 ⟨c', e1, e2⟩ => by
      subst e1; subst e2
      cases r1 with | ext hf =>
      exact ⟨_, c', C1, rfl, g1, w1, hf⟩)) fun us s1 ⟨vs, H1, I1, rv, f, c', C1, e1, g1, w1, hfC⟩ => ?_
  subst e1
  obtain ⟨u, rfl, ru⟩ : ∃ u, us = [u] ∧ RelV (.ref f) u := by
    cases rv with
    | cons r t => cases t; exact ⟨_, rfl, r⟩
  obtain rfl : u = Value.ref f := ru
  refine ⟨I1.kIn, ?_⟩
  have IX : Inv X pins σ H1 s1 := I1
  have hfH := w1.sub _ _ hfC
  have hco : H1 c' = some (CodeO c' q) := by
    obtain ⟨_, o, ho, ps, e1, _, _, hb⟩ := w1.mem.ok (PP, .tbl q (c' :: cs)) (List.mem_append_right _ List.mem_cons_self)
    exact w1.sub _ _ (hb c' List.mem_cons_self)
  have hr : Room (kk + 2) X.A := fX.room.mono hk
  have rc : codeAny (model X.prog X.w) X.A (.call (.ref g) ⟨[.ref f], []⟩) (CR C8.CX0 X.stack X.prog X.w H1 s1 Q C8.E0) s1 := by
    refine run_ofS (K := X.K) (N := Ng) (ps := [a]) (us := [.ref f]) (vs := [.ref f]) (by rw [eK]; exact lk) (by rw [eK]; exact hcdv) Sg hr I1.env0 ((by rw [eK]; exact hbi : L2.Binds X.K _ [a] []) s1 [.ref f] I1.kIn rfl) (.cons rfl .nil) rfl fun hr' => ?_
    let tb : XK → TE := fun E σ HZ Q => ∀ (A : Around) (outer : List Env) (s2 : Shared) (H0 : Hp), Room kk (A.deeper (lamEnv X ls s2.heap.objs.size f c')) → wE (lamCx X A outer s2 H0 E ls f c') body σ HZ Q
    have hG := told_gives (X := X) (Ng := Ng) (x := x) (a := a) (e := e) (q := q) (ret := ret) (sg := sg) (g := g) (CS := CS) (cdg := cdv) (j := j) (p1 := p1) (p2 := p2) (p3 := p3) (p4 := p4) (p5 := p5) (p6 := p6) (p7 := p7) (p8 := p8) hge (by rw [fX.mg]; exact hme) hde (fun _ => rfl)
    refine Exists.elim (hG f c' s1 H1 Q (fun E HZ Q => HZ f = some (FunO f q params body ls (cloFrom cl ls.names []) c') ∧ tb E σ HZ Q) (fun W pn xe E p1 p2 tk hW => by
      have hp := pe_actK (CXg := C8.CX0) (Eg := C8.E0) (qg := x) (sg := sg) (Ng := Ng) (g := g) (cdg := cdv) (p1 := p1) (p2 := p2) (f := f) (c' := c') (params := params) (body := body) (scope := ls) (k := kk) (i := 0) (a := a) (pn := pn) (xe := xe) (W := W) (E := E) (tb := tb E) IX LX (fun pm ctv => hbind _ _ _ _ _) tk hW hr' (fun A outer s2 H0 hr2 => ⟨fun pins s σ H Q I h => h A outer s2 H0 hr2 pins s I⟩) hN0 hva ha1 ha2
      rw [eq, ecl] at hp
      exact ⟨fun pinsZ sZ σZ HZ QZ IZ h => hp.run pinsZ sZ σZ HZ QZ IZ ⟨h.1, h.2.2.1, h.2.1, h.2.2.2⟩⟩) hco ?_) fun t' ⟨ht', hq'⟩ => ⟨t', ht'.nox, hq'⟩
    · show _ ∧ _
      refine ⟨hfH, fun A outer s2 H0 hr2 => ?_⟩
      refine hbody c' C1 _ w1.base _ (fX.lam hr2) σ C1 H1 _ ⟨Le.refl _, w1.sub, w1.len, w1.sl, w1.mem, fun cls d μ' C2 H2 g2 l2 m2 x => ?_⟩ fun v d μ' C2 H2 g2 w2 r2 p2 => ?_
      · exact ⟨true, by rw [eK]; exact x.1, fun _ => k (.str ret) (.str ret) μ' C2 H2 (g1.trans g2) (w1.gr g2 l2 m2) (.str _) x.2, fun z => by cases z⟩
      · exact k v d μ' C2 H2 (g1.trans g2) (w1.gr g2 w2.sub w2.mem) r2 p2
  refine wpAny_call (codeAny_mono rc fun r s2 hq => ?_)
  cases r with
  | error e => exact (show False from hq).elim
  | ok fl =>
    cases fl with
    | ret u => exact I1.after hq
    | next => exact False.elim hq
    | brk => exact False.elim hq
    | cont => exact False.elim hq
end
end Dl

set_option maxRecDepth 100000
set_option maxHeartbeats 2000000
/-! Objects that change, looked at as if they stood still. -/
namespace Dl
open PySem PySem.Spec PyProof.Rows L2
mutual
def sbD (m : Addr → Option D) : D → D
  | .non => .non
  | .bl b => .bl b
  | .int i => .int i
  | .str x => .str x
  | .lst xs => .lst (sbDs m xs)
  | .tup xs => .tup (sbDs m xs)
  | .obj C ns fs => .obj C ns (sbDs m fs)
  | .adr a => (m a).getD (.adr a)
  | .ext o => .ext o
  | .lsq xs => .lsq (sbDs m xs)
  | .dct ks ds => .dct ks (sbDs m ds)
def sbDs (m : Addr → Option D) : List D → List D
  | [] => []
  | d :: ds => sbD m d :: sbDs m ds
end
theorem sbDs_map (m : Addr → Option D) : ∀ ds : List D, sbDs m ds = ds.map (sbD m)
  | [] => rfl
  | d :: ds => congrArg (sbD m d :: ·) (sbDs_map m ds)
section
variable {K : PySem.W.Frag} {C C' H : Hp} {m : Addr → Option D}
mutual
theorem Dat.sb (e : Le C C') (hm : ∀ a d, m a = some d → Dat K C' (.ref a) d) : ∀ (d : D) (v : V), Dat K C v d → Dat K C' v (sbD m d)
  | .non, _, .non => .non
  | .bl _, _, .bl b => .bl b
  | .int _, _, .int b => .int b
  | .str _, _, .str b => .str b
  | .lst ds, _, .lst h a => .lst (e _ _ h) (DatAll.sb e hm ds _ a)
  | .tup ds, _, .tup h a => .tup (e.rd h) (DatAll.sb e hm ds _ a)
  | .lsq ds, _, .lsq h a => .lsq (e.l h) (DatAll.sb e hm ds _ a)
  | .dct ks ds, _, .dct h l a => .dct (e _ _ h) l (DatAll.sb e hm ds _ a)
  | .obj _ _ ds, _, .obj h l a => .obj (e _ _ h) l (DatAll.sb e hm ds _ a)
  | .adr a, _, .adr _ => by
    show Dat K C' (.ref a) ((m a).getD (.adr a))
    cases h : m a with
    | none => exact .adr a
    | some d => exact hm a d h
  | .ext _, _, .ext h => .ext (e _ _ h)
theorem DatAll.sb (e : Le C C') (hm : ∀ a d, m a = some d → Dat K C' (.ref a) d) : ∀ (ds : List D) (vs : List V), DatAll K C vs ds → DatAll K C' vs (sbDs m ds)
  | [], _, .nil => .nil
  | d :: ds, _, .cons h t => .cons (Dat.sb e hm d _ h) (DatAll.sb e hm ds _ t)
end
def sbMO (m : Addr → Option D) : MO → MO
  | .lst ds => .lst (sbDs m ds)
  | .ins Cl ns fs => .ins Cl ns (sbDs m fs)
  | .dK kds => .dK (kds.map fun p => (p.1, sbD m p.2))
  | .tbl q cs => .tbl q cs
  | .gt g => .gt g
def toDat : MO → D
  | .lst ds => .lst ds
  | .ins Cl ns fs => .obj Cl ns fs
  | .dK kds => .dct (kds.map (·.1)) (kds.map (·.2))
  | .tbl _ _ => .non
  | .gt _ => .non
def frzb : MO → Bool
  | .lst _ => true
  | .ins _ _ _ => true
  | .dK _ => true
  | .tbl _ _ => false
  | .gt _ => false
/-- what the frozen objects are: the later ones first -/
def mOf : List (Addr × MO) → Addr → Option D
  | [] => fun _ => none
  | (a, mo) :: r => fun b => if b = a then some (toDat (sbMO (mOf r) mo)) else mOf r b
structure Vw (K : PySem.W.Frag) (C C' H : Hp) (fz : Mem) : Prop where
  le : Le C C'
  sub : Le C' H
  only : ∀ b, b ∉ dom fz → C' b = C b
  fzE : ∀ p ∈ fz, C' p.1 = H p.1
  at_ : ∀ a d, mOf fz a = some d → Dat K C' (.ref a) d
theorem kall_zip {K : PySem.W.Frag} {C : Hp} : ∀ {kvs : List (Key × V)} {kds : List (Key × D)}, KAll K C kvs kds → ∃ vs : List V, kvs = (kds.map (·.1)).zip vs ∧ (kds.map (·.1)).length = vs.length ∧ DatAll K C vs (kds.map (·.2))
  | _, _, .nil => ⟨[], rfl, rfl, .nil⟩
  | _, _, .cons (v := v) r t => by
    obtain ⟨vs, e, l, a⟩ := kall_zip t
    exact ⟨v :: vs, by rw [e]; rfl, by simp only [List.map_cons, List.length_cons, l], .cons r a⟩
theorem vw_of : ∀ {fz ν : Mem}, MemOk K C H (fz ++ ν) → Le C H → (∀ p ∈ fz, frzb p.2 = true) → ∃ C', Vw K C C' H fz
  | [], ν, _, s, _ => ⟨C, Le.refl _, s, fun _ _ => rfl, fun p hp => by (cases hp), fun a d h => by (cases h)⟩
  | (a, mo) :: r, ν, m0, s, hf => by
    have m1 : MemOk K C H (r ++ ν) := MemOk.tail (x := a) (m := mo) m0
    obtain ⟨C1, V⟩ := vw_of m1 s fun p hp => hf p (List.mem_cons_of_mem _ hp)
    obtain ⟨eC, o, ho, hq⟩ := m0.ok (a, mo) List.mem_cons_self
    have eC : C a = none := eC
    have ho : H a = some o := ho
    have nr : a ∉ dom r := fun z => by
      have nd := m0.nd
      rw [List.cons_append, dom_cons, List.nodup_cons] at nd
      exact nd.1 (by rw [dom_app]; exact List.mem_append_left _ z)
    have c1 : C1 a = none := (V.only a nr).trans eC
    have l1 : Le C1 (L2.upd C1 a o) := Le.new c1
    refine ⟨L2.upd C1 a o, V.le.trans l1, V.sub.upd1 ho, fun b hb => ?_, fun p hp => ?_, fun b d hd => ?_⟩
    · rw [dom_cons, List.mem_cons, not_or] at hb
      rw [upd_ne hb.1]
      exact V.only b hb.2
    · rcases List.mem_cons.mp hp with rfl | hp
      · exact upd_same.trans ho.symm
      · rw [upd_ne (fun z => nr (by rw [← z]; exact List.mem_map.mpr ⟨p, hp, rfl⟩))]
        exact V.fzE p hp
    · have hd : (if b = a then some (toDat (sbMO (mOf r) mo)) else mOf r b) = some d := hd
      by_cases hb : b = a
      · rw [if_pos hb] at hd
        cases hd
        rw [hb]
        have hfm := hf (a, mo) List.mem_cons_self
        cases mo with
        | lst ds =>
          obtain ⟨vs, rfl, ha⟩ := hq
          exact .lst upd_same (DatAll.mono l1 _ _ (DatAll.sb V.le V.at_ _ _ ha))
        | ins Cl ns fs =>
          obtain ⟨dx, vs, rfl, hl, ha⟩ := hq
          exact .obj upd_same hl (DatAll.mono l1 _ _ (DatAll.sb V.le V.at_ _ _ ha))
        | dK kds =>
          obtain ⟨kvs, rfl, ha⟩ := hq
          obtain ⟨vs, rfl, hl, ha⟩ := kall_zip ha
          have ek : (kds.map fun p => (p.1, sbD (mOf r) p.2)).map (·.1) = kds.map (·.1) := by rw [List.map_map]; rfl
          have ed : (kds.map fun p => (p.1, sbD (mOf r) p.2)).map (·.2) = sbDs (mOf r) (kds.map (·.2)) := by rw [sbDs_map, List.map_map, List.map_map]; rfl
          show Dat K _ (.ref a) (.dct ((kds.map fun p => (p.1, sbD (mOf r) p.2)).map (·.1)) ((kds.map fun p => (p.1, sbD (mOf r) p.2)).map (·.2)))
          rw [ek, ed]
          exact .dct upd_same hl (DatAll.mono l1 _ _ (DatAll.sb V.le V.at_ _ _ ha))
        | tbl q cs => cases hfm
        | gt g => cases hfm
      · rw [if_neg hb] at hd
        exact Dat.mono l1 _ _ (V.at_ b d hd)
/-! what does not lean on lists -/
mutual
def fltD : D → Bool
  | .non => true
  | .bl _ => true
  | .int _ => true
  | .str _ => true
  | .tup xs => fltDs xs
  | _ => false
def fltDs : List D → Bool
  | [] => true
  | d :: ds => fltD d && fltDs ds
end
mutual
theorem Dat.unf (h : ∀ a xs, Rd C a (.tup xs) → Rd C' a (.tup xs)) : ∀ (d : D) (v : V), fltD d = true → Dat K C v d → Dat K C' v d
  | .non, _, _, .non => .non
  | .bl _, _, _, .bl b => .bl b
  | .int _, _, _, .int b => .int b
  | .str _, _, _, .str b => .str b
  | .tup ds, _, f, .tup q a => .tup (h _ _ q) (DatAll.unf h ds _ (by simpa [fltD] using f) a)
  | .lst _, _, f, _ => by simp [fltD] at f
  | .obj _ _ _, _, f, _ => by simp [fltD] at f
  | .adr _, _, f, _ => by simp [fltD] at f
  | .ext _, _, f, _ => by simp [fltD] at f
  | .lsq _, _, f, _ => by simp [fltD] at f
  | .dct _ _, _, f, _ => by simp [fltD] at f
theorem DatAll.unf (h : ∀ a xs, Rd C a (.tup xs) → Rd C' a (.tup xs)) : ∀ (ds : List D) (vs : List V), fltDs ds = true → DatAll K C vs ds → DatAll K C' vs ds
  | [], _, _, .nil => .nil
  | d :: ds, _, f, .cons q t => by
    rw [fltDs, Bool.and_eq_true] at f
    exact .cons (Dat.unf h d _ f.1 q) (DatAll.unf h ds _ f.2 t)
end
theorem fltDs_all : ∀ {ds : List D}, (∀ d ∈ ds, fltD d = true) → fltDs ds = true
  | [], _ => rfl
  | d :: ds, h => by rw [fltDs, h d List.mem_cons_self, fltDs_all fun x hx => h x (List.mem_cons_of_mem _ hx)]; rfl
end
/-- the slots, as they are seen (what is not needed is left out) -/
inductive Sbs (m : Addr → Option D) : Sd → Sd → Prop
  | nil : Sbs m [] []
  | no {o : Option D} {δ δ' : Sd} : Sbs m δ δ' → Sbs m (o :: δ) (none :: δ')
  | yes {d d' : D} {δ δ' : Sd} : sbD m d = d' → Sbs m δ δ' → Sbs m (some d :: δ) (some d' :: δ')
theorem Sbs.len {m : Addr → Option D} : ∀ {δ δ' : Sd}, Sbs m δ δ' → δ.length = δ'.length
  | _, _, .nil => rfl
  | _, _, .no h => congrArg (· + 1) h.len
  | _, _, .yes _ h => congrArg (· + 1) h.len
theorem Sbs.at {m : Addr → Option D} : ∀ {δ δ' : Sd} {i : Nat} {d' : D}, Sbs m δ δ' → δ'[i]? = some (some d') → ∃ d, δ[i]? = some (some d) ∧ sbD m d = d'
  | _, _, 0, _, .no h, e => by simp at e
  | _, _, i + 1, _, .no h, e => by
    obtain ⟨d, a, b⟩ := h.at (i := i) (by simpa using e)
    exact ⟨d, by simpa using a, b⟩
  | _, _, 0, _, .yes (d := d) q h, e => by
    simp at e
    exact ⟨d, by simp, q.trans e⟩
  | _, _, i + 1, _, .yes q h, e => by
    obtain ⟨d, a, b⟩ := h.at (i := i) (by simpa using e)
    exact ⟨d, by simpa using a, b⟩
  | _, _, _, _, .nil, e => by simp at e
section
variable {Γ : Gam} {δ δ' : Sd} {μ fz γ κ : Mem} {e : Expr} {d : D} {C C' H C2 H2 : Hp} {σ : L2.St}
abbrev Gam.noX (Γ : Gam) : Gam := { Γ with XP := NoX }
theorem Fits.noX {X : Cx} (hX : Fits Γ X) : Fits Γ.noX X := ⟨hX.prog, hX.w, hX.K, hX.mg, hX.base, hX.N, hX.nd, hX.sc, hX.qual, hX.code, hX.calm, hX.room, hX.tk, hX.po, hX.fn, hX.kn⟩
theorem view_in (w : Wd Γ C H σ δ (fz ++ (γ ++ κ))) (hg : ∀ p ∈ γ, ∃ g, p.2 = MO.gt g) (hs : Sbs (mOf fz) δ δ') (V : Vw Γ.K C C' H fz) : Wd Γ.noX C' H σ δ' γ := by
  have nd := w.mem.nd
  rw [dom_app, List.nodup_append] at nd
  have nd2 := nd.2.1
  rw [dom_app, List.nodup_append] at nd2
  refine ⟨w.base.trans V.le, V.sub, w.len.trans hs.len, fun i d' e => ?_, ⟨nd2.1, fun p hp => ?_⟩, fun _ _ _ _ _ _ _ _ x => x.elim⟩
  · obtain ⟨d, h1, h2⟩ := hs.at e
    obtain ⟨v, h3, h4⟩ := w.sl i d h1
    exact ⟨v, h3, h2 ▸ Dat.sb V.le V.at_ _ _ h4⟩
  · obtain ⟨e1, o, ho, q⟩ := w.mem.ok p (List.mem_append_right _ (List.mem_append_left _ hp))
    have np : p.1 ∉ dom fz := fun z => nd.2.2 _ z _ (by rw [dom_app]; exact List.mem_append_left _ (List.mem_map.mpr ⟨p, hp, rfl⟩)) rfl
    exact ⟨(V.only _ np).trans e1, o, ho, q.mono V.le⟩
theorem view_out (w : Wd Γ C H σ δ (fz ++ (γ ++ κ))) (hf : ∀ p ∈ fz, frzb p.2 = true) (hg : ∀ p ∈ γ, ∃ g, p.2 = MO.gt g) (V : Vw Γ.K C C' H fz) (g2 : Gr γ γ C' H C2 H2) (l2 : Le C2 H2) (m2 : MemOk Γ.K C2 H2 γ) :
    ∃ C3, Gr (fz ++ (γ ++ κ)) (fz ++ (γ ++ κ)) C H C3 H2 ∧ Wd Γ C3 H2 σ δ (fz ++ (γ ++ κ)) ∧ ∀ a xs, Rd C2 a (.tup xs) → Rd C3 a (.tup xs) := by
  have nd := w.mem.nd
  rw [dom_app, List.nodup_append] at nd
  have nd2 := nd.2.1
  rw [dom_app, List.nodup_append] at nd2
  have ng : ∀ p ∈ γ, p.1 ∉ dom fz := fun p hp z => nd.2.2 _ z _ (by rw [dom_app]; exact List.mem_append_left _ (List.mem_map.mpr ⟨p, hp, rfl⟩)) rfl
  have nk : ∀ p ∈ κ, p.1 ∉ dom fz := fun p hp z => nd.2.2 _ z _ (by rw [dom_app]; exact List.mem_append_right _ (List.mem_map.mpr ⟨p, hp, rfl⟩)) rfl
  have nkg : ∀ p ∈ κ, p.1 ∉ dom γ := fun p hp z => nd2.2.2 _ z _ (List.mem_map.mpr ⟨p, hp, rfl⟩) rfl
  -- what stands at the frozen places
  have shape : ∀ b ∈ dom fz, ∃ o, C2 b = some o ∧ ((∃ vs, o = .lst vs) ∨ (∃ c x fs, o = .ins c x fs) ∨ ∃ kv, o = .dK kv) := fun b hb => by
    obtain ⟨p, hp, rfl⟩ := List.mem_map.mp hb
    obtain ⟨_, o, ho, q⟩ := w.mem.ok p (List.mem_append_left _ hp)
    refine ⟨o, g2.core _ _ ((V.fzE p hp).trans ho), ?_⟩
    have hfm := hf p hp
    obtain ⟨a, mo⟩ := p
    cases mo with
    | lst ds => obtain ⟨vs, e, _⟩ := q; exact .inl ⟨_, e⟩
    | ins Cl ns fs => obtain ⟨dx, vs, e, _⟩ := q; exact .inr (.inl ⟨_, _, _, e⟩)
    | dK kds => obtain ⟨kvs, e, _⟩ := q; exact .inr (.inr ⟨_, e⟩)
    | tbl q cs => cases hfm
    | gt g => cases hfm
  have notf : ∀ b o, C2 b = some o → (∀ vs, o ≠ .lst vs) → (∀ c x fs, o ≠ .ins c x fs) → (∀ kv, o ≠ .dK kv) → b ∉ dom fz := fun b o e h1 h2 h3 z => by
    obtain ⟨o', e', q⟩ := shape b z
    rw [e] at e'
    cases e'
    rcases q with ⟨vs, q⟩ | ⟨c, x, fs, q⟩ | ⟨kv, q⟩
    · exact h1 _ q
    · exact h2 _ _ _ q
    · exact h3 _ q
  have c3 : ∀ b, b ∉ dom fz → (fun b => if b ∈ dom fz then none else C2 b) b = C2 b := fun b hb => if_neg hb
  have lC : Le C fun b => if b ∈ dom fz then none else C2 b := fun b o e => by
    have nb : b ∉ dom fz := fun z => by
      obtain ⟨p, hp, rfl⟩ := List.mem_map.mp z
      obtain ⟨e1, _⟩ := w.mem.ok p (List.mem_append_left _ hp)
      rw [e1] at e
      cases e
    exact (c3 b nb).trans (g2.core _ _ ((V.only b nb).trans e))
  have g3 : Gr (fz ++ (γ ++ κ)) (fz ++ (γ ++ κ)) C H (fun b => if b ∈ dom fz then none else C2 b) H2 := by
    refine ⟨lC, fun b h1 h2 h3 => ?_, fun b o h1 h2 => ?_, g2.there, fun b hb => .inl hb⟩
    · rw [dom_app, List.mem_append, not_or, dom_app, List.mem_append, not_or] at h2
      exact (c3 b h2.1).trans (g2.new b h1 h2.2.1 ((V.only b h2.1).trans h3))
    · rw [dom_app, List.mem_append, not_or, dom_app, List.mem_append, not_or] at h1
      exact g2.keep b o h1.2.1 h2
  have l3 : Le (fun b => if b ∈ dom fz then none else C2 b) H2 := fun b o e => by
    have e : (if b ∈ dom fz then none else C2 b) = some o := e
    split at e
    · cases e
    · exact l2 _ _ e
  have m3 : MemOk Γ.K (fun b => if b ∈ dom fz then none else C2 b) H2 (fz ++ (γ ++ κ)) := by
    refine ⟨w.mem.nd, fun p hp => ?_⟩
    rcases List.mem_append.mp hp with z | z
    · obtain ⟨e1, o, ho, q⟩ := w.mem.ok p hp
      exact ⟨if_pos (List.mem_map.mpr ⟨p, z, rfl⟩), o, l2 _ _ (g2.core _ _ ((V.fzE p z).trans ho)), q.mono lC⟩
    · rcases List.mem_append.mp z with z | z
      · obtain ⟨e1, o, ho, q⟩ := m2.ok p z
        refine ⟨(c3 _ (ng p z)).trans e1, o, ho, ?_⟩
        obtain ⟨g, eg⟩ := hg p z
        rw [eg] at q ⊢
        obtain ⟨ps, e2, htr, hall⟩ := q
        refine ⟨ps, e2, htr, fun cv hcv => ?_⟩
        obtain ⟨c2, P2, x1, x2, x3⟩ := hall cv hcv
        exact ⟨c2, P2, x1, (c3 c2 (notf _ _ x2 (fun _ z => by cases z) (fun _ _ _ z => by cases z) (fun _ z => by cases z))).trans x2, (c3 P2 (notf _ _ x3 (fun _ z => by cases z) (fun _ _ _ z => by cases z) (fun _ z => by cases z))).trans x3⟩
      · obtain ⟨e1, o, ho, q⟩ := w.mem.ok p hp
        exact ⟨(c3 _ (nk p z)).trans (g2.new _ (by rw [ho]; simp) (nkg p z) ((V.only _ (nk p z)).trans e1)), o, g2.keep _ _ (nkg p z) ho, q.mono lC⟩
  refine ⟨_, g3, w.gr g3 l3 m3, fun a xs r => ?_⟩
  rcases r with r | ⟨ob, r⟩
  · exact .inl ((c3 a (notf _ _ r (fun _ z => by cases z) (fun _ _ _ z => by cases z) (fun _ z => by cases z))).trans r)
  · exact .inr ⟨ob, (c3 a (notf _ _ r (fun _ z => by cases z) (fun _ _ _ z => by cases z) (fun _ z => by cases z))).trans r⟩
/-- looked at while all of fz stands still -/
theorem ev_view (pm : μ.Perm (fz ++ (γ ++ κ))) (hf : ∀ p ∈ fz, frzb p.2 = true) (hg : ∀ p ∈ γ, ∃ g, p.2 = MO.gt g) (hs : Sbs (mOf fz) δ δ') (h : Ev Γ.noX δ' γ e d) (hd : fltD d = true) : Ev Γ δ μ e d := fun X hX σ C H Q w k => by
  have w := w.perm pm
  obtain ⟨C', V⟩ := vw_of w.mem w.sub hf
  refine h X hX.noX σ C' H Q (view_in w hg hs V) fun v d1 μ1 C2 H2 g2 w2 r2 ⟨e1, e2⟩ => ?_
  subst e1; subst e2
  obtain ⟨C3, g3, w3, ht⟩ := view_out w hf hg V g2 w2.sub w2.mem
  exact k v d1 μ C3 H2 ((g3.perm pm).permR pm.symm) (w3.perm pm.symm) (Dat.unf ht _ _ hd r2) ⟨rfl, rfl⟩
theorem tv_view {t : Bool} (pm : μ.Perm (fz ++ (γ ++ κ))) (hf : ∀ p ∈ fz, frzb p.2 = true) (hg : ∀ p ∈ γ, ∃ g, p.2 = MO.gt g) (hs : Sbs (mOf fz) δ δ') (h : Tv Γ.noX δ' γ e t) : Tv Γ δ μ e t := fun X hX σ C H Q w k => by
  have w := w.perm pm
  obtain ⟨C', V⟩ := vw_of w.mem w.sub hf
  refine h X hX.noX σ C' H Q (view_in w hg hs V) fun b μ1 C2 H2 g2 w2 ⟨e1, e2⟩ => ?_
  subst e1; subst e2
  obtain ⟨C3, g3, w3, ht⟩ := view_out w hf hg V g2 w2.sub w2.mem
  exact k b μ C3 H2 ((g3.perm pm).permR pm.symm) (w3.perm pm.symm) ⟨rfl, rfl⟩
end
end Dl

set_option maxRecDepth 100000
set_option maxHeartbeats 2000000
/-! Comprehensions, dicts and lists that change. -/
namespace Dl
open PySem PySem.Spec PyProof.Rows L2
section
variable {Γ : Gam} {δ : Sd} {μ : Mem} {elt tg iter c : Expr} {ifs : List Expr} {P : Pst} {pos : Pos} {scope : Scope} {own : List (Str × Nat)} {ixs : List Nat}
theorem lc_rdM (own : List (Str × Nat)) (ixs : List Nat) (ok : BlkOk Γ.N Γ.sc scope own) (hv : ∀ j ∈ ixs, j ∈ own.map (·.2)) (h : Iw Γ δ μ tg iter fun ds μ1 => ds.length ≤ 100000 ∧ ∃ I : Nat → List D → Mem → Prop, I 0 [] μ1 ∧
    (∀ i d acc μ', ds[i]? = some d → I i acc μ' → Tg (Γ.blk scope) tg ixs d (wipeD δ (own.map (·.2))) μ' fun δ2 μ2 => Cw (Γ.blk scope) δ2 μ2 ifs fun b μ3 => (b = true → Ew (Γ.blk scope) δ2 μ3 elt fun y μ4 => I (i + 1) (acc ++ [y]) μ4) ∧ (b = false → I (i + 1) acc μ3)) ∧ ∀ q acc μ', I ds.length acc μ' → P (.adr q) ((q, .lst acc) :: μ')) {X : Cx} (hX : Fits Γ X) {σ : L2.St} {C H : Hp} {Q : VK} (w : Wd Γ C H σ δ μ) (k : ∀ v d μ' C' H', Gr μ μ' C H C' H' → Wd Γ C' H' σ δ μ' → Dat Γ.K C' v d → P d μ' → Q v H') :
    tLc (wI X tg iter) (gB X scope tg) (ttB X scope ifs) (teB X scope elt) (own.map (·.2)) σ H Q := by
  refine h X hX σ C H _ w fun J ds μ1 C1 H1 g1 w1 wk ⟨hlen, I, i0, step, fin⟩ D0 hD => ?_
  have cD : C1 D0 = none := w1.sub.none hD
  -- the state of a turn
  let St' : Nat → Hp → Prop := fun i H' => ∃ C' acc vs μ', Gr ((D0, .lst []) :: μ1) ((D0, .lst acc) :: μ') C1 (upd H1 D0 (.lst [])) C' H' ∧ Le C' H' ∧ MemOk Γ.K C' H' ((D0, .lst acc) :: μ') ∧ H' D0 = some (.lst vs) ∧ DatAll Γ.K C' vs acc ∧ acc.length ≤ i ∧ I i acc μ'
  have toWd : ∀ {C' H' : Hp} {μ' : Mem}, Le C1 C' → Le C' H' → MemOk Γ.K C' H' μ' → Wd (Γ.blk scope) C' H' (wipe σ (own.map (·.2))) (wipeD δ (own.map (·.2))) μ' := fun {C' H' μ'} l1 l2 mo =>
    ⟨w1.base.trans l1, l2, (w1.blk (scope := scope)).len, fun i d e => by
      obtain ⟨v, e1, e2⟩ := (w1.blk (scope := scope) (vs := own.map (·.2))).sl i d e
      exact ⟨v, e1, Dat.mono l1 _ _ e2⟩, mo, fun _ _ _ _ _ _ _ _ x => x.elim⟩
  refine ⟨fun i m H' => m = ds.length - i ∧ i ≤ ds.length ∧ St' i H', ⟨_, rfl, Nat.zero_le _, C1, [], [], μ1, Gr.refl, w1.sub.updH cD, w1.mem.newM hD w1.sub ⟨[], rfl, .nil⟩, upd_same, .nil, Nat.le_refl _, i0⟩, ?_⟩
  rintro i m H' ⟨rfl, hi, C', acc, vs, μ', g, l, mo, hH, ha, hl, hI⟩
  obtain ⟨wgo, wst⟩ := wk i C' H' g.core l
  by_cases hlt : i < ds.length
  · refine .inr ?_
    obtain ⟨hgo, hy⟩ := wgo _ (List.getElem?_eq_getElem hlt)
    refine ⟨hgo, St' (i + 1), fun H3 h3 => ⟨ds.length - (i + 1), by omega, rfl, hlt, h3⟩, fun x H2 hx X' hb => ?_⟩
    obtain ⟨C2, n2, r2⟩ := hy x H2 hx
    have mo2 := n2.mem mo
    have stay : ∀ {μa μb : Mem} {Ca Ha Cb Hb : Hp} {va : List V} {acca : List D}, MemOk Γ.K Ca Ha ((D0, .lst acca) :: μa) → Gr μa μb Ca Ha Cb Hb → Ha D0 = some (.lst va) → MemOk Γ.K Cb Hb μb → DatAll Γ.K Ca va acca → Hb D0 = some (.lst va) ∧ MemOk Γ.K Cb Hb ((D0, .lst acca) :: μb) := fun {μa μb Ca Ha Cb Hb va acca} m1 gg e m2 da => by
      have nd := m1.nd
      rw [dom_cons, List.nodup_cons] at nd
      have e2 := gg.keep _ _ nd.1 e
      refine ⟨e2, ⟨?_, fun p hp => ?_⟩⟩
      · rw [dom_cons, List.nodup_cons]
        refine ⟨fun z => ?_, m2.nd⟩
        rcases gg.dom _ z with z | z
        · exact nd.1 z
        · rw [e] at z
          cases z
      · rcases List.mem_cons.mp hp with z | z
        · subst z
          exact ⟨gg.new _ (by rw [e]; simp) nd.1 (m1.ok _ List.mem_cons_self).1, _, e2, va, rfl, DatAll.mono gg.core _ _ da⟩
        · exact m2.ok p z
    refine step i _ acc μ' (List.getElem?_eq_getElem hlt) hI X' (hX.blk hb) _ C2 H2 x _ (toWd (g.core.trans n2.core) n2.sub mo2.tail) r2 fun σ3 δ3 μ3 C3 H3 ag g3 w3 q3 => ?_
    have h2D := n2.keep _ _ hH
    obtain ⟨h3D, mo3⟩ := stay mo2 g3 h2D w3.mem (DatAll.mono n2.core _ _ ha)
    refine ⟨ag.wipe hv, fun X'' hb2 => ?_⟩
    refine q3 X'' (hX.blk hb2) σ3 C3 H3 _ w3 fun b μ4 C4 H4 g4 w4 q4 => ?_
    have da3 := DatAll.mono (n2.core.trans g3.core) _ _ ha
    obtain ⟨h4D, mo4⟩ := stay mo3 g4 h3D w4.mem da3
    have da4 := DatAll.mono g4.core _ _ da3
    have gg : Gr ((D0, .lst []) :: μ1) ((D0, .lst acc) :: μ4) C1 (upd H1 D0 (.lst [])) C4 H4 := ((g.trans n2.gr).trans (g3.cons (m := .lst acc) (m' := .lst acc))).trans (g4.cons (m := .lst acc) (m' := .lst acc))
    cases b with
    | false => exact ⟨C4, acc, vs, μ4, gg, w4.sub, mo4, h4D, da4, Nat.le_succ_of_le hl, q4.2 rfl⟩
    | true =>
      show ∀ X', Blk X scope X' → wE X' elt σ3 H4 _
      intro X3 hb3
      refine q4.1 rfl X3 (hX.blk hb3) σ3 C4 H4 _ w4 fun v y μ5 C5 H5 g5 w5 r5 q5 => ?_
      obtain ⟨h5D, mo5⟩ := stay mo4 g5 h4D w5.mem da4
      have da5 := DatAll.mono g5.core _ _ da4
      have da6 : DatAll Γ.K C5 (vs ++ [v]) (acc ++ [y]) := da5.append (.cons r5 .nil)
      have cD5 : C5 D0 = none := (mo5.ok _ List.mem_cons_self).1
      refine ⟨vs, h5D, ?_, C5, acc ++ [y], vs ++ [v], μ5, (gg.trans (g5.cons (m := .lst acc) (m' := .lst acc))).trans (Gr.upd (by rw [dom_cons]; exact List.mem_cons_self) fun b hb => hb), w5.sub.updH cD5, mo5.upd ⟨_, rfl, da6⟩, upd_same, da6, by simp; omega, q5⟩
      have e1 := da5.len
      exact Nat.lt_of_le_of_lt (by omega : vs.length ≤ 100000) (by decide)
  · have e : i = ds.length := by omega
    subst e
    refine .inl ⟨wst (Nat.le_refl _), ?_⟩
    have cD' : C' D0 = none := (mo.ok _ List.mem_cons_self).1
    have gf : Gr μ ((D0, .lst acc) :: μ') C H C' H' := (g1.trans (Gr.newM hD)).trans g
    exact k _ _ _ _ _ gf (w.gr gf l mo) (.adr D0) (fin D0 acc μ' hI)
theorem ew_lcM (own : List (Str × Nat)) (ixs : List Nat) (ok : BlkOk Γ.N Γ.sc scope own) (hv : ∀ j ∈ ixs, j ∈ own.map (·.2)) (h : Iw Γ δ μ tg iter fun ds μ1 => ds.length ≤ 100000 ∧ ∃ I : Nat → List D → Mem → Prop, I 0 [] μ1 ∧
    (∀ i d acc μ', ds[i]? = some d → I i acc μ' → Tg (Γ.blk scope) tg ixs d (wipeD δ (own.map (·.2))) μ' fun δ2 μ2 => Cw (Γ.blk scope) δ2 μ2 ifs fun b μ3 => (b = true → Ew (Γ.blk scope) δ2 μ3 elt fun y μ4 => I (i + 1) (acc ++ [y]) μ4) ∧ (b = false → I (i + 1) acc μ3)) ∧ ∀ q acc μ', I ds.length acc μ' → P (.adr q) ((q, .lst acc) :: μ'))
    (hs : ∀ env x, foldedSetIterable iter env x = pure x := by intro _ _; rfl) : Ew Γ δ μ (.ListComp elt [⟨tg, iter, ifs, 0⟩] scope pos) P := fun X hX σ C H Q w k =>
  PEw (pe_lc (g := gB X scope tg) (tt := ttB X scope ifs) (te := teB X scope elt) hX.calm (by rw [hX.N]; exact hX.nd) wI_pi (own := own) (by rw [hX.N, hX.sc]; exact ok)
    (fun s H C cl fp => ⟨fun pins s' σ H v u Q I r q => q _ (blkI _ _ _ _ _) pins s' u I r⟩) (fun s H C cl fp => ⟨fun pins s' σ H Q I q => q _ (blkI _ _ _ _ _) pins s' I⟩) (fun s H C cl fp => ⟨fun pins s' σ H Q I q => q _ (blkI _ _ _ _ _) pins s' I⟩) (hs _)) (lc_rdM own ixs ok hv h hX w k)
end
/-! ### dicts -/
def valD (kds : List (Key × D)) (k : Key) : Option D := (kds.find? fun kd => decide (kd.1 = k)).map (·.2)
def putD (kds : List (Key × D)) (k : Key) (d : D) : List (Key × D) := if (kds.any fun kd => decide (kd.1 = k)) = true then kds.map (fun kd => if kd.1 = k then (kd.1, d) else kd) else kds ++ [(k, d)]
def mergeD (kds more : List (Key × D)) : List (Key × D) := more.foldl (fun acc kd => putD acc kd.1 kd.2) kds
section
variable {K : PySem.W.Frag} {C : Hp}
theorem KAll.val {k : Key} {d : D} : ∀ {kvs : List (Key × V)} {kds : List (Key × D)}, KAll K C kvs kds → valD kds k = some d → ∃ v, valV kvs k = some v ∧ Dat K C v d
  | _, _, .nil, h => by cases h
  | _, _, .cons (k := k') (v := v) (d := d') r t, h => by
    by_cases e : k' = k
    · have h' : some d' = some d := by rw [← h]; simp [valD, List.find?_cons, e]
      cases h'
      exact ⟨v, valV_pos e, r⟩
    · obtain ⟨v2, h1, h2⟩ := KAll.val t (k := k) (d := d) (by rw [← h]; simp [valD, List.find?_cons, e])
      exact ⟨v2, by rw [valV_neg e]; exact h1, h2⟩
theorem KAll.any_eq (k : Key) : ∀ {kvs : List (Key × V)} {kds : List (Key × D)}, KAll K C kvs kds → (kvs.any fun kv => decide (kv.1 = k)) = kds.any fun kd => decide (kd.1 = k)
  | _, _, .nil => rfl
  | _, _, .cons r t => by rw [List.any_cons, List.any_cons, KAll.any_eq k t]
theorem KAll.len : ∀ {kvs : List (Key × V)} {kds : List (Key × D)}, KAll K C kvs kds → kvs.length = kds.length
  | _, _, .nil => rfl
  | _, _, .cons r t => congrArg (· + 1) (KAll.len t)
theorem KAll.keys : ∀ {kvs : List (Key × V)} {kds : List (Key × D)}, KAll K C kvs kds → kvs.map (·.1) = kds.map (·.1)
  | _, _, .nil => rfl
  | _, _, .cons r t => by rw [List.map_cons, List.map_cons, KAll.keys t]
theorem KAll.append : ∀ {a b : List (Key × V)} {c d : List (Key × D)}, KAll K C a c → KAll K C b d → KAll K C (a ++ b) (c ++ d)
  | _, _, _, _, .nil, h => h
  | _, _, _, _, .cons r t, h => .cons r (KAll.append t h)
theorem KAll.mapput {k : Key} {v : V} {d : D} (r0 : Dat K C v d) : ∀ {kvs : List (Key × V)} {kds : List (Key × D)}, KAll K C kvs kds → KAll K C (kvs.map (fun kv => if kv.1 = k then (kv.1, v) else kv)) (kds.map (fun kd => if kd.1 = k then (kd.1, d) else kd))
  | _, _, .nil => .nil
  | _, _, .cons (k := k') r t => by
    rw [List.map_cons, List.map_cons]
    by_cases e : k' = k
    · rw [if_pos e, if_pos e]
      exact .cons r0 (KAll.mapput r0 t)
    · rw [if_neg e, if_neg e]
      exact .cons r (KAll.mapput r0 t)
theorem KAll.put {k : Key} {v : V} {d : D} {kvs : List (Key × V)} {kds : List (Key × D)} (h : KAll K C kvs kds) (r : Dat K C v d) : KAll K C (putK kvs k v) (putD kds k d) := by
  unfold putK putD
  rw [h.any_eq k]
  split
  · exact h.mapput r
  · exact h.append (.cons r .nil)
theorem KAll.merge : ∀ {more : List (Key × V)} {mored : List (Key × D)} {kvs : List (Key × V)} {kds : List (Key × D)}, KAll K C more mored → KAll K C kvs kds → KAll K C (mergeK kvs more) (mergeD kds mored)
  | _, _, _, _, .nil, h => h
  | _ :: _, _ :: _, _, _, .cons r t, h => by
    show KAll K C (mergeK (putK _ _ _) _) (mergeD (putD _ _ _) _)
    exact KAll.merge t (h.put r)
theorem kall_of_zip : ∀ {ks : List Key} {vs : List V} {ds : List D}, DatAll K C vs ds → KAll K C (ks.zip vs) (ks.zip ds)
  | [], _, _, _ => .nil
  | _ :: _, _, _, .nil => .nil
  | _ :: _, _, _, .cons r t => .cons r (kall_of_zip t)
theorem putD_len (kds : List (Key × D)) (k : Key) (d : D) : (putD kds k d).length ≤ kds.length + 1 := by
  unfold putD
  split <;> simp
end
section
variable {Γ : Gam} {δ : Sd} {μ : Mem} {e o a b c i : Expr} {es : List Expr} {d : D} {ds : List D} {P : Pst} {pos p apos cpos : Pos} {F : Fin} {l x : Addr} {kds : List (Key × D)} {s : Str}
theorem ev_dget (ho : Ev Γ δ μ o (.adr x)) (hm : (x, MO.dK kds) ∈ μ) (hi : Ev Γ δ μ i (.str s)) (hv : valD kds (.inr s) = some d) (hs : NoSl i := by intro _ _; rfl) : Ev Γ δ μ (.Subscript o i pos) d := fun X hX σ C H Q w k =>
  PEw (pe_dget (by have := hX.room.units; omega) wE_pe wE_pe hs) (ho X hX σ C H _ w fun v1 d1 μ1 C1 H1 g1 w1 r1 ⟨e1, e2⟩ => by
    subst e1; subst e2
    cases r1
    refine hi X hX σ C1 H1 _ w1 fun v2 d2 μ2 C2 H2 g2 w2 r2 ⟨e1, e2⟩ => ?_
    subst e1; subst e2
    cases r2
    obtain ⟨_, o2, ho2, kvs, eo2, ha⟩ := w2.mem.ok _ hm
    subst eo2
    obtain ⟨v, hv1, hv2⟩ := ha.val hv
    exact ⟨x, v, rfl, .inl ⟨kvs, .inr s, .inl ho2, rfl, hv1.symm⟩, k _ _ _ _ _ (g1.trans g2) w2 hv2 ⟨rfl, rfl⟩⟩)
theorem ev_dgetF {ks : List Key} (ho : Ev Γ δ μ o (.dct ks ds)) (hi : Ev Γ δ μ i (.str s)) (hv : valD (ks.zip ds) (.inr s) = some d) (hs : NoSl i := by intro _ _; rfl) : Ev Γ δ μ (.Subscript o i pos) d := fun X hX σ C H Q w k =>
  PEw (pe_dget (by have := hX.room.units; omega) wE_pe wE_pe hs) (ho X hX σ C H _ w fun v1 d1 μ1 C1 H1 g1 w1 r1 ⟨e1, e2⟩ => by
    subst e1; subst e2
    refine hi X hX σ C1 H1 _ w1 fun v2 d2 μ2 C2 H2 g2 w2 r2 ⟨e1, e2⟩ => ?_
    subst e1; subst e2
    cases r2
    cases Dat.mono g2.core _ _ r1 with | dct h1 h2 h3 =>
    obtain ⟨v, hv1, hv2⟩ := (kall_of_zip h3).val hv
    exact ⟨_, v, rfl, .inl ⟨_, .inr s, .inl (w2.sub _ _ h1), rfl, hv1.symm⟩, k _ _ _ _ _ (g1.trans g2) w2 hv2 ⟨rfl, rfl⟩⟩)
theorem tg_dset {Q' : Sd → Mem → Prop} {ν1 ν2 : Mem} (ho : Ev Γ δ (ν1 ++ (x, .dK kds) :: ν2) o (.adr x)) (hi : Ev Γ δ (ν1 ++ (x, .dK kds) :: ν2) a (.str s)) (hl : kds.length < 100000) (h : Q' δ (ν1 ++ (x, .dK (putD kds (.inr s) d)) :: ν2))
    (ha : ∀ env v, assign (.Subscript o a pos) env v = (do
      let ov ← holding [v] (eval o env)
      let iv ← holding [v, ov] (eval a env)
      standAt pos
      holding [v, ov, iv] (setItem ov iv v)
      release [v, ov, iv] []) := by intro _ _; rfl) : Tg Γ (.Subscript o a pos) [] d δ (ν1 ++ (x, .dK kds) :: ν2) Q' := fun X hX σ C H v Q w r k =>
  PGw (pg_sub wE_pe wE_pe (set_dict (by have := hX.room.units; omega)) (ha _)) (ho X hX σ C H _ w fun v1 d1 μ1 C1 H1 g1 w1 r1 ⟨e1, e2⟩ => by
    subst e1; subst e2
    cases r1
    refine hi X hX σ C1 H1 _ w1 fun v2 d2 μ2 C2 H2 g2 w2 r2 ⟨e1, e2⟩ => ?_
    subst e1; subst e2
    cases r2
    obtain ⟨eC, o, ho, kvs, eo, hda⟩ := w2.mem.at_
    subst eo
    have da : KAll Γ.K C2 (putK kvs (.inr s) v) (putD kds (.inr s) d) := hda.put (Dat.mono (g1.trans g2).core _ _ r)
    have gg : Gr (ν1 ++ (x, .dK kds) :: ν2) (ν1 ++ (x, .dK (putD kds (.inr s) d)) :: ν2) C H C2 (L2.upd H2 x (.dK (putK kvs (.inr s) v))) := (g1.trans g2).trans Gr.updM
    exact ⟨x, _, rfl, .inl ⟨kvs, .inr s, ho, rfl, Nat.lt_of_lt_of_le (by rw [hda.len]; exact hl) (by decide), rfl⟩, k σ δ _ _ _ Agr.refl gg (w.gr gg (w2.sub.updH eC) (w2.mem.updM ⟨_, rfl, da⟩)) h⟩)
/-! {k: v, ..} -/
def trsOf (X : Cx) : List (Option Expr) → List Expr → List (TE × TE)
  | some k :: ks, v :: vs => (wE X k, wE X v) :: trsOf X ks vs
  | _, _ => []
theorem pps_of {X : Cx} {pos : Pos} : ∀ {ks : List (Option Expr)} {vs : List Expr}, ks.all (·.isSome) = true → ks.length = vs.length → PPs X pos ks vs (trsOf X ks vs)
  | [], [], _, _ => pps_nil
  | some k :: ks, v :: vs, h, hl => pps_cons wE_pe wE_pe (pps_of (by simpa using h) (by simpa using hl))
  | none :: ks, _, h, _ => by simp at h
  | [], _ :: _, _, hl => by simp at hl
  | some _ :: _, [], _, hl => by simp at hl
def Pw (Γ : Gam) (δ : Sd) (μ : Mem) (ks : List (Option Expr)) (vs : List Expr) (P : List (Key × D) → Mem → Prop) : Prop := ∀ X, Fits Γ X → ∀ σ C H (Q : List (V × V) → Hp → Prop), Wd Γ C H σ δ μ →
  (∀ kvs kds μ' C' H', Gr μ μ' C H C' H' → Wd Γ C' H' σ δ μ' → KAll Γ.K C' kvs kds → P kds μ' → Q (kvs.map fun kv => (kV kv.1, kv.2)) H') → tPairs (trsOf X ks vs) σ H Q
theorem pw_nil {P : List (Key × D) → Mem → Prop} (h : P [] μ) : Pw Γ δ μ [] [] P := fun X hX σ C H Q w k => k [] [] μ C H Gr.refl w .nil h
theorem pw_cons {ks : List (Option Expr)} {vs : List Expr} {P : List (Key × D) → Mem → Prop} (h1 : Ev Γ δ μ a (.str s)) (h2 : Ew Γ δ μ b fun d μ1 => Pw Γ δ μ1 ks vs fun kds μ2 => P ((.inr s, d) :: kds) μ2) : Pw Γ δ μ (some a :: ks) (b :: vs) P := fun X hX σ C H Q w k =>
  h1 X hX σ C H _ w fun v1 d1 μ1 C1 H1 g1 w1 r1 ⟨e1, e2⟩ => by
    subst e1; subst e2
    cases r1
    refine h2 X hX σ C1 H1 _ w1 fun v2 d2 μ2 C2 H2 g2 w2 r2 q2 => ?_
    refine q2 X hX σ C2 H2 _ w2 fun kvs kds μ3 C3 H3 g3 w3 r3 q3 => ?_
    exact k ((.inr s, v2) :: kvs) _ μ3 C3 H3 ((g1.trans g2).trans g3) w3 (.cons (Dat.mono g3.core _ _ r2) r3) q3
theorem ew_disp {ks : List (Option Expr)} {vs : List Expr} (h : ∀ q, Pw Γ δ ((q, .dK []) :: μ) ks vs fun kds μ' => ∃ ν1 ν2, μ' = ν1 ++ (q, .dK []) :: ν2 ∧ kds.length ≤ 15 ∧ P (.adr q) (ν1 ++ (q, .dK (mergeD [] kds)) :: ν2))
    (hall : ks.all (·.isSome) = true := by rfl) (hl : ks.length = vs.length := by rfl) (h0 : ks ≠ [] := by simp) (h15 : ks.length ≤ 15 := by decide) : Ew Γ δ μ (.Dict ks vs pos) P := fun X hX σ C H Q w k =>
  PEw (pe_disp (pps_of hall hl) hall hl h0 h15) (fun q hq => by
    have gN : Gr μ ((q, .dK []) :: μ) C H C (L2.upd H q (.dK [])) := Gr.newM hq
    have wN : Wd Γ C (L2.upd H q (.dK [])) σ δ ((q, .dK []) :: μ) := w.gr gN (w.sub.updH (w.sub.none hq)) (w.mem.newM hq w.sub ⟨[], rfl, .nil⟩)
    refine h q X hX σ C _ _ wN fun kvs kds μ' C' H' g w' ha ⟨ν1, ν2, e, hlen, hp⟩ => ?_
    subst e
    obtain ⟨eC, o, ho, kv0, eo, h0⟩ := w'.mem.at_
    subst eo
    cases h0
    have gg : Gr μ (ν1 ++ (q, .dK (mergeD [] kds)) :: ν2) C H C' (L2.upd H' q (.dK (mergeK [] kvs))) := (gN.trans g).trans Gr.updM
    exact ⟨ho, kvs, rfl, by rw [ha.len]; exact hlen, k _ _ _ _ _ gg (w.gr gg (w'.sub.updH eC) (w'.mem.updM ⟨_, rfl, ha.merge .nil⟩)) (.adr q) hp⟩)
theorem ev_lenD {n : Int} (hf : Free Γ.mg) (ha : Ev Γ δ μ e (.adr x)) (hm : (x, MO.dK kds) ∈ μ) (hn : (kds.length : Int) = n) (hg : Γ.sc.names.lookup ("len" : Str) = some .globalImplicit := by rfl) (he : ∀ env, starEach [e] env = (false, eval e env) :: starEach [] env := by intro _; rfl) (hpl : ∀ env, (backTo pos (starEach [] env)).any (·.1) = false := by intro _; rfl) : Ev Γ δ μ (.Call (.Name "len" p) [e] [] pos) (.int n) := fun X hX σ C H Q w k =>
  PEw (pe_callB call_lenD (hX.gl hg) (by rw [hX.mg]; exact hf _ (by decide)) (by rfl) (pa_cons wE_pe pa_nil (he _)) (by decide) (by decide) (he _) (hpl _)) (ha X hX σ C H _ w fun v d' μ1 C1 H1 g1 w1 r1 ⟨e1, e2⟩ => by
    subst e1; subst e2
    cases r1
    obtain ⟨_, o2, ho2, kvs, eo2, ha⟩ := w1.mem.ok _ hm
    subst eo2
    exact ⟨x, kvs, rfl, ho2, k _ _ _ _ _ g1 w1 (by rw [ha.len, hn]; exact .int n) ⟨rfl, rfl⟩⟩)
theorem ew_sortedD {ks : List Str} (hf : Free Γ.mg) (ha : Ev Γ δ μ e (.adr x)) (hm : (x, MO.dK kds) ∈ μ) (hks : kds.map (·.1) = ks.map Sum.inr) (h64 : ks.length < 64) (h : ∀ ys : List Str, ys.Perm ks → sortedS ys = true → P (.lst (ys.map D.str)) μ)
    (hg : Γ.sc.names.lookup ("sorted" : Str) = some .globalImplicit := by rfl) (he : ∀ env, starEach [e] env = (false, eval e env) :: starEach [] env := by intro _; rfl) (hpl : ∀ env, (backTo pos (starEach [] env)).any (·.1) = false := by intro _; rfl) : Ew Γ δ μ (.Call (.Name "sorted" p) [e] [] pos) P := fun X hX σ C H Q w k =>
  PEw (pe_callB (call_sortedD hX.calm) (hX.gl hg) (by rw [hX.mg]; exact hf _ (by decide)) PyProof.Rows.boot_sorted (pa_cons wE_pe pa_nil (he _)) (by decide) (by decide) (he _) (hpl _)) (ha X hX σ C H _ w fun v d' μ1 C1 H1 g1 w1 r1 ⟨e1, e2⟩ => by
    subst e1; subst e2
    cases r1
    obtain ⟨_, o2, ho2, kvs, eo2, ha⟩ := w1.mem.ok _ hm
    subst eo2
    refine ⟨x, kvs, ks, rfl, .inl ho2, ha.keys.trans hks, h64, fun ys q hp hsrt hq => ?_⟩
    have nw := Nw.add (o := .lst (ys.map V.str)) w1.sub hq
    have ds : ∀ zs : List Str, DatAll Γ.K (L2.upd C1 q (.lst (ys.map V.str))) (zs.map V.str) (zs.map D.str) := fun zs => by
      induction zs with
      | nil => exact .nil
      | cons z zs ih => exact .cons (.str z) ih
    exact k _ _ _ _ _ (g1.trans nw.gr) (w1.nw nw) (.lst upd_same (ds ys)) (h ys hp hsrt))
/-! ### o.pop() -/
theorem ew_pop {ν1 ν2 : Mem} (ho : Ev Γ δ (ν1 ++ (l, .lst (ds ++ [d])) :: ν2) o (.adr l)) (h : P d (ν1 ++ (l, .lst ds) :: ν2))
    (hbase : ∀ env, attributeBase o "pop" env (eval o env) = eval o env := by intro _; rfl) (hline : (apos.endLine == cpos.line) = true := by rfl) : Ew Γ δ (ν1 ++ (l, .lst (ds ++ [d])) :: ν2) (.Call (.Attribute o "pop" apos) [] [] cpos) P := fun X hX σ C H Q w k =>
  PEw (pe_bm0 PySem.F.plainAttrs_list PySem.F.slot_list_pop PySem.F.type_list_pop mt_pop wE_pe (hbase _) hline) (ho X hX σ C H _ w fun v d' μ1 C1 H1 g1 w1 r1 ⟨e1, e2⟩ => by
    subst e1; subst e2
    cases r1
    obtain ⟨eC, o1, ho1, vs, eo1, ha⟩ := w1.mem.at_
    subst eo1
    have hl := ha.len
    rw [List.length_append, List.length_singleton] at hl
    obtain ⟨y, hy1, hy2⟩ := ha.get (i := vs.length - 1) (d := d) (by rw [hl, Nat.add_sub_cancel, List.getElem?_append_right (Nat.le_refl _), Nat.sub_self]; rfl)
    have dl := ha.dropLast
    rw [List.dropLast_concat] at dl
    have gg : Gr (ν1 ++ (l, .lst (ds ++ [d])) :: ν2) (ν1 ++ (l, .lst ds) :: ν2) C H C1 (L2.upd H1 l (.lst vs.dropLast)) := g1.trans Gr.updM
    exact ⟨.inl ⟨rfl, vs, .inl (.inl ho1)⟩, l, vs, y, rfl, rfl, ho1, hy1, k _ _ _ _ _ gg (w.gr gg (w1.sub.updH eC) (w1.mem.updM ⟨_, rfl, dl⟩)) hy2 h⟩)
/-! ### x += [..] -/
theorem ru_augL (j : Nat) {y : Str} {py : Pos} {ν1 ν2 : Mem} (hj : δ[j]? = some (some (.adr l)) := by rfl) (he : Ew Γ δ μ e fun d μ1 => ∃ es ν1 ds ν2, d = .lst es ∧ μ1 = ν1 ++ (l, .lst ds) :: ν2 ∧ ds.length + es.length ≤ 100000 ∧ F.nx (δ.set j (some (.adr l))) (ν1 ++ (l, .lst (ds ++ es)) :: ν2))
    (hN : Γ.N[j]? = some y := by rfl) (hx : Loc Γ.sc y := by first | exact Or.inl rfl | exact Or.inr rfl) (hfn : Γ.sc.names.lookup y = some .local ∨ Γ.fn y = true := by first | exact Or.inl rfl | exact Or.inr rfl) : Ru1 Γ δ μ (.AugAssign (.Name y py) .Add e pos) F := fun X hX σ C H w => by
  obtain ⟨v, hv1, hv2⟩ := w.sl j _ hj
  cases hv2
  refine PSw (ps_aug (i := j) (by rw [hX.N]; exact hX.nd) (by rw [hX.N]; exact hN) (hX.loc hx) wE_pe iop_ext (hf := hX.fnl hfn)) ⟨_, hv1, he X hX σ C H _ w fun v d μ1 C1 H1 g1 w1 r1 ⟨es, ν1, ds, ν2, e1, e2, hl, hq⟩ => ?_⟩
  subst e1; subst e2
  cases r1 with | @lst _ zs _ hb hda =>
  obtain ⟨eC, o1, ho1, vs, eo1, ha⟩ := w1.mem.at_
  subst eo1
  have gg : Gr μ (ν1 ++ (l, .lst (ds ++ es)) :: ν2) C H C1 (L2.upd H1 l (.lst (vs ++ zs))) := g1.trans Gr.updM
  exact ⟨l, _, vs, _, rfl, rfl, ho1, w1.sub _ _ hb, Nat.le_trans (by rw [ha.len, hda.len]; exact hl) (by decide), C1, _, _, gg, (w.gr gg (w1.sub.updH eC) (w1.mem.updM ⟨_, rfl, ha.append hda⟩)).set (x := y) (.adr l), hq⟩
end
end Dl

set_option maxRecDepth 100000
set_option maxHeartbeats 2000000
/-! Dict comprehensions; lists of anything against []. -/
namespace Dl
open PySem PySem.Spec PyProof.Rows L2
section
variable {Γ : Gam} {δ : Sd} {μ : Mem} {kx vx tg iter c : Expr} {ifs : List Expr} {P : Pst} {pos : Pos} {scope : Scope} {own : List (Str × Nat)} {ixs : List Nat}
theorem dc_rdM (own : List (Str × Nat)) (ixs : List Nat) (ok : BlkOk Γ.N Γ.sc scope own) (hv : ∀ j ∈ ixs, j ∈ own.map (·.2)) (h : Iw Γ δ μ tg iter fun ds μ1 => ds.length ≤ 100000 ∧ ∃ I : Nat → List (Key × D) → Mem → Prop, I 0 [] μ1 ∧
    (∀ i d acc μ', ds[i]? = some d → I i acc μ' → Tg (Γ.blk scope) tg ixs d (wipeD δ (own.map (·.2))) μ' fun δ2 μ2 => Cw (Γ.blk scope) δ2 μ2 ifs fun b μ3 => (b = true → ∃ s, Ev (Γ.blk scope) δ2 μ3 kx (.str s) ∧ Ew (Γ.blk scope) δ2 μ3 vx fun y μ4 => I (i + 1) (putD acc (.inr s) y) μ4) ∧ (b = false → I (i + 1) acc μ3)) ∧ ∀ q acc μ', I ds.length acc μ' → P (.adr q) ((q, .dK acc) :: μ')) {X : Cx} (hX : Fits Γ X) {σ : L2.St} {C H : Hp} {Q : VK} (w : Wd Γ C H σ δ μ) (k : ∀ v d μ' C' H', Gr μ μ' C H C' H' → Wd Γ C' H' σ δ μ' → Dat Γ.K C' v d → P d μ' → Q v H') :
    tDc (wI X tg iter) (gB X scope tg) (ttB X scope ifs) (teB X scope kx) (teB X scope vx) (own.map (·.2)) σ H Q := by
  refine h X hX σ C H _ w fun J ds μ1 C1 H1 g1 w1 wk ⟨hlen, I, i0, step, fin⟩ D0 hD => ?_
  have cD : C1 D0 = none := w1.sub.none hD
  let St' : Nat → Hp → Prop := fun i H' => ∃ C' acc vs μ', Gr ((D0, .dK []) :: μ1) ((D0, .dK acc) :: μ') C1 (upd H1 D0 (.dK [])) C' H' ∧ Le C' H' ∧ MemOk Γ.K C' H' ((D0, .dK acc) :: μ') ∧ H' D0 = some (.dK vs) ∧ KAll Γ.K C' vs acc ∧ acc.length ≤ i ∧ I i acc μ'
  have toWd : ∀ {C' H' : Hp} {μ' : Mem}, Le C1 C' → Le C' H' → MemOk Γ.K C' H' μ' → Wd (Γ.blk scope) C' H' (wipe σ (own.map (·.2))) (wipeD δ (own.map (·.2))) μ' := fun {C' H' μ'} l1 l2 mo =>
    ⟨w1.base.trans l1, l2, (w1.blk (scope := scope)).len, fun i d e => by
      obtain ⟨v, e1, e2⟩ := (w1.blk (scope := scope) (vs := own.map (·.2))).sl i d e
      exact ⟨v, e1, Dat.mono l1 _ _ e2⟩, mo, fun _ _ _ _ _ _ _ _ x => x.elim⟩
  refine ⟨fun i m H' => m = ds.length - i ∧ i ≤ ds.length ∧ St' i H', ⟨_, rfl, Nat.zero_le _, C1, [], [], μ1, Gr.refl, w1.sub.updH cD, w1.mem.newM hD w1.sub ⟨[], rfl, .nil⟩, upd_same, .nil, Nat.le_refl _, i0⟩, ?_⟩
  rintro i m H' ⟨rfl, hi, C', acc, vs, μ', g, l, mo, hH, ha, hl, hI⟩
  obtain ⟨wgo, wst⟩ := wk i C' H' g.core l
  by_cases hlt : i < ds.length
  · refine .inr ?_
    obtain ⟨hgo, hy⟩ := wgo _ (List.getElem?_eq_getElem hlt)
    refine ⟨hgo, St' (i + 1), fun H3 h3 => ⟨ds.length - (i + 1), by omega, rfl, hlt, h3⟩, fun x H2 hx X' hb => ?_⟩
    obtain ⟨C2, n2, r2⟩ := hy x H2 hx
    have mo2 := n2.mem mo
    have stay : ∀ {μa μb : Mem} {Ca Ha Cb Hb : Hp} {va : List (Key × V)} {acca : List (Key × D)}, MemOk Γ.K Ca Ha ((D0, .dK acca) :: μa) → Gr μa μb Ca Ha Cb Hb → Ha D0 = some (.dK va) → MemOk Γ.K Cb Hb μb → KAll Γ.K Ca va acca → Hb D0 = some (.dK va) ∧ MemOk Γ.K Cb Hb ((D0, .dK acca) :: μb) := fun {μa μb Ca Ha Cb Hb va acca} m1 gg e m2 da => by
      have nd := m1.nd
      rw [dom_cons, List.nodup_cons] at nd
      have e2 := gg.keep _ _ nd.1 e
      refine ⟨e2, ⟨?_, fun p hp => ?_⟩⟩
      · rw [dom_cons, List.nodup_cons]
        refine ⟨fun z => ?_, m2.nd⟩
        rcases gg.dom _ z with z | z
        · exact nd.1 z
        · rw [e] at z
          cases z
      · rcases List.mem_cons.mp hp with z | z
        · subst z
          exact ⟨gg.new _ (by rw [e]; simp) nd.1 (m1.ok _ List.mem_cons_self).1, _, e2, va, rfl, da.mono gg.core⟩
        · exact m2.ok p z
    refine step i _ acc μ' (List.getElem?_eq_getElem hlt) hI X' (hX.blk hb) _ C2 H2 x _ (toWd (g.core.trans n2.core) n2.sub mo2.tail) r2 fun σ3 δ3 μ3 C3 H3 ag g3 w3 q3 => ?_
    have h2D := n2.keep _ _ hH
    obtain ⟨h3D, mo3⟩ := stay mo2 g3 h2D w3.mem (ha.mono n2.core)
    refine ⟨ag.wipe hv, fun X'' hb2 => ?_⟩
    refine q3 X'' (hX.blk hb2) σ3 C3 H3 _ w3 fun b μ4 C4 H4 g4 w4 q4 => ?_
    have da3 := ha.mono (n2.core.trans g3.core)
    obtain ⟨h4D, mo4⟩ := stay mo3 g4 h3D w4.mem da3
    have da4 := da3.mono g4.core
    have gg : Gr ((D0, .dK []) :: μ1) ((D0, .dK acc) :: μ4) C1 (upd H1 D0 (.dK [])) C4 H4 := ((g.trans n2.gr).trans (g3.cons (m := .dK acc) (m' := .dK acc))).trans (g4.cons (m := .dK acc) (m' := .dK acc))
    cases b with
    | false => exact ⟨C4, acc, vs, μ4, gg, w4.sub, mo4, h4D, da4, Nat.le_succ_of_le hl, q4.2 rfl⟩
    | true =>
      obtain ⟨s, qk, qv⟩ := q4.1 rfl
      show ∀ X', Blk X scope X' → wE X' kx σ3 H4 _
      intro X3 hb3
      refine qk X3 (hX.blk hb3) σ3 C4 H4 _ w4 fun kv kd μk Ck Hk gk wk4 rk ⟨ek, ek2⟩ => ?_
      subst ek; subst ek2
      cases rk
      obtain ⟨hkD, mok⟩ := stay mo4 gk h4D wk4.mem da4
      have dak := da4.mono gk.core
      show ∀ X', Blk X scope X' → wE X' vx σ3 Hk _
      intro X5 hb5
      refine qv X5 (hX.blk hb5) σ3 Ck Hk _ wk4 fun v y μ5 C5 H5 g5 w5 r5 q5 => ?_
      obtain ⟨h5D, mo5⟩ := stay mok g5 hkD w5.mem dak
      have da5 := dak.mono g5.core
      have da6 : KAll Γ.K C5 (putK vs (.inr s) v) (putD acc (.inr s) y) := da5.put r5
      have cD5 : C5 D0 = none := (mo5.ok _ List.mem_cons_self).1
      have hle := putD_len acc (.inr s) y
      refine ⟨vs, .inr s, rfl, h5D, ?_, C5, putD acc (.inr s) y, putK vs (.inr s) v, μ5, ((gg.trans (gk.cons (m := .dK acc) (m' := .dK acc))).trans (g5.cons (m := .dK acc) (m' := .dK acc))).trans (Gr.upd (by rw [dom_cons]; exact List.mem_cons_self) fun b hb => hb), w5.sub.updH cD5, mo5.upd ⟨_, rfl, da6⟩, upd_same, da6, by omega, q5⟩
      have e1 := da5.len
      exact Nat.lt_of_le_of_lt (by omega : vs.length ≤ 100000) (by decide)
  · have e : i = ds.length := by omega
    subst e
    refine .inl ⟨wst (Nat.le_refl _), ?_⟩
    have gf : Gr μ ((D0, .dK acc) :: μ') C H C' H' := (g1.trans (Gr.newM hD)).trans g
    exact k _ _ _ _ _ gf (w.gr gf l mo) (.adr D0) (fin D0 acc μ' hI)
theorem ew_dcM (own : List (Str × Nat)) (ixs : List Nat) (ok : BlkOk Γ.N Γ.sc scope own) (hv : ∀ j ∈ ixs, j ∈ own.map (·.2)) (h : Iw Γ δ μ tg iter fun ds μ1 => ds.length ≤ 100000 ∧ ∃ I : Nat → List (Key × D) → Mem → Prop, I 0 [] μ1 ∧
    (∀ i d acc μ', ds[i]? = some d → I i acc μ' → Tg (Γ.blk scope) tg ixs d (wipeD δ (own.map (·.2))) μ' fun δ2 μ2 => Cw (Γ.blk scope) δ2 μ2 ifs fun b μ3 => (b = true → ∃ s, Ev (Γ.blk scope) δ2 μ3 kx (.str s) ∧ Ew (Γ.blk scope) δ2 μ3 vx fun y μ4 => I (i + 1) (putD acc (.inr s) y) μ4) ∧ (b = false → I (i + 1) acc μ3)) ∧ ∀ q acc μ', I ds.length acc μ' → P (.adr q) ((q, .dK acc) :: μ'))
    (hs : ∀ env x, foldedSetIterable iter env x = pure x := by intro _ _; rfl) : Ew Γ δ μ (.DictComp kx vx [⟨tg, iter, ifs, 0⟩] scope pos) P := fun X hX σ C H Q w k =>
  PEw (pe_dc (g := gB X scope tg) (tt := ttB X scope ifs) (tk := teB X scope kx) (tv := teB X scope vx) hX.calm (by rw [hX.N]; exact hX.nd) wI_pi (own := own) (by rw [hX.N, hX.sc]; exact ok)
    (fun s H C cl fp => ⟨fun pins s' σ H v u Q I r q => q _ (blkI _ _ _ _ _) pins s' u I r⟩) (fun s H C cl fp => ⟨fun pins s' σ H Q I q => q _ (blkI _ _ _ _ _) pins s' I⟩) (fun s H C cl fp => ⟨fun pins s' σ H Q I q => q _ (blkI _ _ _ _ _) pins s' I⟩) (fun s H C cl fp => ⟨fun pins s' σ H Q I q => q _ (blkI _ _ _ _ _) pins s' I⟩) (hs _)) (dc_rdM own ixs ok hv h hX w k)
/-- what is made changes no more -/
theorem ew_frzD {e : Expr} (h : Ew Γ δ μ e fun d μ' => ∃ q kds μ2, d = .adr q ∧ μ' = (q, MO.dK kds) :: μ2 ∧ P (.dct (kds.map (·.1)) (kds.map (·.2))) μ2) : Ew Γ δ μ e P := fun X hX σ C H Q w k => h X hX σ C H Q w fun v d μ' C' H' g w' r ⟨q, kds, μ2, e1, e2, hp⟩ => by
  subst e1; subst e2
  cases r
  obtain ⟨eC, o, ho, kvs, eo, ha⟩ := w'.mem.ok _ List.mem_cons_self
  subst eo
  obtain ⟨vs, ev, hl, hda⟩ := kall_zip ha
  have gf := g.trans (Gr.frz (o := .dK kvs) eC)
  exact k _ _ _ _ _ gf (w.gr gf (w'.sub.upd1 ho) (w'.mem.frz ho)) (.dct (by rw [upd_same, ev]) hl (DatAll.mono (Le.new eC) _ _ hda)) hp
theorem ew_frzL {e : Expr} (h : Ew Γ δ μ e fun d μ' => ∃ q ds μ2, d = .adr q ∧ μ' = (q, MO.lst ds) :: μ2 ∧ P (.lst ds) μ2) : Ew Γ δ μ e P := fun X hX σ C H Q w k => h X hX σ C H Q w fun v d μ' C' H' g w' r ⟨q, ds, μ2, e1, e2, hp⟩ => by
  subst e1; subst e2
  cases r
  obtain ⟨eC, o, ho, vs, eo, ha⟩ := w'.mem.ok _ List.mem_cons_self
  subst eo
  have gf := g.trans (Gr.frz (o := .lst vs) eC)
  exact k _ _ _ _ _ gf (w.gr gf (w'.sub.upd1 ho) (w'.mem.frz ho)) (.lst upd_same (DatAll.mono (Le.new eC) _ _ ha)) hp
end
section
variable {Γ : Gam} {δ : Sd} {μ : Mem}
def rNeNil : R2 := fun x y H Q => ∃ a b vs, x = .ref a ∧ y = .ref b ∧ H a = some (.lst vs) ∧ H b = some (.lst []) ∧ Q (.bl (!vs.isEmpty)) H
def rEqNil : R2 := fun x y H Q => ∃ a b vs, x = .ref a ∧ y = .ref b ∧ H a = some (.lst vs) ∧ H b = some (.lst []) ∧ Q (.bl vs.isEmpty) H
theorem op_neNil {X : Cx} (hu : X.A.units < cLine) : OpR X (compareOp .NotEq) rNeNil := by
  intro pins s σ H x y v u Q I rx ry h
  obtain ⟨a, b, vs, rfl, rfl, ea, eb, q⟩ := h
  cases rx; cases ry
  obtain ⟨ia, ra, pa, ha⟩ := I.list (.inl (.inl ea))
  obtain ⟨ib, rb, pb, hb⟩ := I.list (.inl (.inl eb))
  have lb : ib = [] := by cases rb; rfl
  subst lb
  cases vs with
  | nil =>
    have la : ia = [] := by cases ra; rfl
    subst la
    exact SeqAt.RcNeAt.lists (e := fun _ => true) pa.isList pb.isList rfl hu (fun j h1 _ => by simp at h1) X.prog X.w _ _ ⟨.bl _, H, I, rfl, q⟩
  | cons z zs =>
    cases ra
    exact SeqAt.RcNeAt.lists_lengths pa.isList pb.isList (by simp) hu X.prog X.w _ _ ⟨.bl _, H, I, rfl, q⟩
theorem op_eqNil {X : Cx} (hu : X.A.units < cLine) : OpR X (compareOp .Eq) rEqNil := by
  intro pins s σ H x y v u Q I rx ry h
  obtain ⟨a, b, vs, rfl, rfl, ea, eb, q⟩ := h
  cases rx; cases ry
  obtain ⟨ia, ra, pa, ha⟩ := I.list (.inl (.inl ea))
  obtain ⟨ib, rb, pb, hb⟩ := I.list (.inl (.inl eb))
  have lb : ib = [] := by cases rb; rfl
  subst lb
  cases vs with
  | nil =>
    have la : ia = [] := by cases ra; rfl
    subst la
    exact SeqAt.RcAt.lists (e := fun _ => true) pa.isList pb.isList rfl hu (fun j h1 _ => by simp at h1) X.prog X.w _ _ ⟨.bl _, H, I, rfl, q⟩
  | cons z zs =>
    cases ra
    exact SeqAt.RcAt.lists_lengths pa.isList pb.isList (by simp) hu X.prog X.w _ _ ⟨.bl _, H, I, rfl, q⟩
theorem DatAll.isE {K : PySem.W.Frag} {C : Hp} {vs : List V} {ds : List D} (h : DatAll K C vs ds) : vs.isEmpty = ds.isEmpty := by cases h <;> rfl
theorem b_neE {ds : List D} : Bop Γ (compareOp .NotEq) (.lst ds) (.lst []) (.bl (!ds.isEmpty)) := bop_of (fun X hX => op_neNil (by have := hX.room.units; omega)) fun X _ C H v u Q s r1 r2 k => by
  cases r1 with | lst e1 a1 =>
  cases r2 with | lst e2 a2 =>
  cases a2
  exact ⟨_, _, _, rfl, rfl, s _ _ e1, s _ _ e2, by rw [a1.isE]; exact k _ C H (Nw.refl s) (.bl _)⟩
theorem b_eqE {ds : List D} : Bop Γ (compareOp .Eq) (.lst ds) (.lst []) (.bl ds.isEmpty) := bop_of (fun X hX => op_eqNil (by have := hX.room.units; omega)) fun X _ C H v u Q s r1 r2 k => by
  cases r1 with | lst e1 a1 =>
  cases r2 with | lst e2 a2 =>
  cases a2
  exact ⟨_, _, _, rfl, rfl, s _ _ e1, s _ _ e2, by rw [a1.isE]; exact k _ C H (Nw.refl s) (.bl _)⟩
end
end Dl

set_option maxRecDepth 100000
set_option maxHeartbeats 2000000
/-! Plain data in order: <, min, sorted. -/
namespace Dl
open PySem PySem.Spec PyProof.Rows L2
section
variable {X : Cx}
def rLtD (K : PySem.W.Frag) : R2 := fun x y H Q => ∃ d e, Dp K H x d ∧ Dp K H y e ∧ PySem.W.alike d e = true ∧ d ≠ .none ∧ d.depth ≤ 60 ∧ Q (.bl (PySem.W.dataLt d e)) H
theorem op_ltD (hu : X.A.units + 64 < cLine) : OpR X (compareOp .Lt) (rLtD X.K) := by
  intro pins s σ H x y v u Q I rx ry h
  obtain ⟨d, e, hd, he, ha, hn, hp, q⟩ := h
  obtain ⟨as, r1⟩ := Dp.reads I d x v hd rx
  obtain ⟨bs, r2⟩ := Dp.reads I e y u he ry
  exact PySem.W.lt_data r1 r2 ha hn (by have : min d.depth e.depth ≤ d.depth := Nat.min_le_left _ _; omega) ⟨.bl _, H, I, rfl, q⟩
theorem toPs_map : ∀ ds : List D, toPs ds = ds.map toP
  | [] => by simp only [toPs, List.map_nil]
  | d :: ds => by rw [toPs, List.map_cons, toPs_map ds]
theorem minD_mem (x : PyData) (xs : List PyData) : PySem.W.minD x xs ∈ x :: xs := by
  unfold PySem.W.minD
  induction xs generalizing x with
  | nil => exact List.mem_cons_self
  | cons y ys ih =>
    rw [List.foldl_cons]
    have := ih (if PySem.W.dataLt y x = true then y else x)
    rcases List.mem_cons.mp this with z | z
    · rw [z]
      split
      · exact List.mem_cons_of_mem _ List.mem_cons_self
      · exact List.mem_cons_self
    · exact List.mem_cons_of_mem _ (List.mem_cons_of_mem _ z)
theorem readsAll_get {h : Heap} : ∀ {ds : List PyData} {us : List Value} {as : List Addr} {i : Nat} {u : Value}, ReadsAll h us ds as → us[i]? = some u → ∃ d bs, ds[i]? = some d ∧ Reads h u d bs
  | _, _, _, _, _, .nil, e => by simp at e
  | _, _, _, 0, _, .cons r _, e => by
    simp at e
    subst e
    exact ⟨_, _, rfl, r⟩
  | _, _, _, i + 1, _, .cons _ t, e => by
    obtain ⟨d, bs, h1, h2⟩ := readsAll_get (i := i) t (by simpa using e)
    exact ⟨d, bs, by simpa using h1, h2⟩
theorem depthAll_le : ∀ {ds : List PyData} {n : Nat}, (∀ d ∈ ds, d.depth ≤ n) → PyData.depthAll ds ≤ n
  | [], _, _ => by simp [PyData.depthAll]
  | d :: ds, n, h => by
    simp only [PyData.depthAll]
    exact Nat.max_le.mpr ⟨h d List.mem_cons_self, depthAll_le fun x hx => h x (List.mem_cons_of_mem _ hx)⟩
theorem vals_get : ∀ {vs : List V} {us : List Value} {i : Nat} {u : Value}, Vals vs us → us[i]? = some u → ∃ v, vs[i]? = some v ∧ RelV v u
  | _, _, _, _, .nil, e => by simp at e
  | _, _, 0, _, .cons r _, e => by
    simp at e
    subst e
    exact ⟨_, rfl, r⟩
  | _, _, i + 1, _, .cons _ t, e => by
    obtain ⟨d, h1, h2⟩ := vals_get (i := i) t (by simpa using e)
    exact ⟨d, by simpa using h1, h2⟩
end
section
variable {Γ : Gam} {δ : Sd} {μ : Mem} {a b d : D}
/-- < of plain data -/
theorem b_ltP {n m : Nat} (h1 : Pd n a) (h2 : Pd m b) (hn : n ≤ 60) (hm : m ≤ 60) (ha : PySem.W.alike (toP a) (toP b) = true) (h0 : toP a ≠ .none) : Bop Γ (compareOp .Lt) a b (.bl (PySem.W.dataLt (toP a) (toP b))) := bop_of (fun X hX => op_ltD hX.room.units) fun X hX C H v u Q s r1 r2 k =>
  ⟨toP a, toP b, pd_dp s n a v h1 (by rw [hX.K]; exact r1), pd_dp s m b u h2 (by rw [hX.K]; exact r2), ha, h0, Nat.le_trans (pd_lay n a h1).2 hn, k _ C H (Nw.refl s) (.bl _)⟩
/-- min of a list of plain data -/
theorem c_minP {n : Nat} {x : D} {ds : List D} (hp : ∀ d ∈ x :: ds, Pd n d) (hn : n ≤ 60) (ha : PySem.W.AlikeAll (toPs (x :: ds))) (hd : ∀ d' ∈ x :: ds, toP d' = PySem.W.minD (toP x) (toPs ds) → d' = d) : Cop Γ (.builtin "min") [.lst (x :: ds)] d := fun X hX C H vs Q s r k pins sh σ us I rv => by
  obtain ⟨v, rfl, r1⟩ := r.one
  cases r1 with | lst e1 a1 =>
  rw [Vals.ref1 rv]
  obtain ⟨its, ri, pl, _⟩ := I.list (.inl (.inl (s _ _ e1)))
  have dp := pds_dp (H := H) n (pd_dp s n) _ _ hp (by rw [← hX.K] at a1; exact a1)
  obtain ⟨as, rs⟩ := Dp.readsAll I _ _ _ dp ri
  have eP : toPs (x :: ds) = toP x :: toPs ds := by simp only [toPs]
  have hdep : PyData.depthAll (toPs (x :: ds)) ≤ n := (pds_lay n (pd_lay n) _ hp).2
  have hu := hX.room.units
  rw [eP] at rs hdep ha
  refine PySem.W.min_list_data hX.room.hd pl.isList (by simpa using rs) ha (by omega) fun i u h' tk bs hi rm hk => ?_
  have hi : its[i]? = some u := by simpa using hi
  obtain ⟨v, hv1, hv2⟩ := vals_get ri hi
  obtain ⟨di, hd1, hd2⟩ := a1.get' hv1
  obtain ⟨pi, bs2, hp1, hp2⟩ := readsAll_get rs hi
  have hpi : pi = toP di := by
    rw [← eP, toPs_map, List.getElem?_map, hd1] at hp1
    cases hp1
    rfl
  have hm := minD_mem (toP x) (toPs ds)
  have e := PySem.W.alike_unique _ _ u _ _ (ha.1 _ (List.mem_of_getElem? hp1) _ hm) (Reads.keeps hk hp2) rm
  rw [hpi] at e
  have ed := hd di (List.mem_of_getElem? hd1) e
  subst ed
  exact ⟨v, H, I.kept hk, hv2, k v C H (Nw.refl s) hd2⟩
end
/-! typed -/
section
variable {α : Type} [DecidableEq α] [PySem.W.DatumOrd α] {Γ : Gam}
/-- how the type's things are written as data -/
structure EncO (g : α → D) (n : Nat) (xs : List α) : Prop where
  pd : ∀ a ∈ xs, Pd n (g a)
  eq : ∀ a ∈ xs, toP (g a) = PySem.W.Datum.toD a
  le : n ≤ 60 := by decide
theorem datum_inj {x y : α} (h : PySem.W.Datum.toD x = PySem.W.Datum.toD y) : x = y := by
  have e := PySem.W.Datum.eqv x y
  rw [h, PySem.W.Datum.eqv y y] at e
  simpa using e.symm
theorem b_ltO {g : α → D} {n : Nat} {x y : α} (h : EncO g n [x, y]) : Bop Γ (compareOp .Lt) (g x) (g y) (.bl (PySem.W.DatumOrd.lt x y)) := by
  have h1 := h.eq x (by simp)
  have h2 := h.eq y (by simp)
  refine (b_ltP (h.pd x (by simp)) (h.pd y (by simp)) h.le h.le ?_ ?_).cast ?_
  · rw [h1, h2]; exact PySem.W.DatumOrd.alike x y
  · rw [h1]; exact PySem.W.DatumOrd.notNone x
  · rw [h1, h2, PySem.W.DatumOrd.lt_eq]
theorem toPs_enc {g : α → D} {n : Nat} {xs : List α} (h : EncO g n xs) : toPs (xs.map g) = xs.map PySem.W.Datum.toD := by
  rw [toPs_map, List.map_map]
  exact List.map_congr_left fun a ha => h.eq a ha
theorem minOf_mem (x : α) (xs : List α) : PySem.W.minOf x xs ∈ x :: xs := by
  unfold PySem.W.minOf
  induction xs generalizing x with
  | nil => exact List.mem_cons_self
  | cons y ys ih =>
    rw [List.foldl_cons]
    have := ih (if PySem.W.DatumOrd.lt y x = true then y else x)
    rcases List.mem_cons.mp this with z | z
    · rw [z]
      split
      · exact List.mem_cons_of_mem _ List.mem_cons_self
      · exact List.mem_cons_self
    · exact List.mem_cons_of_mem _ (List.mem_cons_of_mem _ z)
theorem c_minO {g : α → D} {n : Nat} {x : α} {xs : List α} (h : EncO g n (x :: xs)) : Cop Γ (.builtin "min") [.lst ((x :: xs).map g)] (g (PySem.W.minOf x xs)) := by
  have e := toPs_enc h
  have ex : toP (g x) = PySem.W.Datum.toD x := h.eq x List.mem_cons_self
  have exs : toPs (xs.map g) = xs.map PySem.W.Datum.toD := toPs_enc (g := g) (n := n) ⟨fun a ha => h.pd a (List.mem_cons_of_mem _ ha), fun a ha => h.eq a (List.mem_cons_of_mem _ ha), h.le⟩
  rw [List.map_cons] at e ⊢
  refine c_minP (n := n) (fun d hd => ?_) h.le ?_ fun d' hd' z => ?_
  · rw [← List.map_cons] at hd
    obtain ⟨a, ha, rfl⟩ := List.mem_map.mp hd
    exact h.pd a ha
  · rw [e]
    exact PySem.W.alikeAll_datum (x :: xs)
  · rw [← List.map_cons] at hd'
    obtain ⟨a, ha, rfl⟩ := List.mem_map.mp hd'
    rw [ex, exs, PySem.W.minD_map, h.eq a ha] at z
    rw [datum_inj z]
end
end Dl

set_option maxRecDepth 100000
set_option maxHeartbeats 2000000
namespace Dl
open PySem PySem.Spec PyProof.Rows L2
section
variable {Γ : Gam} {δ : Sd} {μ : Mem} {e : Expr} {d : D} {ds : List D} {P : Pst} {pos p : Pos} {F : Fin} {l : Addr} {sts : List Stmt}
theorem ev_lenM (hf : Free Γ.mg) {n : Int} (ha : Ev Γ δ μ e (.adr l)) (hm : (l, MO.lst ds) ∈ μ) (hn : (ds.length : Int) = n) (hg : Γ.sc.names.lookup ("len" : Str) = some .globalImplicit := by rfl) (he : ∀ env, starEach [e] env = (false, eval e env) :: starEach [] env := by intro _; rfl) (hpl : ∀ env, (backTo pos (starEach [] env)).any (·.1) = false := by intro _; rfl) : Ev Γ δ μ (.Call (.Name "len" p) [e] [] pos) (.int n) := fun X hX σ C H Q w k =>
  PEw (pe_callB call_len (hX.gl hg) (by rw [hX.mg]; exact hf _ (by decide)) (by rfl) (pa_cons wE_pe pa_nil (he _)) (by decide) (by decide) (he _) (hpl _)) (ha X hX σ C H _ w fun v d' μ1 C1 H1 g1 w1 r1 ⟨e1, e2⟩ => by
    subst e1; subst e2
    cases r1
    obtain ⟨_, o2, ho2, vs, eo2, ha⟩ := w1.mem.ok _ hm
    subst eo2
    exact ⟨_, ds.length, rfl, .inl ⟨vs, .inl (.inl ho2), ha.len.symm⟩, k _ _ _ _ _ g1 w1 (by rw [hn]; exact .int n) ⟨rfl, rfl⟩⟩)
theorem run_nd (h : (dom μ).Nodup → Run Γ δ μ sts F) : Run Γ δ μ sts F := fun X hX σ C H w => h w.mem.nd X hX σ C H w
theorem ew_nd (h : (dom μ).Nodup → Ew Γ δ μ e P) : Ew Γ δ μ e P := fun X hX σ C H Q w k => h w.mem.nd X hX σ C H Q w k
end
end Dl

set_option maxRecDepth 100000
set_option maxHeartbeats 2000000
/-! Over lists that the memory holds. -/
namespace Dl
open PySem PySem.Spec PyProof.Rows L2
def WalkM (K : PySem.W.Frag) (C : Hp) (S : Mem → Prop) (J : It) (ds : List D) : Prop := ∀ (i : Nat) C1 H1 μ1, Le C C1 → Le C1 H1 → MemOk K C1 H1 μ1 → S μ1 → (∀ d, ds[i]? = some d → J.go i H1 ∧ ∀ x H', J.yld i H1 x H' → ∃ C', Nw C1 H1 C' H' ∧ Dat K C' x d) ∧ (ds.length ≤ i → J.stop i H1)
def IvM (Γ : Gam) (δ : Sd) (μ : Mem) (tg iter : Expr) (S : Mem → Prop) (ds : List D) : Prop := ∀ X, Fits Γ X → ∀ σ C H R, Wd Γ C H σ δ μ → (∀ J C' H', Gr μ μ C H C' H' → Wd Γ C' H' σ δ μ → WalkM Γ.K C' S J ds → R J H') → wI X tg iter σ H R
section
variable {Γ : Gam} {δ : Sd} {μ μ1 : Mem} {C H C1 H1 : Hp} {e a b tg iter : Expr} {es : List Expr} {d : D} {ds : List D} {P : Pst} {pos p : Pos} {F : Fin} {X : Cx} {st : Stmt} {sts : List Stmt} {σ : L2.St} {ixs : List Nat}
theorem IvM.of {S : Mem → Prop} (h : Iv Γ δ μ tg iter ds) : IvM Γ δ μ tg iter S ds := fun X hX σ C H R w k => h X hX σ C H R w fun J ds' μ' C' H' g w' wk ⟨e1, e2⟩ => by
  subst e1; subst e2
  exact k J C' H' g w' fun i C1 H1 μ1 l1 l2 _ _ => wk i C1 H1 l1 l2
theorem walkM_list {K : PySem.W.Frag} {x : Addr} : WalkM K C (fun μ => (x, MO.lst ds) ∈ μ) (Itl K x) ds := fun i C1 H1 μ1 l1 l2 m hm => by
  obtain ⟨_, o, ho, vs, eo, ha⟩ := m.ok _ hm
  subst eo
  have h1 : SqL K H1 x vs := .inl (.inl ho)
  refine ⟨fun d e => ?_, fun q => ⟨vs, h1, by rw [ha.len]; exact q⟩⟩
  obtain ⟨v, e1, r⟩ := ha.get e
  refine ⟨⟨vs, v, h1, e1⟩, fun y H' ⟨e2, e3⟩ => ?_⟩
  subst e2
  have e4 := e3 vs h1
  rw [e1] at e4
  cases e4
  exact ⟨C1, Nw.refl l2, r⟩
theorem walkM_enum {K : PySem.W.Frag} {x : Addr} : WalkM K C (fun μ => (x, MO.lst ds) ∈ μ) (Ite K x) (enumD 0 ds) := fun i C1 H1 μ1 l1 l2 m hm => by
  obtain ⟨_, o, ho, vs, eo, ha⟩ := m.ok _ hm
  subst eo
  have h1 : SqL K H1 x vs := .inl (.inl ho)
  refine ⟨fun d e => ?_, fun q => ⟨vs, h1, by rw [ha.len, ← enumD_len 0]; exact q⟩⟩
  obtain ⟨d', e0, rfl⟩ := enumD_get e
  obtain ⟨v, e1, r⟩ := ha.get e0
  refine ⟨⟨vs, v, h1, e1⟩, fun y H' ⟨T, z, e2, hT, e3, e4⟩ => ?_⟩
  subst e2; subst e3
  have e4 := e4 vs h1
  rw [e1] at e4
  cases e4
  refine ⟨_, Nw.add l2 hT, .tup (.inl upd_same) (.cons ?_ (.cons (Dat.mono (Le.new (l2.none hT)) _ _ r) .nil))⟩
  rw [Nat.zero_add]
  exact .int _
theorem ivM_list {x : Addr} (h : Ev Γ δ μ iter (.adr x)) (hm : (x, MO.lst ds) ∈ μ) : IvM Γ δ μ tg iter (fun μ => (x, MO.lst ds) ∈ μ) ds := fun X hX σ C H Q w k =>
  PIw (pi_list wE_pe) (h X hX σ C H _ w fun v d μ' C' H' g w' r ⟨e1, e2⟩ => by
    subst e1; subst e2
    cases r
    obtain ⟨_, o, ho, vs, eo, ha⟩ := w'.mem.ok _ hm
    subst eo
    refine ⟨_, rfl, ⟨_, .inl (.inl ho)⟩, k _ C' H' g w' ?_⟩
    rw [hX.K]
    exact walkM_list)
theorem ivM_enum {x : Addr} {elts : List Expr} {kk : Nat} {tpos : Pos} (hf : Free Γ.mg) (h : Ev Γ δ μ a (.adr x)) (hm : (x, MO.lst ds) ∈ μ) (hg : Γ.sc.names.lookup ("enumerate" : Str) = some .globalImplicit := by rfl) (hs : ∀ env, starEach [a] env = [(false, eval a env)] := by intro _; rfl) : IvM Γ δ μ (.Tuple elts kk tpos) (.Call (.Name "enumerate" p) [a] [] pos) (fun μ => (x, MO.lst ds) ∈ μ) (enumD 0 ds) := fun X hX σ C H Q w k =>
  PIw (pi_enum (hX.gl hg) (by rw [hX.mg]; exact hf _ (by decide)) (pa_cons wE_pe pa_nil (hs _)) (hs _)) (h X hX σ C H _ w fun v d μ' C' H' g w' r ⟨e1, e2⟩ => by
    subst e1; subst e2
    cases r
    obtain ⟨_, o, ho, vs, eo, ha⟩ := w'.mem.ok _ hm
    subst eo
    refine ⟨_, _, rfl, .inl (.inl ho), k _ C' H' g w' ?_⟩
    rw [hX.K]
    exact walkM_enum)
theorem ru_forM {body : List Stmt} {S : Mem → Prop} (hv : IvM Γ δ μ tg iter S ds) (h : ∃ I : Nat → Sd → Mem → Prop, I 0 δ μ ∧ (∀ i δ' μ', I i δ' μ' → S μ') ∧ (∀ i d δ' μ', ds[i]? = some d → I i δ' μ' → Tg Γ tg ixs d δ' μ' fun δ2 μ2 => Run Γ δ2 μ2 body { nx := I (i + 1), rt := F.rt, ct := I (i + 1), bk := F.nx }) ∧ ∀ δ' μ', I ds.length δ' μ' → F.nx δ' μ')
    (hs : ∀ env x, foldedSetIterable iter env x = pure x := by intro _ _; rfl) : Ru1 Γ δ μ (.For tg iter body [] pos) F := fun X hX σ C H w =>
  PSw (ps_for hX.po hX.calm wI_pi wG_pg wSs_pss (hs _)) (hv X hX σ C H _ w fun J C1 H1 g1 w1 wk => by
    obtain ⟨I, i0, hS, step, fin⟩ := h
    refine ⟨fun i m σ' H' => m = ds.length - i ∧ i ≤ ds.length ∧ ∃ C' δ' μ', Gr μ μ' C H C' H' ∧ Le C1 C' ∧ Wd Γ C' H' σ' δ' μ' ∧ I i δ' μ', ⟨_, rfl, Nat.zero_le _, C1, δ, μ, g1, Le.refl _, w1, i0⟩, ?_⟩
    rintro i m σ' H' ⟨rfl, hi, C', δ', μ', g, le, w', q⟩
    obtain ⟨wgo, wst⟩ := wk i C' H' μ' le w'.sub w'.mem (hS _ _ _ q)
    by_cases hlt : i < ds.length
    · refine .inr ?_
      obtain ⟨hgo, hy⟩ := wgo _ (List.getElem?_eq_getElem hlt)
      have body : ∀ {C2 H2 : Hp} {σ2 : L2.St} {δ2 : Sd} {μ2 : Mem}, Le C1 C2 → Gr μ μ2 C H C2 H2 → Wd Γ C2 H2 σ2 δ2 μ2 → Run Γ δ2 μ2 body { nx := I (i + 1), rt := F.rt, ct := I (i + 1), bk := F.nx } →
          wSs X body { nx := fun σ' H' => ∃ C' δ' μ', Gr μ μ' C H C' H' ∧ Le C1 C' ∧ Wd Γ C' H' σ' δ' μ' ∧ I (i + 1) δ' μ', rt := (ends Γ μ C H F).rt, ct := fun σ' H' => ∃ C' δ' μ', Gr μ μ' C H C' H' ∧ Le C1 C' ∧ Wd Γ C' H' σ' δ' μ' ∧ I (i + 1) δ' μ', bk := (ends Γ μ C H F).nx } σ2 H2 := fun {C2 H2 σ2 δ2 μ2} l2 g2 w2 hr =>
        wSs_mono (hr X hX σ2 C2 H2 w2) (fun σ' H' ⟨C3, δ3, μ3, g3, w3, q3⟩ => ⟨C3, δ3, μ3, g2.trans g3, l2.trans g3.core, w3, q3⟩) (fun v H' q => rt_le (F := F) g2 q) (fun σ' H' q => atEnd_le g2 q) (fun σ' H' ⟨C3, δ3, μ3, g3, w3, q3⟩ => ⟨C3, δ3, μ3, g2.trans g3, l2.trans g3.core, w3, q3⟩)
      refine ⟨hgo, fun σ' H' => ∃ C' δ' μ', Gr μ μ' C H C' H' ∧ Le C1 C' ∧ Wd Γ C' H' σ' δ' μ' ∧ I (i + 1) δ' μ', fun σ3 H3 ⟨C3, δ3, μ3, g3, l3, w3, q3⟩ => ⟨ds.length - (i + 1), by omega, rfl, hlt, C3, δ3, μ3, g3, l3, w3, q3⟩, fun x H2 hx => ?_⟩
      obtain ⟨C2, n2, r2⟩ := hy x H2 hx
      exact step i _ δ' μ' (List.getElem?_eq_getElem hlt) q X hX σ' C2 H2 x _ (w'.nw n2) r2 fun σ4 δ4 μ4 C4 H4 ag g4 w4 q4 => body ((le.trans n2.core).trans g4.core) ((g.trans n2.gr).trans g4) w4 q4
    · have e : i = ds.length := by omega
      subst e
      exact .inl ⟨wst (Nat.le_refl _), C', δ', μ', g, w', fin _ _ q⟩)
end
section
variable {Γ : Gam} {δ : Sd} {μ : Mem} {elt tg iter c : Expr} {ifs : List Expr} {P : Pst} {pos : Pos} {scope : Scope} {own : List (Str × Nat)} {ixs : List Nat} {ds : List D}
theorem lc_rdS {S : Mem → Prop} (hv0 : IvM Γ δ μ tg iter S ds) (own : List (Str × Nat)) (ixs : List Nat) (ok : BlkOk Γ.N Γ.sc scope own) (hv : ∀ j ∈ ixs, j ∈ own.map (·.2)) (h : ds.length ≤ 100000 ∧ ∃ I : Nat → List D → Mem → Prop, I 0 [] μ ∧ (∀ i acc μ', I i acc μ' → S μ') ∧
    (∀ i d acc μ', ds[i]? = some d → I i acc μ' → Tg (Γ.blk scope) tg ixs d (wipeD δ (own.map (·.2))) μ' fun δ2 μ2 => Cw (Γ.blk scope) δ2 μ2 ifs fun b μ3 => (b = true → Ew (Γ.blk scope) δ2 μ3 elt fun y μ4 => I (i + 1) (acc ++ [y]) μ4) ∧ (b = false → I (i + 1) acc μ3)) ∧ ∀ acc μ', I ds.length acc μ' → P (.lst acc) μ') {X : Cx} (hX : Fits Γ X) {σ : L2.St} {C H : Hp} {Q : VK} (w : Wd Γ C H σ δ μ) (k : ∀ v d μ' C' H', Gr μ μ' C H C' H' → Wd Γ C' H' σ δ μ' → Dat Γ.K C' v d → P d μ' → Q v H') :
    tLc (wI X tg iter) (gB X scope tg) (ttB X scope ifs) (teB X scope elt) (own.map (·.2)) σ H Q := by
  obtain ⟨hlen, I, i0, hS, step, fin⟩ := h
  refine hv0 X hX σ C H _ w fun J C1 H1 g1 w1 wk D0 hD => ?_
  have cD : C1 D0 = none := w1.sub.none hD
  -- the state of a turn
  let St' : Nat → Hp → Prop := fun i H' => ∃ C' acc vs μ', Gr ((D0, .lst []) :: μ) ((D0, .lst acc) :: μ') C1 (upd H1 D0 (.lst [])) C' H' ∧ Le C' H' ∧ MemOk Γ.K C' H' ((D0, .lst acc) :: μ') ∧ H' D0 = some (.lst vs) ∧ DatAll Γ.K C' vs acc ∧ acc.length ≤ i ∧ I i acc μ'
  have toWd : ∀ {C' H' : Hp} {μ' : Mem}, Le C1 C' → Le C' H' → MemOk Γ.K C' H' μ' → Wd (Γ.blk scope) C' H' (wipe σ (own.map (·.2))) (wipeD δ (own.map (·.2))) μ' := fun {C' H' μ'} l1 l2 mo =>
    ⟨w1.base.trans l1, l2, (w1.blk (scope := scope)).len, fun i d e => by
      obtain ⟨v, e1, e2⟩ := (w1.blk (scope := scope) (vs := own.map (·.2))).sl i d e
      exact ⟨v, e1, Dat.mono l1 _ _ e2⟩, mo, fun _ _ _ _ _ _ _ _ x => x.elim⟩
  refine ⟨fun i m H' => m = ds.length - i ∧ i ≤ ds.length ∧ St' i H', ⟨_, rfl, Nat.zero_le _, C1, [], [], μ, Gr.refl, w1.sub.updH cD, w1.mem.newM hD w1.sub ⟨[], rfl, .nil⟩, upd_same, .nil, Nat.le_refl _, i0⟩, ?_⟩
  rintro i m H' ⟨rfl, hi, C', acc, vs, μ', g, l, mo, hH, ha, hl, hI⟩
  obtain ⟨wgo, wst⟩ := wk i C' H' μ' g.core l mo.tail (hS _ _ _ hI)
  by_cases hlt : i < ds.length
  · refine .inr ?_
    obtain ⟨hgo, hy⟩ := wgo _ (List.getElem?_eq_getElem hlt)
    refine ⟨hgo, St' (i + 1), fun H3 h3 => ⟨ds.length - (i + 1), by omega, rfl, hlt, h3⟩, fun x H2 hx X' hb => ?_⟩
    obtain ⟨C2, n2, r2⟩ := hy x H2 hx
    have mo2 := n2.mem mo
    have stay : ∀ {μa μb : Mem} {Ca Ha Cb Hb : Hp} {va : List V} {acca : List D}, MemOk Γ.K Ca Ha ((D0, .lst acca) :: μa) → Gr μa μb Ca Ha Cb Hb → Ha D0 = some (.lst va) → MemOk Γ.K Cb Hb μb → DatAll Γ.K Ca va acca → Hb D0 = some (.lst va) ∧ MemOk Γ.K Cb Hb ((D0, .lst acca) :: μb) := fun {μa μb Ca Ha Cb Hb va acca} m1 gg e m2 da => by
      have nd := m1.nd
      rw [dom_cons, List.nodup_cons] at nd
      have e2 := gg.keep _ _ nd.1 e
      refine ⟨e2, ⟨?_, fun p hp => ?_⟩⟩
      · rw [dom_cons, List.nodup_cons]
        refine ⟨fun z => ?_, m2.nd⟩
        rcases gg.dom _ z with z | z
        · exact nd.1 z
        · rw [e] at z
          cases z
      · rcases List.mem_cons.mp hp with z | z
        · subst z
          exact ⟨gg.new _ (by rw [e]; simp) nd.1 (m1.ok _ List.mem_cons_self).1, _, e2, va, rfl, DatAll.mono gg.core _ _ da⟩
        · exact m2.ok p z
    refine step i _ acc μ' (List.getElem?_eq_getElem hlt) hI X' (hX.blk hb) _ C2 H2 x _ (toWd (g.core.trans n2.core) n2.sub mo2.tail) r2 fun σ3 δ3 μ3 C3 H3 ag g3 w3 q3 => ?_
    have h2D := n2.keep _ _ hH
    obtain ⟨h3D, mo3⟩ := stay mo2 g3 h2D w3.mem (DatAll.mono n2.core _ _ ha)
    refine ⟨ag.wipe hv, fun X'' hb2 => ?_⟩
    refine q3 X'' (hX.blk hb2) σ3 C3 H3 _ w3 fun b μ4 C4 H4 g4 w4 q4 => ?_
    have da3 := DatAll.mono (n2.core.trans g3.core) _ _ ha
    obtain ⟨h4D, mo4⟩ := stay mo3 g4 h3D w4.mem da3
    have da4 := DatAll.mono g4.core _ _ da3
    have gg : Gr ((D0, .lst []) :: μ) ((D0, .lst acc) :: μ4) C1 (upd H1 D0 (.lst [])) C4 H4 := ((g.trans n2.gr).trans (g3.cons (m := .lst acc) (m' := .lst acc))).trans (g4.cons (m := .lst acc) (m' := .lst acc))
    cases b with
    | false => exact ⟨C4, acc, vs, μ4, gg, w4.sub, mo4, h4D, da4, Nat.le_succ_of_le hl, q4.2 rfl⟩
    | true =>
      show ∀ X', Blk X scope X' → wE X' elt σ3 H4 _
      intro X3 hb3
      refine q4.1 rfl X3 (hX.blk hb3) σ3 C4 H4 _ w4 fun v y μ5 C5 H5 g5 w5 r5 q5 => ?_
      obtain ⟨h5D, mo5⟩ := stay mo4 g5 h4D w5.mem da4
      have da5 := DatAll.mono g5.core _ _ da4
      have da6 : DatAll Γ.K C5 (vs ++ [v]) (acc ++ [y]) := da5.append (.cons r5 .nil)
      have cD5 : C5 D0 = none := (mo5.ok _ List.mem_cons_self).1
      refine ⟨vs, h5D, ?_, C5, acc ++ [y], vs ++ [v], μ5, (gg.trans (g5.cons (m := .lst acc) (m' := .lst acc))).trans (Gr.upd (by rw [dom_cons]; exact List.mem_cons_self) fun b hb => hb), w5.sub.updH cD5, mo5.upd ⟨_, rfl, da6⟩, upd_same, da6, by simp; omega, q5⟩
      have e1 := da5.len
      exact Nat.lt_of_le_of_lt (by omega : vs.length ≤ 100000) (by decide)
  · have e : i = ds.length := by omega
    subst e
    refine .inl ⟨wst (Nat.le_refl _), ?_⟩
    have cD' : C' D0 = none := (mo.ok _ List.mem_cons_self).1
    have gf : Gr μ μ' C H (upd C' D0 (.lst vs)) H' := ((g1.trans (Gr.newM hD)).trans g).trans (Gr.frz cD')
    exact k _ _ μ' _ _ gf (w.gr gf (l.upd1 hH) (mo.frz hH)) (.lst upd_same (DatAll.mono (Le.new cD') _ _ ha)) (fin acc μ' hI)
theorem ew_lcS {S : Mem → Prop} (hv0 : IvM Γ δ μ tg iter S ds) (own : List (Str × Nat)) (ixs : List Nat) (ok : BlkOk Γ.N Γ.sc scope own) (hv : ∀ j ∈ ixs, j ∈ own.map (·.2)) (h : ds.length ≤ 100000 ∧ ∃ I : Nat → List D → Mem → Prop, I 0 [] μ ∧ (∀ i acc μ', I i acc μ' → S μ') ∧
    (∀ i d acc μ', ds[i]? = some d → I i acc μ' → Tg (Γ.blk scope) tg ixs d (wipeD δ (own.map (·.2))) μ' fun δ2 μ2 => Cw (Γ.blk scope) δ2 μ2 ifs fun b μ3 => (b = true → Ew (Γ.blk scope) δ2 μ3 elt fun y μ4 => I (i + 1) (acc ++ [y]) μ4) ∧ (b = false → I (i + 1) acc μ3)) ∧ ∀ acc μ', I ds.length acc μ' → P (.lst acc) μ')
    (hs : ∀ env x, foldedSetIterable iter env x = pure x := by intro _ _; rfl) : Ew Γ δ μ (.ListComp elt [⟨tg, iter, ifs, 0⟩] scope pos) P := fun X hX σ C H Q w k =>
  PEw (pe_lc (g := gB X scope tg) (tt := ttB X scope ifs) (te := teB X scope elt) hX.calm (by rw [hX.N]; exact hX.nd) wI_pi (own := own) (by rw [hX.N, hX.sc]; exact ok)
    (fun s H C cl fp => ⟨fun pins s' σ H v u Q I r q => q _ (blkI _ _ _ _ _) pins s' u I r⟩) (fun s H C cl fp => ⟨fun pins s' σ H Q I q => q _ (blkI _ _ _ _ _) pins s' I⟩) (fun s H C cl fp => ⟨fun pins s' σ H Q I q => q _ (blkI _ _ _ _ _) pins s' I⟩) (hs _)) (lc_rdS hv0 own ixs ok hv h hX w k)

theorem ev_lcS {α : Type} {ifs : List Expr} {S : Mem → Prop} (xs : List α) (g : α → D) (q : α → Bool) (f : α → D) (own : List (Str × Nat)) (ixs : List Nat) (hi : IvM Γ δ μ tg iter S (xs.map g)) (hS : S μ) (hlen : xs.length ≤ 100000) (he : ∀ x ∈ xs, Elc Γ δ μ scope tg elt ifs (own.map (·.2)) ixs (g x) (q x) (f x))
    (hv : ∀ j ∈ ixs, j ∈ own.map (·.2) := by decide) (ok : BlkOk Γ.N Γ.sc scope own := by exact L2.blkOk_by (by kernel_rfl)) (hs : ∀ env x, foldedSetIterable iter env x = pure x := by intro _ _; rfl) : Ev Γ δ μ (.ListComp elt [⟨tg, iter, ifs, 0⟩] scope pos) (.lst (keepL xs q f)) :=
  ew_lcS hi own ixs ok hv ⟨by rw [List.length_map]; exact hlen, fun i acc μ' => acc = keepL (xs.take i) q f ∧ μ' = μ, ⟨by simp [keepL], rfl⟩, fun i acc μ' z => by rw [z.2]; exact hS, fun i d acc μ' e ⟨e1, e2⟩ => by
    subst e2
    obtain ⟨x, h1, rfl⟩ := map_at e
    refine Tg.imp (he x (List.mem_of_getElem? h1)) fun δ2 μ2 ⟨e3, hc⟩ => ?_
    subst e3
    intro X hX σ C H Q w k
    refine hc X hX σ C H Q w fun b μ3 C3 H3 g3 w3 ⟨e4, e5, hy⟩ => k b μ3 C3 H3 g3 w3 ?_
    subst e4; subst e5
    refine ⟨fun z => (hy z).w ⟨?_, rfl⟩, fun z => ⟨?_, rfl⟩⟩
    · rw [e1, keep_take h1, if_pos z]
    · rw [e1, keep_take h1, if_neg (by rw [z]; decide), List.append_nil], fun acc μ' ⟨e1, e2⟩ => by
    rw [List.length_map, List.take_length] at e1
    rw [e1, e2]
    exact ⟨rfl, rfl⟩⟩ hs
end
end Dl

set_option maxRecDepth 100000
set_option maxHeartbeats 2000000
/-! sorted, of plain data; the order of typed data. -/
namespace Dl
open PySem PySem.Spec PyProof.Rows L2
theorem each_of {K : PySem.W.Frag} {C H : Hp} {X : Cx} {pins : List (Addr × Obj)} {σ : L2.St} {s : Shared} (hK : X.K = K) (I : Inv X pins σ H s) (l : Le C H) {n : Nat} : ∀ {vs : List V} {ds : List D} {us : List Value}, (∀ d ∈ ds, Pd n d) → DatAll K C vs ds → Vals vs us →
    PySem.W.EachIs (fun u d => ∃ V, RelV V u ∧ Dat K C V d) us ds ∧ PySem.W.EachIs (fun u d => ∃ as, Reads s.heap u (toP d) as) us ds
  | _, _, _, _, .nil, .nil => ⟨.nil, .nil⟩
  | _, d :: ds, _, hp, .cons r t, .cons q u => by
    obtain ⟨a, b⟩ := each_of hK I l (fun x hx => hp x (List.mem_cons_of_mem _ hx)) t u
    have dp := pd_dp (H := H) l n d _ (hp d List.mem_cons_self) r
    rw [← hK] at dp
    exact ⟨.cons ⟨_, q, r⟩ a, .cons (Dp.reads I _ _ _ dp q) b⟩
theorem each_back {K : PySem.W.Frag} {C : Hp} : ∀ {us : List Value} {ds : List D}, PySem.W.EachIs (fun u d => ∃ V, RelV V u ∧ Dat K C V d) us ds → ∃ vs, Vals vs us ∧ DatAll K C vs ds
  | _, _, .nil => ⟨[], .nil, .nil⟩
  | _, _, .cons ⟨V, q, r⟩ t => by
    obtain ⟨vs, a, b⟩ := each_back t
    exact ⟨V :: vs, .cons q a, .cons r b⟩
section
variable {Γ : Gam}
theorem c_sortedP {n : Nat} {ds : List D} (hp : ∀ d ∈ ds, Pd n d) (hn : n ≤ 60) (hal : PySem.W.AllAlike (ds.map toP)) (hk : PySem.W.Sortable (ds.map toP)) (hL : ds.length ≤ 100000) : Cop Γ (.builtin "sorted") [.lst ds] (.lst (ds.mergeSort (PySem.W.dataLe false toP))) := fun X hX C H vs Q s r k pins sh σ us I rv => by
  obtain ⟨v, rfl, r1⟩ := r.one
  cases r1 with | lst e1 a1 =>
  rw [Vals.ref1 rv]
  obtain ⟨its, ri, pl, _⟩ := I.list (.inl (.inl (s _ _ e1)))
  obtain ⟨ea, er⟩ := each_of hX.K I s hp a1 ri
  have hu := hX.room.units
  refine PySem.W.sorted_data (bs := ds) (enc := toP) pl.isList ea er hal hk (Nat.le_trans hL (by decide)) (fun d hd => ?_) fun out hlen ho => ?_
  · have := (pd_lay n d (hp d hd)).2
    have h16 := hX.room.un
    omega
  · obtain ⟨ys, hy, hd⟩ := each_back ho
    obtain ⟨ep, he'⟩ := PyProof.Rows.sortedAll_at sh.heap its out.toArray
    have hl2 : ys.length ≤ sizeLine := by rw [hd.len, List.length_mergeSort]; exact Nat.le_trans hL (by decide)
    have hf : H (sh.heap.objs.size + 1) = none := I.hok.fresh (Nat.le_succ _)
    exact ⟨.ref _, upd H (sh.heap.objs.size + 1) (.lst ys), I.laid (t' := sh.toks) (fun _ _ => PyProof.Rows.sortedAll_old) (Nat.le_succ _) ⟨hl2, out, ep, hy, he'⟩, rfl, k _ _ _ (Nw.add s hf) (.lst upd_same (DatAll.mono (Le.new (s.none hf)) _ _ hd))⟩
end
/-! ### the order -/
theorem toks_inj {x y : PyData} (ha : PySem.W.alike x y = true) (h : PySem.W.keyToks x = PySem.W.keyToks y) : PyData.eqv x y = true := by
  cases e : PyData.eqv x y with
  | true => rfl
  | false =>
    have := (PySem.W.toks_eqv x y ha).2 e [] [Sum.inl 0]
    rw [h, List.append_nil, PyProof.Rows.lex_irrefl] at this
    have h2 := PySem.W.lex_pre (PySem.W.keyToks y) [] [Sum.inl 0]
    rw [List.append_nil] at h2
    rw [h2] at this
    exact absurd this (by decide)
section
variable {α : Type} [DecidableEq α] [PySem.W.DatumOrd α]
theorem lt_def (a b : α) : PySem.W.DatumOrd.lt a b = PyProof.Rows.lexLt PyProof.Rows.itemOrd (PySem.W.keyToks (PySem.W.Datum.toD a)) (PySem.W.keyToks (PySem.W.Datum.toD b)) := (PySem.W.DatumOrd.lt_eq a b).symm
theorem lt_trans {a b c : α} (h1 : PySem.W.DatumOrd.lt a b = true) (h2 : PySem.W.DatumOrd.lt b c = true) : PySem.W.DatumOrd.lt a c = true := by
  rw [lt_def] at *
  exact PyProof.Rows.lex_trans _ _ _ h1 h2
theorem lt_neg {a c : α} (b : α) (h : PySem.W.DatumOrd.lt a c = true) : PySem.W.DatumOrd.lt a b = true ∨ PySem.W.DatumOrd.lt b c = true := by
  rw [lt_def] at *
  rw [lt_def]
  exact PyProof.Rows.lex_negTrans _ _ _ h
theorem lt_irr (a : α) : PySem.W.DatumOrd.lt a a = false := by
  rw [lt_def]
  exact PyProof.Rows.lex_irrefl _
theorem lt_tri {a b : α} (h1 : PySem.W.DatumOrd.lt a b = false) (h2 : PySem.W.DatumOrd.lt b a = false) : a = b := by
  rw [lt_def] at *
  have e := toks_inj (PySem.W.DatumOrd.alike a b) (PyProof.Rows.lex_total _ _ h1 h2)
  rw [PySem.W.Datum.eqv] at e
  exact of_decide_eq_true e
/-- none is less -/
def IsMin (p : α → Prop) (m : α) : Prop := p m ∧ ∀ x, p x → PySem.W.DatumOrd.lt x m = false
theorem isMin_one {p : α → Prop} {m m' : α} (h : IsMin p m) (h' : IsMin p m') : m = m' := lt_tri (h'.2 m h.1) (h.2 m' h'.1)
theorem isMin_cong {p q : α → Prop} {m : α} (h : IsMin p m) (e : ∀ x, p x ↔ q x) : IsMin q m := ⟨(e m).mp h.1, fun x hx => h.2 x ((e x).mpr hx)⟩
theorem dataLe_typed (g : α → D) (hg : ∀ a, toP (g a) = PySem.W.Datum.toD a) (a b : α) : PySem.W.dataLe false (fun a => toP (g a)) a b = !PySem.W.DatumOrd.lt b a := by
  rw [PySem.W.dataLe_eq]
  show (!PySem.W.dataLt (toP (g b)) (toP (g a))) = _
  rw [hg, hg, PySem.W.DatumOrd.lt_eq]
end
end Dl

set_option maxRecDepth 100000
set_option maxHeartbeats 2000000
/-! Dicts that stay. -/
namespace Dl
open PySem PySem.Spec PyProof.Rows L2
section
variable {Γ : Gam} {δ : Sd} {μ : Mem} {e : Expr} {ds : List D} {P : Pst} {pos p : Pos} {ks : List Key}
theorem ev_lenDF {n : Int} (hf : Free Γ.mg) (ha : Ev Γ δ μ e (.dct ks ds)) (hn : (ks.length : Int) = n) (hg : Γ.sc.names.lookup ("len" : Str) = some .globalImplicit := by rfl) (he : ∀ env, starEach [e] env = (false, eval e env) :: starEach [] env := by intro _; rfl) (hpl : ∀ env, (backTo pos (starEach [] env)).any (·.1) = false := by intro _; rfl) : Ev Γ δ μ (.Call (.Name "len" p) [e] [] pos) (.int n) := fun X hX σ C H Q w k =>
  PEw (pe_callB call_lenD (hX.gl hg) (by rw [hX.mg]; exact hf _ (by decide)) (by rfl) (pa_cons wE_pe pa_nil (he _)) (by decide) (by decide) (he _) (hpl _)) (ha X hX σ C H _ w fun v d' μ1 C1 H1 g1 w1 r1 ⟨e1, e2⟩ => by
    subst e1; subst e2
    cases r1 with | dct h1 h2 h3 =>
    exact ⟨_, _, rfl, w1.sub _ _ h1, k _ _ _ _ _ g1 w1 (by rw [List.length_zip, ← h2, Nat.min_self, hn]; exact .int n) ⟨rfl, rfl⟩⟩)
theorem ew_sortedDF {ns : List Str} (hf : Free Γ.mg) (ha : Ev Γ δ μ e (.dct ks ds)) (hks : ks = ns.map Sum.inr) (h64 : ns.length < 64) (h : ∀ ys : List Str, ys.Perm ns → sortedS ys = true → P (.lst (ys.map D.str)) μ)
    (hg : Γ.sc.names.lookup ("sorted" : Str) = some .globalImplicit := by rfl) (he : ∀ env, starEach [e] env = (false, eval e env) :: starEach [] env := by intro _; rfl) (hpl : ∀ env, (backTo pos (starEach [] env)).any (·.1) = false := by intro _; rfl) : Ew Γ δ μ (.Call (.Name "sorted" p) [e] [] pos) P := fun X hX σ C H Q w k =>
  PEw (pe_callB (call_sortedD hX.calm) (hX.gl hg) (by rw [hX.mg]; exact hf _ (by decide)) PyProof.Rows.boot_sorted (pa_cons wE_pe pa_nil (he _)) (by decide) (by decide) (he _) (hpl _)) (ha X hX σ C H _ w fun v d' μ1 C1 H1 g1 w1 r1 ⟨e1, e2⟩ => by
    subst e1; subst e2
    cases r1 with | @dct _ _ vs _ h1 h2 h3 =>
    refine ⟨_, ks.zip vs, ns, rfl, .inl (w1.sub _ _ h1), by rw [← hks]; exact List.map_fst_zip (by omega), h64, fun ys q hp hsrt hq => ?_⟩
    have nw := Nw.add (o := .lst (ys.map V.str)) w1.sub hq
    have ds : ∀ zs : List Str, DatAll Γ.K (L2.upd C1 q (.lst (ys.map V.str))) (zs.map V.str) (zs.map D.str) := fun zs => by
      induction zs with
      | nil => exact .nil
      | cons z zs ih => exact .cons (.str z) ih
    exact k _ _ _ _ _ (g1.trans nw.gr) (w1.nw nw) (.lst upd_same (ds ys)) (h ys hp hsrt))
end
/-! one sorted order alone -/
theorem ltCps_eq : ∀ a b : List Nat, ltCps a b = decide (a < b)
  | [], [] => by simp [ltCps]
  | [], _ :: _ => by simp [ltCps]
  | _ :: _, [] => by simp [ltCps]
  | a :: r, b :: t => by
    show (decide (a < b) || (a == b && ltCps r t)) = _
    rw [ltCps_eq r t, Bool.eq_iff_iff]
    simp [List.cons_lt_cons_iff]
theorem rising_pw : ∀ (x : Str) (r : List Str), risingS x r = true → (x :: r).Pairwise fun a b => a.cps.toList ≤ b.cps.toList
  | x, [], _ => List.pairwise_singleton _ _
  | x, y :: r, h => by
    have h : (!ltCps y.cps.toList x.cps.toList && risingS y r) = true := h
    rw [Bool.and_eq_true, ltCps_eq, Bool.not_eq_true', decide_eq_false_iff_not] at h
    have h1 : x.cps.toList ≤ y.cps.toList := List.not_lt.mp h.1
    have ih := rising_pw y r h.2
    refine List.pairwise_cons.mpr ⟨fun z hz => ?_, ih⟩
    rcases List.mem_cons.mp hz with e | hz
    · rw [e]; exact h1
    · exact List.le_trans h1 ((List.pairwise_cons.mp ih).1 z hz)
theorem sorted_pw {xs : List Str} (h : sortedS xs = true) : xs.Pairwise fun a b => a.cps.toList ≤ b.cps.toList := by
  cases xs with
  | nil => exact .nil
  | cons x r => exact rising_pw x r h
theorem sorted_uniq {xs ys : List Str} (h : xs.Perm ys) (h1 : sortedS xs = true) (h2 : sortedS ys = true) : xs = ys :=
  List.Perm.eq_of_pairwise (fun a b _ _ h3 h4 => PySem.W.str_of_cps (List.le_antisymm h3 h4)) (sorted_pw h1) (sorted_pw h2) h
/-! a dict of what is told in turn -/
theorem any_key (kds : List (Key × D)) (k : Key) : (kds.any fun kd => decide (kd.1 = k)) = true ↔ k ∈ kds.map (·.1) := by
  rw [List.any_eq_true, List.mem_map]
  constructor
  · rintro ⟨x, h1, h2⟩; exact ⟨x, h1, of_decide_eq_true h2⟩
  · rintro ⟨x, h1, h2⟩; exact ⟨x, h1, decide_eq_true h2⟩
theorem putD_old {kds : List (Key × D)} {k : Key} {d : D} (h : k ∈ kds.map (·.1)) : (putD kds k d).map (·.1) = kds.map (·.1) := by
  unfold putD
  rw [if_pos ((any_key kds k).mpr h), List.map_map]
  refine List.map_congr_left fun x _ => ?_
  show (if x.1 = k then (x.1, d) else x).1 = x.1
  split <;> rfl
theorem putD_new {kds : List (Key × D)} {k : Key} {d : D} (h : k ∉ kds.map (·.1)) : putD kds k d = kds ++ [(k, d)] := by
  unfold putD
  rw [if_neg fun z => h ((any_key kds k).mp z)]
section
variable {α : Type}
def dcOf (kf : α → Str) (vf : α → D) (xs : List α) : List (Key × D) := xs.foldl (fun acc x => putD acc (.inr (kf x)) (vf x)) []
theorem dcOf_snoc (kf : α → Str) (vf : α → D) (xs : List α) (x : α) : dcOf kf vf (xs ++ [x]) = putD (dcOf kf vf xs) (.inr (kf x)) (vf x) := by
  unfold dcOf
  rw [List.foldl_append]
  rfl
theorem dcOf_rev (kf : α → Str) (vf : α → D) : ∀ ys : List α, (∀ k : Key, k ∈ (dcOf kf vf ys.reverse).map (·.1) ↔ ∃ x ∈ ys.reverse, k = .inr (kf x)) ∧ ((ys.reverse.map kf).Nodup → dcOf kf vf ys.reverse = ys.reverse.map fun x => (.inr (kf x), vf x)) ∧ (dcOf kf vf ys.reverse).length ≤ ys.length ∧ (¬ (ys.reverse.map kf).Nodup → (dcOf kf vf ys.reverse).length < ys.length)
  | [] => by simp [dcOf]
  | y :: ys => by
    obtain ⟨i1, i2, i3, i4⟩ := dcOf_rev kf vf ys
    rw [List.reverse_cons, dcOf_snoc]
    by_cases h : (Sum.inr (kf y) : Key) ∈ (dcOf kf vf ys.reverse).map (·.1)
    · have hk := putD_old (d := vf y) h
      have hl : (putD (dcOf kf vf ys.reverse) (.inr (kf y)) (vf y)).length = (dcOf kf vf ys.reverse).length := by
        have := congrArg List.length hk
        rwa [List.length_map, List.length_map] at this
      obtain ⟨x, hx, e⟩ := (i1 _).mp h
      have e : kf y = kf x := Sum.inr.inj e
      have nn : ¬ ((ys.reverse ++ [y]).map kf).Nodup := fun z => by
        rw [List.map_append, List.nodup_append] at z
        exact z.2.2 (kf y) (by rw [e]; exact List.mem_map.mpr ⟨x, hx, rfl⟩) (kf y) (by simp) rfl
      refine ⟨fun k => ?_, fun z => (nn z).elim, by rw [hl]; simp; omega, fun _ => by rw [hl]; simp; omega⟩
      rw [hk, i1]
      constructor
      · rintro ⟨u, hu, e2⟩; exact ⟨u, List.mem_append_left _ hu, e2⟩
      · rintro ⟨u, hu, e2⟩
        rcases List.mem_append.mp hu with z | z
        · exact ⟨u, z, e2⟩
        · rw [List.mem_singleton] at z
          rw [z] at e2
          exact ⟨x, hx, by rw [e2, e]⟩
    · have hn := putD_new (d := vf y) h
      refine ⟨fun k => ?_, fun z => ?_, by rw [hn]; simp; omega, fun z => ?_⟩
      · rw [hn, List.map_append, List.mem_append, i1]
        constructor
        · rintro (⟨u, hu, e2⟩ | z)
          · exact ⟨u, List.mem_append_left _ hu, e2⟩
          · exact ⟨y, by simp, by simpa using z⟩
        · rintro ⟨u, hu, e2⟩
          rcases List.mem_append.mp hu with z | z
          · exact .inl ⟨u, z, e2⟩
          · rw [List.mem_singleton] at z
            rw [z] at e2
            exact .inr (by simp [e2])
      · rw [List.map_append, List.nodup_append] at z
        rw [hn, i2 z.1, List.map_append]
        rfl
      · have nn : ¬ (ys.reverse.map kf).Nodup := fun z2 => z (by
          rw [List.map_append, List.nodup_append]
          refine ⟨z2, by simp, fun a ha b hb e => h ?_⟩
          simp only [List.map_cons, List.map_nil, List.mem_singleton] at hb
          rw [hb] at e
          rw [e] at ha
          obtain ⟨x, hx, e3⟩ := List.mem_map.mp ha
          exact (i1 _).mpr ⟨x, hx, by rw [e3]⟩)
        have := i4 nn
        rw [hn]
        simp
        omega
theorem dcOf_nd (kf : α → Str) (vf : α → D) {xs : List α} (h : (xs.map kf).Nodup) : dcOf kf vf xs = xs.map fun x => (.inr (kf x), vf x) := by
  have := (dcOf_rev kf vf xs.reverse).2.1
  rw [List.reverse_reverse] at this
  exact this h
theorem dcOf_len (kf : α → Str) (vf : α → D) (xs : List α) : (dcOf kf vf xs).length ≤ xs.length ∧ (¬ (xs.map kf).Nodup → (dcOf kf vf xs).length < xs.length) := by
  have := (dcOf_rev kf vf xs.reverse).2.2
  rw [List.reverse_reverse, List.length_reverse] at this
  exact this
/-- what such a dict holds -/
theorem val_nd (kf : α → Str) (vf : α → D) : ∀ {xs : List α} {x : α}, (xs.map kf).Nodup → x ∈ xs → valD (xs.map fun x => ((.inr (kf x) : Key), vf x)) (.inr (kf x)) = some (vf x)
  | y :: ys, x, nd, h => by
    rw [List.map_cons, List.nodup_cons] at nd
    rcases List.mem_cons.mp h with e | h
    · rw [e]; simp [valD]
    · have hne : kf y ≠ kf x := fun e => nd.1 (by rw [e]; exact List.mem_map.mpr ⟨x, h, rfl⟩)
      have ih := val_nd kf vf nd.2 h
      unfold valD at ih ⊢
      rw [List.map_cons, List.find?_cons]
      have hf : decide (((Sum.inr (kf y) : Key), vf y).1 = Sum.inr (kf x)) = false := decide_eq_false fun z => hne (Sum.inr.inj z)
      rw [hf]
      exact ih
end
theorem zip_fs {α β : Type} : ∀ l : List (α × β), (l.map (·.1)).zip (l.map (·.2)) = l
  | [] => rfl
  | x :: l => by rw [List.map_cons, List.map_cons, List.zip_cons_cons, zip_fs l]
section
variable {Γ : Gam} {δ : Sd} {μ : Mem} {kx vx tg iter : Expr} {P : Pst} {pos : Pos} {scope : Scope}
theorem ev_dc {α : Type} (xs : List α) (g : α → D) (kf : α → Str) (vf : α → D) (own : List (Str × Nat)) (ixs : List Nat) (hi : Iv Γ δ μ tg iter (xs.map g)) (hlen : xs.length ≤ 100000)
    (he : ∀ x ∈ xs, Tg (Γ.blk scope) tg ixs (g x) (wipeD δ (own.map (·.2))) μ fun δ2 μ2 => μ2 = μ ∧ Ev (Γ.blk scope) δ2 μ kx (.str (kf x)) ∧ Ev (Γ.blk scope) δ2 μ vx (vf x))
    (hv : ∀ j ∈ ixs, j ∈ own.map (·.2) := by decide) (ok : BlkOk Γ.N Γ.sc scope own := by exact L2.blkOk_by (by kernel_rfl)) (hs : ∀ env x, foldedSetIterable iter env x = pure x := by intro _ _; rfl) : Ev Γ δ μ (.DictComp kx vx [⟨tg, iter, [], 0⟩] scope pos) (.dct ((dcOf kf vf xs).map (·.1)) ((dcOf kf vf xs).map (·.2))) :=
  ew_frzD (ew_dcM own ixs ok hv (hi.w ⟨by rw [List.length_map]; exact hlen, fun i acc μ' => acc = dcOf kf vf (xs.take i) ∧ μ' = μ, ⟨by simp [dcOf], rfl⟩, fun i d acc μ' e ⟨e1, e2⟩ => by
    subst e2
    obtain ⟨x, h1, rfl⟩ := map_at e
    refine Tg.imp (he x (List.mem_of_getElem? h1)) fun δ2 μ2 ⟨e3, hk, hv⟩ => ?_
    subst e3
    refine cw_no ⟨fun _ => ⟨_, hk, hv.w ⟨?_, rfl⟩⟩, fun z => by cases z⟩
    rw [List.take_add_one, h1]
    show _ = dcOf kf vf (xs.take i ++ [x])
    rw [dcOf_snoc, e1], fun q acc μ' ⟨e1, e2⟩ => by
    rw [List.length_map, List.take_length] at e1
    rw [e1, e2]
    exact ⟨_, _, _, rfl, rfl, rfl, rfl⟩⟩) hs)
end
end Dl

set_option maxRecDepth 100000
set_option maxHeartbeats 2000000
/-! name = {k: v for ..} on one line -/
namespace L2
open PySem PySem.Spec PyProof.Rows
variable {X : Cx}
theorem ps_setDc {i : Nat} {y : Str} {py : Pos} {kx vx tg iter : Expr} {ifs : List Expr} {scope : Scope} {own : List (Str × Nat)} {pos spos : Pos} {wi : TI} {g : TG} {tt : TT} {tk tv : TE} (hc : X.calm = true) (hN : X.N.Nodup) (hy : X.N[i]? = some y) (hyl : X.env.scope.names.lookup y = some .local)
    (hsw : swapsWith (.DictComp kx vx [⟨tg, iter, ifs, 0⟩] scope pos) (some (.Name y py)) spos.line X.env = pure true) (hi : PI X tg iter wi) (ok : BlkOk X.N X.env.scope scope own)
    (hg : ∀ (s : Shared) (H : Hp) (C : Addr) (cl : List (Str × Addr)) (fp : List Addr), PG (X.blk s H scope (compEnvC scope cl C X.env) fp) tg g) (ht : ∀ (s : Shared) (H : Hp) (C : Addr) (cl : List (Str × Addr)) (fp : List Addr), PTs (X.blk s H scope (compEnvC scope cl C X.env) fp) ifs tt)
    (hk : ∀ (s : Shared) (H : Hp) (C : Addr) (cl : List (Str × Addr)) (fp : List Addr), PE (X.blk s H scope (compEnvC scope cl C X.env) fp) kx tk)
    (he : ∀ (s : Shared) (H : Hp) (C : Addr) (cl : List (Str × Addr)) (fp : List Addr), PE (X.blk s H scope (compEnvC scope cl C X.env) fp) vx tv) (hs : ∀ x, foldedSetIterable iter X.env x = pure x := by intro _; rfl) :
    PS X (.Assign [.Name y py] (.DictComp kx vx [⟨tg, iter, ifs, 0⟩] scope pos) spos) (tAsg (tDc wi g tt tk tv (own.map (·.2))) (gName i)) := by
  refine ⟨fun pins s σ H D I h => ?_⟩
  rw [exec_Assign_Name_used _ _ _ _ hsw]
  refine wpAny_bind (wpAny_standAt (wpAny_bind ?_))
  show wpAny _ X.A (do let _ ← comprehension (.DictComp kx vx [⟨tg, iter, ifs, 0⟩] scope pos) scope X.env (firstIterPos [⟨tg, iter, ifs, 0⟩] pos) newDict false (eval iter X.env) (some (assign (.Name y py) X.env))) _ _ s
  have h : tDc wi g tt tk tv (own.map (·.2)) σ H (fun x H1 => gName i x σ H1 D.nx) := h
  refine wpAny_bind (thn (dc_core (Qf := fun _ s' => SP X pins D .next s') hc hN I hi ok hg ht hk he hs h fun L C s' m H' I' q hn f => ?_) fun _ s' hq => wpAny_pure (wpAny_pure hq))
  show wpAny _ _ (assign (.Name y py) X.env (.ref L)) _ _ _
  refine wpAny_assign_Name (store_ok2 (v := V.ref L) I' hN hy (.inl hyl) rfl (fun s2 I2 ⟨a, sb, ha⟩ => ?_) (.inr hyl))
  obtain ⟨f0, f1, f2, f3, f4, f5⟩ := f
  have haC : C ≠ a := by
    rcases ha with z | z
    · rw [z]; exact f1
    · exact fun e => f4 y a z e.symm
  refine ⟨m, hn.sameBut sb haC, fun h3 sb3 => ?_⟩
  exact ⟨_, H', I2.turned (t' := s2.toks) (fun b o hb e => (sb3.2 b hb).trans e) f0 f1 f3 f4 f5, q⟩
end L2
namespace Dl
open PySem PySem.Spec PyProof.Rows L2
section
variable {Γ : Gam} {δ : Sd} {μ : Mem} {kx vx tg iter : Expr} {ifs : List Expr} {P : Pst} {pos : Pos} {scope : Scope} {ixs : List Nat}
theorem ru_setDc (i : Nat) {y : Str} {py spos : Pos} {F : Fin} (own : List (Str × Nat)) (ixs : List Nat) (ok : BlkOk Γ.N Γ.sc scope own) (hv : ∀ j ∈ ixs, j ∈ own.map (·.2)) (h : Iw Γ δ μ tg iter fun ds μ1 => ds.length ≤ 100000 ∧ ∃ I : Nat → List (Key × D) → Mem → Prop, I 0 [] μ1 ∧
    (∀ i d acc μ', ds[i]? = some d → I i acc μ' → Tg (Γ.blk scope) tg ixs d (wipeD δ (own.map (·.2))) μ' fun δ2 μ2 => Cw (Γ.blk scope) δ2 μ2 ifs fun b μ3 => (b = true → ∃ s, Ev (Γ.blk scope) δ2 μ3 kx (.str s) ∧ Ew (Γ.blk scope) δ2 μ3 vx fun y μ4 => I (i + 1) (putD acc (.inr s) y) μ4) ∧ (b = false → I (i + 1) acc μ3)) ∧ ∀ q acc μ', I ds.length acc μ' → F.nx (δ.set i (some (.adr q))) ((q, .dK acc) :: μ'))
    (hN : Γ.N[i]? = some y := by rfl) (hx : Γ.sc.names.lookup y = some .local := by rfl) (hsw : ∀ env, env.scope = Γ.sc → swapsWith (.DictComp kx vx [⟨tg, iter, ifs, 0⟩] scope pos) (some (.Name y py)) spos.line env = pure true := by intro env h; cases env; cases h; rfl)
    (hs : ∀ env x, foldedSetIterable iter env x = pure x := by intro _ _; rfl) : Ru1 Γ δ μ (.Assign [.Name y py] (.DictComp kx vx [⟨tg, iter, ifs, 0⟩] scope pos) spos) F := fun X hX σ C H w =>
  PSw (ps_setDc (g := gB X scope tg) (tt := ttB X scope ifs) (tk := teB X scope kx) (tv := teB X scope vx) hX.calm (by rw [hX.N]; exact hX.nd) (by rw [hX.N]; exact hN) (by rw [hX.sc]; exact hx) (hsw _ hX.sc) wI_pi (own := own) (by rw [hX.N, hX.sc]; exact ok)
    (fun s H C cl fp => ⟨fun pins s' σ H v u Q I r q => q _ (blkI _ _ _ _ _) pins s' u I r⟩) (fun s H C cl fp => ⟨fun pins s' σ H Q I q => q _ (blkI _ _ _ _ _) pins s' I⟩) (fun s H C cl fp => ⟨fun pins s' σ H Q I q => q _ (blkI _ _ _ _ _) pins s' I⟩) (fun s H C cl fp => ⟨fun pins s' σ H Q I q => q _ (blkI _ _ _ _ _) pins s' I⟩) (hs _))
    (dc_rdM (P := fun d μ' => F.nx (δ.set i (some d)) μ') own ixs ok hv h hX w fun v d μ' C' H' g w' r q => ⟨C', _, μ', g, w'.set (x := y) r, q⟩)
/-- it changes no more -/
theorem run_frzD {l : Addr} {sts : List Stmt} {F : Fin} (i : Nat) {ν : Mem} {kds : List (Key × D)} (hi : δ[i]? = some (some (.adr l)) := by rfl) (h : Run Γ (δ.set i (some (.dct (kds.map (·.1)) (kds.map (·.2))))) ν sts F) : Run Γ δ ((l, .dK kds) :: ν) sts F := fun X hX σ C H w => by
  obtain ⟨eC, o, ho, kvs, eo, ha⟩ := w.mem.ok _ List.mem_cons_self
  subst eo
  obtain ⟨vs, ev, hl, hda⟩ := kall_zip ha
  have gf : Gr ((l, MO.dK kds) :: ν) ν C H (L2.upd C l (.dK kvs)) H := Gr.frz (o := .dK kvs) eC
  have w1 : Wd Γ (L2.upd C l (.dK kvs)) H σ δ ν := w.gr gf (w.sub.upd1 ho) (w.mem.frz ho)
  obtain ⟨v, h1, h2⟩ := w1.sl i _ hi
  cases h2
  have w2 : Wd Γ (L2.upd C l (.dK kvs)) H σ (δ.set i (some (.dct (kds.map (·.1)) (kds.map (·.2))))) ν := by
    refine ⟨w1.base, w1.sub, by rw [List.length_set]; exact w1.len, fun j d e => ?_, w1.mem, w1.exc⟩
    by_cases q : i = j
    · subst q
      have hlt : i < δ.length := (List.getElem?_eq_some_iff.mp hi).1
      rw [List.getElem?_set_self hlt] at e
      cases e
      exact ⟨_, h1, .dct (by rw [upd_same, ev]) hl (DatAll.mono (Le.new eC) _ _ hda)⟩
    · rw [List.getElem?_set_ne q] at e
      exact w1.sl j d e
  exact h.from_ hX w2 gf
theorem ru_dc {α : Type} {rest : List Stmt} {F : Fin} {y : Str} {py spos : Pos} (i : Nat) (xs : List α) (g : α → D) (kf : α → Str) (vf : α → D) (own : List (Str × Nat)) (ixs : List Nat) (hi : Iv Γ δ μ tg iter (xs.map g)) (hlen : xs.length ≤ 100000)
    (he : ∀ x ∈ xs, Tg (Γ.blk scope) tg ixs (g x) (wipeD δ (own.map (·.2))) μ fun δ2 μ2 => μ2 = μ ∧ Ev (Γ.blk scope) δ2 μ kx (.str (kf x)) ∧ Ev (Γ.blk scope) δ2 μ vx (vf x))
    (hR : Run Γ (δ.set i (some (.dct ((dcOf kf vf xs).map (·.1)) ((dcOf kf vf xs).map (·.2))))) μ rest F) (hd : i < δ.length)
    (hv : ∀ j ∈ ixs, j ∈ own.map (·.2) := by decide) (ok : BlkOk Γ.N Γ.sc scope own := by exact L2.blkOk_by (by kernel_rfl)) (hN : Γ.N[i]? = some y := by rfl) (hx : Γ.sc.names.lookup y = some .local := by rfl)
    (hsw : ∀ env, env.scope = Γ.sc → swapsWith (.DictComp kx vx [⟨tg, iter, [], 0⟩] scope pos) (some (.Name y py)) spos.line env = pure true := by intro env h; cases env; cases h; rfl)
    (hs : ∀ env x, foldedSetIterable iter env x = pure x := by intro _ _; rfl) : Run Γ δ μ (.Assign [.Name y py] (.DictComp kx vx [⟨tg, iter, [], 0⟩] scope pos) spos :: rest) F :=
  run_cons (ru_setDc i own ixs ok hv (hi.w ⟨by rw [List.length_map]; exact hlen, fun i acc μ' => acc = dcOf kf vf (xs.take i) ∧ μ' = μ, ⟨by simp [dcOf], rfl⟩, fun i d acc μ' e ⟨e1, e2⟩ => by
    subst e2
    obtain ⟨x, h1, rfl⟩ := map_at e
    refine Tg.imp (he x (List.mem_of_getElem? h1)) fun δ2 μ2 ⟨e3, hk, hv⟩ => ?_
    subst e3
    refine cw_no ⟨fun _ => ⟨_, hk, hv.w ⟨?_, rfl⟩⟩, fun z => by cases z⟩
    rw [List.take_add_one, h1]
    show _ = dcOf kf vf (xs.take _ ++ [x])
    rw [dcOf_snoc, e1], fun q acc μ' ⟨e1, e2⟩ => by
    rw [List.length_map, List.take_length] at e1
    rw [e1, e2]
    refine run_frzD (l := q) i (by rw [List.getElem?_set_self hd]) ?_
    rw [List.set_set]
    exact hR⟩) hN hx hsw hs)
end
end Dl

set_option maxRecDepth 100000
set_option maxHeartbeats 2000000
/-! sorted(generator expression) -/
namespace Dl
open PySem PySem.Spec PyProof.Rows L2 Gx
section
variable {K : PySem.W.Frag} {C : Hp}
theorem datAll_zip : ∀ {ys : List V} {ds : List D}, DatAll K C ys ds → ∀ z ∈ ys.zip ds, Dat K C z.1 z.2
  | _, _, .nil, z, h => by cases h
  | _, _, .cons r t, z, h => by
    rw [List.zip_cons_cons] at h
    rcases List.mem_cons.mp h with e | h
    · rw [e]; exact r
    · exact datAll_zip t z h
theorem datAll_of : ∀ {zs : List (V × D)}, (∀ z ∈ zs, Dat K C z.1 z.2) → DatAll K C (zs.map (·.1)) (zs.map (·.2))
  | [], _ => .nil
  | z :: zs, h => .cons (h z List.mem_cons_self) (datAll_of fun y hy => h y (List.mem_cons_of_mem _ hy))
theorem datAll_sort {ys : List V} {ds : List D} (h : DatAll K C ys ds) : DatAll K C (((ys.zip (ds.map toP)).mergeSort (PySem.W.dataLe false fun b => b.2)).map (·.1)) (ds.mergeSort (PySem.W.dataLe false toP)) := by
  have hl := h.len
  have e1 : ys.zip (ds.map toP) = (ys.zip ds).map fun z => (z.1, toP z.2) := by
    rw [List.zip_map_right]
    rfl
  have e2 : (ys.zip ds).map (·.2) = ds := List.map_snd_zip (by omega)
  have s1 : (ys.zip (ds.map toP)).mergeSort (PySem.W.dataLe false fun b => b.2) = ((ys.zip ds).mergeSort fun a b => PySem.W.dataLe false toP a.2 b.2).map fun z => (z.1, toP z.2) := by
    rw [e1]
    exact (List.map_mergeSort (r := fun a b : V × D => PySem.W.dataLe false toP a.2 b.2) (s := PySem.W.dataLe false fun b : V × PyData => b.2) (fun _ _ _ _ => rfl)).symm
  have s2 : ds.mergeSort (PySem.W.dataLe false toP) = ((ys.zip ds).mergeSort fun a b => PySem.W.dataLe false toP a.2 b.2).map (·.2) := by
    conv => lhs; rw [← e2]
    exact (List.map_mergeSort (r := fun a b : V × D => PySem.W.dataLe false toP a.2 b.2) (s := PySem.W.dataLe false toP) (fun _ _ _ _ => rfl)).symm
  rw [s1, s2, List.map_map]
  refine datAll_of (zs := (ys.zip ds).mergeSort fun a b => PySem.W.dataLe false toP a.2 b.2) fun z hz => ?_
  exact datAll_zip h z ((List.mergeSort_perm _ _).mem_iff.mp hz)
end
section
variable {Γ : Gam} {δ : Sd} {μ : Mem} {elt tg iter c : Expr} {P : Pst} {pos p gpos : Pos} {scope : Scope} {own : List (Str × Nat)} {ixs : List Nat} {ds : List D}
theorem ew_sortedG {n : Nat} (hn : n ≤ 60) (hf : Free Γ.mg) (S : Γ.Site) (hk : 1 ≤ Γ.k) (own : List (Str × Nat)) (ixs : List Nat) (hv : ∀ j ∈ ixs, j ∈ own.map (·.2)) (ok : BlkOk Γ.N Γ.sc scope own) (G : GScope1 scope)
    (h : Iw Γ δ μ tg iter fun ds μ1 => ds.length ≤ 100000 ∧ ∃ I : Nat → List D → Prop, I 0 [] ∧ (∀ i d dys, ds[i]? = some d → I i dys → El Γ δ μ1 scope tg elt (own.map (·.2)) ixs d fun y => I (i + 1) (dys ++ [y])) ∧ ∀ dys, I ds.length dys → (∀ d ∈ dys, Pd n d) ∧ PySem.W.AllAlike (dys.map toP) ∧ PySem.W.Sortable (dys.map toP) ∧ P (.lst (dys.mergeSort (PySem.W.dataLe false toP))) μ1)
    (hg : Γ.sc.names.lookup ("sorted" : Str) = some .globalImplicit := by rfl) (hgf : ∀ env v, genFold iter env v = pure v := by intro _ _; rfl)
    (hst : ∀ env, starEach [.GeneratorExp elt [⟨tg, iter, [], 0⟩] scope gpos] env = (false, eval (.GeneratorExp elt [⟨tg, iter, [], 0⟩] scope gpos) env) :: starEach [] env := by intro _; rfl) :
    Ew Γ δ μ (.Call (.Name "sorted" p) [.GeneratorExp elt [⟨tg, iter, [], 0⟩] scope gpos] [] pos) P := fun X hX σ C H Q w k => by
  obtain ⟨cc, PP, h1, h2, h3⟩ := S.ex
  have hkk : Γ.k - 1 + 1 = Γ.k := by omega
  refine PEw (pe_sortedG (k := Γ.k - 1) (g := gG X (Γ.k - 1) scope tg) (te := teG X (Γ.k - 1) scope elt) hX.calm (by rw [hX.N]; exact hX.nd) (by rw [hkk]; exact hX.room) (hX.gl hg) (by rw [hX.mg]; exact hf _ (by decide)) wI_pi (own := own) (by rw [hX.N, hX.sc]; exact ok) G (site_of hX h1 h2 S.bm)
    (fun A s H code fp pn hr => ⟨fun pins s' σ H v u Q I r q => q A s _ code fp pn hr pins s' u I r⟩) (fun A s H code fp pn hr => ⟨fun pins s' σ H Q I q => q A s _ code fp pn hr pins s' I⟩) (hgf _) (hst _)) ?_
  refine gx_rd (cc := cc) own ixs hv hX h3 w (fun Wn dys y μ1 => Wn) (fun dys μ1 => (∀ d ∈ dys, Pd n d) ∧ PySem.W.AllAlike (dys.map toP) ∧ PySem.W.Sortable (dys.map toP) ∧ P (.lst (dys.mergeSort (PySem.W.dataLe false toP))) μ1) h (fun μ1 C' H' ys dys g w' r hl f1 => ?_) (fun μ1 C' H' ys dys vy y Wd' Wn g w' r hl ry q hW => ⟨Nat.lt_of_le_of_lt (by rw [r.len]; omega : ys.length ≤ 100000) (by decide), hW q⟩)
  obtain ⟨hp, ha, hk2, f2⟩ := f1
  refine ⟨dys.map toP, ?_, ha, hk2, fun x hx => ?_, fun q hq => ?_⟩
  · have := pds_dp (H := H') n (pd_dp w'.sub n) _ _ hp r
    rw [toPs_map] at this
    rw [hX.K]
    exact this
  · obtain ⟨d, hd, rfl⟩ := List.mem_map.mp hx
    exact Nat.le_trans (pd_lay n d (hp d hd)).2 hn
  · have nw := Nw.add (o := .lst (((ys.zip (dys.map toP)).mergeSort (PySem.W.dataLe false fun b => b.2)).map (·.1))) w'.sub hq
    exact k _ _ μ1 _ _ (g.trans nw.gr) (w'.nw nw) (.lst upd_same (DatAll.mono nw.core _ _ (datAll_sort r))) f2
theorem ev_sortedG {n : Nat} {α : Type} (xs : List α) (g : α → D) (f : α → D) (hf : Free Γ.mg) (S : Γ.Site) (own : List (Str × Nat)) (ixs : List Nat) (hi : Iv Γ δ μ tg iter (xs.map g)) (hlen : xs.length ≤ 100000) (hn : n ≤ 60) (hp : ∀ x ∈ xs, Pd n (f x)) (ha : PySem.W.AllAlike ((xs.map f).map toP)) (hks : PySem.W.Sortable ((xs.map f).map toP)) (he : ∀ x ∈ xs, El Γ δ μ scope tg elt (own.map (·.2)) ixs (g x) fun y => y =  (f x)) (hk : 1 ≤ Γ.k := by decide) (hv : ∀ j ∈ ixs, j ∈ own.map (·.2) := by decide) (ok : BlkOk Γ.N Γ.sc scope own := by exact L2.blkOk_by (by kernel_rfl)) (G : GScope1 scope := by exact Gx.gsc_by (by kernel_rfl))
    (hg : Γ.sc.names.lookup ("sorted" : Str) = some .globalImplicit := by rfl) (hgf : ∀ env v, genFold iter env v = pure v := by intro _ _; rfl)
    (hst : ∀ env, starEach [.GeneratorExp elt [⟨tg, iter, [], 0⟩] scope gpos] env = (false, eval (.GeneratorExp elt [⟨tg, iter, [], 0⟩] scope gpos) env) :: starEach [] env := by intro _; rfl) :
    Ev Γ δ μ (.Call (.Name "sorted" p) [.GeneratorExp elt [⟨tg, iter, [], 0⟩] scope gpos] [] pos) (.lst ((xs.map f).mergeSort (PySem.W.dataLe false toP))) := ew_sortedG hn hf S hk own ixs hv ok G (hi.w ⟨by rw [List.length_map]; exact hlen, fun i dys => dys = (xs.take i).map fun x =>  (f x), rfl, fun i d dys e hI => by
    obtain ⟨x, h1, rfl⟩ := map_at e
    refine Tg.imp (he x (List.mem_of_getElem? h1)) fun δ2 μ2 ⟨e2, q⟩ => ⟨e2, Ew.imp q fun y μ3 ⟨e3, e4⟩ => ⟨e3, ?_⟩⟩
    have st : dys ++ [y] = (xs.take (i + 1)).map fun x =>  (f x) := by rw [hI, e4]; exact (take_map (f := fun x =>  (f x)) h1).symm
    exact st, fun dys hI => by
    have e : dys = xs.map f := by rw [hI, List.length_map, List.take_length]
    rw [e]
    exact ⟨fun d hd => by obtain ⟨x, hx, rfl⟩ := List.mem_map.mp hd; exact hp x hx, ha, hks, rfl, rfl⟩⟩) hg hgf hst
end
end Dl

set_option maxRecDepth 100000
set_option maxHeartbeats 2000000
/-! x in d, x not in d; dict([..]) -/
namespace Dl
open PySem PySem.Spec PyProof.Rows L2
def hasD (kds : List (Key × D)) (k : Key) : Bool := kds.any fun kd => decide (kd.1 = k)
theorem KAll.has {K : PySem.W.Frag} {C : Hp} {kvs : List (Key × V)} {kds : List (Key × D)} (h : KAll K C kvs kds) (k : Key) : (valV kvs k).isSome = hasD kds k := by
  unfold hasD
  rw [← h.any_eq k]
  unfold valV
  rw [Option.isSome_map, List.isSome_find?]
section
variable {Γ : Gam} {δ : Sd} {μ : Mem} {i o e : Expr} {ds : List D} {P : Pst} {pos p : Pos} {ks : List Key} {kds : List (Key × D)} {s : Str} {x : Addr}
theorem tv_ninM (hi : Ev Γ δ μ i (.str s)) (ho : Ev Γ δ μ o (.adr x)) (hm : (x, MO.dK kds) ∈ μ) (hb : behindInMarks .NotIn o = false := by first | exact nobehind _ (by decide) (by decide) | rfl) : Tv Γ δ μ (.Compare i [.NotIn] [o] pos) (!hasD kds (.inr s)) := fun X hX σ C H Q w k =>
  PTw (pt_cmp (pc_dnotin (by have := hX.room.units; omega) wE_pe wE_pe) hb) (hi X hX σ C H _ w fun v1 d1 μ1 C1 H1 g1 w1 r1 ⟨e1, e2⟩ => by
    subst e1; subst e2
    cases r1
    refine ho X hX σ C1 H1 _ w1 fun v2 d2 μ2 C2 H2 g2 w2 r2 ⟨e1, e2⟩ => ?_
    subst e1; subst e2
    cases r2
    obtain ⟨_, o2, ho2, kvs, eo2, ha⟩ := w2.mem.ok _ hm
    subst eo2
    exact ⟨x, valV kvs (.inr s), rfl, .inl ⟨kvs, .inr s, .inl ho2, rfl, rfl⟩, _, rfl, k _ _ _ _ (g1.trans g2) w2 ⟨by rw [ha.has], rfl⟩⟩)
theorem tv_ninF (hi : Ev Γ δ μ i (.str s)) (ho : Ev Γ δ μ o (.dct ks ds)) (hb : behindInMarks .NotIn o = false := by first | exact nobehind _ (by decide) (by decide) | rfl) : Tv Γ δ μ (.Compare i [.NotIn] [o] pos) (!hasD (ks.zip ds) (.inr s)) := fun X hX σ C H Q w k =>
  PTw (pt_cmp (pc_dnotin (by have := hX.room.units; omega) wE_pe wE_pe) hb) (hi X hX σ C H _ w fun v1 d1 μ1 C1 H1 g1 w1 r1 ⟨e1, e2⟩ => by
    subst e1; subst e2
    cases r1
    refine ho X hX σ C1 H1 _ w1 fun v2 d2 μ2 C2 H2 g2 w2 r2 ⟨e1, e2⟩ => ?_
    subst e1; subst e2
    cases r2 with | @dct a _ vs _ h1 h2 h3 =>
    have ha := kall_of_zip (ks := ks) h3
    exact ⟨a, valV (ks.zip vs) (.inr s), rfl, .inl ⟨_, .inr s, .inl (w2.sub _ _ h1), rfl, rfl⟩, _, rfl, k _ _ _ _ (g1.trans g2) w2 ⟨by rw [ha.has], rfl⟩⟩)
theorem pairs_of {K : PySem.W.Frag} {C H : Hp} (l : Le C H) : ∀ {kss : List (Str × D)} {vs : List V}, DatAll K C vs (kss.map fun x => D.tup [.str x.1, x.2]) → ∃ (ps : List Addr) (kvs : List (Key × V)), vs = ps.map V.ref ∧ PySem.Paired (fun p (kv : Key × V) => SqT K H p [kV kv.1, kv.2]) ps kvs ∧ KAll K C kvs (kss.map fun x => (.inr x.1, x.2))
  | [], _, .nil => ⟨[], [], rfl, .nil, .nil⟩
  | x :: kss, _, .cons r t => by
    obtain ⟨ps, kvs, e, h1, h2⟩ := pairs_of l t
    cases r with | tup q a =>
    obtain ⟨v1, v2, rfl, q1, q2⟩ := a.two
    cases q1
    exact ⟨_ :: ps, (.inr x.1, v2) :: kvs, by rw [e]; rfl, .cons (.inl (l.rd q)) h1, .cons q2 h2⟩
/-- dict([(k, v), ..]) -/
theorem ew_dictP {kss : List (Str × D)} (hm : Γ.mg "dict" = none) (ha : Ev Γ δ μ e (.lst (kss.map fun x => D.tup [.str x.1, x.2]))) (h : ∀ q, P (.adr q) ((q, .dK (mergeD [] (kss.map fun x => (.inr x.1, x.2)))) :: μ)) (hg : Γ.sc.names.lookup ("dict" : Str) = some .globalImplicit := by rfl)
    (he : ∀ env, starEach [e] env = (false, eval e env) :: starEach [] env := by intro _; rfl) (hpl : ∀ env, (backTo pos (starEach [] env)).any (·.1) = false := by intro _; rfl) : Ew Γ δ μ (.Call (.Name "dict" p) [e] [] pos) P := fun X hX σ C H Q w k =>
  PEw (pe_callTy (call_dictP hX.calm) (hX.gl hg) (by rw [hX.mg]; exact hm) (by rfl) (pa_cons wE_pe pa_nil (he _)) (by decide) (by decide) (he _) (hpl _)) (ha X hX σ C H _ w fun v d' μ1 C1 H1 g1 w1 r1 ⟨e1, e2⟩ => by
    subst e1; subst e2
    cases r1 with | @lst a _ _ h1 h2 =>
    obtain ⟨ps, kvs, e, hp, hk⟩ := pairs_of w1.sub h2
    refine ⟨a, ps, kvs, rfl, .inl (.inl (by rw [← e]; exact w1.sub _ _ h1)), by rw [hX.K]; exact hp, fun q hq => ?_⟩
    have gN := g1.trans (Gr.newM (m := .dK (mergeD [] (kss.map fun x => (.inr x.1, x.2)))) (o := .dK (mergeK [] kvs)) hq)
    exact k _ _ _ _ _ gN (w.gr gN (w1.sub.updH (w1.sub.none hq)) (w1.mem.newM hq w1.sub ⟨_, rfl, hk.merge .nil⟩)) (.adr q) (h q))
end
end Dl

set_option maxRecDepth 100000
set_option maxHeartbeats 2000000
/-! a list cut at an end that changes the memory; dicts by names. -/
namespace Dl
open PySem PySem.Spec PyProof.Rows L2
section
variable {Γ : Gam} {δ : Sd} {μ : Mem} {a hi : Expr} {ds : List D} {pos p2 : Pos} {P : Pst}
theorem ew_slLh (ha : Ev Γ δ μ a (.lst ds)) (hh : Ew Γ δ μ hi fun d μ' => ∃ i : Int, d = .int i ∧ P (.lst (cutA ds none (some i))) μ') : Ew Γ δ μ (.Subscript a (.Slice none (some hi) none p2) pos) P := fun X hX σ C H Q w k =>
  PEw (pe_slice sl_list wE_pe po_none (po_some (te := wE X hi) wE_pe)) (ha X hX σ C H _ w fun v1 d1 μ1 C1 H1 g1 w1 r1 ⟨e1, e2⟩ => by
    subst e1; subst e2
    refine hh X hX σ C1 H1 _ w1 fun v2 d2 μ2 C2 H2 g2 w2 r2 ⟨i, e, p⟩ => ?_
    subst e
    cases r2
    refine ⟨i, rfl, ?_⟩
    cases Dat.mono g2.core _ _ r1 with | lst ho ha =>
    refine ⟨_, _, rfl, .inl (.inl (w2.sub _ _ ho)), fun p3 hp => ?_⟩
    exact k _ _ _ _ _ ((g1.trans g2).trans (Nw.add w2.sub hp).gr) (w2.nw (Nw.add w2.sub hp)) (.lst upd_same (DatAll.mono (Le.new (w2.sub.none hp)) _ _ (cut_dat ha))) p)
end
theorem val_names (f : Str → D) {n : Str} : ∀ {ns : List Str}, n ∈ ns → valD (ns.map fun m => ((Sum.inr m : Key), f m)) (.inr n) = some (f n)
  | m :: ms, hm => by
    unfold valD
    rw [List.map_cons, List.find?_cons]
    by_cases e : m = n
    · subst e
      simp
    · have h2 : decide (((Sum.inr m : Key), f m).1 = Sum.inr n) = false := decide_eq_false fun z => e (Sum.inr.inj z)
      rw [h2]
      exact val_names f (by
        rcases List.mem_cons.mp hm with z | z
        · exact absurd z.symm e
        · exact z)
theorem put_names (f g : Str → D) {n : Str} {d : D} {ns : List Str} (h : n ∈ ns) (h1 : g n = d) (h2 : ∀ m, m ≠ n → g m = f m) : putD (ns.map fun m => ((Sum.inr m : Key), f m)) (.inr n) d = ns.map fun m => ((Sum.inr m : Key), g m) := by
  unfold putD
  have hh : ((ns.map fun m => ((Sum.inr m : Key), f m)).any fun kd => decide (kd.1 = .inr n)) = true := List.any_eq_true.mpr ⟨_, List.mem_map.mpr ⟨n, h, rfl⟩, decide_eq_true rfl⟩
  rw [if_pos hh, List.map_map]
  refine List.map_congr_left fun m _ => ?_
  show (if (Sum.inr m : Key) = .inr n then ((Sum.inr m : Key), d) else (.inr m, f m)) = (.inr m, g m)
  by_cases e : m = n
  · rw [if_pos (by rw [e]), e, h1]
  · rw [if_neg (fun z => e (Sum.inr.inj z)), h2 m e]
end Dl

set_option maxRecDepth 100000
set_option maxHeartbeats 2000000
/-! a comprehension's name that is a cell; a def's cells. -/
namespace Dl
open PySem PySem.Spec PyProof.Rows L2
theorem elc_c {Γ : Gam} {δ : Sd} {μ : Mem} {scope : Scope} {elt : Expr} {p : Pos} (i : Nat) {x : Str} {vs : List Nat} {d y : D} (h : Ev (Γ.blk scope) ((wipeD δ vs).set i (some d)) μ elt y) (hN : Γ.N[i]? = some x := by rfl) (hx : Loc (Γ.blk scope).sc x := by exact Or.inr rfl) (hf : (Γ.blk scope).fn x = true := by rfl) : Elc Γ δ μ scope (.Name x p) elt [] vs [i] d true y :=
  tg_n (Γ := Γ.blk scope) i ⟨rfl, cw_no ⟨rfl, rfl, fun _ => h⟩⟩ hN hx (.inr hf)
theorem elc_ct {Γ : Gam} {δ : Sd} {μ : Mem} {scope : Scope} {elt c : Expr} {p : Pos} (i : Nat) {x : Str} {vs : List Nat} {d y : D} {t : Bool} (ht : Tv (Γ.blk scope) ((wipeD δ vs).set i (some d)) μ c t) (h : t = true → Ev (Γ.blk scope) ((wipeD δ vs).set i (some d)) μ elt y) (hN : Γ.N[i]? = some x := by rfl) (hx : Loc (Γ.blk scope).sc x := by first | exact Or.inl rfl | exact Or.inr rfl) (hf : (Γ.blk scope).sc.names.lookup x = some .local ∨ (Γ.blk scope).fn x = true := by first | exact Or.inl rfl | exact Or.inr rfl) : Elc Γ δ μ scope (.Name x p) elt [c] vs [i] d t y :=
  tg_n (Γ := Γ.blk scope) i ⟨rfl, fun X hX σ C H Q w k => cw_one (P := fun b μ3 => μ3 = μ ∧ b = t ∧ (t = true → Ev (Γ.blk scope) _ μ elt y)) (ht.w ⟨rfl, rfl, h⟩) X hX σ C H Q w k⟩ hN hx hf
theorem ew_cl {Γ : Gam} {δ : Sd} {μ : Mem} {e : Expr} {P : Pst} (h : ∀ cl, Ew { Γ with kn := fun X => X.env.cells = cl } δ μ e P) : Ew Γ δ μ e P := fun X hX σ C H Q w k =>
  h X.env.cells X ⟨hX.prog, hX.w, hX.K, hX.mg, hX.base, hX.N, hX.nd, hX.sc, hX.qual, hX.code, hX.calm, hX.room, hX.tk, hX.po, hX.fn, rfl⟩ σ C H Q ⟨w.base, w.sub, w.len, w.sl, w.mem, w.exc⟩ fun v d μ' C' H' g w' r p => k v d μ' C' H' g ⟨w'.base, w'.sub, w'.len, w'.sl, w'.mem, w'.exc⟩ r p
theorem strOk_of (s : String) : PyData.strOk (Str.ofString s) = true := by
  rw [Str.ofString_eq_toList]
  unfold PyData.strOk
  rw [List.all_toArray, List.all_map, List.all_eq_true]
  intro c _
  have h := c.valid
  show decide (c.toNat < 0x110000) = true
  rw [decide_eq_true_eq]
  rcases h with h | ⟨_, h⟩
  · exact Nat.lt_trans h (by decide)
  · exact h
theorem strOk_app {x y : Str} (h1 : PyData.strOk x = true) (h2 : PyData.strOk y = true) : PyData.strOk (x ++ y) = true := by
  unfold PyData.strOk at *
  show ((x.cps ++ y.cps).all _) = true
  rw [Array.all_append, h1, h2]
  rfl
theorem pd_strs {n : Nat} {ss : List Str} (h : ∀ x ∈ ss, PyData.strOk x = true) : Pd (n + 1) (.tup (ss.map D.str)) := by
  simp only [Pd]
  intro x hx
  obtain ⟨y, hy, rfl⟩ := List.mem_map.mp hx
  cases n <;> exact h y hy
theorem pd_intsT {n : Nat} (xs : List Int) : Pd (n + 1) (.tup (xs.map D.int)) := by
  simp only [Pd]
  intro x hx
  obtain ⟨y, hy, rfl⟩ := List.mem_map.mp hx
  cases n <;> trivial
theorem pd_strsL {n : Nat} {ss : List Str} (h : ∀ x ∈ ss, PyData.strOk x = true) : Pd (n + 1) (.lst (ss.map D.str)) := by
  simp only [Pd]
  intro x hx
  obtain ⟨y, hy, rfl⟩ := List.mem_map.mp hx
  cases n <;> exact h y hy
end Dl

set_option maxRecDepth 100000
set_option maxHeartbeats 4000000
namespace K4
open PySem L2 Dl Sp Lw
def top (i : Nat) : Stmt := PySem.Challenge.pw_tidestack_k04_watches_and_rests.main.body.getD i (.Pass ⟨0, 0, 0, 0⟩)
abbrev sWInit : Stmt := inClass (top 7) 0
abbrev sRInit : Stmt := inClass (top 8) 0
abbrev sMin : Stmt := inClass (top 8) 1
abbrev sCan : Stmt := inClass (top 8) 2
abbrev sTake : Stmt := inClass (top 8) 3
abbrev sWhole : Stmt := inClass (top 8) 4
abbrev sAll : Stmt := inClass (top 8) 5
abbrev sSortW : Stmt := top 9
abbrev sFew : Stmt := top 10
def nW : List Str := ["name", "first", "last"]
def nR : List Str := ["crews", "most"]
/-- name, first, last -/
abbrev Wt := Str × Int × Int
def watD (Wa : Addr) (w : Wt) : D := .obj Wa nW [.str w.1, .int w.2.1, .int w.2.2]
def wRow (Wa : Addr) (ws : List Wt) : D := .lst (ws.map (watD Wa))
def okW (w : Wt) : Prop := 0 < w.2.2 - w.2.1 ∧ w.2.2 - w.2.1 ≤ 600
structure Ros where
  names : List Str
  most : Int
  st : Str → List Wt
def rosK (r : Ros) : List Key := r.names.map Sum.inr
def rosD (Wa Ro : Addr) (r : Ros) : D := .obj Ro nR [.dct (rosK r) (r.names.map fun n => wRow Wa (r.st n)), .int r.most]
def rosO (Ro Dd : Addr) (r : Ros) : MO := .ins Ro nR [.adr Dd, .int r.most]
def rosDk (Wa : Addr) (r : Ros) : List (Key × D) := r.names.map fun n => (.inr n, wRow Wa (r.st n))
def rosM (Wa Ro ra Dd : Addr) (r : Ros) : Mem := [(ra, rosO Ro Dd r), (Dd, .dK (rosDk Wa r))]
structure OkR (r : Ros) : Prop where
  ne : r.names ≠ []
  nd : r.names.Nodup
  most : 1 ≤ r.most
  few : r.names.length ≤ 60
  row : ∀ n, (r.st n).length ≤ 1000
def minsIn (ws : List Wt) (a b : Int) : Int := (ws.map fun w => max 0 (min w.2.2 b - max w.2.1 a)).sum
def wholeOf (ws : List Wt) : Int := (ws.map fun w => w.2.2 - w.2.1).sum
structure Fr4 (K : PySem.W.Frag) (mg : Str → Option Value) (Wa Ro Ce : Addr) : Prop where
  free : Free mg
  wc : Cls K Wa
  w0 : NoAttr K Wa "name"
  w1 : NoAttr K Wa "first"
  w2 : NoAttr K Wa "last"
  rc : Cls K Ro
  r0 : NoAttr K Ro "crews"
  r1 : NoAttr K Ro "most"
  rest : ∃ t, mg "REST" = some (.int 480 t)
  long : ∃ t, mg "LONGEST" = some (.int 600 t)
  mw : ∃ t, mg "MOST_WATCHES" = some (.int 8 t)
  xc : Xn K mg "CrewError" Ce
/-- a def's code table -/
structure Sf (mg : Str → Option Value) (base : Heap) (B : Hp) (c : Addr) : Prop where
  ex : ∃ P, PySem.W.CodeHd base c P ∧ B P = some (Gx.TbO P)
  bm : Gx.Bm base mg
theorem Sf.site {P w K mg base B N sc q c k E XP} (s : Sf mg base B c) : (gamOf P w K mg base B N sc q c k E XP).Site := ⟨by obtain ⟨PP, h1, h2⟩ := s.ex; exact ⟨c, PP, rfl, .inl h1, h2⟩, s.bm⟩
structure Sn (mg : Str → Option Value) (base : Heap) (c PP : Addr) : Prop where
  ex : PySem.W.CodeHd base c PP
  bm : Gx.Bm base mg
theorem Sn.site {P w K mg base B N sc q c k E XP PP} (s : Sn mg base c PP) : (gamOf P w K mg base B N sc q c k E XP).SiteN PP := ⟨⟨c, rfl, s.ex⟩, s.bm⟩
theorem ros_has (Wa : Addr) (r : Ros) (n : Str) : hasD (rosDk Wa r) (.inr n) = decide (n ∈ r.names) := by
  unfold hasD rosDk
  rw [List.any_map, Bool.eq_iff_iff, List.any_eq_true, decide_eq_true_eq]
  constructor
  · rintro ⟨x, h1, h2⟩
    have h2 : (Sum.inr x : Key) = .inr n := of_decide_eq_true h2
    rw [← Sum.inr.inj h2]
    exact h1
  · intro h
    exact ⟨n, h, decide_eq_true rfl⟩
theorem ros_zip (Wa : Addr) (r : Ros) : (rosK r).zip (r.names.map fun n => wRow Wa (r.st n)) = rosDk Wa r := by
  unfold rosK rosDk
  rw [List.zip_map']
theorem ros_val (Wa : Addr) {r : Ros} {n : Str} (h : n ∈ r.names) : valD (rosDk Wa r) (.inr n) = some (wRow Wa (r.st n)) := by
  have key : ∀ ms : List Str, n ∈ ms → valD (ms.map fun m => ((Sum.inr m : Key), wRow Wa (r.st m))) (.inr n) = some (wRow Wa (r.st n)) := fun ms => by
    induction ms with
    | nil => intro z; cases z
    | cons m ms ih =>
      intro hm
      unfold valD
      rw [List.map_cons, List.find?_cons]
      by_cases e : m = n
      · subst e
        simp
      · have h2 : decide (((Sum.inr m : Key), wRow Wa (r.st m)).1 = Sum.inr n) = false := decide_eq_false fun z => e (Sum.inr.inj z)
        rw [h2]
        exact ih (by
          rcases List.mem_cons.mp hm with z | z
          · exact absurd z.symm e
          · exact z)
  exact key r.names h
section
variable {P : Program} {w : World} {K : PySem.W.Frag} {mg : Str → Option Value} {base : Heap} {B : Hp} {Wa Ro Ce c : Addr} {k : Nat} {E : XK} {XP : Value → Mem → Prop} {q : Str} {ds : List D} {μ : Mem} {R : Pst}
/-! ### Watch -/
def S_winit (Wa Ce : Addr) : Dl.Spec := fun ds μ P XP => ∃ (x : Addr) (v : Wt), ds = [.adr x, .str v.1, .int v.2.1, .int v.2.2] ∧ μ = [(x, .ins Wa [] [])] ∧ (okW v → P .non [(x, .ins Wa nW [.str v.1, .int v.2.1, .int v.2.2])]) ∧ (¬ okW v → XP (.ref Ce) μ)
theorem run_winit (F : Fr4 K mg Wa Ro Ce) (hS : S_winit Wa Ce ds μ R XP) :
    Run (gamOf P w K mg base B ["self", "name", "first", "last"] (defScope sWInit) q c k E XP) (startD ["self", "name", "first", "last"] ds) μ (defBody sWInit) { nx := fun _ μ' => R .non μ', rt := R } := by
  obtain ⟨x, ⟨nm, a, b⟩, rfl, rfl, h1, h2⟩ := hS
  obtain ⟨tk, hm⟩ := F.long
  refine run_cons (ru_ifv (tv_not (tv_chain ev_int (ev_bin (ev_n 3) (ev_n 2) b_sub) b_lt (ev_glob hm) b_le)) (fun q1 => run_one (ru_raise F.xc ?_)) (fun q1 => run_nil ?_))
  · refine h2 fun ok => ?_
    have o1 : 0 < b - a := ok.1
    have o2 : b - a ≤ 600 := ok.2
    simp only [Bool.not_eq_true', Bool.and_eq_false_iff, decide_eq_false_iff_not] at q1
    omega
  · have ok : okW (nm, a, b) := by
      simp only [Bool.not_eq_false', Bool.and_eq_true, decide_eq_true_eq] at q1
      exact ⟨by show 0 < b - a; omega, by show b - a ≤ 600; omega⟩
    refine run_cons (ru_fld ((ev_n 1).w ⟨[], [], [], [], rfl, ev_n 0, by decide +kernel, by decide, ?_⟩) F.wc F.w0)
    refine run_cons (ru_fld ((ev_n 2).w ⟨[], _, _, [], rfl, ev_n 0, by decide +kernel, by decide, ?_⟩) F.wc F.w1)
    refine run_one (ru_fld ((ev_n 3).w ⟨[], _, _, [], rfl, ev_n 0, by decide +kernel, by decide, ?_⟩) F.wc F.w2)
    exact h1 ok
theorem mk_wat {v : Wt} (h : okW v) : ∀ a (P : Pst), P .non [(a, .ins Wa nW [.str v.1, .int v.2.1, .int v.2.2])] → S_winit Wa Ce [.adr a, .str v.1, .int v.2.1, .int v.2.2] [(a, .ins Wa [] [])] P NoX := fun a P p => ⟨a, v, rfl, rfl, fun _ => p, fun n => (n h).elim⟩
/-! ### Roster -/
def okRn (names : List Str) (most : Int) : Prop := names ≠ [] ∧ names.Nodup ∧ 1 ≤ most
def S_rinit (Wa Ro Ce : Addr) : Dl.Spec := fun ds μ P XP => ∃ (x : Addr) (names : List Str) (most : Int), ds = [.adr x, .lst (names.map D.str), .int most] ∧ names.length ≤ 1000 ∧ μ = [(x, .ins Ro [] [])] ∧
  (okRn names most → ∀ Dd, P .non [(Dd, .dK (rosDk Wa ⟨names, most, fun _ => []⟩)), (x, rosO Ro Dd ⟨names, most, fun _ => []⟩)]) ∧ (¬ okRn names most → XP (.ref Ce) μ)
theorem run_rinit (F : Fr4 K mg Wa Ro Ce) (hS : S_rinit Wa Ro Ce ds μ R XP) :
    Run (gamOf P w K mg base B ["self", "names", "most", "name"] (defScope sRInit) q c k E XP) (startD ["self", "names", "most", "name"] ds) μ (defBody sRInit) { nx := fun _ μ' => R .non μ', rt := R } := by
  obtain ⟨x, names, most, rfl, hl, rfl, h1, h2⟩ := hS
  have dl := dcOf_len (fun n : Str => n) (fun _ => D.bl true) names
  have dn := fun nd => congrArg List.length (dcOf_nd (fun n : Str => n) (fun _ => D.bl true) (xs := names) nd)
  rw [List.map_id'] at dl
  have hz : ∀ a : Int, decide (a < 1) = !decide (1 ≤ a) := fun a => by by_cases h : a < 1 <;> simp [h] <;> omega
  refine run_cons (ru_ifv (Wv.t (wv_or (tv_cmp ((ev_len F.free (ev_n 1)).cast (by rw [List.length_map])) ev_int b_eqI) fun _ => wv_or (tv_cmp (ev_lenDF F.free (ev_dc names D.str (fun n : Str => n) (fun _ => D.bl true) [("name", 3)] [3] (iv_list (ev_n 1)) (by omega) (fun n hn => tg_n (Γ := Gam.blk _ _) 3 ⟨rfl, ev_n 3, ev_bl⟩ rfl (.inl rfl) (.inl rfl))) (by rw [List.length_map])) ((ev_len F.free (ev_n 1)).cast (by rw [List.length_map])) b_lt) fun _ => wv_1 (tv_cmp (ev_n 2) ev_int b_lt))) (fun t => run_one (ru_raise F.xc ?_)) (fun t => run_nil ?_))
  · refine h2 fun ok => ?_
    have e := dn (by rw [List.map_id']; exact ok.2.1)
    rw [List.length_map] at e
    have o3 := ok.2.2
    have o1 : names.length ≠ 0 := fun z => ok.1 (List.length_eq_zero_iff.mp z)
    simp only [Bool.or_eq_true, decide_eq_true_eq] at t
    omega
  · simp only [Bool.or_eq_false_iff, decide_eq_false_iff_not] at t
    have nd : names.Nodup := Classical.byContradiction fun z => by have := dl.2 z; omega
    have ok : okRn names most := ⟨fun z => t.1 (by rw [z]; rfl), nd, by omega⟩
    have h1 := h1 ok
    have et := dcOf_nd (fun n : Str => n) (fun _ => D.lst []) (xs := names) (by rw [List.map_id']; exact nd)
    refine run_cons (ru_fld (x := x) (ew_dcM [("name", 3)] [3] (L2.blkOk_by (by kernel_rfl)) (by decide) (Iv.w (iv_list (ev_n 1)) ?_)) F.rc F.r0)
    refine ⟨by rw [List.length_map]; omega, fun i acc μ' => acc = dcOf (fun n : Str => n) (fun _ => D.lst []) (names.take i) ∧ μ' = [(x, .ins Ro [] [])], ⟨by simp [dcOf], rfl⟩, ?_, ?_⟩
    · rintro i y acc μ' hd ⟨rfl, rfl⟩
      obtain ⟨n, hn, rfl⟩ := map_at hd
      refine tg_n 3 (cw_no ⟨fun _ => ⟨n, ev_n 3, (ev_lst av_nil).w ⟨?_, rfl⟩⟩, fun z => by cases z⟩)
      rw [List.take_add_one, hn]
      show _ = dcOf _ _ (names.take i ++ [n])
      rw [dcOf_snoc]
    · rintro Dd acc μ' ⟨rfl, rfl⟩
      rw [List.length_map, List.take_length, et]
      refine ⟨[(Dd, .dK (names.map fun n => (.inr n, .lst [])))], [], [], [], rfl, ev_n 0, by decide +kernel, by decide, ?_⟩
      refine run_one (ru_fld ((ev_n 2).w ⟨[(Dd, .dK (names.map fun n => (.inr n, .lst [])))], _, _, [], rfl, ev_n 0, by decide +kernel, by decide, ?_⟩) F.rc F.r1)
      exact h1 Dd
end
end K4

set_option maxRecDepth 100000
set_option maxHeartbeats 4000000
namespace K4
open PySem L2 Dl Sp Lw
theorem sbD_wat (m : Addr → Option D) (Wa : Addr) (v : Wt) : sbD m (watD Wa v) = watD Wa v := by simp [watD, sbD, sbDs]
theorem sbDs_id {α : Type} (m : Addr → Option D) (g : α → D) (h : ∀ a, sbD m (g a) = g a) (xs : List α) : sbDs m (xs.map g) = xs.map g := by
  rw [sbDs_map, List.map_map]
  exact List.map_congr_left fun a _ => h a
theorem sbD_row (m : Addr → Option D) (Wa : Addr) (ws : List Wt) : sbD m (wRow Wa ws) = wRow Wa ws := by
  show D.lst (sbDs m (ws.map (watD Wa))) = _
  rw [sbDs_id _ _ (sbD_wat m Wa)]
  rfl
theorem sb_ros {Wa Ro ra Dd : Addr} {r : Ros} : sbD (mOf (rosM Wa Ro ra Dd r)) (.adr ra) = rosD Wa Ro r := by
  show (if ra = ra then some (toDat (sbMO (mOf [(Dd, MO.dK (rosDk Wa r))]) (rosO Ro Dd r))) else _).getD _ = _
  rw [if_pos rfl]
  have e1 : mOf [(Dd, MO.dK (rosDk Wa r))] Dd = some (.dct (rosK r) (r.names.map fun n => wRow Wa (r.st n))) := by
    show (if Dd = Dd then some (toDat (sbMO (mOf []) (.dK (rosDk Wa r)))) else _) = _
    rw [if_pos rfl]
    show some (D.dct (((rosDk Wa r).map fun p => (p.1, sbD (mOf []) p.2)).map (·.1)) (((rosDk Wa r).map fun p => (p.1, sbD (mOf []) p.2)).map (·.2))) = _
    have e0 : (rosDk Wa r).map (fun p => (p.1, sbD (mOf []) p.2)) = rosDk Wa r := by
      unfold rosDk
      rw [List.map_map]
      exact List.map_congr_left fun n _ => congrArg (Prod.mk (Sum.inr n : Key)) (sbD_row _ Wa (r.st n))
    rw [e0]
    unfold rosDk rosK
    rw [List.map_map, List.map_map]
    rfl
  show D.obj Ro nR [(mOf [(Dd, MO.dK (rosDk Wa r))] Dd).getD _, .int r.most] = _
  rw [e1]
  rfl
theorem rosM_frz {Wa Ro ra Dd : Addr} {r : Ros} : ∀ p ∈ rosM Wa Ro ra Dd r, frzb p.2 = true := fun p hp => by
  simp only [rosM, List.mem_cons, List.not_mem_nil, or_false] at hp
  rcases hp with rfl | rfl <;> rfl
theorem nogt : ∀ p ∈ ([] : Mem), ∃ g, p.2 = MO.gt g := fun p hp => by cases hp
def setSt (r : Ros) (n : Str) (ws : List Wt) : Ros := { r with st := fun m => if m = n then ws else r.st m }
theorem put_ros (Wa : Addr) {r : Ros} {n : Str} (ws : List Wt) (h : n ∈ r.names) : putD (rosDk Wa r) (.inr n) (wRow Wa ws) = rosDk Wa (setSt r n ws) := by
  unfold putD
  have hh : ((rosDk Wa r).any fun kd => decide (kd.1 = .inr n)) = true := by
    have := ros_has Wa r n
    unfold hasD at this
    rw [this]
    exact decide_eq_true h
  rw [if_pos hh]
  unfold rosDk
  rw [List.map_map]
  refine List.map_congr_left fun m _ => ?_
  show (if (Sum.inr m : Key) = .inr n then ((Sum.inr m : Key), wRow Wa ws) else (.inr m, wRow Wa (r.st m))) = (.inr m, wRow Wa (if m = n then ws else r.st m))
  by_cases e : m = n
  · rw [if_pos (by rw [e]), if_pos e]
  · rw [if_neg (fun z => e (Sum.inr.inj z)), if_neg e]
theorem set_back (Wa : Addr) (r : Ros) (n : Str) (ws : List Wt) : rosDk Wa (setSt (setSt r n ws) n (r.st n)) = rosDk Wa r := by
  unfold rosDk
  refine List.map_congr_left fun m _ => ?_
  show ((Sum.inr m : Key), wRow Wa (if m = n then r.st n else if m = n then ws else r.st m)) = _
  by_cases e : m = n
  · rw [if_pos e, e]
  · rw [if_neg e, if_neg e]
def confB (ws : List Wt) (w : Wt) : Bool := ws.any fun x => decide (x.2.1 < w.2.2 + 480) && decide (w.2.1 < x.2.2 + 480)
def startsOf (ws : List Wt) : List Int := (ws.map fun w => w.2.1) ++ ws.map fun w => w.2.2 - 10080
def canB (ws : List Wt) (w : Wt) (most : Int) : Bool := !confB ws w && (startsOf (ws ++ [w])).all fun s => decide (minsIn (ws ++ [w]) s (s + 10080) ≤ most)
section
variable {P : Program} {w : World} {K : PySem.W.Frag} {mg : Str → Option Value} {base : Heap} {B : Hp} {Wa Ro Ce c : Addr} {k : Nat} {E : XK} {XP : Value → Mem → Prop} {q : Str} {ds : List D} {μ : Mem} {R : Pst}
/-! minutes_in -/
def S_min (Wa Ro Ce : Addr) : Dl.Spec := fun ds μ P XP => ∃ (r : Ros) (n : Str) (a b : Int), OkR r ∧ ((ds = [rosD Wa Ro r, .str n, .int a, .int b] ∧ n ∈ r.names ∧ P (.int (minsIn (r.st n) a b)) μ) ∨ ∃ ra Dd, ds = [.adr ra, .str n, .int a, .int b] ∧ μ = rosM Wa Ro ra Dd r ∧ n ∉ r.names ∧ XP (.ref Ce) μ)
theorem run_min (F : Fr4 K mg Wa Ro Ce) (St : Sf mg base B c) (hk : 1 ≤ k) (hS : S_min Wa Ro Ce ds μ R XP) :
    Run (gamOf P w K mg base B ["self", "name", "first", "last", "one"] (defScope sMin) q c k E XP) (startD ["self", "name", "first", "last", "one"] ds) μ (defBody sMin) { nx := fun _ μ' => R .non μ', rt := R } := by
  obtain ⟨r, n, a, b, ok, ⟨rfl, hn, h⟩ | ⟨ra, Dd, rfl, rfl, hn, h⟩⟩ := hS
  · have hr := ok.row n
    refine run_cons (ru_ifv (k := false) (Tv.cast (tv_ninF (ev_n 1) (ev_fld (ev_n 0) F.rc F.r0 rfl)) (by rw [ros_zip, ros_has, decide_eq_true hn]; rfl)) (fun z => by cases z) (fun _ => run_nil ?_))
    refine run_one (ru_ret (Ev.w (ev_sumG (r.st n) (watD Wa) (fun v => max 0 (min v.2.2 b - max v.2.1 a)) F.free St.site [("one", 4)] [4] (iv_list (ev_dgetF (ev_fld (ev_n 0) F.rc F.r0 rfl) (ev_n 1) (by rw [ros_zip]; exact ros_val Wa hn))) (by omega) (fun v hv => el_v 4 (ev_b2 (F.free _ (by decide)) PyProof.Rows.boot_max ev_int (ev_bin (ev_b2 (F.free _ (by decide)) PyProof.Rows.boot_min (ev_fld (ev_n 4) F.wc F.w2 rfl) (ev_n 3) c_min2) (ev_b2 (F.free _ (by decide)) PyProof.Rows.boot_max (ev_fld (ev_n 4) F.wc F.w1 rfl) (ev_n 2) c_max2) b_sub) c_max2)) (by show 1 ≤ k; omega)) h))
  · refine run_cons (ru_ifv (k := true) (Tv.cast (tv_ninM (kds := rosDk Wa r) (ev_n 1) (ev_fldM (d := .adr Dd) (ev_n 0) List.mem_cons_self F.rc F.r0 (by rfl)) (List.mem_cons_of_mem _ List.mem_cons_self)) (by rw [ros_has, decide_eq_false hn]; rfl)) (fun _ => run_one (ru_raise F.xc h)) (fun z => by cases z))
theorem pure_min {r : Ros} {n : Str} (a b : Int) (ok : OkR r) (hn : n ∈ r.names) : Pure (S_min Wa Ro Ce) [rosD Wa Ro r, .str n, .int a, .int b] (.int (minsIn (r.st n) a b)) := fun P p => ⟨r, n, a, b, ok, .inl ⟨rfl, hn, p⟩⟩
end
end K4

set_option maxRecDepth 100000
set_option maxHeartbeats 4000000
namespace K4
open PySem L2 Dl Sp Lw
theorem OkR.set {r : Ros} {n : Str} {ws : List Wt} (h : OkR r) (hw : ws.length ≤ 1000) : OkR (setSt r n ws) := ⟨h.ne, h.nd, h.most, h.few, fun m => by
  show (if m = n then ws else r.st m).length ≤ 1000
  split
  · exact hw
  · exact h.row m⟩
section
variable {P : Program} {w : World} {K : PySem.W.Frag} {mg : Str → Option Value} {base : Heap} {B : Hp} {Wa Ro Ce c : Addr} {k : Nat} {E : XK} {XP : Value → Mem → Prop} {q : Str} {ds : List D} {μ : Mem} {R : Pst}
/-! whole -/
def S_whole (Wa Ro Ce : Addr) : Dl.Spec := fun ds μ P XP => ∃ (r : Ros) (n : Str), OkR r ∧ ((ds = [rosD Wa Ro r, .str n] ∧ n ∈ r.names ∧ P (.int (wholeOf (r.st n))) μ) ∨ ∃ ra Dd, ds = [.adr ra, .str n] ∧ μ = rosM Wa Ro ra Dd r ∧ n ∉ r.names ∧ XP (.ref Ce) μ)
theorem run_whole (F : Fr4 K mg Wa Ro Ce) (St : Sf mg base B c) (hk : 1 ≤ k) (hS : S_whole Wa Ro Ce ds μ R XP) :
    Run (gamOf P w K mg base B ["self", "name", "one"] (defScope sWhole) q c k E XP) (startD ["self", "name", "one"] ds) μ (defBody sWhole) { nx := fun _ μ' => R .non μ', rt := R } := by
  obtain ⟨r, n, ok, ⟨rfl, hn, h⟩ | ⟨ra, Dd, rfl, rfl, hn, h⟩⟩ := hS
  · have hr := ok.row n
    refine run_cons (ru_ifv (k := false) (Tv.cast (tv_ninF (ev_n 1) (ev_fld (ev_n 0) F.rc F.r0 rfl)) (by rw [ros_zip, ros_has, decide_eq_true hn]; rfl)) (fun z => by cases z) (fun _ => run_nil ?_))
    refine run_one (ru_ret (Ev.w (ev_sumG (r.st n) (watD Wa) (fun v => v.2.2 - v.2.1) F.free St.site [("one", 2)] [2] (iv_list (ev_dgetF (ev_fld (ev_n 0) F.rc F.r0 rfl) (ev_n 1) (by rw [ros_zip]; exact ros_val Wa hn))) (by omega) (fun v hv => el_v 2 (ev_bin (ev_fld (ev_n 2) F.wc F.w2 rfl) (ev_fld (ev_n 2) F.wc F.w1 rfl) b_sub)) (by show 1 ≤ k; omega)) h))
  · refine run_cons (ru_ifv (k := true) (Tv.cast (tv_ninM (kds := rosDk Wa r) (ev_n 1) (ev_fldM (d := .adr Dd) (ev_n 0) List.mem_cons_self F.rc F.r0 (by rfl)) (List.mem_cons_of_mem _ List.mem_cons_self)) (by rw [ros_has, decide_eq_false hn]; rfl)) (fun _ => run_one (ru_raise F.xc h)) (fun z => by cases z))
theorem pure_whole {r : Ros} {n : Str} (ok : OkR r) (hn : n ∈ r.names) : Pure (S_whole Wa Ro Ce) [rosD Wa Ro r, .str n] (.int (wholeOf (r.st n))) := fun P p => ⟨r, n, ok, .inl ⟨rfl, hn, p⟩⟩
/-! can_take -/
def S_can (Wa Ro Ce : Addr) : Dl.Spec := fun ds μ P XP => ∃ (r : Ros) (n : Str) (v : Wt) (ra Dd : Addr), OkR r ∧ (r.st n).length ≤ 900 ∧ ds = [.adr ra, .str n, watD Wa v] ∧ μ = rosM Wa Ro ra Dd r ∧ (n ∈ r.names → P (.bl (canB (r.st n) v r.most)) μ) ∧ (n ∉ r.names → XP (.ref Ce) μ)
theorem run_can (F : Fr4 K mg Wa Ro Ce) (St : Sf mg base B c) (GM : Mn P w K mg base B Ro "minutes_in" 2 4 (S_min Wa Ro Ce)) (hk : 3 ≤ k) (hS : S_can Wa Ro Ce ds μ R XP) :
    Run (gamOf P w K mg base B ["self", "name", "watch", "rows", "starts", "good", "one", "start"] (defScope sCan) q c k E XP) (startD ["self", "name", "watch", "rows", "starts", "good", "one", "start"] ds) μ (defBody sCan) { nx := fun _ μ' => R .non μ', rt := R } := by
  obtain ⟨r, n, v, ra, Dd, ok, hr, rfl, rfl, h1, h2⟩ := hS
  obtain ⟨tk, hrest⟩ := F.rest
  have mR : ∀ r : Ros, (ra, rosO Ro Dd r) ∈ rosM Wa Ro ra Dd r := fun r => List.mem_cons_self
  have mD : ∀ r : Ros, (Dd, MO.dK (rosDk Wa r)) ∈ rosM Wa Ro ra Dd r := fun r => List.mem_cons_of_mem _ List.mem_cons_self
  refine (Classical.em (n ∈ r.names)).elim (fun hn => ?_) (fun hn => ?_)
  · have h1 := h1 hn
    refine run_cons (ru_ifv (k := false) (Tv.cast (tv_ninM (kds := rosDk Wa r) (ev_n 1) (ev_fldM (d := .adr Dd) (ev_n 0) (mR r) F.rc F.r0 (by rfl)) (mD r)) (by rw [ros_has, decide_eq_true hn]; rfl)) (fun z => by cases z) (fun _ => run_nil ?_))
    refine run_cons (ru_set 3 (Ev.w (ev_dget (ev_fldM (d := .adr Dd) (ev_n 0) (mR r) F.rc F.r0 (by rfl)) (mD r) (ev_n 1) (ros_val Wa hn)) ?_))
    refine run_cons (ru_ifv (tv_val (ev_anyG (r.st n) (watD Wa) (fun x => decide (x.2.1 < v.2.2 + 480) && decide (v.2.1 < x.2.2 + 480)) F.free St.site [("one", 6)] [6] (iv_list (ev_n 3)) (by omega) (fun x hx => el_v 6 (ev_and (ev_cmp (ev_fld (ev_n 6) F.wc F.w1 rfl) (ev_bin (ev_fld (ev_n 2) F.wc F.w2 rfl) (ev_glob hrest) b_add) b_lt) fun _ => ev_and1 (ev_cmp (ev_fld (ev_n 2) F.wc F.w1 rfl) (ev_bin (ev_fld (ev_n 6) F.wc F.w2 rfl) (ev_glob hrest) b_add) b_lt))) (by show 1 ≤ k; omega)) rfl) (fun t => run_one (ru_ret (ev_bl.w ?_))) (fun t => run_nil ?_))
    · have e : canB (r.st n) v r.most = false := by
        unfold canB confB
        rw [t]
        rfl
      rw [e] at h1
      exact h1
    · have e : canB (r.st n) v r.most = (startsOf (r.st n ++ [v])).all fun s => decide (minsIn (r.st n ++ [v]) s (s + 10080) ≤ r.most) := by
        unfold canB confB
        rw [t]
        rfl
      rw [e] at h1
      clear e
      have ok2 : OkR (setSt r n (r.st n ++ [v])) := ok.set (by rw [List.length_append, List.length_singleton]; omega)
      have st2 : (setSt r n (r.st n ++ [v])).st n = r.st n ++ [v] := if_pos rfl
      have hv2 : valD (rosDk Wa (setSt r n (r.st n ++ [v]))) (.inr n) = some (wRow Wa (r.st n ++ [v])) := by have := ros_val Wa (r := setSt r n (r.st n ++ [v])) hn; rwa [st2] at this
      have hkl : (rosDk Wa r).length < 100000 := by unfold rosDk; rw [List.length_map]; have := ok.few; omega
      refine run_cons (ru_asg (ixs := []) (Ev.w (ev_bin (ev_n 3) (ev_lst (av_cons (ev_n 2) av_nil)) (b_cat (by rw [List.length_map]; simp; omega))) (tg_dset (ν1 := [(ra, rosO Ro Dd r)]) (ν2 := []) (x := Dd) (kds := rosDk Wa r) (ev_fldM (d := .adr Dd) (ev_n 0) List.mem_cons_self F.rc F.r0 (by rfl)) (ev_n 1) hkl ?_)))
      have ew : D.lst ((r.st n).map (watD Wa) ++ [watD Wa v]) = wRow Wa (r.st n ++ [v]) := by unfold wRow; rw [List.map_append]; rfl
      rw [ew, put_ros Wa _ hn]
      show Run _ _ (rosM Wa Ro ra Dd (setSt r n (r.st n ++ [v]))) _ _
      have hsl : (startsOf (r.st n ++ [v])).length ≤ 2000 := by unfold startsOf; simp; omega
      refine run_cons (ru_set 4 (Ev.w (Ev.cast (d1 := .lst ((startsOf (r.st n ++ [v])).map D.int)) (ev_bin (ev_lc (r.st n ++ [v]) (watD Wa) (fun _ => true) (fun x => .int x.2.1) [("one", 6)] [6] (iv_list (ev_dget (ev_fldM (d := .adr Dd) (ev_n 0) (mR _) F.rc F.r0 (by rfl)) (mD _) (ev_n 1) hv2)) (by simp; omega) (fun x hx => elc_n 6 (ev_fld (ev_n 6) F.wc F.w1 rfl))) (ev_lc (r.st n ++ [v]) (watD Wa) (fun _ => true) (fun x => .int (x.2.2 - 10080)) [("one", 6)] [6] (iv_list (ev_dget (ev_fldM (d := .adr Dd) (ev_n 0) (mR _) F.rc F.r0 (by rfl)) (mD _) (ev_n 1) hv2)) (by simp; omega) (fun x hx => elc_n 6 (ev_bin (ev_fld (ev_n 6) F.wc F.w2 rfl) ev_int b_sub))) (b_cat (by rw [keep_all, keep_all]; simp; omega))) ?_) ?_))
      · rw [keep_all, keep_all]
        unfold startsOf
        generalize r.st n ++ [v] = zs
        rw [List.map_append, List.map_map, List.map_map]
        rfl
      refine run_cons (ru_set 5 (Ev.w (ev_allG (startsOf (r.st n ++ [v])) D.int (fun s => decide (minsIn ((setSt r n (r.st n ++ [v])).st n) s (s + 10080) ≤ r.most)) F.free St.site [("start", 7)] [7] (iv_list (ev_n 4)) (by omega) (fun s hs => el_v 7 (ev_view (d := .bl (decide (minsIn ((setSt r n (r.st n ++ [v])).st n) s (s + 10080) ≤ r.most))) (γ := []) (κ := []) (List.Perm.refl _) rosM_frz nogt (δ' := [some (rosD Wa Ro (setSt r n (r.st n ++ [v]))), some (.str n), none, none, none, none, none, some (.int s)]) (.yes sb_ros (.yes (by simp [sbD]) (.no (.no (.no (.no (.no (.yes (by simp [sbD]) .nil)))))))) (ev_cmp (ev_methV GM (ev_n 0) (by exact ⟨rfl, rfl⟩) (av_cons (ev_n 1) (av_cons (ev_n 7) (av_cons (ev_bin (ev_n 7) ev_int b_add) av_nil))) (pure_min _ _ ok2 hn) rfl (by show 2 ≤ k - 1; omega)) (ev_fld (ev_n 0) F.rc F.r1 rfl) b_le) rfl)) (by show 1 ≤ k; omega)) ?_))
      refine run_cons (ru_asg (ixs := []) (Ev.w (ev_n 3) (tg_dset (ν1 := [(ra, rosO Ro Dd (setSt r n (r.st n ++ [v])))]) (ν2 := []) (x := Dd) (kds := rosDk Wa (setSt r n (r.st n ++ [v]))) (ev_fldM (d := .adr Dd) (ev_n 0) List.mem_cons_self F.rc F.r0 (by rfl)) (ev_n 1) (by unfold rosDk; rw [List.length_map]; exact Nat.lt_of_le_of_lt ok2.few (by decide)) ?_)))
      have ew3 : D.lst ((r.st n).map (watD Wa)) = wRow Wa (r.st n) := rfl
      rw [put_ros Wa (r := setSt r n (r.st n ++ [v])) _ hn, set_back]
      refine run_one (ru_ret ((ev_n 5).w ?_))
      rw [st2]
      exact h1
  · have h2 := h2 hn
    exact run_cons (ru_ifv (k := true) (Tv.cast (tv_ninM (kds := rosDk Wa r) (ev_n 1) (ev_fldM (d := .adr Dd) (ev_n 0) (mR r) F.rc F.r0 (by rfl)) (mD r)) (by rw [ros_has, decide_eq_false hn]; rfl)) (fun _ => run_one (ru_raise F.xc h2)) (fun z => by cases z))
end
end K4

set_option maxRecDepth 100000
set_option maxHeartbeats 4000000
namespace Dl
open PySem PySem.Spec PyProof.Rows L2
section
variable {Γ : Gam} {δ : Sd} {μ : Mem} {e : Expr} {ds : List D} {pos p : Pos} {ks : List Key} {kds : List (Key × D)} {x : Addr}
theorem ev_sortedDF {ns sn : List Str} (hf : Free Γ.mg) (ha : Ev Γ δ μ e (.dct ks ds)) (hks : ks = ns.map Sum.inr) (h64 : ns.length < 64) (hp : sn.Perm ns) (hs : sortedS sn = true)
    (hg : Γ.sc.names.lookup ("sorted" : Str) = some .globalImplicit := by rfl) (he : ∀ env, starEach [e] env = (false, eval e env) :: starEach [] env := by intro _; rfl) (hpl : ∀ env, (backTo pos (starEach [] env)).any (·.1) = false := by intro _; rfl) : Ev Γ δ μ (.Call (.Name "sorted" p) [e] [] pos) (.lst (sn.map D.str)) :=
  ew_sortedDF hf ha hks h64 (fun ys h1 h2 => ⟨by rw [sorted_uniq (h1.trans hp.symm) h2 hs], rfl⟩) hg he hpl
theorem ev_sortedDM {ns sn : List Str} (hf : Free Γ.mg) (ha : Ev Γ δ μ e (.adr x)) (hm : (x, MO.dK kds) ∈ μ) (hks : kds.map (·.1) = ns.map Sum.inr) (h64 : ns.length < 64) (hp : sn.Perm ns) (hs : sortedS sn = true)
    (hg : Γ.sc.names.lookup ("sorted" : Str) = some .globalImplicit := by rfl) (he : ∀ env, starEach [e] env = (false, eval e env) :: starEach [] env := by intro _; rfl) (hpl : ∀ env, (backTo pos (starEach [] env)).any (·.1) = false := by intro _; rfl) : Ev Γ δ μ (.Call (.Name "sorted" p) [e] [] pos) (.lst (sn.map D.str)) :=
  ew_sortedD hf ha hm hks h64 (fun ys h1 h2 => ⟨by rw [sorted_uniq (h1.trans hp.symm) h2 hs], rfl⟩) hg he hpl
end
end Dl
namespace K4
open PySem L2 Dl Sp Lw
/-- the names, ascending -/
structure Srt (r : Ros) (sn : List Str) : Prop where
  perm : sn.Perm r.names
  sorted : PyProof.Rows.sortedS sn = true
def allD (sn : List Str) (st : Str → List Wt) : D := .tup (sn.map fun n => .tup [.str n, .tup ((st n).map fun w : Wt => D.str w.1)])
def gAll : Pos := match defBody sAll with
  | [.Return (some (.Call _ [.GeneratorExp _ _ _ g] _ _)) _] => g
  | _ => ⟨0, 0, 0, 0⟩
section
variable {P : Program} {w : World} {K : PySem.W.Frag} {mg : Str → Option Value} {base : Heap} {B : Hp} {Wa Ro Ce c PP : Addr} {k : Nat} {E : XK} {XP : Value → Mem → Prop} {q : Str} {ds : List D} {μ : Mem} {R : Pst}
def S_all (Wa Ro PP : Addr) : Dl.Spec := fun ds μ P _ => ∃ (r : Ros) (sn : List Str), OkR r ∧ Srt r sn ∧ ds = [rosD Wa Ro r] ∧ μ = [(PP, .gt gAll)] ∧ P (allD sn r.st) μ
theorem run_all (F : Fr4 K mg Wa Ro Ce) (St : Sn mg base c PP) (hk : 2 ≤ k) (hS : S_all Wa Ro PP ds μ R XP) :
    Run (gamOf P w K mg base B ["self", "name", "one"] (defScope sAll) q c k E XP) (startD ["self", "name", "one"] ds) μ (defBody sAll) { nx := fun _ μ' => R .non μ', rt := R } := by
  obtain ⟨r, sn, ok, hs, rfl, rfl, h⟩ := hS
  have hf := ok.few
  have hsl : sn.length ≤ 60 := by rw [hs.perm.length_eq]; exact hf
  refine run_one (ru_ret ((ev_tupleGN sn D.str (fun n => D.tup [.str n, .tup ((r.st n).map fun w : Wt => D.str w.1)]) F.free St.site List.mem_cons_self [("name", 1)] [1] (iv_list (ev_sortedDF (ns := r.names) F.free (ev_fld (ev_n 0) F.rc F.r0 rfl) rfl (by omega) hs.perm hs.sorted)) (by omega) (fun n hn => elN_v 1 fun c2 P2 hne hle => ?_) (by show 1 ≤ k; omega)).w h))
  have hn2 : n ∈ r.names := hs.perm.mem_iff.mp hn
  have hr := ok.row n
  exact ev_tup (av_cons (ev_n 1) (av_cons (ev_tupleG (r.st n) (watD Wa) (fun w : Wt => D.str w.1) F.free (Gam.gxN_site hne St.bm) [("one", 2)] [2] (iv_list (ev_dgetF (ev_fld (ev_n 0) F.rc F.r0 rfl) (ev_n 1) (by rw [ros_zip]; exact ros_val Wa hn2))) (by omega) (fun v hv => el_v 2 (ev_fld (ev_n 2) F.wc F.w0 rfl)) (by show 1 ≤ k - 1; omega)) av_nil))
theorem pure_all {r : Ros} {sn : List Str} (ok : OkR r) (hs : Srt r sn) : PureM (S_all Wa Ro PP) [rosD Wa Ro r] [(PP, .gt gAll)] (allD sn r.st) := fun P p => ⟨r, sn, ok, hs, rfl, rfl, p⟩
end
end K4

set_option maxRecDepth 100000
set_option maxHeartbeats 4000000
namespace K4
open PySem L2 Dl Sp Lw
/-- first, name -/
abbrev Fn := Int × Str
def fnD (r : Fn) : D := .tup [.int r.1, .str r.2]
theorem fn_toP (r : Fn) : toP (fnD r) = PySem.W.Datum.toD r := by
  show toP (.tup [.int r.1, .str r.2]) = PyData.tuple [.int r.1, .str r.2]
  simp only [toP, toPs]
theorem fn_le (a b : Fn) : PySem.W.dataLe false toP (fnD a) (fnD b) = !PySem.W.DatumOrd.lt b a := dataLe_typed fnD fn_toP a b
theorem sort_fn (xs : List Fn) : (xs.map fnD).mergeSort (PySem.W.dataLe false toP) = (xs.mergeSort fun a b => PySem.W.dataLe false toP (fnD a) (fnD b)).map fnD :=
  (List.map_mergeSort (r := fun a b => PySem.W.dataLe false toP (fnD a) (fnD b)) (s := PySem.W.dataLe false toP) (fun _ _ _ _ => rfl)).symm
def fnOf (w : Wt) : Fn := (w.2.1, w.1)
/-- in the order of time -/
def sortW (ws : List Wt) : List Wt := ws.mergeSort fun a b => PySem.W.dataLe false toP (fnD (fnOf a)) (fnD (fnOf b))
theorem sortW_perm (ws : List Wt) : (sortW ws).Perm ws := List.mergeSort_perm _ _
theorem sortW_fn (ws : List Wt) : (sortW ws).map fnOf = (ws.map fnOf).mergeSort fun a b => PySem.W.dataLe false toP (fnD a) (fnD b) :=
  List.map_mergeSort (r := fun a b => PySem.W.dataLe false toP (fnD (fnOf a)) (fnD (fnOf b))) (s := fun a b => PySem.W.dataLe false toP (fnD a) (fnD b)) (fun _ _ _ _ => rfl)
section
variable {P : Program} {w : World} {K : PySem.W.Frag} {mg : Str → Option Value} {base : Heap} {B : Hp} {Wa Ro Ce c PP : Addr} {k : Nat} {E : XK} {XP : Value → Mem → Prop} {q : Str} {ds : List D} {μ : Mem} {R : Pst}
/-! sorted_watches -/
def S_sortw (Wa : Addr) : Dl.Spec := fun ds μ P _ => ∃ (ws : List Wt), ds = [wRow Wa ws] ∧ ws.length ≤ 2000 ∧ (ws.map fun w => w.1).Nodup ∧ (∀ w ∈ ws, PyData.strOk w.1 = true) ∧ P (wRow Wa (sortW ws)) μ
theorem run_sortw (F : Fr4 K mg Wa Ro Ce) (St : Sf mg base B c) (hk : 1 ≤ k) (hS : S_sortw Wa ds μ R XP) :
    Run (gamOf P w K mg base B ["watches", "table", "one", "first", "name"] (defScope sSortW) q c k E XP) (startD ["watches", "table", "one", "first", "name"] ds) μ (defBody sSortW) { nx := fun _ μ' => R .non μ', rt := R } := by
  obtain ⟨ws, rfl, hl, nd, hstr, h⟩ := hS
  have es : (ws.map fun w => fnD (fnOf w)).mergeSort (PySem.W.dataLe false toP) = (sortW ws).map fun w => fnD (fnOf w) := by
    have h1 := sort_fn (ws.map fnOf)
    rw [List.map_map, ← sortW_fn, List.map_map] at h1
    exact h1
  refine run_cons (ru_set 1 (Ev.w (ev_dc ws (watD Wa) (fun w => w.1) (watD Wa) [("one", 2)] [2] (iv_list (ev_n 0)) (by omega) (fun v hv => tg_n (Γ := Gam.blk _ _) 2 ⟨rfl, ev_fld (ev_n 2) F.wc F.w0 rfl, ev_n 2⟩ rfl (.inl rfl) (.inl rfl))) ?_))
  have ev : ∀ v ∈ ws, valD (((dcOf (fun w : Wt => w.1) (watD Wa) ws).map (·.1)).zip ((dcOf (fun w : Wt => w.1) (watD Wa) ws).map (·.2))) (.inr v.1) = some (watD Wa v) := fun v hv => by
    rw [zip_fs, dcOf_nd (fun w : Wt => w.1) (watD Wa) nd]
    exact val_nd (fun w : Wt => w.1) (watD Wa) nd hv
  have hm : ∀ v ∈ sortW ws, v ∈ ws := fun v hv => (sortW_perm ws).mem_iff.mp hv
  have hsl : (sortW ws).length ≤ 2000 := by rw [(sortW_perm ws).length_eq]; exact hl
  refine run_one (ru_ret (Ev.w (Ev.cast (ev_lc (sortW ws) (fun w => fnD (fnOf w)) (fun _ => true) (watD Wa) [("first", 3), ("name", 4)] ([3] ++ ([4] ++ [])) (iv_list ((ev_sortedG (n := 2) ws (watD Wa) (fun w => fnD (fnOf w)) F.free St.site [("one", 2)] [2] (iv_list (ev_n 0)) (by omega) (by decide) (fun v hv => ?_) ?_ ?_ (fun v hv => el_v 2 (ev_tup (av_cons (ev_fld (ev_n 2) F.wc F.w1 rfl) (av_cons (ev_fld (ev_n 2) F.wc F.w0 rfl) av_nil)))) (by show 1 ≤ k; omega)).cast (congrArg D.lst es))) (by omega) (fun v hv => elc_2 3 4 (ev_dgetF (ev_n 1) (ev_n 4) (ev v (hm v hv))))) (congrArg D.lst (keep_all _ _))) h))
  · show Pd 2 (.tup [.int v.2.1, .str v.1])
    simp only [Pd]
    intro z hz
    simp only [List.mem_cons, List.not_mem_nil, or_false] at hz
    rcases hz with rfl | rfl
    · trivial
    · exact hstr v hv
  · intro x hx y hy
    rw [List.map_map] at hx hy
    obtain ⟨a, _, rfl⟩ := List.mem_map.mp hx
    obtain ⟨b, _, rfl⟩ := List.mem_map.mp hy
    show PySem.W.alike (toP (fnD (fnOf a))) (toP (fnD (fnOf b))) = true
    rw [fn_toP, fn_toP]
    exact PySem.W.DatumOrd.alike _ _
  · refine .inl fun x hx => ?_
    rw [List.map_map] at hx
    obtain ⟨a, _, rfl⟩ := List.mem_map.mp hx
    refine ⟨.int a.2.1, [.str a.1], ?_⟩
    show toP (fnD (fnOf a)) = _
    rw [fn_toP]
    rfl
theorem pure_sortw {ws : List Wt} (hl : ws.length ≤ 2000) (nd : (ws.map fun w => w.1).Nodup) (hs : ∀ w ∈ ws, PyData.strOk w.1 = true) : Pure (S_sortw Wa) [wRow Wa ws] (wRow Wa (sortW ws)) := fun P p => ⟨ws, rfl, hl, nd, hs, p⟩
end
end K4

set_option maxRecDepth 100000
set_option maxHeartbeats 4000000
namespace K4
open PySem L2 Dl Sp Lw
def givenB (sn : List Str) (st : Str → List Wt) (nm : Str) : Bool := sn.any fun n => decide (nm ∈ (st n).map fun w : Wt => w.1)
def ableOf (r : Ros) (sn : List Str) (v : Wt) : List Fn := (sn.filter fun n => canB (r.st n) v r.most).map fun n => (wholeOf (r.st n), n)
def takeR (r : Ros) (n : Str) (v : Wt) : Ros := setSt r n (sortW (r.st n ++ [v]))
/-- names of watches: each once, and texts that can be -/
structure NmOk (r : Ros) : Prop where
  nd : ∀ n, ((r.st n).map fun w : Wt => w.1).Nodup
  str : ∀ n, ∀ w ∈ r.st n, PyData.strOk w.1 = true
  nstr : ∀ n ∈ r.names, PyData.strOk n = true
theorem encFn {xs : List Fn} (h : ∀ x ∈ xs, PyData.strOk x.2 = true) : EncO fnD 2 xs := ⟨fun a ha => by
  show Pd 2 (.tup [.int a.1, .str a.2])
  simp only [Pd]
  intro z hz
  simp only [List.mem_cons, List.not_mem_nil, or_false] at hz
  rcases hz with rfl | rfl
  · trivial
  · exact h a ha, fun a _ => fn_toP a, by decide⟩
section
variable {P : Program} {w : World} {K : PySem.W.Frag} {mg : Str → Option Value} {base : Heap} {B : Hp} {Wa Ro Ce c PA : Addr} {k : Nat} {E : XK} {XP : Value → Mem → Prop} {q : Str} {ds : List D} {μ : Mem} {R : Pst}
theorem pure_can {r : Ros} {n : Str} {v : Wt} {ra Dd : Addr} (ok : OkR r) (hr : (r.st n).length ≤ 900) (hn : n ∈ r.names) : PureM (S_can Wa Ro Ce) [.adr ra, .str n, watD Wa v] (rosM Wa Ro ra Dd r) (.bl (canB (r.st n) v r.most)) := fun P p => ⟨r, n, v, ra, Dd, ok, hr, rfl, rfl, fun _ => p, fun z => (z hn).elim⟩
theorem recv_ros {m : Str} {μ : Mem} {ra Dd : Addr} {r : Ros} (h : (ra, rosO Ro Dd r) ∈ μ) (hm : (nR.zip [D.adr Dd, D.int r.most]).lookup m = none := by rfl) : Recv Ro m μ (.adr ra) := ⟨_, _, h, hm⟩
def S_take (Wa Ro Ce PA : Addr) : Dl.Spec := fun ds μ P XP => ∃ (r : Ros) (sn : List Str) (v : Wt) (ra Dd : Addr), OkR r ∧ Srt r sn ∧ NmOk r ∧ (∀ n, (r.st n).length ≤ 900) ∧ PyData.strOk v.1 = true ∧ ds = [.adr ra, watD Wa v] ∧ μ = rosM Wa Ro ra Dd r ++ ([(PA, .gt gAll)] ++ []) ∧
  (givenB sn r.st v.1 = true → XP (.ref Ce) μ) ∧ (givenB sn r.st v.1 = false → ableOf r sn v = [] → XP (.ref Ce) μ) ∧
  (∀ x xs, givenB sn r.st v.1 = false → ableOf r sn v = x :: xs → P (.str (PySem.W.minOf x xs).2) (rosM Wa Ro ra Dd (takeR r (PySem.W.minOf x xs).2 v) ++ ([(PA, .gt gAll)] ++ [])))
theorem run_take (F : Fr4 K mg Wa Ro Ce) (St : Sf mg base B c) (GC : Mn P w K mg base B Ro "can_take" 4 3 (S_can Wa Ro Ce)) (GW : Mn P w K mg base B Ro "whole" 2 2 (S_whole Wa Ro Ce)) (GA : Mn P w K mg base B Ro "all_watches" 3 1 (S_all Wa Ro PA)) (GS : Gn P w K mg base B "sorted_watches" 2 1 (S_sortw Wa)) (hk : 4 ≤ k) (hS : S_take Wa Ro Ce PA ds μ R XP) :
    Run (gamOf P w K mg base B ["self", "watch", "name", "rows", "names"] (defScope sTake) q c k E XP) (startD ["self", "watch", "name", "rows", "names"] ds) μ (defBody sTake) { nx := fun _ μ' => R .non μ', rt := R } := by
  obtain ⟨r, sn, v, ra, Dd, ok, hs, nm, hrow, hvs, rfl, rfl, h1, h2, h3⟩ := hS
  have hf := ok.few
  have hsl : sn.length ≤ 60 := by rw [hs.perm.length_eq]; exact hf
  have gt1 : ∀ p ∈ [(PA, MO.gt gAll)], ∃ g, p.2 = MO.gt g := fun p hp => by rw [List.mem_singleton.mp hp]; exact ⟨_, rfl⟩
  have mR : (ra, rosO Ro Dd r) ∈ rosM Wa Ro ra Dd r ++ ([(PA, MO.gt gAll)] ++ []) := List.mem_append_left _ List.mem_cons_self
  have mD : (Dd, MO.dK (rosDk Wa r)) ∈ rosM Wa Ro ra Dd r ++ ([(PA, MO.gt gAll)] ++ []) := List.mem_append_left _ (List.mem_cons_of_mem _ List.mem_cons_self)
  refine run_cons (ru_ifv (tv_view (List.Perm.refl _) rosM_frz gt1 (δ' := [some (rosD Wa Ro r), some (watD Wa v), none, none, none]) (.yes sb_ros (.yes (sbD_wat _ _ _) (.no (.no (.no .nil))))) (tv_val (ev_anyG sn (fun n => D.tup [.str n, .tup (((r.st n).map fun w : Wt => w.1).map D.str)]) (fun n => decide (v.1 ∈ (r.st n).map fun w : Wt => w.1)) F.free St.site [("name", 2), ("names", 4)] ([2] ++ ([4] ++ [])) (iv_tup ((ev_methM0 GA (List.Perm.refl _) (ev_n 0) (by exact ⟨rfl, rfl⟩) (pure_all ok hs) (by show 3 ≤ k; omega)).cast ?_)) (by omega) (fun n hn => el_2 2 4 (ev_cmp (ev_fld (ev_n 1) F.wc F.w0 rfl) (ev_n 4) b_inT)) (by show 1 ≤ k; omega)) rfl)) (fun t => run_one (ru_raise F.xc (h1 t))) (fun t => run_nil ?_))
  · unfold allD
    congr 1
    exact List.map_congr_left fun n _ => by rw [List.map_map]; rfl
  have hab : keepL sn (fun n => canB (r.st n) v r.most) (fun n => D.tup [.int (wholeOf (r.st n)), .str n]) = (ableOf r sn v).map fnD := by
    unfold keepL ableOf
    rw [List.map_map]
    rfl
  refine run_cons (ru_lc 3 sn D.str (fun n => canB (r.st n) v r.most) (fun n => D.tup [.int (wholeOf (r.st n)), .str n]) [("name", 2)] [2] (iv_list (ev_sortedDM (kds := rosDk Wa r) (ns := r.names) F.free (ev_fldM (d := .adr Dd) (ev_n 0) mR F.rc F.r0 (by rfl)) mD (by unfold rosDk; rw [List.map_map]; rfl) (by omega) hs.perm hs.sorted)) (by omega) (fun n hn => ?_) ?_)
  · have hn2 : n ∈ r.names := hs.perm.mem_iff.mp hn
    refine elc_t 2 (tv_val (ev_methM GC (List.Perm.refl _) (ev_n 0) (recv_ros mR) (av_cons (ev_n 2) (av_cons (ev_n 1) av_nil)) (pure_can ok (hrow n) hn2) rfl (by show 4 ≤ k; omega)) rfl) fun _ => ?_
    exact ev_tup (av_cons (ev_view (d := .int (wholeOf (r.st n))) (List.Perm.refl _) rosM_frz gt1 (δ' := [some (rosD Wa Ro r), some (watD Wa v), some (.str n), none, none]) (.yes sb_ros (.yes (sbD_wat _ _ _) (.yes (by simp [sbD]) (.no (.no .nil))))) (ev_methV GW (ev_n 0) (by exact ⟨rfl, rfl⟩) (av_cons (ev_n 2) av_nil) (pure_whole ok hn2) rfl (by show 2 ≤ k; omega)) rfl) (av_cons (ev_n 2) av_nil))
  · rw [hab]
    cases hA : ableOf r sn v with
    | nil => exact run_cons (ru_ifv (tv_cmp (ev_n 3) (ev_lst av_nil) b_eqE) (fun _ => run_one (ru_raise F.xc (h2 t hA))) (fun z => by cases z))
    | cons x xs =>
      have h3 := h3 x xs t hA
      have hin : ∀ y ∈ x :: xs, y.2 ∈ r.names := fun y hy => by
        rw [← hA] at hy
        obtain ⟨n, hn, rfl⟩ := List.mem_map.mp hy
        exact hs.perm.mem_iff.mp (List.mem_filter.mp hn).1
      refine run_cons (ru_ifv (tv_cmp (ev_n 3) (ev_lst av_nil) b_eqE) (fun z => by cases z) (fun _ => run_nil ?_))
      refine run_cons (ru_set 2 (Ev.w (ev_ixT (ds := [.int (PySem.W.minOf x xs).1, .str (PySem.W.minOf x xs).2]) (ev_b1 (d2 := fnD (PySem.W.minOf x xs)) (F.free _ (by decide)) PyProof.Rows.boot_min (ev_n 3) (c_minO (g := fnD) (encFn fun y hy => nm.nstr _ (hin y hy)))) ev_int (by rfl)) ?_))
      have hm := hin _ (minOf_mem x xs)
      generalize PySem.W.minOf x xs = m at hm h3 ⊢
      have hrm := hrow m.2
      have nmem : v.1 ∉ (r.st m.2).map fun w : Wt => w.1 := fun z => by
        have := List.any_eq_false.mp t m.2 (hs.perm.mem_iff.mpr hm)
        exact this (decide_eq_true z)
      have nd2 : ((r.st m.2 ++ [v]).map fun w : Wt => w.1).Nodup := by
        rw [List.map_append, List.nodup_append]
        refine ⟨nm.nd _, by simp, fun a ha b hb e => nmem ?_⟩
        simp only [List.map_cons, List.map_nil, List.mem_singleton] at hb
        rw [hb] at e
        rw [← e]
        exact ha
      have str2 : ∀ w ∈ r.st m.2 ++ [v], PyData.strOk w.1 = true := fun u hu => by
        rcases List.mem_append.mp hu with z | z
        · exact nm.str _ u z
        · rw [List.mem_singleton.mp z]; exact hvs
      have ew : D.lst ((r.st m.2).map (watD Wa) ++ [watD Wa v]) = wRow Wa (r.st m.2 ++ [v]) := by unfold wRow; rw [List.map_append]; rfl
      refine run_cons (ru_asg (ixs := []) (Ev.w (ev_callV GS (av_cons (Ev.cast (ev_bin (ev_dget (ev_fldM (d := .adr Dd) (ev_n 0) mR F.rc F.r0 (by rfl)) mD (ev_n 2) (ros_val Wa hm)) (ev_lst (av_cons (ev_n 1) av_nil)) (b_cat (by rw [List.length_map]; simp; omega))) ew) av_nil) (pure_sortw (by simp; omega) nd2 str2) rfl (by show 2 ≤ k; omega)) (tg_dset (ν1 := [(ra, rosO Ro Dd r)]) (ν2 := [(PA, .gt gAll)]) (x := Dd) (kds := rosDk Wa r) (ev_fldM (d := .adr Dd) (ev_n 0) List.mem_cons_self F.rc F.r0 (by rfl)) (ev_n 2) (by unfold rosDk; rw [List.length_map]; exact Nat.lt_of_le_of_lt ok.few (by decide)) ?_)))
      rw [put_ros Wa _ hm]
      exact run_one (ru_ret ((ev_n 2).w h3))
end
end K4

set_option maxRecDepth 100000
set_option maxHeartbeats 4000000
/-! the fewest crews: the walk through all ways -/
namespace K4
open PySem L2 Dl Sp Lw
/-- how many crews the ends of the walk have -/
def leafs : List Wt → List Int → List Nat
  | [], e => [e.length]
  | w :: r, e => ((List.range e.length).flatMap fun p => if decide (e.getD p 0 + 480 ≤ w.2.1) = true then leafs r (e.set p w.2.2) else []) ++ leafs r (e ++ [w.2.2])
abbrev Nd := List Int × List Wt
theorem leafs_ge : ∀ {r : List Wt} {e : List Int} {n : Nat}, n ∈ leafs r e → e.length ≤ n
  | [], e, n, h => by rw [List.mem_singleton.mp h]; exact Nat.le_refl _
  | w :: r, e, n, h => by
    rcases List.mem_append.mp h with z | z
    · obtain ⟨p, _, hp⟩ := List.mem_flatMap.mp z
      split at hp
      · have := leafs_ge hp
        rwa [List.length_set] at this
      · cases hp
    · have := leafs_ge z
      rw [List.length_append, List.length_singleton] at this
      omega
theorem leafs_all : ∀ (r : List Wt) (e : List Int), e.length + r.length ∈ leafs r e
  | [], e => by show _ ∈ [_]; simp
  | w :: r, e => by
    refine List.mem_append_right _ ?_
    have := leafs_all r (e ++ [w.2.2])
    rw [List.length_append, List.length_singleton] at this
    rw [List.length_cons]
    have e1 : e.length + 1 + r.length = e.length + (r.length + 1) := by omega
    rw [← e1]
    exact this
def kidsE (e : List Int) (w : Wt) (r : List Wt) (n : Nat) : List Nd := (List.range n).flatMap fun p => if decide (e.getD p 0 + 480 ≤ w.2.1) = true then [(e.set p w.2.2, r)] else []
theorem flat_len {α β : Type} (f : α → List β) (n : Nat) (h : ∀ a, (f a).length ≤ n) : ∀ xs : List α, (xs.flatMap f).length ≤ xs.length * n
  | [] => by simp
  | x :: xs => by
    rw [List.flatMap_cons, List.length_append, List.length_cons, Nat.succ_mul]
    have := h x
    have := flat_len f n h xs
    omega
theorem kidsE_len (e : List Int) (w : Wt) (r : List Wt) (n : Nat) : (kidsE e w r n).length ≤ n := by
  have := flat_len (fun p => if decide (e.getD p 0 + 480 ≤ w.2.1) = true then [(e.set p w.2.2, r)] else []) 1 (fun p => by split <;> simp) (List.range n)
  rw [List.length_range, Nat.mul_one] at this
  exact this
structure SrE (ss : List Wt) (base : List Nd) (best : Nat) : Prop where
  ok : ∀ x ∈ base, x.1.length + x.2.length ≤ ss.length
  sub : ∀ x ∈ base, ∀ n ∈ leafs x.2 x.1, n ∈ leafs ss []
  cov : ∀ n ∈ leafs ss [], best ≤ n ∨ ∃ x ∈ base, n ∈ leafs x.2 x.1
  mem : best ∈ leafs ss []
  rest : ∀ x ∈ base, ∀ w ∈ x.2, w ∈ ss
  pos : ∀ (i : Nat) (x : Nd), base[i]? = some x → i ≤ ss.length * (ss.length - x.2.length)
theorem srE_start (ss : List Wt) : SrE ss [([], ss)] ss.length where
  ok x hx := by rw [List.mem_singleton.mp hx]; simp
  sub x hx n hn := by rw [List.mem_singleton.mp hx] at hn; exact hn
  cov n hn := .inr ⟨_, List.mem_singleton.mpr rfl, hn⟩
  mem := by have := leafs_all ss []; simpa using this
  rest x hx w hw := by rw [List.mem_singleton.mp hx] at hw; exact hw
  pos i x h := by
    cases i with
    | zero => exact Nat.zero_le _
    | succ i => simp at h
theorem srE_leaf {ss : List Wt} {base : List Nd} {e : List Int} {best : Nat} (h : SrE ss (base ++ [(e, [])]) best) : SrE ss base (min best e.length) where
  ok x hx := h.ok x (List.mem_append_left _ hx)
  sub x hx := h.sub x (List.mem_append_left _ hx)
  cov n hn := by
    rcases h.cov n hn with z | ⟨x, hx, hxn⟩
    · exact .inl (Nat.le_trans (Nat.min_le_left _ _) z)
    · rcases List.mem_append.mp hx with y | y
      · exact .inr ⟨x, y, hxn⟩
      · rw [List.mem_singleton.mp y] at hxn
        rw [List.mem_singleton.mp hxn]
        exact .inl (Nat.min_le_right _ _)
  mem := by
    rcases Nat.le_total best e.length with z | z
    · rw [Nat.min_eq_left z]; exact h.mem
    · rw [Nat.min_eq_right z]
      exact h.sub (e, []) (by simp) _ (List.mem_singleton.mpr rfl)
  rest x hx := h.rest x (List.mem_append_left _ hx)
  pos i x hx := h.pos i x (by rw [List.getElem?_append_left (List.getElem?_eq_some_iff.mp hx).1]; exact hx)
def msE (m : Nat) (base : List Nd) : Nat := (base.map fun x => (m + 1) ^ x.2.length).sum
theorem msE_app (m : Nat) (a b : List Nd) : msE m (a ++ b) = msE m a + msE m b := by
  unfold msE
  rw [List.map_append, List.sum_append]
theorem msE_le (m : Nat) (r : List Wt) : ∀ xs : List Nd, (∀ x ∈ xs, x.2 = r) → msE m xs = xs.length * (m + 1) ^ r.length
  | [], _ => by simp [msE]
  | x :: xs, h => by
    have ih := msE_le m r xs fun y hy => h y (List.mem_cons_of_mem _ hy)
    unfold msE at *
    rw [List.map_cons, List.sum_cons, ih, h x List.mem_cons_self, List.length_cons, Nat.succ_mul]
    omega
def nextE (e : List Int) (w : Wt) (r : List Wt) (best : Nat) : List Nd := kidsE e w r e.length ++ if decide (e.length < best) = true then [(e ++ [w.2.2], r)] else []
theorem nextE_mem {e : List Int} {w : Wt} {r : List Wt} {best : Nat} {x : Nd} (h : x ∈ nextE e w r best) : x.2 = r ∧ x.1.length ≤ e.length + 1 := by
  rcases List.mem_append.mp h with z | z
  · obtain ⟨p, _, hp⟩ := List.mem_flatMap.mp z
    split at hp
    · rw [List.mem_singleton.mp hp]
      exact ⟨rfl, by show (e.set p _).length ≤ _; rw [List.length_set]; omega⟩
    · cases hp
  · split at z
    · rw [List.mem_singleton.mp z]
      exact ⟨rfl, by show (e ++ [_]).length ≤ _; simp⟩
    · cases z
theorem nextE_len (e : List Int) (w : Wt) (r : List Wt) (best : Nat) : (nextE e w r best).length ≤ e.length + 1 := by
  have := kidsE_len e w r e.length
  unfold nextE
  rw [List.length_append]
  split <;> simp <;> omega
theorem srE_node {ss : List Wt} {base : List Nd} {e : List Int} {w : Wt} {r : List Wt} {best : Nat} (h : SrE ss (base ++ [(e, w :: r)]) best) : SrE ss (base ++ nextE e w r best) best ∧ msE ss.length (base ++ nextE e w r best) < msE ss.length (base ++ [(e, w :: r)]) := by
  have hx := h.ok (e, w :: r) (by simp)
  simp only [List.length_cons] at hx
  have hnl := nextE_len e w r best
  refine ⟨⟨fun x hx2 => ?_, fun x hx2 n hn => ?_, fun n hn => ?_, h.mem, fun x hx2 u hu => ?_, fun i x hi => ?_⟩, ?_⟩
  · rcases List.mem_append.mp hx2 with z | z
    · exact h.ok x (List.mem_append_left _ z)
    · obtain ⟨e1, e2⟩ := nextE_mem z
      rw [e1]
      omega
  · rcases List.mem_append.mp hx2 with z | z
    · exact h.sub x (List.mem_append_left _ z) n hn
    · refine h.sub (e, w :: r) (by simp) n ?_
      rcases List.mem_append.mp z with y | y
      · obtain ⟨p, hp, hp2⟩ := List.mem_flatMap.mp y
        refine List.mem_append_left _ (List.mem_flatMap.mpr ⟨p, hp, ?_⟩)
        split at hp2
        · rename_i hc
          rw [if_pos hc]
          rw [List.mem_singleton.mp hp2] at hn
          exact hn
        · cases hp2
      · split at y
        · rw [List.mem_singleton.mp y] at hn
          exact List.mem_append_right _ hn
        · cases y
  · rcases h.cov n hn with z | ⟨x, hx2, hxn⟩
    · exact .inl z
    · rcases List.mem_append.mp hx2 with y | y
      · exact .inr ⟨x, List.mem_append_left _ y, hxn⟩
      · rw [List.mem_singleton.mp y] at hxn
        rcases List.mem_append.mp hxn with z | z
        · obtain ⟨p, hp, hp2⟩ := List.mem_flatMap.mp z
          split at hp2
          · rename_i hc
            exact .inr ⟨(e.set p w.2.2, r), List.mem_append_right _ (List.mem_append_left _ (List.mem_flatMap.mpr ⟨p, hp, by rw [if_pos hc]; exact List.mem_singleton.mpr rfl⟩)), hp2⟩
          · cases hp2
        · by_cases hb : e.length < best
          · exact .inr ⟨(e ++ [w.2.2], r), List.mem_append_right _ (List.mem_append_right _ (by rw [if_pos (decide_eq_true hb)]; exact List.mem_singleton.mpr rfl)), z⟩
          · have := leafs_ge z
            rw [List.length_append, List.length_singleton] at this
            have this : e.length + 1 ≤ n := this
            exact .inl (by omega)
  · rcases List.mem_append.mp hx2 with z | z
    · exact h.rest x (List.mem_append_left _ z) u hu
    · rw [(nextE_mem z).1] at hu
      exact h.rest (e, w :: r) (by simp) u (List.mem_cons_of_mem _ hu)
  · by_cases hlt : i < base.length
    · rw [List.getElem?_append_left hlt] at hi
      exact h.pos i x (by rw [List.getElem?_append_left hlt]; exact hi)
    · rw [List.getElem?_append_right (by omega)] at hi
      have hm := nextE_mem (List.mem_of_getElem? hi)
      have hl := (List.getElem?_eq_some_iff.mp hi).1
      have hp := h.pos base.length (e, w :: r) (by rw [List.getElem?_append_right (Nat.le_refl _), Nat.sub_self]; rfl)
      rw [hm.1]
      simp only [List.length_cons] at hp
      have e1 : ss.length - r.length = (ss.length - (r.length + 1)) + 1 := by omega
      rw [e1, Nat.mul_succ]
      omega
  · rw [msE_app, msE_app, msE_le ss.length r _ fun x hx2 => (nextE_mem hx2).1]
    have e2 : msE ss.length [(e, w :: r)] = (ss.length + 1) ^ r.length * (ss.length + 1) := by simp [msE, Nat.pow_succ]
    rw [e2]
    have hp : 0 < (ss.length + 1) ^ r.length := Nat.pow_pos (by omega)
    have h3 : (nextE e w r best).length * (ss.length + 1) ^ r.length ≤ ss.length * (ss.length + 1) ^ r.length := Nat.mul_le_mul_right _ (by omega)
    rw [Nat.mul_succ, Nat.mul_comm ((ss.length + 1) ^ r.length)]
    omega
theorem srE_size {ss : List Wt} {base : List Nd} {best : Nat} (h : SrE ss base best) (hm : ss.length ≤ 8) : base.length ≤ 65 := by
  rcases List.eq_nil_or_concat base with rfl | ⟨init, x, rfl⟩
  · exact Nat.zero_le _
  · rw [List.concat_eq_append] at *
    have hp := h.pos init.length x (by rw [List.getElem?_append_right (Nat.le_refl _), Nat.sub_self]; rfl)
    have h2 : ss.length * (ss.length - x.2.length) ≤ 8 * 8 := Nat.mul_le_mul hm (by omega)
    rw [List.length_append, List.length_singleton]
    omega
theorem srE_end {ss : List Wt} {best : Nat} (h : SrE ss [] best) : best ∈ leafs ss [] ∧ ∀ n ∈ leafs ss [], best ≤ n := ⟨h.mem, fun n hn => by
  rcases h.cov n hn with z | ⟨x, hx, _⟩
  · exact z
  · cases hx⟩
end K4

set_option maxRecDepth 100000
set_option maxHeartbeats 8000000
namespace K4
open PySem L2 Dl Sp Lw
def ndD (Wa : Addr) (x : Nd) : D := .tup [.tup (x.1.map D.int), wRow Wa x.2]
theorem set_cutT (xs : List Int) {k : Nat} (y : Int) (h : k < xs.length) : cutA (xs.map D.int) none (some (k : Int)) ++ [D.int y] ++ cutA (xs.map D.int) (some ((k : Int) + 1)) none = (xs.set k y).map D.int := by
  have e : ((k : Int) + 1) = ((k + 1 : Nat) : Int) := by omega
  rw [e, cut_to, cut_from, List.set_eq_take_append_cons_drop, if_pos h]
  simp [List.map_take, List.map_drop]
theorem kidsE_succ (e : List Int) (u : Wt) (r : List Wt) (i : Nat) : kidsE e u r (i + 1) = kidsE e u r i ++ if decide (e.getD i 0 + 480 ≤ u.2.1) = true then [(e.set i u.2.2, r)] else [] := by
  unfold kidsE
  rw [List.range_succ, List.flatMap_append, List.flatMap_cons, List.flatMap_nil, List.append_nil]
abbrev nF : List Str := ["watches", "best", "left", "ends", "rest", "watch", "place", "end", "one"]
section
variable {P : Program} {w : World} {K : PySem.W.Frag} {mg : Str → Option Value} {base : Heap} {B : Hp} {Wa Ro Ce c : Addr} {k : Nat} {E : XK} {XP : Value → Mem → Prop} {q : Str} {ds : List D} {μ : Mem} {R : Pst}
theorem run_fewW (F : Fr4 K mg Wa Ro Ce) {ws ss : List Wt} {l : Addr} {o3 o4 o5 o6 o7 o8 : Option D} (m8 : ss.length ≤ 8) (h1 : ∀ n, n ∈ leafs ss [] → (∀ j ∈ leafs ss [], n ≤ j) → R (.int (n : Int)) μ) :
    Run (gamOf P w K mg base B nF (defScope sFew) q c k E XP) [some (wRow Wa ws), some (.int (ss.length : Int)), some (.adr l), o3, o4, o5, o6, o7, o8] ((l, .lst ([(([] : List Int), ss)].map (ndD Wa))) :: μ) ((defBody sFew).drop 2) { nx := fun _ μ' => R .non μ', rt := R } := by
  refine run_cons (ru_while (fun m δ' μ' => ∃ (base : List Nd) (best : Nat) (x3 x4 x5 x6 x7 x8 : Option D), SrE ss base best ∧ m = msE ss.length base ∧ δ' = [some (wRow Wa ws), some (.int (best : Int)), some (.adr l), x3, x4, x5, x6, x7, x8] ∧ μ' = (l, .lst (base.map (ndD Wa))) :: μ) _ ⟨_, _, _, _, _, _, _, _, srE_start ss, rfl, rfl, rfl⟩ ?_)
  rintro m δ' μ' ⟨base, best, x3, x4, x5, x6, x7, x8, hS, rfl, rfl, rfl⟩
  refine Tv.w (tv_memL (ev_n 2) List.mem_cons_self (nomark _) b_neE) ⟨fun t => ?_, fun t => ?_⟩
  · rcases List.eq_nil_or_concat base with rfl | ⟨init, x, rfl⟩
    · cases t
    rw [List.concat_eq_append] at hS ⊢
    clear t
    have hsz := srE_size hS m8
    rw [List.length_append, List.length_singleton] at hsz
    obtain ⟨e, r⟩ := x
    rw [List.map_append]
    refine run_cons (ru_asg (ixs := [3] ++ ([4] ++ [])) (ew_pop (ν1 := []) (ds := init.map (ndD Wa)) (d := ndD Wa (e, r)) (ev_n 2) (tg_tup (tgs_cons (tg_n 3 (tgs_cons (tg_n 4 (tgs_nil ?_))))))))
    cases r with
    | nil =>
      refine run_cons (ru_ifv (tv_cmp (ev_n 4) (ev_lst av_nil) b_eqE) (fun _ => ?_) (fun z => by cases z))
      have em : min (best : Int) (e.length : Int) = ((min best e.length : Nat) : Int) := by omega
      refine run_cons (ru_set 1 (Ev.w (Ev.cast (ev_b2 (F.free _ (by decide)) PyProof.Rows.boot_min (ev_n 1) ((ev_len F.free (ev_n 3)).cast (by rw [List.length_map])) c_min2) (congrArg D.int em)) ?_))
      refine run_one (ru_cont ?_)
      refine ⟨msE ss.length init, ?_, init, min best e.length, _, _, _, _, _, _, srE_leaf hS, rfl, rfl, rfl⟩
      rw [msE_app]
      have : msE ss.length [((e, []) : Nd)] = 1 := by simp [msE]
      omega
    | cons u r =>
      refine run_cons (ru_ifv (tv_cmp (ev_n 4) (ev_lst av_nil) b_eqE) (fun z => by cases z) (fun _ => run_nil ?_))
      have hel : e.length ≤ 8 := by
        have := hS.ok (e, u :: r) (by simp)
        simp only at this
        omega
      obtain ⟨tr, hrest⟩ := F.rest
      have etl : cutA ((u :: r).map (watD Wa)) (some 1) none = r.map (watD Wa) := cut_from _ 1
      refine run_cons (ru_set 5 (Ev.w (ev_ixL (ds := (u :: r).map (watD Wa)) (d := watD Wa u) (ev_n 4) ev_int (atI_nat' (by decide) rfl)) ?_))
      refine run_cons (ru_for (ixs := [6] ++ ([7] ++ [])) (Iv.w (enumD_ints e ▸ Zn.iv_enumT F.free (ev_n 3)) ?_))
      refine ⟨fun i δ' μ' => ∃ p q, δ' = [some (wRow Wa ws), some (.int (best : Int)), some (.adr l), some (.tup (e.map D.int)), some (wRow Wa (u :: r)), some (watD Wa u), p, q, x8] ∧ μ' = (l, .lst ((init ++ kidsE e u r i).map (ndD Wa))) :: μ, ⟨_, _, rfl, by simp [kidsE]⟩, ?_, ?_⟩
      · rintro i y δ' μ' hd ⟨p, q, rfl, rfl⟩
        have hil : i < e.length := by
          have := (List.getElem?_eq_some_iff.mp hd).1
          simpa using this
        have ey : y = .tup [.int (i : Int), .int (e.getD i 0)] := by
          rw [List.getElem?_map, List.getElem?_range hil] at hd
          exact (Option.some.inj hd).symm
        subst ey
        have hkl := kidsE_len e u r i
        have hks := kidsE_succ e u r i
        refine tg_tup (tgs_cons (tg_n 6 (tgs_cons (tg_n 7 (tgs_nil ?_)))))
        refine run_one (ru_ifv (tv_cmp (ev_bin (ev_n 7) (ev_glob hrest) b_add) (ev_fld (ev_n 5) F.wc F.w1 rfl) b_le) (fun t => run_one ?_) (fun t => run_nil ?_))
        · refine ru_expr (ew_append (ev_n 2) (Ev.w (ev_tup (av_cons (Ev.cast (ev_bin (ev_bin (ev_slT (ev_n 3) pv_no (pv_yes (ev_n 6))) (ev_tup (av_cons (ev_fld (ev_n 5) F.wc F.w2 rfl) av_nil)) (b_catT ?_)) (ev_slT (ev_n 3) (pv_yes (ev_bin (ev_n 6) ev_int b_add)) pv_no) (b_catT ?_)) (congrArg D.tup (set_cutT e u.2.2 hil))) (av_cons (Ev.cast (ev_slL (ds := (u :: r).map (watD Wa)) (ev_n 4) (pv_yes ev_int) pv_no) (congrArg D.lst etl)) av_nil))) ⟨[], _, μ, rfl, ?_, ?_⟩) ⟨_, List.mem_cons_self⟩)
          · have e1 := cut_to (e.map D.int) i
            rw [e1]
            simp
            omega
          · have e1 := cut_to (e.map D.int) i
            have e2 : ((i : Int) + 1) = ((i + 1 : Nat) : Int) := by omega
            rw [e1, e2, cut_from]
            simp
            omega
          · simp only [List.length_map, List.length_append]
            omega
          · refine ⟨_, _, rfl, ?_⟩
            rw [hks, if_pos t, ← List.append_assoc, List.map_append (l₁ := init ++ kidsE e u r i)]
            rfl
        · refine ⟨_, _, rfl, ?_⟩
          rw [hks, if_neg (by rw [t]; decide), List.append_nil]
      · rintro δ' μ' ⟨p, q, rfl, rfl⟩
        rw [List.length_map, List.length_range]
        have hn := srE_node hS
        have hkl := kidsE_len e u r e.length
        refine run_one (ru_ifv (k := decide (e.length < best)) (Tv.cast (tv_cmp ((ev_len F.free (ev_n 3)).cast (by rw [List.length_map])) (ev_n 1) b_lt) (by simp)) (fun t => run_one ?_) (fun t => run_nil ?_))
        · refine ru_expr (ew_append (ev_n 2) (Ev.w (ev_tup (av_cons (Ev.cast (ev_bin (ev_n 3) (ev_tup (av_cons (ev_fld (ev_n 5) F.wc F.w2 rfl) av_nil)) (b_catT ?_)) (congrArg D.tup (by rw [List.map_append]; rfl : e.map D.int ++ [D.int u.2.2] = (e ++ [u.2.2]).map D.int))) (av_cons (Ev.cast (ev_slL (ds := (u :: r).map (watD Wa)) (ev_n 4) (pv_yes ev_int) pv_no) (congrArg D.lst etl)) av_nil))) ⟨[], _, μ, rfl, ?_, ?_⟩) ⟨_, List.mem_cons_self⟩)
          · simp
            omega
          · simp only [List.length_map, List.length_append]
            omega
          · refine ⟨_, hn.2, _, best, _, _, _, _, _, _, hn.1, rfl, rfl, ?_⟩
            unfold nextE
            rw [if_pos t, ← List.append_assoc, List.map_append (l₁ := init ++ kidsE e u r e.length)]
            rfl
        · refine ⟨_, hn.2, _, best, _, _, _, _, _, _, hn.1, rfl, rfl, ?_⟩
          unfold nextE
          rw [if_neg (by rw [t]; decide), List.append_nil]
  · cases base with
    | cons x xs => cases t
    | nil =>
      obtain ⟨e1, e2⟩ := srE_end hS
      refine Run.perm (μ1 := μ ++ [(l, .lst [])]) (Run.drop ?_) (List.perm_append_singleton _ μ).symm
      exact run_one (ru_ret (Ev.w (ev_n 1) (h1 best e1 e2)))
end
end K4

set_option maxRecDepth 100000
set_option maxHeartbeats 4000000
namespace K4
open PySem L2 Dl Sp Lw
def okF (ws : List Wt) : Prop := ws.length ≤ 8 ∧ (ws.map fun w => w.1).Nodup
section
variable {P : Program} {w : World} {K : PySem.W.Frag} {mg : Str → Option Value} {base : Heap} {B : Hp} {Wa Ro Ce c : Addr} {k : Nat} {E : XK} {XP : Value → Mem → Prop} {q : Str} {ds : List D} {μ : Mem} {R : Pst}
def S_few (Wa Ce : Addr) : Dl.Spec := fun ds μ P XP => ∃ (ws : List Wt), ds = [wRow Wa ws] ∧ ws.length ≤ 1000 ∧ (∀ w ∈ ws, PyData.strOk w.1 = true) ∧ (okF ws → ∀ n, n ∈ leafs (sortW ws) [] → (∀ j ∈ leafs (sortW ws) [], n ≤ j) → P (.int (n : Int)) μ) ∧ (¬ okF ws → XP (.ref Ce) μ)
theorem run_few (F : Fr4 K mg Wa Ro Ce) (GS : Gn P w K mg base B "sorted_watches" 2 1 (S_sortw Wa)) (hk : 2 ≤ k) (hS : S_few Wa Ce ds μ R XP) :
    Run (gamOf P w K mg base B nF (defScope sFew) q c k E XP) (startD nF ds) μ (defBody sFew) { nx := fun _ μ' => R .non μ', rt := R } := by
  obtain ⟨ws, rfl, hl, hstr, h1, h2⟩ := hS
  obtain ⟨tm, hmw⟩ := F.mw
  have dl := dcOf_len (fun w : Wt => w.1) (fun _ => D.bl true) ws
  have dn := fun nd => congrArg List.length (dcOf_nd (fun w : Wt => w.1) (fun _ => D.bl true) (xs := ws) nd)
  refine run_cons (ru_ifv (Wv.t (wv_or (tv_cmp ((ev_len F.free (ev_n 0)).cast (by rw [List.length_map])) (ev_glob hmw) b_gt) fun _ => wv_1 (tv_cmp (ev_lenDF F.free (ev_dc ws (watD Wa) (fun w : Wt => w.1) (fun _ => D.bl true) [("one", 8)] [8] (iv_list (ev_n 0)) (by omega) (fun n hn => tg_n (Γ := Gam.blk _ _) 8 ⟨rfl, ev_fld (ev_n 8) F.wc F.w0 rfl, ev_bl⟩ rfl (.inl rfl) (.inl rfl))) (by rw [List.length_map])) ((ev_len F.free (ev_n 0)).cast (by rw [List.length_map])) b_lt))) (fun t => run_one (ru_raise F.xc ?_)) (fun t => run_nil ?_))
  · refine h2 fun ok => ?_
    have e := dn ok.2
    rw [List.length_map] at e
    have o1 := ok.1
    simp only [Bool.or_eq_true, decide_eq_true_eq] at t
    omega
  · simp only [Bool.or_eq_false_iff, decide_eq_false_iff_not] at t
    have nd : (ws.map fun w => w.1).Nodup := Classical.byContradiction fun z => by have := dl.2 z; omega
    have hsl : (sortW ws).length = ws.length := (sortW_perm ws).length_eq
    refine run_cons (ru_par 1 2 (aw_cons (Ev.w ((ev_len F.free (ev_n 0)).cast (by rw [List.length_map])) (aw_cons (ew_lstM (Av.w (av_cons (ev_tup (av_cons (ev_tup av_nil) (av_cons (ev_callV GS (av_cons (ev_n 0) av_nil) (pure_sortw (by omega) nd hstr) rfl (by show 2 ≤ k; omega)) av_nil))) av_nil) ⟨by show 1 ≤ 100000; decide, fun l => aw_nil ⟨_, _, rfl, ?_⟩⟩))))))
    have e1 : ((ws.length : Nat) : Int) = ((sortW ws).length : Int) := by rw [hsl]
    rw [e1]
    exact run_fewW F (by omega) (h1 ⟨by omega, nd⟩)
theorem pure_few {ws : List Wt} {n : Nat} (hl : ws.length ≤ 8) (nd : (ws.map fun w => w.1).Nodup) (hs : ∀ w ∈ ws, PyData.strOk w.1 = true) (hn : ∀ m, m ∈ leafs (sortW ws) [] → (∀ j ∈ leafs (sortW ws) [], m ≤ j) → m = n) : Pure (S_few Wa Ce) [wRow Wa ws] (.int (n : Int)) := fun P p => ⟨ws, rfl, by omega, hs, fun _ m h1 h2 => by rw [hn m h1 h2]; exact p, fun z => (z ⟨hl, nd⟩).elim⟩
end
end K4

set_option maxRecDepth 100000
set_option maxHeartbeats 4000000
/-! the fewest crews: of all ways -/
namespace K4
open PySem L2 Dl Sp Lw
def cf (a b : Wt) : Bool := decide (a.2.1 < b.2.2 + 480) && decide (b.2.1 < a.2.2 + 480)
theorem cf_comm (a b : Wt) : cf a b = cf b a := Bool.and_comm _ _
/-- crews for the watches, n at most -/
def Col (ws : List Wt) (n : Nat) : Prop := ∃ f : Wt → Nat, (∀ a ∈ ws, f a < n) ∧ ∀ a ∈ ws, ∀ b ∈ ws, a ≠ b → f a = f b → cf a b = false
theorem Col.perm {xs ys : List Wt} {n : Nat} (h : Col xs n) (p : xs.Perm ys) : Col ys n := by
  obtain ⟨f, h1, h2⟩ := h
  exact ⟨f, fun a ha => h1 a (p.mem_iff.mpr ha), fun a ha b hb => h2 a (p.mem_iff.mpr ha) b (p.mem_iff.mpr hb)⟩
theorem pigeon : ∀ (n : Nat) (cs : List Nat), cs.Nodup → (∀ x ∈ cs, x < n) → cs.length ≤ n
  | 0, [], _, _ => Nat.le_refl _
  | 0, c :: cs, _, h => absurd (h c List.mem_cons_self) (Nat.not_lt_zero _)
  | n + 1, cs, nd, h => by
    have ih := pigeon n (cs.erase n) (nd.erase n) fun x hx => by
      have h1 := (nd.mem_erase_iff.mp hx)
      have := h x h1.2
      have := h1.1
      omega
    rw [List.length_erase] at ih
    split at ih <;> omega
abbrev Way := List (List Wt)
def stepP (way : Way) (last : Wt) : List Way := ((List.range way.length).filter fun k => !confB (way.getD k []) last).map fun k => way.set k (way.getD k [] ++ [last])
/-- all ways, of watches told from the last on -/
def partsR : List Wt → List Way
  | [] => [[]]
  | last :: r => (partsR r).flatMap fun way => stepP way last ++ [way ++ [[last]]]
theorem partsR_ne : ∀ r, partsR r ≠ []
  | [] => by simp [partsR]
  | w :: r => fun h => by
    obtain ⟨x, xs, e⟩ := List.exists_cons_of_ne_nil (partsR_ne r)
    unfold partsR at h
    rw [e, List.flatMap_cons] at h
    simp at h
theorem mem_step {way : Way} {w : Wt} {x : Way} (h : x ∈ stepP way w ++ [way ++ [[w]]]) : (∃ k g, way[k]? = some g ∧ confB g w = false ∧ x = way.set k (g ++ [w])) ∨ x = way ++ [[w]] := by
  rcases List.mem_append.mp h with z | z
  · obtain ⟨k, hk, rfl⟩ := List.mem_map.mp z
    obtain ⟨hk1, hk2⟩ := List.mem_filter.mp hk
    have hk1 := List.mem_range.mp hk1
    have e : way.getD k [] = way[k] := by rw [List.getD_eq_getElem?_getD, List.getElem?_eq_getElem hk1]; rfl
    rw [e] at hk2 ⊢
    exact .inl ⟨k, way[k], List.getElem?_eq_getElem hk1, by simpa using hk2, rfl⟩
  · exact .inr (List.mem_singleton.mp z)
theorem step_mem {way : Way} {w : Wt} {k : Nat} {g : List Wt} (h : way[k]? = some g) (hc : confB g w = false) : way.set k (g ++ [w]) ∈ stepP way w := by
  obtain ⟨hk, e⟩ := List.getElem?_eq_some_iff.mp h
  have e : way.getD k [] = g := by rw [List.getD_eq_getElem?_getD, h]; rfl
  refine List.mem_map.mpr ⟨k, List.mem_filter.mpr ⟨List.mem_range.mpr hk, by rw [e, hc]; rfl⟩, by rw [e]⟩
theorem conf_no {g : List Wt} {w x : Wt} (h : confB g w = false) (hx : x ∈ g) : cf x w = false := by
  have := List.any_eq_false.mp h x hx
  exact Bool.eq_false_iff.mpr this
theorem parts_len : ∀ (r : List Wt), ∀ x ∈ partsR r, x.length ≤ r.length
  | [], x, h => by rw [List.mem_singleton.mp h]; exact Nat.le_refl _
  | w :: r, x, h => by
    obtain ⟨way, hw, hx⟩ := List.mem_flatMap.mp h
    have := parts_len r way hw
    rcases mem_step hx with ⟨k, g, _, _, rfl⟩ | rfl
    · rw [List.length_set, List.length_cons]; omega
    · rw [List.length_append, List.length_singleton, List.length_cons]; omega
theorem step_len (way : Way) (w : Wt) : (stepP way w).length ≤ way.length := by
  unfold stepP
  rw [List.length_map]
  exact Nat.le_trans (List.length_filter_le _ _) (by rw [List.length_range]; exact Nat.le_refl _)
theorem flat_le {α β : Type} (f : α → List β) (n : Nat) : ∀ xs : List α, (∀ a ∈ xs, (f a).length ≤ n) → (xs.flatMap f).length ≤ xs.length * n
  | [], _ => by simp
  | x :: xs, h => by
    rw [List.flatMap_cons, List.length_append, List.length_cons, Nat.succ_mul]
    have := h x List.mem_cons_self
    have := flat_le f n xs fun a ha => h a (List.mem_cons_of_mem _ ha)
    omega
def fac : Nat → Nat
  | 0 => 1
  | n + 1 => fac n * (n + 1)
theorem fac_mono : ∀ {m n : Nat}, m ≤ n → fac m ≤ fac n
  | m, 0, h => by rw [Nat.le_zero.mp h]; exact Nat.le_refl _
  | m, n + 1, h => by
    rcases Nat.lt_or_ge m (n + 1) with z | z
    · exact Nat.le_trans (fac_mono (Nat.le_of_lt_succ z)) (Nat.le_mul_of_pos_right _ (Nat.succ_pos _))
    · rw [Nat.le_antisymm h z]; exact Nat.le_refl _
theorem parts_many : ∀ (r : List Wt), (partsR r).length ≤ fac r.length
  | [] => Nat.le_refl _
  | w :: r => by
    have ih := parts_many r
    have h := flat_le (fun way => stepP way w ++ [way ++ [[w]]]) (r.length + 1) (partsR r) fun way hw => by
      have h1 := step_len way w
      have h2 := parts_len r way hw
      rw [List.length_append, List.length_singleton]
      omega
    show ((partsR r).flatMap _).length ≤ fac r.length * (r.length + 1)
    exact Nat.le_trans h (Nat.mul_le_mul_right _ ih)
theorem parts_inv : ∀ (r : List Wt), ∀ x ∈ partsR r, (∀ w ∈ r, ∃ (k : Nat) (g : List Wt), x[k]? = some g ∧ w ∈ g) ∧ ∀ (k : Nat) (g : List Wt), x[k]? = some g → ∀ a ∈ g, ∀ b ∈ g, a ≠ b → cf a b = false
  | [], x, h => by
    rw [List.mem_singleton.mp h]
    exact ⟨fun w hw => (by cases hw), fun k g e => by simp at e⟩
  | w :: r, x, h => by
    obtain ⟨way, hw, hx⟩ := List.mem_flatMap.mp h
    obtain ⟨i1, i2⟩ := parts_inv r way hw
    rcases mem_step hx with ⟨k, g, hk, hc, rfl⟩ | rfl
    · have hkl := (List.getElem?_eq_some_iff.mp hk).1
      have hs : (way.set k (g ++ [w]))[k]? = some (g ++ [w]) := by rw [List.getElem?_set, if_pos rfl, if_pos hkl]
      have hs2 : ∀ j, j ≠ k → (way.set k (g ++ [w]))[j]? = way[j]? := fun j hj => by rw [List.getElem?_set, if_neg (Ne.symm hj)]
      refine ⟨fun u hu => ?_, fun j gg e a ha b hb hab => ?_⟩
      · rcases List.mem_cons.mp hu with rfl | z
        · exact ⟨k, _, hs, by simp⟩
        · obtain ⟨j, gg, e1, e2⟩ := i1 u z
          by_cases hj : j = k
          · subst hj
            rw [hk] at e1
            cases e1
            exact ⟨j, _, hs, List.mem_append_left _ e2⟩
          · exact ⟨j, gg, by rw [hs2 j hj]; exact e1, e2⟩
      · by_cases hj : j = k
        · subst hj
          rw [hs] at e
          cases e
          rcases List.mem_append.mp ha with za | za <;> rcases List.mem_append.mp hb with zb | zb
          · exact i2 j g hk a za b zb hab
          · rw [List.mem_singleton.mp zb]; exact conf_no hc za
          · rw [List.mem_singleton.mp za, cf_comm]; exact conf_no hc zb
          · exact absurd (by rw [List.mem_singleton.mp za, List.mem_singleton.mp zb]) hab
        · rw [hs2 j hj] at e
          exact i2 j gg e a ha b hb hab
    · refine ⟨fun u hu => ?_, fun j gg e a ha b hb hab => ?_⟩
      · rcases List.mem_cons.mp hu with rfl | z
        · exact ⟨way.length, [u], by simp, List.mem_singleton.mpr rfl⟩
        · obtain ⟨j, gg, e1, e2⟩ := i1 u z
          exact ⟨j, gg, by rw [List.getElem?_append_left (List.getElem?_eq_some_iff.mp e1).1]; exact e1, e2⟩
      · by_cases hj : j < way.length
        · rw [List.getElem?_append_left hj] at e
          exact i2 j gg e a ha b hb hab
        · rw [List.getElem?_append_right (by omega)] at e
          have := List.mem_of_getElem? e
          rw [List.mem_singleton.mp this] at ha hb
          exact absurd (by rw [List.mem_singleton.mp ha, List.mem_singleton.mp hb]) hab
open Classical in
theorem parts_sound {r : List Wt} {x : Way} (h : x ∈ partsR r) : Col r x.length := by
  obtain ⟨i1, i2⟩ := parts_inv r x h
  have key : ∀ w ∈ r, ∃ k : Nat, ∃ g, x[k]? = some g ∧ w ∈ g := i1
  let f : Wt → Nat := fun w => if h : ∃ k : Nat, ∃ g, x[k]? = some g ∧ w ∈ g then h.choose else 0
  have fs : ∀ w ∈ r, ∃ g, x[f w]? = some g ∧ w ∈ g := fun w hw => by
    have := (key w hw).choose_spec
    show ∃ g, x[if h : ∃ k : Nat, ∃ g, x[k]? = some g ∧ w ∈ g then h.choose else 0]? = some g ∧ w ∈ g
    rw [dif_pos (key w hw)]
    exact this
  refine ⟨f, fun a ha => ?_, fun a ha b hb hab e => ?_⟩
  · obtain ⟨g, e1, _⟩ := fs a ha
    exact (List.getElem?_eq_some_iff.mp e1).1
  · obtain ⟨g, e1, e2⟩ := fs a ha
    obtain ⟨g', e3, e4⟩ := fs b hb
    rw [e, e3] at e1
    cases e1
    exact i2 _ _ e3 a e2 b e4 hab
theorem mem_at {cs : List Nat} {c : Nat} (h : c ∈ cs) : ∃ k : Nat, cs[k]? = some c := by
  obtain ⟨k, hk, e⟩ := List.mem_iff_getElem.mp h
  exact ⟨k, by rw [List.getElem?_eq_getElem hk, e]⟩
theorem snoc_at {α : Type} {xs : List α} {y z : α} {k : Nat} (h : (xs ++ [y])[k]? = some z) : (k < xs.length ∧ xs[k]? = some z) ∨ (k = xs.length ∧ z = y) := by
  by_cases hk : k < xs.length
  · rw [List.getElem?_append_left hk] at h
    exact .inl ⟨hk, h⟩
  · have hl := (List.getElem?_eq_some_iff.mp h).1
    rw [List.length_append, List.length_singleton] at hl
    have e : k = xs.length := by omega
    subst e
    simp at h
    exact .inr ⟨rfl, h.symm⟩
theorem parts_full {n : Nat} {f : Wt → Nat} : ∀ (r : List Wt), r.Nodup → (∀ a ∈ r, f a < n) → (∀ a ∈ r, ∀ b ∈ r, a ≠ b → f a = f b → cf a b = false) → ∃ way ∈ partsR r, ∃ cs : List Nat, cs.length = way.length ∧ cs.Nodup ∧ (∀ x ∈ cs, x < n) ∧ ∀ (k : Nat) (g : List Wt) (c : Nat), way[k]? = some g → cs[k]? = some c → ∀ x ∈ g, x ∈ r ∧ f x = c
  | [], _, _, _ => ⟨[], by simp [partsR], [], rfl, List.nodup_nil, fun x hx => (by cases hx), fun k g c e => by simp at e⟩
  | w :: r, nd, h1, h2 => by
    obtain ⟨way, hw, cs, c1, c2, c3, c4⟩ := parts_full r (List.nodup_cons.mp nd).2 (fun a ha => h1 a (List.mem_cons_of_mem _ ha)) (fun a ha b hb => h2 a (List.mem_cons_of_mem _ ha) b (List.mem_cons_of_mem _ hb))
    have hwr := (List.nodup_cons.mp nd).1
    by_cases hc : f w ∈ cs
    · obtain ⟨k, hk⟩ := mem_at hc
      have hkl : k < way.length := by rw [← c1]; exact (List.getElem?_eq_some_iff.mp hk).1
      have hg := List.getElem?_eq_getElem hkl
      generalize way[k] = g at hg
      have hcf : confB g w = false := List.any_eq_false.mpr fun x hx => by
        obtain ⟨x1, x2⟩ := c4 k g _ hg hk x hx
        have := h2 x (List.mem_cons_of_mem _ x1) w List.mem_cons_self (fun z => hwr (z ▸ x1)) x2
        exact fun z => by
          have z : cf x w = true := z
          rw [this] at z
          cases z
      refine ⟨_, List.mem_flatMap.mpr ⟨way, hw, List.mem_append_left _ (step_mem hg hcf)⟩, cs, by rw [List.length_set]; exact c1, c2, c3, fun j gg c e1 e2 x hx => ?_⟩
      by_cases hj : j = k
      · subst hj
        rw [List.getElem?_set, if_pos rfl, if_pos hkl] at e1
        cases e1
        rcases List.mem_append.mp hx with z | z
        · obtain ⟨x1, x2⟩ := c4 j g c hg e2 x z
          exact ⟨List.mem_cons_of_mem _ x1, x2⟩
        · rw [List.mem_singleton.mp z]
          rw [hk] at e2
          exact ⟨List.mem_cons_self, Option.some.inj e2⟩
      · rw [List.getElem?_set, if_neg (Ne.symm hj)] at e1
        obtain ⟨x1, x2⟩ := c4 j gg c e1 e2 x hx
        exact ⟨List.mem_cons_of_mem _ x1, x2⟩
    · refine ⟨_, List.mem_flatMap.mpr ⟨way, hw, List.mem_append_right _ (List.mem_singleton.mpr rfl)⟩, cs ++ [f w], by simp [c1], ?_, fun x hx => ?_, fun j gg c e1 e2 x hx => ?_⟩
      · rw [List.nodup_append]
        refine ⟨c2, by simp, fun a ha b hb e => ?_⟩
        rw [List.mem_singleton.mp hb] at e
        exact hc (e ▸ ha)
      · rcases List.mem_append.mp hx with z | z
        · exact c3 x z
        · rw [List.mem_singleton.mp z]; exact h1 w List.mem_cons_self
      · rcases snoc_at e1 with ⟨q1, q2⟩ | ⟨rfl, rfl⟩
        · rcases snoc_at e2 with ⟨p1, p2⟩ | ⟨p1, p2⟩
          · obtain ⟨x1, x2⟩ := c4 j gg c q2 p2 x hx
            exact ⟨List.mem_cons_of_mem _ x1, x2⟩
          · omega
        · rcases snoc_at e2 with ⟨p1, p2⟩ | ⟨p1, p2⟩
          · omega
          · rw [List.mem_singleton.mp hx, p2]
            exact ⟨List.mem_cons_self, rfl⟩
theorem parts_least {r : List Wt} {n : Nat} (nd : r.Nodup) (h : Col r n) : ∃ way ∈ partsR r, way.length ≤ n := by
  obtain ⟨f, h1, h2⟩ := h
  obtain ⟨way, hw, cs, c1, c2, c3, _⟩ := parts_full r nd h1 h2
  exact ⟨way, hw, by rw [← c1]; exact pigeon n cs c2 c3⟩
def posW (ws : List Wt) : Prop := ∀ w ∈ ws, w.2.1 < w.2.2
theorem getD_at {e : List Int} {k : Nat} {t : Int} (h : e[k]? = some t) : e.getD k 0 = t := by rw [List.getD_eq_getElem?_getD, h]; rfl
open Classical in
theorem leafs_sound : ∀ (r : List Wt) (S : List Wt) (e : List Int) (f : Wt → Nat) (m : Nat), posW r → (∀ a ∈ S, ∃ t, e[f a]? = some t ∧ a.2.2 ≤ t) → (∀ a ∈ S, ∀ b ∈ S, a ≠ b → f a = f b → cf a b = false) → (∀ w ∈ r, w ∉ S) → r.Nodup → m ∈ leafs r e → Col (r ++ S) m
  | [], S, e, f, m, _, h1, h2, _, _, hm => by
    rw [List.mem_singleton.mp hm]
    refine ⟨f, fun a ha => ?_, h2⟩
    obtain ⟨t, e1, _⟩ := h1 a ha
    exact (List.getElem?_eq_some_iff.mp e1).1
  | w :: r, S, e, f, m, hp, h1, h2, h3, nd, hm => by
    have nd2 := List.nodup_cons.mp nd
    have hws : w ∉ S := h3 w List.mem_cons_self
    have fin : ∀ (e' : List Int) (p : Nat), m ∈ leafs r e' → (∀ a ∈ w :: S, ∃ t, e'[if a = w then p else f a]? = some t ∧ a.2.2 ≤ t) → (∀ a ∈ S, f a = p → cf a w = false) → Col (w :: r ++ S) m := fun e' p hm' q1 q2 => by
      have := leafs_sound r (w :: S) e' (fun a => if a = w then p else f a) m (fun x hx => hp x (List.mem_cons_of_mem _ hx)) q1 (fun a ha b hb hab e => ?_) (fun x hx z => ?_) nd2.2 hm'
      · exact this.perm (List.perm_middle)
      · rcases List.mem_cons.mp ha with za | za <;> rcases List.mem_cons.mp hb with zb | zb
        · exact absurd (za.trans zb.symm) hab
        · have hbw : b ≠ w := fun z => hab (za.trans z.symm)
          simp only [if_pos za, if_neg hbw] at e
          rw [za, cf_comm]
          exact q2 b zb e.symm
        · have haw : a ≠ w := fun z => hab (z.trans zb.symm)
          simp only [if_pos zb, if_neg haw] at e
          rw [zb]
          exact q2 a za e
        · have haw : a ≠ w := fun z => hws (z ▸ za)
          have hbw : b ≠ w := fun z => hws (z ▸ zb)
          simp only [if_neg haw, if_neg hbw] at e
          exact h2 a za b zb hab e
      · rcases List.mem_cons.mp z with y | y
        · exact nd2.1 (y ▸ hx)
        · exact h3 x (List.mem_cons_of_mem _ hx) y
    rcases List.mem_append.mp hm with z | z
    · obtain ⟨p, hpr, hp2⟩ := List.mem_flatMap.mp z
      have hpl := List.mem_range.mp hpr
      split at hp2
      · rename_i hc
        have hc := of_decide_eq_true hc
        have hwp := hp w List.mem_cons_self
        refine fin _ p hp2 (fun a ha => ?_) (fun a ha hfa => ?_)
        · rw [List.getElem?_set]
          by_cases haw : a = w
          · rw [if_pos haw, if_pos rfl, if_pos hpl, haw]
            exact ⟨_, rfl, Int.le_refl _⟩
          · rw [if_neg haw]
            have haS : a ∈ S := (List.mem_cons.mp ha).resolve_left haw
            obtain ⟨t, e1, e2⟩ := h1 a haS
            by_cases hfp : p = f a
            · rw [if_pos hfp, if_pos hpl]
              rw [← hfp] at e1
              rw [getD_at e1] at hc
              exact ⟨_, rfl, by omega⟩
            · rw [if_neg hfp]
              exact ⟨t, e1, e2⟩
        · obtain ⟨t, e1, e2⟩ := h1 a ha
          rw [hfa] at e1
          rw [getD_at e1] at hc
          unfold cf
          rw [Bool.and_eq_false_iff]
          exact .inr (decide_eq_false (by omega))
      · cases hp2
    · refine fin _ e.length z (fun a ha => ?_) (fun a ha hfa => ?_)
      · by_cases haw : a = w
        · rw [if_pos haw, haw]
          exact ⟨w.2.2, by simp, Int.le_refl _⟩
        · rw [if_neg haw]
          have haS : a ∈ S := (List.mem_cons.mp ha).resolve_left haw
          obtain ⟨t, e1, e2⟩ := h1 a haS
          exact ⟨t, by rw [List.getElem?_append_left (List.getElem?_eq_some_iff.mp e1).1]; exact e1, e2⟩
      · obtain ⟨t, e1, e2⟩ := h1 a ha
        have := (List.getElem?_eq_some_iff.mp e1).1
        omega
theorem leafs_full {n : Nat} {f : Wt → Nat} : ∀ (r : List Wt) (S : List Wt) (e : List Int) (cs : List Nat), posW r → cs.length = e.length → cs.Nodup → (∀ x ∈ cs, x < n) → (∀ (k : Nat) (c : Nat) (t : Int), cs[k]? = some c → e[k]? = some t → ∃ a ∈ S, f a = c ∧ a.2.2 = t) → (∀ a ∈ S, ∀ b ∈ r, a.2.1 ≤ b.2.1 ∧ (f a = f b → cf a b = false)) → r.Pairwise (fun a b => a.2.1 ≤ b.2.1) → r.Nodup → (∀ a ∈ r, f a < n) → (∀ a ∈ r, ∀ b ∈ r, a ≠ b → f a = f b → cf a b = false) → ∃ m ∈ leafs r e, m ≤ n
  | [], S, e, cs, _, c1, c2, c3, _, _, _, _, _, _ => ⟨e.length, List.mem_singleton.mpr rfl, by rw [← c1]; exact pigeon n cs c2 c3⟩
  | w :: r, S, e, cs, hp, c1, c2, c3, c4, c5, hs, nd, h1, h2 => by
    have nd2 := List.nodup_cons.mp nd
    have hs2 := List.pairwise_cons.mp hs
    have hp2 : posW r := fun x hx => hp x (List.mem_cons_of_mem _ hx)
    have hwp := hp w List.mem_cons_self
    have c5' : ∀ a ∈ w :: S, ∀ b ∈ r, a.2.1 ≤ b.2.1 ∧ (f a = f b → cf a b = false) := fun a ha b hb => by
      rcases List.mem_cons.mp ha with rfl | z
      · exact ⟨hs2.1 b hb, h2 a List.mem_cons_self b (List.mem_cons_of_mem _ hb) (fun z => nd2.1 (z ▸ hb))⟩
      · exact c5 a z b (List.mem_cons_of_mem _ hb)
    have h1' : ∀ a ∈ r, f a < n := fun a ha => h1 a (List.mem_cons_of_mem _ ha)
    have h2' : ∀ a ∈ r, ∀ b ∈ r, a ≠ b → f a = f b → cf a b = false := fun a ha b hb => h2 a (List.mem_cons_of_mem _ ha) b (List.mem_cons_of_mem _ hb)
    by_cases hc : f w ∈ cs
    · obtain ⟨k, hk⟩ := mem_at hc
      have hkl : k < e.length := by rw [← c1]; exact (List.getElem?_eq_some_iff.mp hk).1
      have ht := List.getElem?_eq_getElem hkl
      obtain ⟨a, ha, hfa, hat⟩ := c4 k _ _ hk ht
      obtain ⟨q1, q2⟩ := c5 a ha w List.mem_cons_self
      have q2 := q2 hfa
      have hle : e.getD k 0 + 480 ≤ w.2.1 := by
        rw [getD_at ht, ← hat]
        unfold cf at q2
        rw [Bool.and_eq_false_iff] at q2
        rcases q2 with z | z
        · have := of_decide_eq_false z; omega
        · have := of_decide_eq_false z; omega
      obtain ⟨m, hm, hmn⟩ := leafs_full r (w :: S) (e.set k w.2.2) cs hp2 (by rw [List.length_set]; exact c1) c2 c3 (fun j c t e1 e2 => by
        by_cases hj : k = j
        · subst hj
          rw [List.getElem?_set, if_pos rfl, if_pos hkl] at e2
          rw [hk] at e1
          exact ⟨w, List.mem_cons_self, Option.some.inj e1, Option.some.inj e2⟩
        · rw [List.getElem?_set, if_neg hj] at e2
          obtain ⟨a, ha, q⟩ := c4 j c t e1 e2
          exact ⟨a, List.mem_cons_of_mem _ ha, q⟩) c5' hs2.2 nd2.2 h1' h2'
      exact ⟨m, List.mem_append_left _ (List.mem_flatMap.mpr ⟨k, List.mem_range.mpr hkl, by rw [if_pos (decide_eq_true hle)]; exact hm⟩), hmn⟩
    · obtain ⟨m, hm, hmn⟩ := leafs_full r (w :: S) (e ++ [w.2.2]) (cs ++ [f w]) hp2 (by simp [c1]) (by
        rw [List.nodup_append]
        refine ⟨c2, by simp, fun a ha b hb e => ?_⟩
        rw [List.mem_singleton.mp hb] at e
        exact hc (e ▸ ha)) (fun x hx => by
        rcases List.mem_append.mp hx with z | z
        · exact c3 x z
        · rw [List.mem_singleton.mp z]; exact h1 w List.mem_cons_self) (fun j c t e1 e2 => by
        rcases snoc_at e1 with ⟨q1, q2⟩ | ⟨q1, q2⟩
        · rcases snoc_at e2 with ⟨p1, p2⟩ | ⟨p1, p2⟩
          · obtain ⟨a, ha, q⟩ := c4 j c t q2 p2
            exact ⟨a, List.mem_cons_of_mem _ ha, q⟩
          · omega
        · rcases snoc_at e2 with ⟨p1, p2⟩ | ⟨p1, p2⟩
          · omega
          · exact ⟨w, List.mem_cons_self, q2.symm, p2.symm⟩) c5' hs2.2 nd2.2 h1' h2'
      exact ⟨m, List.mem_append_right _ hm, hmn⟩
/-- the fewest of the search are the fewest of all ways -/
theorem few_least {ws : List Wt} (nd : ws.Nodup) (hp : posW ws) (hs : (sortW ws).Pairwise fun a b => a.2.1 ≤ b.2.1) {m : Nat} (h1 : m ∈ leafs (sortW ws) []) (h2 : ∀ j ∈ leafs (sortW ws) [], m ≤ j) : (m : Int) = minI ((partsR ws.reverse).map fun w => (w.length : Int)) := by
  have pm := sortW_perm ws
  have ps : posW (sortW ws) := fun w hw => hp w (pm.mem_iff.mp hw)
  have pr := ws.reverse_perm
  have nds : (sortW ws).Nodup := pm.nodup_iff.mpr nd
  have ndr : ws.reverse.Nodup := pr.nodup_iff.mpr nd
  refine min_eq ?_ ?_
  · have hc := leafs_sound (sortW ws) [] [] (fun _ => 0) m ps (fun a ha => by cases ha) (fun a ha => by cases ha) (fun w _ h => by cases h) nds h1
    rw [List.append_nil] at hc
    obtain ⟨way, hw, hl⟩ := parts_least ndr ((hc.perm pm).perm pr.symm)
    obtain ⟨f, g1, g2⟩ := ((parts_sound hw).perm pr).perm pm.symm
    obtain ⟨j, hj, hjl⟩ := leafs_full (n := way.length) (f := f) (sortW ws) [] [] [] ps rfl List.nodup_nil (fun x hx => (by cases hx)) (fun k c t e => by simp at e) (fun a ha => by cases ha) hs nds g1 g2
    have := h2 j hj
    exact List.mem_map.mpr ⟨way, hw, by congr 1; omega⟩
  · intro x hx
    obtain ⟨way, hw, rfl⟩ := List.mem_map.mp hx
    obtain ⟨f, g1, g2⟩ := ((parts_sound hw).perm pr).perm pm.symm
    obtain ⟨j, hj, hjl⟩ := leafs_full (n := way.length) (f := f) (sortW ws) [] [] [] ps rfl List.nodup_nil (fun x hx => (by cases hx)) (fun k c t e => by simp at e) (fun a ha => by cases ha) hs nds g1 g2
    have := h2 j hj
    omega
end K4

set_option maxRecDepth 100000
set_option maxHeartbeats 4000000
namespace K4
open PySem L2 Dl Sp Lw
abbrev sDice : Stmt := top 12
abbrev sRoll : Stmt := top 13
abbrev sRounds : Stmt := top 14
abbrev sTold : Stmt := top 15
section
variable {P : Program} {w : World} {K : PySem.W.Frag} {mg : Str → Option Value} {base : Heap} {B : Hp} {T Dd W c : Addr} {k : Nat} {E : XK} {XP : Value → Mem → Prop} {q : Str} {ds : List D} {μ : Mem} {R : Pst}
theorem run_dice (F : Free mg) (hS : S_dice ds μ R XP) :
    Run (gamOf P w K mg base B ["cell"] (defScope sDice) q c k E XP) (startD ["cell"] ds) μ (defBody sDice) { nx := fun _ μ' => R .non μ', rt := R } := by
  obtain ⟨x, rfl, h⟩ := hS
  refine run_cons (ru_ifv (tv_chain (ev_bin ev_int ev_int b_sub) (ev_n 0) b_lt ev_int b_lt) (fun z => run_one (ru_ret ?_)) (fun z => run_nil ?_))
  · refine ew_lstM ((av_cons (ev_b1 (F _ (by decide)) (by rfl) (ev_n 0) c_abs) (av_cons ev_int (av_cons ev_int av_nil))).w ⟨by show 3 ≤ 100000; decide, fun a => h a _ _ _⟩)
  · refine run_one (ru_ret ?_)
    refine ew_lstM ((av_cons (ev_n 0) (av_cons (ev_bin ev_int (ev_bin (ev_t1 (F _ (by decide)) (by rfl) (ev_n 0) c_int) ev_int (b_mod (by decide))) b_add) (av_cons (ev_t1 (F _ (by decide)) (by rfl) (ev_cmp (ev_n 0) (ev_bin ev_int ev_int (b_pow ⟨by decide, by decide, by decide⟩)) b_ge) c_intB) av_nil))).w ⟨by show 3 ≤ 100000; decide, fun a => h a _ _ _⟩)
theorem run_roll (F : Free mg) (hS : S_roll ds μ R XP) :
    Run (gamOf P w K mg base B ["dice", "many", "found"] (defScope sRoll) q c k E XP) (startD ["dice", "many", "found"] ds) μ (defBody sRoll) { nx := fun _ μ' => R .non μ', rt := R } := by
  obtain ⟨l, x0, x1, x2, many, rfl, ⟨m1, m2⟩, rfl, h⟩ := hS
  have mem : ∀ z0 z1 z2 : Int, (l, dm z0 z1 z2) ∈ [(l, dm z0 z1 z2)] := fun _ _ _ => List.mem_cons_self
  refine run_cons (ru_ifv (Wv.t (wv_or (tv_cmp (ev_ixM (ev_n 0) (mem _ _ _) ev_int (rfl : atI [D.int x0, D.int x1, D.int x2] 2 = some (.int x2))) ev_int b_eqI) fun _ => wv_1 (Wv.t (wv_and (tv_cmp (ev_ixM (ev_n 0) (mem _ _ _) ev_int (rfl : atI [D.int x0, D.int x1, D.int x2] 2 = some (.int x2))) ev_int b_eqI) fun _ => wv_1 (tv_cmp (ev_ixM (ev_n 0) (mem _ _ _) ev_int (rfl : atI [D.int x0, D.int x1, D.int x2] 0 = some (.int x0))) ev_int b_gt))))) (fun z => ?_) (fun z => run_nil ?_))
  · refine run_cons (ru_set 2 ((ev_bin (ev_t1 (F _ (by decide)) (by rfl) (ev_ixM (ev_n 0) (mem _ _ _) ev_int (rfl : atI [D.int x0, D.int x1, D.int x2] 0 = some (.int x0))) c_int) (ev_n 1) (b_mod m1)).w ?_))
    refine run_cons (ru_asg ((ev_bin (ev_ixM (ev_n 0) (mem _ _ _) ev_int (rfl : atI [D.int x0, D.int x1, D.int x2] 0 = some (.int x0))) (ev_n 1) (b_fdiv ⟨m1, by omega⟩)).w (tg_setM (ν1 := []) (ev_n 0) ev_int (j := 0) rfl ?_)))
    exact run_one (ru_ret ((ev_n 2).w (h _ _ _ _ (Int.emod_nonneg _ (by omega)) (Int.emod_lt_of_pos _ m1))))
  · refine run_cons (ru_asg (ev_int.w (tg_setM (ν1 := []) (ev_n 0) ev_int (j := 2) rfl ?_)))
    refine run_cons (ru_ifv (tv_cmp (ev_n 1) ev_int b_gt) (fun z => by have := of_decide_eq_true z; omega) (fun z => run_nil ?_))
    refine run_cons (ru_asg ((ev_bin (ev_t1 (F _ (by decide)) (by rfl) (ev_bin (ev_bin (ev_bin (ev_ixM (ev_n 0) (mem _ _ _) ev_int (rfl : atI [D.int x0, D.int x1, D.int 0] 0 = some (.int x0))) ev_int (b_mul (.inr (by decide)))) (ev_bin (ev_ixM (ev_n 0) (mem _ _ _) ev_int (rfl : atI [D.int x0, D.int x1, D.int 0] 1 = some (.int x1))) ev_int (b_mul (.inr (by decide)))) b_add) ev_int b_add) c_int) ev_int (b_mod (by decide))).w (tg_setM (ν1 := []) (ev_n 0) ev_int (j := 0) rfl ?_)))
    refine run_cons (ru_asg ((ev_bin (ev_ixM (ev_n 0) (mem _ _ _) ev_int rfl) ev_int b_add).w (tg_setM (ν1 := []) (ev_n 0) ev_int (j := 1) rfl ?_)))
    exact run_one (ru_ret ((ev_bin (ev_t1 (F _ (by decide)) (by rfl) (ev_bin (ev_ixM (ev_n 0) (mem _ _ _) ev_int rfl) ev_int (b_fdiv ⟨by decide, by decide⟩)) c_int) (ev_n 1) (b_mod m1)).w (h _ _ _ _ (Int.emod_nonneg _ (by omega)) (Int.emod_lt_of_pos _ m1))))
theorem run_rounds (F : Free mg) (GD : Gn P w K mg base B "_law_dice" 1 1 S_dice) (hk : 2 ≤ k) (hS : S_rounds ds μ R XP) :
    Run (gamOf P w K mg base B ["script", "most", "cells", "cell"] (defScope sRounds) q c k E XP) (startD ["script", "most", "cells", "cell"] ds) μ (defBody sRounds) { nx := fun _ μ' => R .non μ', rt := R } := by
  obtain ⟨cs, rfl, h⟩ := hS
  refine run_cons (ru_set 2 ((ev_slS (ev_n 0) pv_no (pv_yes (ev_n 1))).w ?_))
  have ec : cutA (cs.map D.int) none (some 1) = (cs.take 1).map D.int := by rw [List.map_take]; exact cut_to _ 1
  rw [ec]
  have fin : ∀ x : Int, Run (gamOf P w K mg base B ["script", "most", "cells", "cell"] (defScope sRounds) q c k E XP) [some (.lsq (cs.map D.int)), some (.int 1), some (.lst [.int x]), none] μ ((defBody sRounds).drop 2) { nx := fun _ μ' => R .non μ', rt := R } := fun x => by
    refine run_one (ru_ret (ew_lc [("cell", 3)] [3] (by exact L2.blkOk_by (by kernel_rfl)) (by decide) (Iv.w (iv_list (ev_n 2)) ⟨by show 1 ≤ 100000; decide, fun i acc μ' => (i = 0 ∧ acc = [] ∧ μ = μ') ∨ (i = 1 ∧ ∃ q x0 x1 x2, acc = [.adr q] ∧ (q, dm x0 x1 x2) :: μ = μ'), .inl ⟨rfl, rfl, rfl⟩, ?_, ?_⟩)))
    · rintro i d acc μ' hd hI
      have hi : i = 0 ∧ d = .int x := by
        cases i with
        | zero => exact ⟨rfl, by simpa using hd.symm⟩
        | succ n => simp at hd
      obtain ⟨rfl, rfl⟩ := hi
      rcases hI with ⟨_, rfl, rfl⟩ | ⟨z, _⟩
      · refine tg_n 3 ?_
        refine cw_no ⟨fun _ => ?_, fun z => by cases z⟩
        refine ew_call GD (by show 1 ≤ k; omega) rfl ((av_cons (ev_n 3) av_nil).w ⟨rfl, [], μ, NoX, rfl, ⟨x, rfl, fun q x0 x1 x2 => ?_⟩, fun _ _ z => z.elim⟩)
        exact .inr ⟨rfl, q, x0, x1, x2, rfl, rfl⟩
      · omega
    · rintro acc μ' hI
      rcases hI with ⟨z, _⟩ | ⟨_, a, x0, x1, x2, rfl, rfl⟩
      · exact absurd z (by simp)
      · exact h a x0 x1 x2
  cases cs with
  | nil =>
    refine run_cons (ru_ifv (tv_cmp (ev_n 2) (ev_lst av_nil) (b_eqNil (n := 1) (by simp [Pd]))) (fun _ => run_one (ru_set 2 ((ev_lst (av_cons ev_int av_nil)).w ?_))) (fun z => by cases z))
    exact fin 0
  | cons x xs =>
    refine run_cons (ru_ifv (tv_cmp (ev_n 2) (ev_lst av_nil) (b_eqNil (n := 1) (by simp [Pd]))) (fun z => by cases z) (fun _ => run_nil ?_))
    exact fin x
end
end K4

set_option maxRecDepth 100000
set_option maxHeartbeats 4000000
namespace K4
open PySem L2 Dl Sp Lw
abbrev sLCan : Stmt := top 16
abbrev sLParts : Stmt := top 17
abbrev sLaw : Stmt := top 18
def twD (v : Wt) : D := .tup [.str v.1, .int v.2.1, .int v.2.2]
def tRow (ws : List Wt) : D := .lst (ws.map twD)
theorem keep_none {α : Type} (xs : List α) (p : α → Bool) (f : α → D) : (keepL xs p f).isEmpty = !xs.any p := by
  unfold keepL
  rw [List.isEmpty_map]
  induction xs with
  | nil => rfl
  | cons x xs ih =>
    rw [List.filter_cons, List.any_cons]
    cases h : p x
    · simpa using ih
    · rfl
def twoS (u : Wt) : List Int := [u.2.1, u.2.2 - 10080]
theorem starts_all (zs : List Wt) (g : Int → Bool) : (startsOf zs).all g = true ↔ ∀ a ∈ zs, ∀ s ∈ twoS a, g s = true := by
  unfold startsOf twoS
  rw [List.all_append, Bool.and_eq_true, List.all_eq_true, List.all_eq_true]
  constructor
  · rintro ⟨h1, h2⟩ a ha s hs
    rcases List.mem_cons.mp hs with rfl | z
    · exact h1 _ (List.mem_map.mpr ⟨a, ha, rfl⟩)
    · rw [List.mem_singleton.mp z]
      exact h2 _ (List.mem_map.mpr ⟨a, ha, rfl⟩)
  · intro h
    refine ⟨fun s hs => ?_, fun s hs => ?_⟩
    · obtain ⟨a, ha, rfl⟩ := List.mem_map.mp hs
      exact h a ha _ List.mem_cons_self
    · obtain ⟨a, ha, rfl⟩ := List.mem_map.mp hs
      exact h a ha _ (List.mem_cons_of_mem _ List.mem_cons_self)
section
variable {P : Program} {w : World} {K : PySem.W.Frag} {mg : Str → Option Value} {base : Heap} {B : Hp} {Wa Ro Ce c : Addr} {k : Nat} {E : XK} {XP : Value → Mem → Prop} {q : Str} {ds : List D} {μ : Mem} {R : Pst}
def S_lcan : Dl.Spec := fun ds μ P _ => ∃ (rows : List Wt) (v : Wt) (most : Int), ds = [tRow rows, twD v, .int most] ∧ rows.length ≤ 900 ∧ P (.bl (canB rows v most)) μ
theorem run_lcan (Fr : Free mg) (hS : S_lcan ds μ R XP) :
    Run (gamOf P w K mg base B ["rows", "watch", "most", "one", "start", "row"] (defScope sLCan) q c k E XP) (startD ["rows", "watch", "most", "one", "start", "row"] ds) μ (defBody sLCan) { nx := fun _ μ' => R .non μ', rt := R } := by
  obtain ⟨rows, v, most, rfl, hl, h⟩ := hS
  refine run_cons (ru_ifv (k := confB rows v) (Tv.cast (tv_cmp (ev_lc rows twD (fun x => cf x v) (fun _ => .int 1) [("row", 5)] [5] (iv_list (ev_n 0)) (by omega) (fun x hx => elc_t 5 (Wv.t (wv_and (tv_cmp (ev_ixT (ev_n 5) ev_int (by rfl)) (ev_bin (ev_ixT (ev_n 1) ev_int (by rfl)) ev_int b_add) b_lt) fun _ => wv_1 (tv_cmp (ev_ixT (ev_n 1) ev_int (by rfl)) (ev_bin (ev_ixT (ev_n 5) ev_int (by rfl)) ev_int b_add) b_lt))) fun _ => ev_int)) (ev_lst av_nil) b_neE) (by rw [keep_none, Bool.not_not]; rfl)) (fun t => run_one (ru_ret (ev_bl.w ?_))) (fun t => run_nil ?_))
  · unfold canB at h
    rw [t] at h
    exact h
  · have e : canB rows v most = (startsOf (rows ++ [v])).all fun s => decide (minsIn (rows ++ [v]) s (s + 10080) ≤ most) := by
      unfold canB
      rw [t]
      rfl
    rw [e] at h
    clear e
    have ezs : rows.map twD ++ [twD v] = (rows ++ [v]).map twD := by rw [List.map_append]; rfl
    have hzl : (rows ++ [v]).length ≤ 901 := by simp; omega
    have hcat : (rows.map twD).length + [twD v].length ≤ 100000 := by simp; omega
    generalize rows ++ [v] = zs at h ezs hzl
    refine run_cons (ru_for (ixs := [3]) (Iv.w (iv_list (Ev.cast (ev_bin (ev_n 0) (ev_lst (av_cons (ev_n 1) av_nil)) (b_cat hcat)) (congrArg D.lst ezs))) ?_))
    refine ⟨fun i δ' μ' => ∃ a b d, δ' = [some (tRow rows), some (twD v), some (.int most), a, b, d] ∧ μ = μ' ∧ ∀ u ∈ zs.take i, ∀ s ∈ twoS u, minsIn zs s (s + 10080) ≤ most, ⟨none, none, none, rfl, rfl, fun u hu => by simp at hu⟩, ?_, ?_⟩
    · rintro i x δ' μ' hd ⟨a, b, d, rfl, rfl, hI⟩
      obtain ⟨u, hu, rfl⟩ := map_at hd
      have hum := List.mem_of_getElem? hu
      refine tg_n 3 ?_
      refine run_one (ru_for (ixs := [4]) (Iv.w (iv_list (Ev.cast (d1 := .lst ((twoS u).map D.int)) (ev_lst (av_cons (ev_ixT (ev_n 3) ev_int (by rfl)) (av_cons (ev_bin (ev_ixT (ev_n 3) ev_int (by rfl)) ev_int b_sub) av_nil))) rfl)) ?_))
      refine ⟨fun j δ' μ' => ∃ b d, δ' = [some (tRow rows), some (twD v), some (.int most), some (twD u), b, d] ∧ μ = μ' ∧ ∀ s ∈ (twoS u).take j, minsIn zs s (s + 10080) ≤ most, ⟨_, _, rfl, rfl, fun s hs => by simp at hs⟩, ?_, ?_⟩
      · rintro j y δ' μ' hd ⟨b, d, rfl, rfl, hJ⟩
        obtain ⟨s, hs, rfl⟩ := map_at hd
        have hsm := List.mem_of_getElem? hs
        refine tg_n 4 ?_
        refine run_one (ru_ifv (tv_cmp (ev_b1 (d2 := .int (minsIn zs s (s + 10080))) (Fr _ (by decide)) PyProof.Rows.boot_sum (Ev.cast (ev_lc zs twD (fun _ => true) (fun x => .int (max 0 (min x.2.2 (s + 10080) - max x.2.1 s))) [("row", 5)] [5] (iv_list (Ev.cast (ev_bin (ev_n 0) (ev_lst (av_cons (ev_n 1) av_nil)) (b_cat hcat)) (congrArg D.lst ezs))) (by omega) (fun x hx => elc_n 5 (ev_b2 (Fr _ (by decide)) PyProof.Rows.boot_max ev_int (ev_bin (ev_b2 (Fr _ (by decide)) PyProof.Rows.boot_min (ev_ixT (ev_n 5) ev_int (by rfl)) (ev_bin (ev_n 4) ev_int b_add) c_min2) (ev_b2 (Fr _ (by decide)) PyProof.Rows.boot_max (ev_ixT (ev_n 5) ev_int (by rfl)) (ev_n 4) c_max2) b_sub) c_max2))) (by rw [keep_all]; exact congrArg D.lst (by rw [List.map_map]; rfl : zs.map _ = (zs.map fun x => max 0 (min x.2.2 (s + 10080) - max x.2.1 s)).map D.int))) c_sumL) (ev_n 2) b_gt) (fun t => run_one (ru_ret (ev_bl.w ?_))) (fun t => run_nil ?_))
        · have hf : (startsOf zs).all (fun s => decide (minsIn zs s (s + 10080) ≤ most)) = false := Bool.eq_false_iff.mpr fun z => by
            have h1 := (starts_all zs _).mp z u hum s hsm
            have h1 := of_decide_eq_true h1
            have t := of_decide_eq_true t
            omega
          rw [hf] at h
          exact h
        · refine ⟨_, _, rfl, rfl, fun z hz => ?_⟩
          have t := of_decide_eq_false t
          rw [List.take_add_one, hs] at hz
          rcases List.mem_append.mp hz with y | y
          · exact hJ z y
          · have y : z ∈ [s] := y
            rw [List.mem_singleton.mp y]
            omega
      · rintro δ' μ' ⟨b, d, rfl, rfl, hJ⟩
        refine ⟨_, _, _, rfl, rfl, fun z hz => ?_⟩
        rw [List.length_map, List.take_length] at hJ
        rw [List.take_add_one, hu] at hz
        rcases List.mem_append.mp hz with y | y
        · exact hI z y
        · have y : z ∈ [u] := y
          rw [List.mem_singleton.mp y]
          exact hJ
    · rintro δ' μ' ⟨a, b, d, rfl, rfl, hI⟩
      rw [List.length_map, List.take_length] at hI
      have ht : (startsOf zs).all (fun s => decide (minsIn zs s (s + 10080) ≤ most)) = true := (starts_all zs _).mpr fun u hu s hs => decide_eq_true (hI u hu s hs)
      rw [ht] at h
      exact run_one (ru_ret (ev_bl.w h))
theorem pure_lcan {rows : List Wt} {v : Wt} {most : Int} (hl : rows.length ≤ 900) : Pure S_lcan [tRow rows, twD v, .int most] (.bl (canB rows v most)) := fun P p => ⟨rows, v, most, rfl, hl, p⟩
end
end K4

set_option maxRecDepth 100000
set_option maxHeartbeats 4000000
namespace K4
open PySem L2 Dl Sp Lw
def wayD (way : Way) : D := .lst (way.map tRow)
theorem set_cutW (xs : Way) {k : Nat} (y : List Wt) (h : k < xs.length) : cutA (xs.map tRow) none (some (k : Int)) ++ [tRow y] ++ cutA (xs.map tRow) (some ((k : Int) + 1)) none = (xs.set k y).map tRow := by
  have e : ((k : Int) + 1) = ((k + 1 : Nat) : Int) := by omega
  rw [e, cut_to, cut_from, List.set_eq_take_append_cons_drop, if_pos h]
  simp [List.map_take, List.map_drop]
theorem cut_last {α : Type} (xs : List α) (x : α) : cutA (xs ++ [x]) none (some (-1)) = xs := by
  unfold cutA
  have e1 : HT.sIx (xs ++ [x]).length 0 none = 0 := rfl
  have e2 : HT.sIx (xs ++ [x]).length (xs ++ [x]).length (some (-1)) = xs.length := by
    unfold HT.sIx
    simp
    omega
  rw [e1, e2]
  simp
theorem getW_len {way : Way} {r : List Wt} (h : way ∈ partsR r) (k : Nat) : (way.getD k []).length ≤ r.length := by
  induction r generalizing way k with
  | nil => rw [List.mem_singleton.mp h]; simp
  | cons w r ih =>
    obtain ⟨y, hy, hx⟩ := List.mem_flatMap.mp h
    rcases mem_step hx with ⟨j, g, hj, _, rfl⟩ | rfl
    · rw [List.getD_eq_getElem?_getD, List.getElem?_set]
      have hg := ih hy j
      rw [List.getD_eq_getElem?_getD, hj] at hg
      have hg : g.length ≤ r.length := hg
      by_cases e : j = k
      · rw [if_pos e, if_pos (List.getElem?_eq_some_iff.mp hj).1]
        show (g ++ [w]).length ≤ _
        simp
        omega
      · rw [if_neg e]
        have := ih hy k
        rw [List.getD_eq_getElem?_getD] at this
        exact Nat.le_succ_of_le this
    · rw [List.getD_eq_getElem?_getD]
      by_cases e : k < y.length
      · rw [List.getElem?_append_left e]
        have := ih hy k
        rw [List.getD_eq_getElem?_getD] at this
        exact Nat.le_succ_of_le this
      · rw [List.getElem?_append_right (by omega)]
        cases hk : k - y.length with
        | zero => simp
        | succ n => simp
section
variable {P : Program} {w : World} {K : PySem.W.Frag} {mg : Str → Option Value} {base : Heap} {B : Hp} {Wa Ro Ce c : Addr} {k : Nat} {E : XK} {XP : Value → Mem → Prop} {q : Str} {ds : List D} {μ : Mem} {R : Pst}
/-- of n watches at most -/
def S_parts (n : Nat) : Dl.Spec := fun ds μ P _ => ∃ (rows : List Wt), ds = [tRow rows] ∧ rows.length ≤ n ∧ P (.lst ((partsR rows.reverse).map wayD)) μ
theorem pure_parts {rows : List Wt} {n : Nat} (h : rows.length ≤ n) : Pure (S_parts n) [tRow rows] (.lst ((partsR rows.reverse).map wayD)) := fun P p => ⟨rows, rfl, h, p⟩
theorem run_parts (Fr : Free mg) {n j : Nat} (hn : n ≤ 6) (G : n = 0 ∨ ∃ m, n = m + 1 ∧ Gn P w K mg base B "_law_parts" j 1 (S_parts m)) (hk : j ≤ k) (hS : S_parts n ds μ R XP) :
    Run (gamOf P w K mg base B ["rows", "found", "way", "last", "k", "row"] (defScope sLParts) q c k E XP) (startD ["rows", "found", "way", "last", "k", "row"] ds) μ (defBody sLParts) { nx := fun _ μ' => R .non μ', rt := R } := by
  obtain ⟨rows, rfl, hl, h⟩ := hS
  refine run_cons (ru_ifv (tv_cmp (ev_n 0) (ev_lst av_nil) b_eqE) (fun t => ?_) (fun t => run_nil ?_))
  · have e : rows = [] := by
      cases rows with
      | nil => rfl
      | cons x xs => cases t
    subst e
    exact run_one (ru_ret ((ev_lst (av_cons (ev_lst av_nil) av_nil)).w h))
  · rcases List.eq_nil_or_concat rows with rfl | ⟨init, v, rfl⟩
    · cases t
    rw [List.concat_eq_append] at hl h ⊢
    clear t
    rw [List.length_append, List.length_singleton] at hl
    rcases G with rfl | ⟨m, rfl, G⟩
    · omega
    have er : partsR (init ++ [v]).reverse = (partsR init.reverse).flatMap fun way => stepP way v ++ [way ++ [[v]]] := by
      rw [List.reverse_append]
      rfl
    rw [er] at h
    have hrl : init.reverse.length ≤ 5 := by rw [List.length_reverse]; omega
    have hps := Nat.le_trans (parts_many init.reverse) (fac_mono hrl)
    have hpl := parts_len init.reverse
    have hgw := fun (way : Way) (hw : way ∈ partsR init.reverse) (k : Nat) => getW_len hw k
    have hfac : fac 5 = 120 := rfl
    have hil : init.length ≤ 5 := by omega
    generalize hWe : partsR init.reverse = Ws at h hps hpl hgw
    refine run_cons (ru_set 1 ((ev_lst av_nil).w ?_))
    refine run_cons (ru_for (ixs := [2]) (Iv.w (iv_list (Ev.cast (ev_callV G (av_cons (Ev.cast (ev_slL (ds := (init ++ [v]).map twD) (ev_n 0) pv_no (pv_yes (ev_neg ev_int))) (congrArg D.lst (by rw [List.map_append]; exact cut_last _ _ : _ = init.map twD))) av_nil) (pure_parts (rows := init) (by omega)) rfl (by show j ≤ k; omega)) (by rw [hWe]))) ?_))
    refine ⟨fun i δ' μ' => ∃ a b d e, δ' = [some (tRow (init ++ [v])), some (.lst (((Ws.take i).flatMap fun way => stepP way v ++ [way ++ [[v]]]).map wayD)), a, b, d, e] ∧ μ = μ', ⟨none, none, none, none, rfl, rfl⟩, ?_, ?_⟩
    · rintro i x δ' μ' hd ⟨a, b, d, e, rfl, rfl⟩
      obtain ⟨way, hw, rfl⟩ := map_at hd
      have hwm := List.mem_of_getElem? hw
      have hi : i < Ws.length := (List.getElem?_eq_some_iff.mp hw).1
      have hwl := Nat.le_trans (hpl way hwm) hrl
      have hgl := fun k => Nat.le_trans (hgw way hwm k) hrl
      have hpre : ((Ws.take i).flatMap fun way => stepP way v ++ [way ++ [[v]]]).length ≤ 120 * 6 := by
        refine Nat.le_trans (flat_le _ 6 _ fun y hy => ?_) (Nat.mul_le_mul_right _ (by rw [List.length_take]; omega))
        have h1 := step_len y v
        have h2 := hpl y (List.mem_of_mem_take hy)
        rw [List.length_append, List.length_singleton]
        omega
      have hstl := step_len way v
      have htk : (Ws.take (i + 1)).flatMap (fun way => stepP way v ++ [way ++ [[v]]]) = (Ws.take i).flatMap (fun way => stepP way v ++ [way ++ [[v]]]) ++ stepP way v ++ [way ++ [[v]]] := by
        rw [List.take_add_one, hw, List.flatMap_append, List.append_assoc]
        simp
      obtain ⟨pre, epre⟩ : ∃ pre, (Ws.take i).flatMap (fun way => stepP way v ++ [way ++ [[v]]]) = pre := ⟨_, rfl⟩
      rw [epre] at hpre htk ⊢
      refine tg_n 2 ?_
      refine run_cons (ru_set 3 (Ev.w (ev_ixL (ds := (init ++ [v]).map twD) (d := twD v) (ev_n 0) (ev_bin (ev_len Fr (ev_n 0)) ev_int b_sub) (atI_nat' (by simp) (by simp))) ?_))
      have hst : keepL (List.range way.length) (fun k => !confB (way.getD k []) v) (fun k => wayD (way.set k (way.getD k [] ++ [v]))) = (stepP way v).map wayD := by
        unfold keepL stepP
        rw [List.map_map]
        rfl
      have hat : ∀ k : Nat, k < way.length → atI (way.map tRow) (k : Int) = some (tRow (way.getD k [])) := fun k hk => atI_nat' (by omega) (by
        rw [Int.toNat_natCast, List.getElem?_map, List.getD_eq_getElem?_getD, List.getElem?_eq_getElem hk]
        rfl)
      refine run_cons (ru_set 1 (Ev.w (ev_bin (ev_n 1) (Ev.cast (ev_lc (List.range way.length) (fun (k : Nat) => D.int (k : Int)) (fun k => !confB (way.getD k []) v) (fun k => wayD (way.set k (way.getD k [] ++ [v]))) [("k", 4), ("row", 5)] [4] (iv_rN Fr ((ev_len Fr (ev_n 2)).cast (by rw [List.length_map])) (by omega)) (by rw [List.length_range]; omega) (fun k hk => ?_)) (congrArg D.lst hst)) (b_cat (by rw [List.length_map, List.length_map]; omega))) ?_))
      · have hk := List.mem_range.mp hk
        have hgk := hgl k
        refine elc_t 4 (Tv.cast (tv_cmp (ev_lc (way.getD k []) twD (fun x => cf x v) (fun _ => .int 1) [("row", 5)] [5] (iv_list (ev_ixL (ds := way.map tRow) (ev_n 2) (ev_n 4) (hat k hk))) (by omega) (fun x hx => elc_t 5 (Wv.t (wv_and (tv_cmp (ev_ixT (ev_n 5) ev_int (by rfl)) (ev_bin (ev_ixT (ev_n 3) ev_int (by rfl)) ev_int b_add) b_lt) fun _ => wv_1 (tv_cmp (ev_ixT (ev_n 3) ev_int (by rfl)) (ev_bin (ev_ixT (ev_n 5) ev_int (by rfl)) ev_int b_add) b_lt))) fun _ => ev_int)) (ev_lst av_nil) b_eqE) (by rw [keep_none]; rfl)) fun _ => ?_
        refine Ev.cast (ev_bin (ev_bin (ev_slL (ds := way.map tRow) (ev_n 2) pv_no (pv_yes (ev_n 4))) (ev_lst (av_cons (Ev.cast (ev_bin (ev_ixL (ds := way.map tRow) (ev_n 2) (ev_n 4) (hat k hk)) (ev_lst (av_cons (ev_n 3) av_nil)) (b_cat (by rw [List.length_map, List.length_singleton]; omega))) (congrArg D.lst (by rw [List.map_append]; rfl : _ = (way.getD k [] ++ [v]).map twD))) av_nil)) (b_cat ?_)) (ev_slL (ds := way.map tRow) (ev_n 2) (pv_yes (ev_bin (ev_n 4) ev_int b_add)) pv_no) (b_cat ?_)) (congrArg D.lst (set_cutW way (way.getD k [] ++ [v]) hk))
        · rw [cut_to]
          simp
          omega
        · have e2 : ((k : Int) + 1) = ((k + 1 : Nat) : Int) := by omega
          rw [cut_to, e2, cut_from]
          simp
          omega
      · rw [← List.map_append]
        have hcat1 : (way.map tRow).length + [D.lst [twD v]].length ≤ 100000 := by
          rw [List.length_map, List.length_singleton]
          omega
        have hcat2 : ((pre ++ stepP way v).map wayD).length + [D.lst ((way ++ [[v]]).map tRow)].length ≤ 100000 := by
          rw [List.length_map, List.length_append, List.length_singleton]
          omega
        refine run_one (ru_set 1 (Ev.w (ev_bin (ev_n 1) (ev_lst (av_cons (Ev.cast (ev_bin (ev_n 2) (ev_lst (av_cons (ev_lst (av_cons (ev_n 3) av_nil)) av_nil)) (b_cat hcat1)) (congrArg D.lst (by rw [List.map_append]; rfl : _ = (way ++ [[v]]).map tRow))) av_nil)) (b_cat hcat2)) ?_))
        dsimp only
        rw [htk, List.map_append (l₁ := pre ++ stepP way v)]
        exact ⟨_, _, _, _, rfl, rfl⟩
    · rintro δ' μ' ⟨a, b, d, e, rfl, rfl⟩
      rw [List.length_map, List.take_length]
      exact run_one (ru_ret ((ev_n 1).w h))
end
end K4

set_option maxRecDepth 100000
set_option maxHeartbeats 4000000
/-! sorted, two ways -/
namespace K4
open PySem L2 Dl Sp Lw
theorem sort_uniq {α : Type} {le : α → α → Bool} : ∀ {xs ys : List α}, xs.Perm ys → (∀ a ∈ xs, ∀ b ∈ xs, le a b = true → le b a = true → a = b) → xs.Pairwise (fun a b => le a b = true) → ys.Pairwise (fun a b => le a b = true) → xs = ys
  | [], ys, p, _, _, _ => (List.nil_perm.mp p).symm
  | x :: xs, [], p, _, _, _ => absurd (List.perm_nil.mp p) (by simp)
  | x :: xs, y :: ys, p, an, h1, h2 => by
    have h1 := List.pairwise_cons.mp h1
    have h2 := List.pairwise_cons.mp h2
    have e : x = y := by
      have hx : x ∈ y :: ys := p.mem_iff.mp List.mem_cons_self
      have hy : y ∈ x :: xs := p.mem_iff.mpr List.mem_cons_self
      rcases List.mem_cons.mp hx with z | zx
      · exact z
      · rcases List.mem_cons.mp hy with z | zy
        · exact z.symm
        · exact an x List.mem_cons_self y hy (h1.1 y zy) (h2.1 x zx)
    subst e
    rw [sort_uniq ((List.perm_cons x).mp p) (fun a ha b hb => an a (List.mem_cons_of_mem _ ha) b (List.mem_cons_of_mem _ hb)) h1.2 h2.2]
theorem nm_inj {ws : List Wt} (nd : (ws.map fun w => w.1).Nodup) : ∀ a ∈ ws, ∀ b ∈ ws, a.1 = b.1 → a = b := by
  induction ws with
  | nil => intro a ha; cases ha
  | cons w ws ih =>
    rw [List.map_cons, List.nodup_cons] at nd
    intro a ha b hb e
    rcases List.mem_cons.mp ha with rfl | za <;> rcases List.mem_cons.mp hb with rfl | zb
    · rfl
    · exact absurd (List.mem_map.mpr ⟨b, zb, e.symm⟩) nd.1
    · exact absurd (List.mem_map.mpr ⟨a, za, e⟩) nd.1
    · exact ih nd.2 a za b zb e
theorem nd_of {ws : List Wt} (nd : (ws.map fun w => w.1).Nodup) : ws.Nodup := by
  induction ws with
  | nil => exact List.nodup_nil
  | cons w ws ih =>
    rw [List.map_cons, List.nodup_cons] at nd
    exact List.nodup_cons.mpr ⟨fun z => nd.1 (List.mem_map.mpr ⟨w, z, rfl⟩), ih nd.2⟩
abbrev Qu := PySem.W.T4 Int Str Int Int
def quD (x : Qu) : D := .tup [.int x.a, .str x.b, .int x.c, .int x.d]
theorem qu_toP (x : Qu) : toP (quD x) = PySem.W.Datum.toD x := by
  show toP (.tup [.int x.a, .str x.b, .int x.c, .int x.d]) = PyData.tuple [.int x.a, .str x.b, .int x.c, .int x.d]
  simp only [toP, toPs]
theorem qu_le (a b : Qu) : PySem.W.dataLe false toP (quD a) (quD b) = !PySem.W.DatumOrd.lt b a := dataLe_typed quD qu_toP a b
def quOf (w : Wt) : Qu := ⟨w.2.1, w.1, w.2.1, w.2.2⟩
def sortQ (ws : List Wt) : List Wt := ws.mergeSort fun a b => PySem.W.dataLe false toP (quD (quOf a)) (quD (quOf b))
theorem sortQ_perm (ws : List Wt) : (sortQ ws).Perm ws := List.mergeSort_perm _ _
section
variable {α : Type} [DecidableEq α] [PySem.W.DatumOrd α]
theorem le_trans' {a b c : α} (h1 : (!PySem.W.DatumOrd.lt b a) = true) (h2 : (!PySem.W.DatumOrd.lt c b) = true) : (!PySem.W.DatumOrd.lt c a) = true := by
  rw [Bool.not_eq_true'] at *
  cases e : PySem.W.DatumOrd.lt c a with
  | false => rfl
  | true =>
    rcases lt_neg b e with z | z
    · rw [h2] at z; cases z
    · rw [h1] at z; cases z
theorem le_total' (a b : α) : ((!PySem.W.DatumOrd.lt b a) || (!PySem.W.DatumOrd.lt a b)) = true := by
  cases e1 : PySem.W.DatumOrd.lt b a with
  | false => rfl
  | true =>
    cases e2 : PySem.W.DatumOrd.lt a b with
    | false => rfl
    | true =>
      have := lt_trans e1 e2
      rw [lt_irr] at this
      cases this
end
abbrev leF (a b : Wt) : Bool := PySem.W.dataLe false toP (fnD (fnOf a)) (fnD (fnOf b))
abbrev leQ (a b : Wt) : Bool := PySem.W.dataLe false toP (quD (quOf a)) (quD (quOf b))
theorem leF_eq (a b : Wt) : leF a b = !PySem.W.DatumOrd.lt (fnOf b) (fnOf a) := fn_le _ _
theorem leQ_eq (a b : Wt) : leQ a b = !PySem.W.DatumOrd.lt (quOf b) (quOf a) := qu_le _ _
theorem sortW_pw (ws : List Wt) : (sortW ws).Pairwise fun a b => leF a b = true :=
  List.pairwise_mergeSort (le := leF) (fun a b c h1 h2 => by rw [leF_eq] at *; exact le_trans' h1 h2) (fun a b => by rw [leF_eq, leF_eq]; exact le_total' _ _) ws
theorem sortQ_pw (ws : List Wt) : (sortQ ws).Pairwise fun a b => leQ a b = true :=
  List.pairwise_mergeSort (le := leQ) (fun a b c h1 h2 => by rw [leQ_eq] at *; exact le_trans' h1 h2) (fun a b => by rw [leQ_eq, leQ_eq]; exact le_total' _ _) ws
theorem leF_anti {ws : List Wt} (nd : (ws.map fun w => w.1).Nodup) : ∀ a ∈ ws, ∀ b ∈ ws, leF a b = true → leF b a = true → a = b := fun a ha b hb h1 h2 => by
  rw [leF_eq, Bool.not_eq_true'] at h1 h2
  have := lt_tri h2 h1
  exact nm_inj nd a ha b hb (congrArg Prod.snd this)
theorem leQ_leF {a b : Wt} (h : leQ a b = true) : leF a b = true := by
  rw [leQ_eq, Bool.not_eq_true'] at h
  rw [leF_eq, Bool.not_eq_true']
  cases e : PySem.W.DatumOrd.lt (fnOf b) (fnOf a) with
  | false => rfl
  | true =>
    have e : (if b.2.1 = a.2.1 then PySem.W.DatumOrd.lt b.1 a.1 else PySem.W.DatumOrd.lt b.2.1 a.2.1) = true := e
    have h : (if b.2.1 = a.2.1 then (if b.1 = a.1 then (if b.2.1 = a.2.1 then PySem.W.DatumOrd.lt b.2.2 a.2.2 else PySem.W.DatumOrd.lt b.2.1 a.2.1) else PySem.W.DatumOrd.lt b.1 a.1) else PySem.W.DatumOrd.lt b.2.1 a.2.1) = false := h
    by_cases h1 : b.2.1 = a.2.1
    · rw [if_pos h1] at e h
      by_cases h2 : b.1 = a.1
      · rw [h2, lt_irr] at e
        cases e
      · rw [if_neg h2, e] at h
        cases h
    · rw [if_neg h1] at e h
      rw [e] at h
      cases h
theorem sortQ_eq {ws : List Wt} (nd : (ws.map fun w => w.1).Nodup) : sortQ ws = sortW ws := by
  have p := sortQ_perm ws
  refine sort_uniq (le := leF) (p.trans (sortW_perm ws).symm) (fun a ha b hb => leF_anti nd a (p.mem_iff.mp ha) b (p.mem_iff.mp hb)) ?_ (sortW_pw ws)
  exact (sortQ_pw ws).imp fun h => leQ_leF h
theorem sortW_cong {xs ys : List Wt} (p : xs.Perm ys) (nd : (xs.map fun w => w.1).Nodup) : sortW xs = sortW ys := by
  have px := sortW_perm xs
  exact sort_uniq (le := leF) ((px.trans p).trans (sortW_perm ys).symm) (fun a ha b hb => leF_anti nd a (px.mem_iff.mp ha) b (px.mem_iff.mp hb)) (sortW_pw xs) (sortW_pw ys)
theorem sortW_first (ws : List Wt) : (sortW ws).Pairwise fun a b => a.2.1 ≤ b.2.1 := by
  refine (sortW_pw ws).imp fun {a b} h => ?_
  rw [leF_eq, Bool.not_eq_true'] at h
  have h : (if b.2.1 = a.2.1 then PySem.W.DatumOrd.lt b.1 a.1 else decide (b.2.1 < a.2.1)) = false := h
  by_cases e : b.2.1 = a.2.1
  · omega
  · rw [if_neg e] at h
    have := of_decide_eq_false h
    omega
/-- what the law has -/
theorem sort_qu (ws : List Wt) : (ws.map fun w => quD (quOf w)).mergeSort (PySem.W.dataLe false toP) = (sortQ ws).map fun w => quD (quOf w) :=
  (List.map_mergeSort (r := leQ) (s := PySem.W.dataLe false toP) (f := fun w => quD (quOf w)) (fun _ _ _ _ => rfl)).symm
theorem sort_fnW (ws : List Wt) : (ws.map fun w => fnD (fnOf w)).mergeSort (PySem.W.dataLe false toP) = (sortW ws).map fun w => fnD (fnOf w) :=
  (List.map_mergeSort (r := leF) (s := PySem.W.dataLe false toP) (f := fun w => fnD (fnOf w)) (fun _ _ _ _ => rfl)).symm
theorem few_min {ws : List Wt} (nd : (ws.map fun w => w.1).Nodup) (hp : posW ws) {m : Nat} (h1 : m ∈ leafs (sortW ws) []) (h2 : ∀ j ∈ leafs (sortW ws) [], m ≤ j) : (m : Int) = minI ((partsR ws.reverse).map fun w => (w.length : Int)) := few_least (nd_of nd) hp (sortW_first ws) h1 h2
end K4

set_option maxRecDepth 100000
set_option maxHeartbeats 4000000
namespace K4
open PySem L2 Dl Sp Lw LamX
def forB : List Stmt := match defBody sLaw with
  | (.For _ _ b _ _) :: _ => b
  | _ => []
def stepB : List Stmt := match forB.getD 2 (.Pass ⟨0, 0, 0, 0⟩) with
  | .For _ _ b _ _ => b
  | _ => []
structure Fl (P : Program) (w : World) (K : PySem.W.Frag) (mg : Str → Option Value) (base : Heap) (B : Hp) (Wa Ro Ce PA : Addr) : Prop where
  fk : Fr4 K mg Wa Ro Ce
  rounds : Gn P w K mg base B "_law_rounds" 3 2 S_rounds
  roll : Gn P w K mg base B "_law_roll" 1 2 S_roll
  lcan : Gn P w K mg base B "_law_can" 1 3 S_lcan
  parts : Gn P w K mg base B "_law_parts" 6 1 (S_parts 5)
  cw : Cn P w K mg base B "Watch" Wa 1 4 (S_winit Wa Ce)
  cr : Cn P w K mg base B "Roster" Ro 1 3 (S_rinit Wa Ro Ce)
  min : Mn P w K mg base B Ro "minutes_in" 2 4 (S_min Wa Ro Ce)
  can : Mn P w K mg base B Ro "can_take" 4 3 (S_can Wa Ro Ce)
  whole : Mn P w K mg base B Ro "whole" 2 2 (S_whole Wa Ro Ce)
  all : Mn P w K mg base B Ro "all_watches" 3 1 (S_all Wa Ro PA)
  take : Mn P w K mg base B Ro "take" 5 2 (S_take Wa Ro Ce PA)
  sortw : Gn P w K mg base B "sorted_watches" 2 1 (S_sortw Wa)
  few : Gn P w K mg base B "fewest_crews" 3 1 (S_few Wa Ce)
theorem Fl.up {P : Program} {w : World} {K : PySem.W.Frag} {mg : Str → Option Value} {base : Heap} {B B' : Hp} {Wa Ro Ce PA : Addr} (L : Fl P w K mg base B Wa Ro Ce PA) (h : Le B B') : Fl P w K mg base B' Wa Ro Ce PA := ⟨L.fk, L.rounds.up h, L.roll.up h, L.lcan.up h, L.parts.up h, L.cw.up h, L.cr.up h, L.min.up h, L.can.up h, L.whole.up h, L.all.up h, L.take.up h, L.sortw.up h, L.few.up h⟩
abbrev nL : List Str := ["script", "dice", "names", "most", "name", "own", "step", "first", "watch", "given", "able", "due", "one", "start", "few", "k", "ways", "bad", "made", "roster", "row", "way", "f"]
abbrev gL (P : Program) (w : World) (K : PySem.W.Frag) (mg : Str → Option Value) (base : Heap) (B : Hp) (q : Str) (c : Addr) (k : Nat) (E : XK) (XP : Value → Mem → Prop) := gamOf P w K mg base B nL (defScope sLaw) q c k E XP
/-- the law's own -/
def ownDk (ns : List Str) (st : Str → List Wt) : List (Key × D) := ns.map fun n => ((Sum.inr n : Key), tRow (st n))
def lawM (Wa Ro PA PP : Addr) (lq : Str) (o ra Dd : Addr) (r : Ros) (ns : List Str) (cs : List Addr) : Mem := [(ra, rosO Ro Dd r), (Dd, .dK (rosDk Wa r)), (PA, .gt gAll), (o, .dK (ownDk ns r.st)), (PP, .tbl lq cs)]
/-- what stays so -/
structure Good (r : Ros) (ns : List Str) (n : Nat) : Prop where
  ok : okRn r.names r.most
  srt : Srt r ns
  row : ∀ m, (r.st m).length ≤ n
  nm : NmOk r
  abc : ∀ x ∈ ns, x ≠ ("CrewError" : Str)
  l3 : ns.length ≤ 3
theorem Good.len {r : Ros} {ns : List Str} {n : Nat} (h : Good r ns n) : r.names.length ≤ 3 := by rw [← h.srt.perm.length_eq]; exact h.l3
theorem Good.okR {r : Ros} {ns : List Str} {n : Nat} (h : Good r ns n) (hn : n ≤ 900) : OkR r := ⟨h.ok.1, h.ok.2.1, h.ok.2.2, by have := h.len; omega, fun m => by have := h.row m; omega⟩
theorem Good.mono {r : Ros} {ns : List Str} {n m : Nat} (h : Good r ns n) (e : n ≤ m) : Good r ns m := ⟨h.ok, h.srt, fun x => Nat.le_trans (h.row x) e, h.nm, h.abc, h.l3⟩
theorem Good.mem {r : Ros} {ns : List Str} {n : Nat} (h : Good r ns n) {x : Str} (hx : x ∈ ns) : x ∈ r.names := h.srt.perm.mem_iff.mp hx
theorem nd_snoc {ws : List Wt} {v : Wt} (nd : (ws.map fun w => w.1).Nodup) (h : v.1 ∉ ws.map fun w => w.1) : ((ws ++ [v]).map fun w => w.1).Nodup := by
  rw [List.map_append, List.nodup_append]
  refine ⟨nd, by simp, fun a ha b hb e => h ?_⟩
  simp only [List.map_cons, List.map_nil, List.mem_singleton] at hb
  rw [hb] at e
  rw [← e]
  exact ha
theorem good_take {r : Ros} {ns : List Str} {n : Nat} {x : Str} {v : Wt} (h : Good r ns n) (hx : x ∈ ns) (hv : PyData.strOk v.1 = true) (hg : givenB ns r.st v.1 = false) : Good (takeR r x v) ns (n + 1) := by
  have hn : v.1 ∉ (r.st x).map fun w => w.1 := fun z => (List.any_eq_false.mp hg x hx) (decide_eq_true z)
  have pw := sortW_perm (r.st x ++ [v])
  have est : ∀ m, (takeR r x v).st m = if m = x then sortW (r.st x ++ [v]) else r.st m := fun m => rfl
  refine ⟨h.ok, ⟨h.srt.perm, h.srt.sorted⟩, fun m => ?_, ⟨fun m => ?_, fun m => ?_, h.nm.nstr⟩, h.abc, h.l3⟩
  · rw [est]
    split
    · rw [pw.length_eq, List.length_append, List.length_singleton]
      exact Nat.succ_le_succ (h.row x)
    · exact Nat.le_succ_of_le (h.row m)
  · rw [est]
    split
    · exact (pw.map _).nodup_iff.mpr (nd_snoc (h.nm.nd x) hn)
    · exact h.nm.nd m
  · rw [est]
    split
    · intro w hw
      rcases List.mem_append.mp (pw.mem_iff.mp hw) with z | z
      · exact h.nm.str x w z
      · rw [List.mem_singleton.mp z]; exact hv
    · exact h.nm.str m
theorem own_val {ns : List Str} {st : Str → List Wt} {n : Str} (h : n ∈ ns) : valD (ownDk ns st) (.inr n) = some (tRow (st n)) := val_names (fun n => tRow (st n)) h
theorem own_put {r : Ros} {ns : List Str} {x : Str} {ws : List Wt} (h : x ∈ ns) : putD (ownDk ns r.st) (.inr x) (tRow ws) = ownDk ns (setSt r x ws).st :=
  put_names (fun n => tRow (r.st n)) (fun n => tRow ((setSt r x ws).st n)) h (by show tRow (if x = x then ws else r.st x) = _; rw [if_pos rfl]) (fun m hm => by show tRow (if m = x then ws else r.st m) = _; rw [if_neg hm])
section
variable {P : Program} {w : World} {K : PySem.W.Frag} {mg : Str → Option Value} {base : Heap} {B : Hp} {Wa Ro Ce PA PP c l o ra Dd : Addr} {k : Nat} {E : XK} {XP : Value → Mem → Prop} {q lq : Str} {ν μ : Mem} {F : Dl.Fin} {r : Ros} {ns : List Str} {cs : List Addr} {v0 v1 v2 v3 v4 v5 v6 v7 v8 v9 v10 v11 v12 v13 v14 v15 v16 v17 v18 v19 v20 v21 v22 : Option D}
theorem pm_view {x : Addr × MO} : (x :: lawM Wa Ro PA PP lq o ra Dd r ns cs).Perm (rosM Wa Ro ra Dd r ++ ([(PA, .gt gAll)] ++ [x, (o, .dK (ownDk ns r.st)), (PP, .tbl lq cs)])) :=
  (List.perm_middle (a := x) (l₁ := [(ra, rosO Ro Dd r), (Dd, MO.dK (rosDk Wa r)), (PA, MO.gt gAll)]) (l₂ := [(o, .dK (ownDk ns r.st)), (PP, .tbl lq cs)])).symm
theorem gt1 : ∀ p ∈ [(PA, MO.gt gAll)], ∃ g, p.2 = MO.gt g := fun p hp => by rw [List.mem_singleton.mp hp]; exact ⟨_, rfl⟩
theorem pm_can {x : Addr × MO} : (x :: lawM Wa Ro PA PP lq o ra Dd r ns cs).Perm (rosM Wa Ro ra Dd r ++ (x :: [(PA, .gt gAll), (o, .dK (ownDk ns r.st)), (PP, .tbl lq cs)])) :=
  (List.perm_middle (a := x) (l₁ := [(ra, rosO Ro Dd r), (Dd, MO.dK (rosDk Wa r))]) (l₂ := [(PA, MO.gt gAll), (o, .dK (ownDk ns r.st)), (PP, .tbl lq cs)])).symm
theorem pm_take {x : Addr × MO} : (x :: lawM Wa Ro PA PP lq o ra Dd r ns cs).Perm ((rosM Wa Ro ra Dd r ++ ([(PA, .gt gAll)] ++ [])) ++ [x, (o, .dK (ownDk ns r.st)), (PP, .tbl lq cs)]) :=
  (List.perm_middle (a := x) (l₁ := [(ra, rosO Ro Dd r), (Dd, MO.dK (rosDk Wa r)), (PA, MO.gt gAll)]) (l₂ := [(o, .dK (ownDk ns r.st)), (PP, .tbl lq cs)])).symm
theorem own_in {x : Addr × MO} : (o, MO.dK (ownDk ns r.st)) ∈ x :: lawM Wa Ro PA PP lq o ra Dd r ns cs := by simp [lawM]
theorem ros_in {x : Addr × MO} : (ra, rosO Ro Dd r) ∈ x :: lawM Wa Ro PA PP lq o ra Dd r ns cs := by simp [lawM]
theorem log_ok {r : Int} (h1 : 0 ≤ r) (h2 : r < 100) : r.natAbs.log2 < 1920 := Nat.lt_of_le_of_lt (Nat.log2_le_self _) (by omega)
theorem len_ok {r : Int} (h1 : 0 ≤ r) (h2 : r < 16) : (Str.ofString (toString r)).length ≤ 10 := by
  obtain ⟨n, rfl⟩ : ∃ n : Nat, r = (n : Int) := ⟨r.toNat, by omega⟩
  have hn : n < 16 := by omega
  have : ∀ n : Nat, n < 16 → (Str.ofString (toString (n : Int))).length ≤ 10 := by decide +kernel
  exact this n hn
/-- a watch that comes -/
theorem stRow (L : Fl P w K mg base B Wa Ro Ce PA) (hk : 8 ≤ k) {x0 x1 x2 : Int} {c0 : D}
    (h : ∀ (v : Wt) (y0 y1 y2 : Int), okW v → PyData.strOk v.1 = true → Run (gL P w K mg base B q c k E XP) (some c0 :: some (.adr l) :: v2 :: v3 :: v4 :: v5 :: v6 :: some (.int v.2.1) :: some (twD v) :: v9 :: v10 :: v11 :: v12 :: v13 :: v14 :: v15 :: v16 :: v17 :: some (watD Wa v) :: v19 :: v20 :: v21 :: v22 :: []) ((l, dm y0 y1 y2) :: ν) (stepB.drop 3) F) :
    Run (gL P w K mg base B q c k E XP) (some c0 :: some (.adr l) :: v2 :: v3 :: v4 :: v5 :: v6 :: v7 :: v8 :: v9 :: v10 :: v11 :: v12 :: v13 :: v14 :: v15 :: v16 :: v17 :: v18 :: v19 :: v20 :: v21 :: v22 :: []) ((l, dm x0 x1 x2) :: ν) stepB F := by
  refine run_cons (ru_set 7 (ew_roll L.roll (ev_n 1) ev_int (by omega) (by show 1 ≤ k; omega) fun a y0 y1 y2 a1 a2 => ?_))
  refine run_cons (ru_set 8 (ew_tup (aw_cons (ew_bin (Ev.w ev_str (ew_callTy (L.fk.free _ (by decide)) PyProof.Rows.boot_str (aw_cons (ew_roll L.roll (ev_n 1) ev_int (by omega) (by show 1 ≤ k; omega) fun s y0 y1 y2 s1 s2 => aw_nil ⟨_, c_str (log_ok s1 (by omega)), ⟨_, b_str ?_, aw_cons (Ev.w (ev_n 7) (aw_cons (ew_bin (Ev.w (ev_bin (ev_n 7) ev_int b_add) (ew_roll L.roll (ev_n 1) ev_int (by omega) (by show 1 ≤ k; omega) fun b w0 w1 w2 b1 b2 => ⟨_, b_add, aw_nil ⟨Nat.le_of_ble_eq_true rfl, ?_⟩⟩)))))⟩⟩))))))))
  · have := len_ok s1 (by omega)
    show 1 + _ ≤ _
    omega
  · have ok : okW ((("w" : Str) ++ (Str.ofString (toString s))), a, a + 1 + b) := ⟨by show 0 < a + 1 + b - a; omega, by show a + 1 + b - a ≤ 600; omega⟩
    refine run_cons (ru_set 18 (Ev.w (ev_makeV (ns := nW) (fs := [.str (("w" : Str) ++ (Str.ofString (toString s))), .int a, .int (a + 1 + b)]) L.cw (av_cons (ev_ixT (ev_n 8) ev_int (by rfl)) (av_cons (ev_ixT (ev_n 8) ev_int (by rfl)) (av_cons (ev_ixT (ev_n 8) ev_int (by rfl)) av_nil))) (mk_wat ok) rfl (by show 1 + 1 ≤ k; omega)) ?_))
    exact h ((("w" : Str) ++ (Str.ofString (toString s))), a, a + 1 + b) w0 w1 w2 ok (strOk_app (by decide +kernel) (strOk_of _))
end
end K4

set_option maxRecDepth 100000
set_option maxHeartbeats 4000000
namespace K4
open PySem L2 Dl Sp Lw LamX
theorem any_names (ns : List Str) (st : Str → List Wt) (nm : Str) : (!(keepL ns (fun n => decide (nm ∈ (st n).map fun w : Wt => w.1)) (fun _ => D.int 1)).isEmpty) = givenB ns st nm := by
  rw [keep_none, Bool.not_not]
  rfl
theorem able_names (r : Ros) (ns : List Str) (v : Wt) (n : Str) (h : n ∈ ns) : decide (n ∈ (ableOf r ns v).map fun x : Fn => x.2) = canB (r.st n) v r.most := by
  have e : (ableOf r ns v).map (fun x : Fn => x.2) = ns.filter fun n => canB (r.st n) v r.most := by
    unfold ableOf
    rw [List.map_map]
    exact List.map_id _
  rw [e]
  cases hc : canB (r.st n) v r.most with
  | true => exact decide_eq_true (List.mem_filter.mpr ⟨h, hc⟩)
  | false =>
    refine decide_eq_false fun z => ?_
    have := (List.mem_filter.mp z).2
    rw [hc] at this
    cases this
theorem pd_bools {α : Type} (xs : List α) (f : α → Bool) : Pd 1 (.lst (xs.map fun x => D.bl (f x))) := by
  simp only [Pd]
  intro y hy
  obtain ⟨x, _, rfl⟩ := List.mem_map.mp hy
  exact trivial
section
variable {P : Program} {w : World} {K : PySem.W.Frag} {mg : Str → Option Value} {base : Heap} {B : Hp} {Wa Ro Ce PA PP c l o ra Dd : Addr} {k : Nat} {E : XK} {XP : Value → Mem → Prop} {q lq : Str} {ν μ : Mem} {F : Dl.Fin} {r : Ros} {ns : List Str} {cs : List Addr} {v0 v1 v2 v3 v4 v5 v6 v7 v8 v9 v10 v11 v12 v13 v14 v15 v16 v17 v18 v19 v20 v21 v22 : Option D}
/-- is it given; who is able -/
theorem stAble (L : Fl P w K mg base B Wa Ro Ce PA) (hk : 8 ≤ k) {x0 x1 x2 : Int} {c0 : D} {n : Nat} {v : Wt} (hg : Good r ns n) (hn : n ≤ 800)
    (h : Run (gL P w K mg base B q c k E XP) (some c0 :: some (.adr l) :: some (.lst (ns.map D.str)) :: some (.int r.most) :: v4 :: some (.adr o) :: v6 :: v7 :: some (twD v) :: some (.bl (givenB ns r.st v.1)) :: some (.lst ((ableOf r ns v).map fnD)) :: v11 :: v12 :: v13 :: v14 :: v15 :: v16 :: v17 :: some (watD Wa v) :: some (.adr ra) :: v20 :: v21 :: v22 :: []) ((l, dm x0 x1 x2) :: lawM Wa Ro PA PP lq o ra Dd r ns cs) (stepB.drop 5) F) :
    Run (gL P w K mg base B q c k E XP) (some c0 :: some (.adr l) :: some (.lst (ns.map D.str)) :: some (.int r.most) :: v4 :: some (.adr o) :: v6 :: v7 :: some (twD v) :: v9 :: v10 :: v11 :: v12 :: v13 :: v14 :: v15 :: v16 :: v17 :: some (watD Wa v) :: some (.adr ra) :: v20 :: v21 :: v22 :: []) ((l, dm x0 x1 x2) :: lawM Wa Ro PA PP lq o ra Dd r ns cs) (stepB.drop 3) F := by
  have hl3 := hg.l3
  refine run_cons (ru_set 9 (Ev.w (Ev.cast (ev_cmp (ev_lc ns D.str (fun n => decide (v.1 ∈ (r.st n).map fun w : Wt => w.1)) (fun _ => .int 1) [("name", 4), ("row", 20)] [4] (iv_list (ev_n 2)) (by omega) (fun n hn => ?_)) (ev_lst av_nil) b_neE) (congrArg D.bl (any_names ns r.st v.1))) ?_))
  · have hr := hg.row n
    refine elc_ct 4 (tv_cmp (ev_ixT (ev_n 8) ev_int (by rfl)) (Ev.cast (ev_lc (r.st n) twD (fun _ => true) (fun x => .str x.1) [("row", 20)] [20] (iv_list (ev_dget (ev_n 5) own_in (ev_n 4) (own_val hn))) (by omega) (fun x hx => elc_n 20 (ev_ixT (ev_n 20) ev_int (by rfl)))) ?_) b_inL) fun _ => ev_int
    rw [keep_all, List.map_map]
    rfl
  have hab : keepL ns (fun n => canB (r.st n) v r.most) (fun n => D.tup [.int (wholeOf (r.st n)), .str n]) = (ableOf r ns v).map fnD := by
    unfold keepL ableOf
    rw [List.map_map]
    rfl
  refine run_cons (ru_set 10 (Ev.w (Ev.cast (ev_lc ns D.str (fun n => canB (r.st n) v r.most) (fun n => D.tup [.int (wholeOf (r.st n)), .str n]) [("name", 4), ("row", 20)] [4] (iv_list (ev_n 2)) (by omega) (fun n hn => ?_)) (congrArg D.lst hab)) h))
  have hr := hg.row n
  refine elc_ct 4 (tv_val (ev_callV L.lcan (av_cons (ev_dget (ev_n 5) own_in (ev_n 4) (own_val hn)) (av_cons (ev_n 8) (av_cons (ev_n 3) av_nil))) (pure_lcan (by omega)) rfl (by show 1 ≤ k; omega)) rfl) fun _ => ?_
  refine ev_tup (av_cons (ev_b1 (d2 := .int (wholeOf (r.st n))) (L.fk.free _ (by decide)) PyProof.Rows.boot_sum (Ev.cast (ev_lc (r.st n) twD (fun _ => true) (fun x => .int (x.2.2 - x.2.1)) [("row", 20)] [20] (iv_list (ev_dget (ev_n 5) own_in (ev_n 4) (own_val hn))) (by omega) (fun x hx => elc_n 20 (ev_bin (ev_ixT (ev_n 20) ev_int (by rfl)) (ev_ixT (ev_n 20) ev_int (by rfl)) b_sub))) ?_) c_sumL) (av_cons (ev_n 4) av_nil))
  rw [keep_all]
  exact congrArg D.lst (by rw [List.map_map]; rfl : (r.st n).map _ = ((r.st n).map fun x => x.2.2 - x.2.1).map D.int)
/-- who can, says the roster -/
theorem stCan (L : Fl P w K mg base B Wa Ro Ce PA) (hk : 8 ≤ k) {x0 x1 x2 : Int} {c0 : D} {n : Nat} {v : Wt} (hg : Good r ns n) (hn : n ≤ 800)
    (h : Run (gL P w K mg base B q c k E XP) (some c0 :: some (.adr l) :: some (.lst (ns.map D.str)) :: some (.int r.most) :: v4 :: some (.adr o) :: v6 :: v7 :: some (twD v) :: some (.bl (givenB ns r.st v.1)) :: some (.lst ((ableOf r ns v).map fnD)) :: v11 :: v12 :: v13 :: v14 :: v15 :: v16 :: v17 :: some (watD Wa v) :: some (.adr ra) :: v20 :: v21 :: v22 :: []) ((l, dm x0 x1 x2) :: lawM Wa Ro PA PP lq o ra Dd r ns cs) (stepB.drop 6) F) :
    Run (gL P w K mg base B q c k E XP) (some c0 :: some (.adr l) :: some (.lst (ns.map D.str)) :: some (.int r.most) :: v4 :: some (.adr o) :: v6 :: v7 :: some (twD v) :: some (.bl (givenB ns r.st v.1)) :: some (.lst ((ableOf r ns v).map fnD)) :: v11 :: v12 :: v13 :: v14 :: v15 :: v16 :: v17 :: some (watD Wa v) :: some (.adr ra) :: v20 :: v21 :: v22 :: []) ((l, dm x0 x1 x2) :: lawM Wa Ro PA PP lq o ra Dd r ns cs) (stepB.drop 5) F := by
  have hl3 := hg.l3
  have ok := hg.okR (by omega)
  have hal : (ableOf r ns v).length ≤ 100000 := by
    unfold ableOf
    rw [List.length_map]
    exact Nat.le_trans (List.length_filter_le _ _) (by omega)
  refine run_cons (ru_ifv (k := false) (tv_cmp (ev_lc ns D.str (fun _ => true) (fun n => .bl (canB (r.st n) v r.most)) [("name", 4)] [4] (iv_list (ev_n 2)) (by omega) (fun n hn => elc_n 4 (ev_methM L.can pm_can (ev_n 19) (recv_ros ros_in) (av_cons (ev_n 4) (av_cons (ev_n 18) av_nil)) (pure_can ok (by have := hg.row n; omega) (hg.mem hn)) rfl (by show 4 ≤ k; omega))))
    (ev_lc ns D.str (fun _ => true) (fun n => .bl (canB (r.st n) v r.most)) [("name", 4), ("row", 20)] [4] (iv_list (ev_n 2)) (by omega) (fun n hn => elc_n 4 (Ev.cast (ev_cmp (ev_n 4) (Ev.cast (ev_lc (ableOf r ns v) fnD (fun _ => true) (fun x => .str x.2) [("row", 20)] [20] (iv_list (ev_n 10)) hal (fun x hx => elc_n 20 (ev_ixT (ev_n 20) ev_int (by rfl)))) (by rw [keep_all]; exact congrArg D.lst (by rw [List.map_map]; rfl : (ableOf r ns v).map _ = ((ableOf r ns v).map fun x : Fn => x.2).map D.str))) b_inL) (congrArg D.bl (able_names r ns v n hn))))) (b_neSame (n := 1) ?_ rfl)) (fun z => by cases z) (fun _ => run_nil h))
  rw [keep_all]
  exact pd_bools ns _
end
end K4

set_option maxRecDepth 100000
set_option maxHeartbeats 8000000
namespace K4
open PySem L2 Dl Sp Lw LamX
theorem c_sortQ {Γ : Gam} {ws : List Wt} (hs : ∀ w ∈ ws, PyData.strOk w.1 = true) (hl : ws.length ≤ 1000) : Cop Γ (.builtin "sorted") [.lst (ws.map fun w => quD (quOf w))] (.lst ((sortQ ws).map fun w => quD (quOf w))) := by
  rw [← sort_qu]
  refine c_sortedP (n := 2) ?_ (by decide) ?_ ?_ (by rw [List.length_map]; omega)
  · intro x hx
    obtain ⟨t, ht, rfl⟩ := List.mem_map.mp hx
    show Pd 2 (.tup [.int t.2.1, .str t.1, .int t.2.1, .int t.2.2])
    simp only [Pd]
    intro z hz
    simp only [List.mem_cons, List.not_mem_nil, or_false] at hz
    rcases hz with rfl | rfl | rfl | rfl
    · trivial
    · exact hs t ht
    · trivial
    · trivial
  · intro x hx y hy
    rw [List.map_map] at hx hy
    obtain ⟨t, _, rfl⟩ := List.mem_map.mp hx
    obtain ⟨u, _, rfl⟩ := List.mem_map.mp hy
    show PySem.W.alike (toP (quD (quOf t))) (toP (quD (quOf u))) = true
    rw [qu_toP, qu_toP]
    exact PySem.W.DatumOrd.alike _ _
  · refine .inl fun x hx => ?_
    rw [List.map_map] at hx
    obtain ⟨t, _, rfl⟩ := List.mem_map.mp hx
    refine ⟨.int t.2.1, [.str t.1, .int t.2.1, .int t.2.2], ?_⟩
    show toP (quD (quOf t)) = _
    rw [qu_toP]
    rfl
theorem c_sortF {Γ : Gam} {ws : List Wt} (hs : ∀ w ∈ ws, PyData.strOk w.1 = true) (hl : ws.length ≤ 1000) : Cop Γ (.builtin "sorted") [.lst (ws.map fun w => fnD (fnOf w))] (.lst ((sortW ws).map fun w => fnD (fnOf w))) := by
  rw [← sort_fnW]
  refine c_sortedP (n := 2) ?_ (by decide) ?_ ?_ (by rw [List.length_map]; omega)
  · intro x hx
    obtain ⟨t, ht, rfl⟩ := List.mem_map.mp hx
    show Pd 2 (.tup [.int t.2.1, .str t.1])
    simp only [Pd]
    intro z hz
    simp only [List.mem_cons, List.not_mem_nil, or_false] at hz
    rcases hz with rfl | rfl
    · trivial
    · exact hs t ht
  · intro x hx y hy
    rw [List.map_map] at hx hy
    obtain ⟨t, _, rfl⟩ := List.mem_map.mp hx
    obtain ⟨u, _, rfl⟩ := List.mem_map.mp hy
    show PySem.W.alike (toP (fnD (fnOf t))) (toP (fnD (fnOf u))) = true
    rw [fn_toP, fn_toP]
    exact PySem.W.DatumOrd.alike _ _
  · refine .inl fun x hx => ?_
    rw [List.map_map] at hx
    obtain ⟨t, _, rfl⟩ := List.mem_map.mp hx
    refine ⟨.int t.2.1, [.str t.1], ?_⟩
    show toP (fnD (fnOf t)) = _
    rw [fn_toP]
    rfl
section
variable {P : Program} {w : World} {K : PySem.W.Frag} {mg : Str → Option Value} {base : Heap} {B : Hp} {Wa Ro Ce PA PP c l o ra Dd : Addr} {k : Nat} {E : XK} {XP : Value → Mem → Prop} {q lq : Str} {ν μ : Mem} {F : Dl.Fin} {r : Ros} {ns : List Str} {cs : List Addr} {v0 v1 v2 v3 v4 v5 v6 v7 v8 v9 v10 v11 v12 v13 v14 v15 v16 v17 v18 v19 v20 v21 v22 : Option D}
theorem law_split {x : Addr × MO} : x :: lawM Wa Ro PA PP lq o ra Dd r ns cs = [x, (ra, rosO Ro Dd r), (Dd, .dK (rosDk Wa r)), (PA, .gt gAll), (o, .dK (ownDk ns r.st))] ++ (PP, .tbl lq cs) :: [] := rfl
/-- who is due, and gets it -/
theorem stTake (L : Fl P w K mg base B Wa Ro Ce PA) (Tk : Tl K mg base c PP "CrewError" Ce) (hlq : (gL P w K mg base B q c k E XP).qual ++ "<lambda>" = lq) (hk : 8 ≤ k) {x0 x1 x2 : Int} {c0 : D} {n : Nat} {v : Wt} (hg : Good r ns n) (hn : n ≤ 800) (hv : PyData.strOk v.1 = true)
    (h : ∀ (r' : Ros) (cs' : List Addr) (v11 : Option D), Good r' ns (n + 1) → r'.most = r.most → Run (gL P w K mg base B q c k E XP) (some c0 :: some (.adr l) :: some (.lst (ns.map D.str)) :: some (.int r'.most) :: v4 :: some (.adr o) :: v6 :: v7 :: some (twD v) :: some (.bl (givenB ns r.st v.1)) :: some (.lst ((ableOf r ns v).map fnD)) :: v11 :: v12 :: v13 :: v14 :: v15 :: v16 :: v17 :: some (watD Wa v) :: some (.adr ra) :: v20 :: v21 :: v22 :: []) ((l, dm x0 x1 x2) :: lawM Wa Ro PA PP lq o ra Dd r' ns cs') (stepB.drop 9) F) :
    Run (gL P w K mg base B q c k E XP) (some c0 :: some (.adr l) :: some (.lst (ns.map D.str)) :: some (.int r.most) :: v4 :: some (.adr o) :: v6 :: v7 :: some (twD v) :: some (.bl (givenB ns r.st v.1)) :: some (.lst ((ableOf r ns v).map fnD)) :: v11 :: v12 :: v13 :: v14 :: v15 :: v16 :: v17 :: some (watD Wa v) :: some (.adr ra) :: v20 :: v21 :: v22 :: []) ((l, dm x0 x1 x2) :: lawM Wa Ro PA PP lq o ra Dd r ns cs) (stepB.drop 6) F := by
  have ok := hg.okR (by omega)
  have hrow : ∀ m, (r.st m).length ≤ 900 := fun m => by have := hg.row m; omega
  have hin : ∀ y ∈ ableOf r ns v, y.2 ∈ ns := fun y hy => by
    obtain ⟨m, hm, rfl⟩ := List.mem_map.mp hy
    exact (List.mem_filter.mp hm).1
  have tru : ∀ b : Bool, Tru (D.bl b) b := fun b => rfl
  have cond : ∀ {Γ : Gam} {δ : Sd} {μ : Mem} {b : Bool}, True := fun {_ _ _ _} => trivial
  have fail : ((!((ableOf r ns v).map fnD).isEmpty) && !givenB ns r.st v.1) = false → Run (gL P w K mg base B q c k E XP) (some c0 :: some (.adr l) :: some (.lst (ns.map D.str)) :: some (.int r.most) :: v4 :: some (.adr o) :: v6 :: v7 :: some (twD v) :: some (.bl (givenB ns r.st v.1)) :: some (.lst ((ableOf r ns v).map fnD)) :: v11 :: v12 :: v13 :: v14 :: v15 :: v16 :: v17 :: some (watD Wa v) :: some (.adr ra) :: v20 :: v21 :: v22 :: []) ((l, dm x0 x1 x2) :: lawM Wa Ro PA PP lq o ra Dd r ns cs) (stepB.drop 6) F := fun hc => by
    refine run_cons (ru_set 11 (ew_if (Tv.w (t := false) (Tv.cast (Wv.t (wv_and (tv_cmp (ev_n 10) (ev_lst av_nil) b_neE) fun _ => wv_1 (tv_not (tv_val (ev_n 9) (tru _))))) hc) ⟨fun z => (by cases z), fun _ => ev_str.w ?_⟩)))
    rw [law_split]
    refine run_cons (ru_if (tw_cmp (nomark _) (ew_cl fun cl => ew_toldL (kk := 6) Tk.told rfl Tk.tb hlq (fun _ z => z) (lamS_by (by kernel_rfl)) (by show 8 ≤ k; omega) (fun _ _ _ _ _ => rfl) fun c' C E hC => ew_meth' (L.up hC).take (by show 5 ≤ 6; decide) (Ev.w (ev_n 19) ⟨recv_ros (r := r) (Dd := Dd) (by simp), aw_cons (Ev.w (ev_n 18) (aw_nil ⟨rfl, ?_⟩))⟩))))
    refine ⟨_, _, fun cls μ' => cls = .ref Ce ∧ μ' = rosM Wa Ro ra Dd r ++ ([(PA, .gt gAll)] ++ []), pm_take, ⟨r, ns, v, ra, Dd, ok, hg.srt, hg.nm, hrow, hv, rfl, rfl, fun _ => ⟨rfl, rfl⟩, fun _ _ => ⟨rfl, rfl⟩, fun x xs q1 q2 => ?_⟩, fun cls μ' ⟨z1, z2⟩ => ?_⟩
    · rw [q1, q2] at hc
      cases hc
    · subst z1; subst z2
      refine ⟨(l, dm x0 x1 x2) :: lawM Wa Ro PA PP lq o ra Dd r ns (c' :: cs), ⟨[], ?_⟩, Tk.exm, Ev.w (ev_n 11) ⟨false, b_neSame (n := 0) (by show PyData.strOk _ = true; decide +kernel) rfl, (fun z => by cases z), fun _ => run_nil ?_⟩⟩
      · rw [List.append_nil]
        exact pm_take.symm
      · refine run_cons (ru_ifv (k := false) (tv_cmp (ev_n 11) ev_str (b_neSame (n := 0) (by show PyData.strOk _ = true; decide +kernel) rfl)) (fun z => by cases z) (fun _ => run_nil ?_))
        exact h r (c' :: cs) _ (hg.mono (by omega)) rfl
  cases hG : givenB ns r.st v.1 with
  | true =>
    rw [hG] at fail
    exact fail (by simp)
  | false =>
    rw [hG] at fail h
    cases hA : ableOf r ns v with
    | nil =>
      rw [hA] at fail
      exact fail rfl
    | cons x xs =>
      clear fail
      rw [hA] at hin h
      have hm2 : (PySem.W.minOf x xs).2 ∈ ns := hin _ (minOf_mem x xs)
      have henc : EncO fnD 2 (x :: xs) := encFn fun y hy => hg.nm.nstr _ (hg.mem (hin y hy))
      refine run_cons (ru_set 11 (ew_if (Tv.w (t := true) (Wv.t (wv_and (t := true) (u := true) (tv_cmp (ev_n 10) (ev_lst av_nil) b_neE) fun _ => wv_1 (tv_not (t := false) (tv_val (ev_n 9) (tru false))))) ⟨fun _ => Ev.w (ev_ixT (ds := [.int (PySem.W.minOf x xs).1, .str (PySem.W.minOf x xs).2]) (ev_b1 (d2 := fnD (PySem.W.minOf x xs)) (L.fk.free _ (by decide)) PyProof.Rows.boot_min (ev_n 10) (c_minO (g := fnD) henc)) ev_int (by rfl)) ?_, fun z => by cases z⟩)))
      obtain ⟨m, hm⟩ : ∃ m, (PySem.W.minOf x xs).2 = m := ⟨_, rfl⟩
      have hmd : (D.str (PySem.W.minOf x xs).2) = .str m := by rw [hm]
      rw [hmd]
      rw [hm] at hm2
      have hms : PyData.strOk m = true := hg.nm.nstr _ (hg.mem hm2)
      have hg1 : Good (takeR r m v) ns (n + 1) := good_take hg hm2 hv hG
      rw [law_split]
      refine run_cons (ru_if (tw_cmp (nomark _) (ew_cl fun cl => ew_toldL (kk := 6) Tk.told rfl Tk.tb hlq (fun _ z => z) (lamS_by (by kernel_rfl)) (by show 8 ≤ k; omega) (fun _ _ _ _ _ => rfl) fun c' C E hC => ew_meth' (L.up hC).take (by show 5 ≤ 6; decide) (Ev.w (ev_n 19) ⟨recv_ros (r := r) (Dd := Dd) (by simp), aw_cons (Ev.w (ev_n 18) (aw_nil ⟨rfl, ?_⟩))⟩))))
      refine ⟨_, _, fun cls μ' => False, pm_take, ⟨r, ns, v, ra, Dd, ok, hg.srt, hg.nm, hrow, hv, rfl, rfl, (fun z => by rw [hG] at z; cases z), (fun _ z => by rw [hA] at z; cases z), fun x' xs' q1 q2 => ?_⟩, fun cls μ' z => z.elim⟩
      rw [hA] at q2
      cases q2
      rw [hm]
      refine ⟨[(l, dm x0 x1 x2), (ra, rosO Ro Dd (takeR r m v)), (Dd, .dK (rosDk Wa (takeR r m v))), (PA, .gt gAll), (o, .dK (ownDk ns r.st)), (PP, .tbl lq (c' :: cs))], ⟨[], ?_⟩, Ev.w (ev_n 11) ⟨false, b_neSame (n := 0) hms rfl, (fun z => by cases z), fun _ => run_nil ?_⟩⟩
      · rw [List.append_nil]
        exact (List.perm_middle (a := (l, dm x0 x1 x2)) (l₁ := [(ra, rosO Ro Dd (takeR r m v)), (Dd, MO.dK (rosDk Wa (takeR r m v))), (PA, MO.gt gAll)]) (l₂ := [(o, MO.dK (ownDk ns r.st)), (PP, MO.tbl lq (c' :: cs))]))
      · have hml : (r.st m ++ [v]).length ≤ 1000 := by have := hrow m; simp; omega
        have hnn : v.1 ∉ (r.st m).map fun w => w.1 := fun z => (List.any_eq_false.mp hG m hm2) (decide_eq_true z)
        have hstr : ∀ u ∈ r.st m ++ [v], PyData.strOk u.1 = true := fun u hu => by
          rcases List.mem_append.mp hu with z | z
          · exact hg.nm.str m u z
          · rw [List.mem_singleton.mp z]; exact hv
        have ecat : (r.st m).map twD ++ [twD v] = (r.st m ++ [v]).map twD := by rw [List.map_append]; rfl
        have hcat : ((r.st m).map twD).length + [twD v].length ≤ 100000 := by have := hrow m; simp; omega
        have hql : (sortQ (r.st m ++ [v])).length ≤ 100000 := by rw [(sortQ_perm _).length_eq]; omega
        have hown : (o, MO.dK (ownDk ns r.st)) ∈ [(l, dm x0 x1 x2), (ra, rosO Ro Dd (takeR r m v)), (Dd, .dK (rosDk Wa (takeR r m v))), (PA, .gt gAll), (o, .dK (ownDk ns r.st)), (PP, .tbl lq (c' :: cs))] := by simp
        refine run_cons (ru_ifv (k := true) (Tv.cast (tv_cmp (ev_n 11) ev_str b_neS) (by rw [decide_eq_false (hg.abc m hm2)]; rfl)) (fun _ => run_one ?_) (fun z => by cases z))
        refine ru_asg (ixs := []) (Ev.w (Ev.cast (ev_lc (sortQ (r.st m ++ [v])) (fun u => quD (quOf u)) (fun _ => true) twD [("row", 20)] [20] (iv_list (ev_b1 (d2 := .lst ((sortQ (r.st m ++ [v])).map fun u => quD (quOf u))) (L.fk.free _ (by decide)) PyProof.Rows.boot_sorted (Ev.cast (ev_lc (r.st m ++ [v]) twD (fun _ => true) (fun u => quD (quOf u)) [("one", 12)] [12] (iv_list (Ev.cast (ev_bin (ev_dget (ev_n 5) hown (ev_n 11) (own_val hm2)) (ev_lst (av_cons (ev_n 8) av_nil)) (b_cat hcat)) (congrArg D.lst ecat))) (by omega) (fun u hu => elc_n 12 (ev_bin (ev_tup (av_cons (ev_ixT (ev_n 12) ev_int (by rfl)) av_nil)) (ev_n 12) (b_catT (by show 1 + 3 ≤ 100000; decide))))) (congrArg D.lst (keep_all _ _))) (c_sortQ hstr hml))) hql (fun u hu => elc_n 20 (Ev.cast (ev_slT (ev_n 20) (pv_yes ev_int) pv_no) (congrArg D.tup (cut_from _ 1))))) (congrArg D.lst (keep_all _ _))) ?_)
        refine tg_dset (ν1 := [(l, dm x0 x1 x2), (ra, rosO Ro Dd (takeR r m v)), (Dd, .dK (rosDk Wa (takeR r m v))), (PA, .gt gAll)]) (ν2 := [(PP, .tbl lq (c' :: cs))]) (x := o) (kds := ownDk ns r.st) (ev_n 5) (ev_n 11) (by unfold ownDk; rw [List.length_map]; have := hg.l3; omega) ?_
        have e1 : D.lst ((sortQ (r.st m ++ [v])).map twD) = tRow (sortW (r.st m ++ [v])) := by rw [sortQ_eq (nd_snoc (hg.nm.nd m) hnn)]; rfl
        rw [e1, own_put hm2]
        exact (h (takeR r m v) (c' :: cs) _ hg1 rfl)
end
end K4

set_option maxRecDepth 100000
set_option maxHeartbeats 8000000
namespace K4
open PySem L2 Dl Sp Lw LamX
theorem flt_all (ns : List Str) (st : Str → List Wt) : fltD (allD ns st) = true := by
  refine fltDs_all fun d hd => ?_
  obtain ⟨n, _, rfl⟩ := List.mem_map.mp hd
  refine fltDs_all fun d hd => ?_
  simp only [List.mem_cons, List.not_mem_nil, or_false] at hd
  rcases hd with rfl | rfl
  · rfl
  · refine fltDs_all fun d hd => ?_
    obtain ⟨w, _, rfl⟩ := List.mem_map.mp hd
    rfl
theorem pd_all {ns : List Str} {st : Str → List Wt} (h1 : ∀ n ∈ ns, PyData.strOk n = true) (h2 : ∀ n, ∀ w ∈ st n, PyData.strOk w.1 = true) : Pd 3 (.lst (ns.map fun n => D.tup [.str n, .tup ((st n).map fun w : Wt => D.str w.1)])) := by
  simp only [Pd]
  intro x hx
  obtain ⟨n, hn, rfl⟩ := List.mem_map.mp hx
  simp only [Pd]
  intro x hx
  simp only [List.mem_cons, List.not_mem_nil, or_false] at hx
  rcases hx with rfl | rfl
  · exact h1 n hn
  · simp only [Pd]
    intro x hx
    obtain ⟨w, hw, rfl⟩ := List.mem_map.mp hx
    exact h2 n w hw
theorem pd_ints {α : Type} {n : Nat} (xs : List α) (f : α → Int) : Pd (n + 1) (.lst (xs.map fun x => D.int (f x))) := by
  simp only [Pd]
  intro y hy
  obtain ⟨x, _, rfl⟩ := List.mem_map.mp hy
  cases n <;> exact trivial
section
variable {P : Program} {w : World} {K : PySem.W.Frag} {mg : Str → Option Value} {base : Heap} {B : Hp} {Wa Ro Ce PA PP c l o ra Dd : Addr} {k : Nat} {E : XK} {XP : Value → Mem → Prop} {q lq : Str} {ν μ : Mem} {F : Dl.Fin} {r : Ros} {ns : List Str} {cs : List Addr} {v0 v1 v2 v3 v4 v5 v6 v7 v8 v9 v10 v11 v12 v13 v14 v15 v16 v17 v18 v19 v20 v21 v22 : Option D}
/-- all watches, and how many minutes -/
theorem stAll (L : Fl P w K mg base B Wa Ro Ce PA) (hk : 8 ≤ k) {x0 x1 x2 : Int} {c0 : D} {n : Nat} (hg : Good r ns n) (hn : n ≤ 801)
    (h : F.nx (some c0 :: some (.adr l) :: some (.lst (ns.map D.str)) :: some (.int r.most) :: v4 :: some (.adr o) :: v6 :: v7 :: v8 :: v9 :: v10 :: v11 :: v12 :: v13 :: v14 :: v15 :: v16 :: v17 :: v18 :: some (.adr ra) :: v20 :: v21 :: v22 :: []) ((l, dm x0 x1 x2) :: lawM Wa Ro PA PP lq o ra Dd r ns cs)) :
    Run (gL P w K mg base B q c k E XP) (some c0 :: some (.adr l) :: some (.lst (ns.map D.str)) :: some (.int r.most) :: v4 :: some (.adr o) :: v6 :: v7 :: v8 :: v9 :: v10 :: v11 :: v12 :: v13 :: v14 :: v15 :: v16 :: v17 :: v18 :: some (.adr ra) :: v20 :: v21 :: v22 :: []) ((l, dm x0 x1 x2) :: lawM Wa Ro PA PP lq o ra Dd r ns cs) (stepB.drop 9) F := by
  have ok := hg.okR (by omega)
  have hl3 := hg.l3
  refine run_one (ru_ifv (k := false) (Wv.t (wv_or (t := false) (u := false) (tv_cmp (Ev.cast (d1 := .lst (ns.map fun n => D.tup [.str n, .tup ((r.st n).map fun w : Wt => D.str w.1)])) (ev_t1 (L.fk.free _ (by decide)) PyProof.Rows.boot_list (ev_view (d := allD ns r.st) pm_view rosM_frz gt1 (δ' := [none, none, none, none, none, none, none, none, none, none, none, none, none, none, none, none, none, none, none, some (rosD Wa Ro r), none, none, none]) (.no (.no (.no (.no (.no (.no (.no (.no (.no (.no (.no (.no (.no (.no (.no (.no (.no (.no (.no (.yes (sb_ros) (.no (.no (.no (.nil)))))))))))))))))))))))) (ev_methM0 L.all (List.Perm.refl _) (ev_n 19) (by exact ⟨rfl, rfl⟩) (pure_all ok hg.srt) (by show 3 ≤ k; omega)) (flt_all ns r.st)) c_listT) rfl)
    (Ev.cast (ev_lc ns D.str (fun _ => true) (fun n => D.tup [.str n, .tup ((r.st n).map fun w : Wt => D.str w.1)]) [("name", 4), ("row", 20)] [4] (iv_list (ev_n 2)) (by omega) (fun n hn => elc_n 4 (ev_tup (av_cons (ev_n 4) (av_cons (ev_t1 (L.fk.free _ (by decide)) PyProof.Rows.boot_tuple (Ev.cast (ev_lc (r.st n) twD (fun _ => true) (fun x => .str x.1) [("row", 20)] [20] (iv_list (ev_dget (ev_n 5) own_in (ev_n 4) (own_val hn))) (by have := hg.row n; omega) (fun x hx => elc_n 20 (ev_ixT (ev_n 20) ev_int (by rfl)))) (congrArg D.lst (keep_all _ _))) c_tupL) av_nil))))) (congrArg D.lst (keep_all _ _))) (b_neSame (pd_all (fun n hn => hg.nm.nstr n (hg.mem hn)) hg.nm.str) rfl))
    fun _ => wv_1 (tv_cmp (Ev.cast (ev_lc ns D.str (fun _ => true) (fun n => D.int (wholeOf (r.st n))) [("name", 4)] [4] (iv_list (ev_n 2)) (by omega) (fun n hn => elc_n 4 (ev_view (d := .int (wholeOf (r.st n))) pm_view rosM_frz gt1 (δ' := [none, none, none, none, some (.str n), none, none, none, none, none, none, none, none, none, none, none, none, none, none, some (rosD Wa Ro r), none, none, none]) ?_ (ev_methV L.whole (ev_n 19) (by exact ⟨rfl, rfl⟩) (av_cons (ev_n 4) av_nil) (pure_whole ok (hg.mem hn)) rfl (by show 2 ≤ k; omega)) rfl))) (congrArg D.lst (keep_all _ _)))
      (Ev.cast (ev_lc ns D.str (fun _ => true) (fun n => D.int (wholeOf (r.st n))) [("name", 4), ("row", 20)] [4] (iv_list (ev_n 2)) (by omega) (fun n hn => elc_n 4 (ev_b1 (d2 := .int (wholeOf (r.st n))) (L.fk.free _ (by decide)) PyProof.Rows.boot_sum (Ev.cast (ev_lc (r.st n) twD (fun _ => true) (fun x => .int (x.2.2 - x.2.1)) [("row", 20)] [20] (iv_list (ev_dget (ev_n 5) own_in (ev_n 4) (own_val hn))) (by have := hg.row n; omega) (fun x hx => elc_n 20 (ev_bin (ev_ixT (ev_n 20) ev_int (by rfl)) (ev_ixT (ev_n 20) ev_int (by rfl)) b_sub))) ?_) c_sumL))) (congrArg D.lst (keep_all _ _))) (b_neSame (n := 1) (pd_ints ns _) rfl)))) (fun z => by cases z) (fun _ => run_nil h))
  · exact (.no (.no (.no (.no (.yes (by simp [sbD]) (.no (.no (.no (.no (.no (.no (.no (.no (.no (.no (.no (.no (.no (.no (.yes (sb_ros) (.no (.no (.no (.nil))))))))))))))))))))))))
  · rw [keep_all]
    exact congrArg D.lst (by rw [List.map_map]; rfl : (r.st n).map _ = ((r.st n).map fun x => x.2.2 - x.2.1).map D.int)
/-- a whole turn -/
theorem stStep (L : Fl P w K mg base B Wa Ro Ce PA) (Tk : Tl K mg base c PP "CrewError" Ce) (hlq : (gL P w K mg base B q c k E XP).qual ++ "<lambda>" = lq) (hk : 8 ≤ k) {x0 x1 x2 : Int} {c0 : D} {n : Nat} (hg : Good r ns n) (hn : n ≤ 800)
    (h : ∀ (r : Ros) (cs : List Addr) (x0 x1 x2 : Int) (v7 v8 v9 v10 v11 v18 : Option D), Good r ns (n + 1) → F.nx (some c0 :: some (.adr l) :: some (.lst (ns.map D.str)) :: some (.int r.most) :: v4 :: some (.adr o) :: v6 :: v7 :: v8 :: v9 :: v10 :: v11 :: v12 :: v13 :: v14 :: v15 :: v16 :: v17 :: v18 :: some (.adr ra) :: v20 :: v21 :: v22 :: []) ((l, dm x0 x1 x2) :: lawM Wa Ro PA PP lq o ra Dd r ns cs)) :
    Run (gL P w K mg base B q c k E XP) (some c0 :: some (.adr l) :: some (.lst (ns.map D.str)) :: some (.int r.most) :: v4 :: some (.adr o) :: v6 :: v7 :: v8 :: v9 :: v10 :: v11 :: v12 :: v13 :: v14 :: v15 :: v16 :: v17 :: v18 :: some (.adr ra) :: v20 :: v21 :: v22 :: []) ((l, dm x0 x1 x2) :: lawM Wa Ro PA PP lq o ra Dd r ns cs) stepB F := by
  refine stRow L hk fun v y0 y1 y2 hv hvs => ?_
  refine stAble L hk hg (by omega) ?_
  refine stCan L hk hg (by omega) ?_
  refine stTake L Tk hlq hk hg (by omega) hvs fun r' cs' w11 hg' em => ?_
  exact stAll L hk hg' (by omega) (h r' cs' y0 y1 y2 _ _ _ _ _ _ hg')
/-- turn by turn -/
theorem stSteps (L : Fl P w K mg base B Wa Ro Ce PA) (Tk : Tl K mg base c PP "CrewError" Ce) (hlq : (gL P w K mg base B q c k E XP).qual ++ "<lambda>" = lq) (hk : 8 ≤ k) {x0 x1 x2 : Int} {c0 : D} (hg : Good r ns 0)
    (h : ∀ (r : Ros) (cs : List Addr) (x0 x1 x2 : Int) (v6 v7 v8 v9 v10 v11 v18 : Option D), Good r ns 20 → Run (gL P w K mg base B q c k E XP) (some c0 :: some (.adr l) :: some (.lst (ns.map D.str)) :: some (.int r.most) :: v4 :: some (.adr o) :: v6 :: v7 :: v8 :: v9 :: v10 :: v11 :: v12 :: v13 :: v14 :: v15 :: v16 :: v17 :: v18 :: some (.adr ra) :: v20 :: v21 :: v22 :: []) ((l, dm x0 x1 x2) :: lawM Wa Ro PA PP lq o ra Dd r ns cs) (forB.drop 3) F) :
    Run (gL P w K mg base B q c k E XP) (some c0 :: some (.adr l) :: some (.lst (ns.map D.str)) :: some (.int r.most) :: v4 :: some (.adr o) :: v6 :: v7 :: v8 :: v9 :: v10 :: v11 :: v12 :: v13 :: v14 :: v15 :: v16 :: v17 :: v18 :: some (.adr ra) :: v20 :: v21 :: v22 :: []) ((l, dm x0 x1 x2) :: lawM Wa Ro PA PP lq o ra Dd r ns cs) (forB.drop 2) F := by
  refine run_cons (ru_for (ixs := [6]) (iw_r1 L.fk.free (ew_roll L.roll (ev_n 1) ev_int (by omega) (by show 1 ≤ k; omega) fun s y0 y1 y2 s1 s2 => ⟨s, rfl, by omega, ?_⟩)))
  refine ⟨fun i δ' μ' => ∃ (r : Ros) (cs : List Addr) (x0 x1 x2 : Int) (v6 v7 v8 v9 v10 v11 v18 : Option D), Good r ns i ∧ δ' = (some c0 :: some (.adr l) :: some (.lst (ns.map D.str)) :: some (.int r.most) :: v4 :: some (.adr o) :: v6 :: v7 :: v8 :: v9 :: v10 :: v11 :: v12 :: v13 :: v14 :: v15 :: v16 :: v17 :: v18 :: some (.adr ra) :: v20 :: v21 :: v22 :: []) ∧ μ' = (l, dm x0 x1 x2) :: lawM Wa Ro PA PP lq o ra Dd r ns cs, ⟨r, cs, y0, y1, y2, _, _, _, _, _, _, _, hg, rfl, rfl⟩, ?_, ?_⟩
  · rintro i x δ' μ' hd ⟨r, cs, z0, z1, z2, w6, w7, w8, w9, w10, w11, w18, hg, rfl, rfl⟩
    have hi := (rngD_get hd).1
    refine tg_n 6 ?_
    refine stStep L Tk hlq hk hg (by omega) fun r' cs' z0 z1 z2 u7 u8 u9 u10 u11 u18 hg' => ?_
    exact ⟨r', cs', z0, z1, z2, _, _, _, _, _, _, _, hg', rfl, rfl⟩
  · rintro δ' μ' ⟨r, cs, z0, z1, z2, w6, w7, w8, w9, w10, w11, w18, hg, rfl, rfl⟩
    have hl : (rngD 0 1 s.toNat).length = s.toNat := rngD_len _ _ _
    exact h r cs z0 z1 z2 _ _ _ _ _ _ _ (hg.mono (by omega))
/-- minutes in a span -/
theorem stMins (L : Fl P w K mg base B Wa Ro Ce PA) (hk : 8 ≤ k) {x0 x1 x2 : Int} {c0 : D} (hg : Good r ns 20)
    (h : ∀ (x0 x1 x2 : Int) (v4 v13 : Option D), Run (gL P w K mg base B q c k E XP) (some c0 :: some (.adr l) :: some (.lst (ns.map D.str)) :: some (.int r.most) :: v4 :: some (.adr o) :: v6 :: v7 :: v8 :: v9 :: v10 :: v11 :: v12 :: v13 :: v14 :: v15 :: v16 :: v17 :: v18 :: some (.adr ra) :: v20 :: v21 :: v22 :: []) ((l, dm x0 x1 x2) :: [(PA, .gt gAll), (PP, .tbl lq cs)]) (forB.drop 5) F) :
    Run (gL P w K mg base B q c k E XP) (some c0 :: some (.adr l) :: some (.lst (ns.map D.str)) :: some (.int r.most) :: v4 :: some (.adr o) :: v6 :: v7 :: v8 :: v9 :: v10 :: v11 :: v12 :: v13 :: v14 :: v15 :: v16 :: v17 :: v18 :: some (.adr ra) :: v20 :: v21 :: v22 :: []) ((l, dm x0 x1 x2) :: lawM Wa Ro PA PP lq o ra Dd r ns cs) (forB.drop 3) F := by
  have ok := hg.okR (by omega)
  refine run_cons (ru_set 13 (ew_roll L.roll (ev_n 1) ev_int (by omega) (by show 1 ≤ k; omega) fun s y0 y1 y2 s1 s2 => ?_))
  refine run_cons (ru_for (ixs := [4]) (Iv.w (iv_list (ev_n 2)) ?_))
  refine ⟨fun i δ' μ' => ∃ (v4 : Option D), δ' = (some c0 :: some (.adr l) :: some (.lst (ns.map D.str)) :: some (.int r.most) :: v4 :: some (.adr o) :: v6 :: v7 :: v8 :: v9 :: v10 :: v11 :: v12 :: some (.int s) :: v14 :: v15 :: v16 :: v17 :: v18 :: some (.adr ra) :: v20 :: v21 :: v22 :: []) ∧ μ' = (l, dm y0 y1 y2) :: lawM Wa Ro PA PP lq o ra Dd r ns cs, ⟨_, rfl, rfl⟩, ?_, ?_⟩
  · rintro i x δ' μ' hd ⟨w4, rfl, rfl⟩
    obtain ⟨n, hn, rfl⟩ := map_at hd
    have hn := List.mem_of_getElem? hn
    refine tg_n 4 ?_
    refine run_one (ru_ifv (k := false) (tv_cmp (ev_view (d := .int (minsIn (r.st n) s (s + 1000))) pm_view rosM_frz gt1 (δ' := [none, none, none, none, some (.str n), none, none, none, none, none, none, none, none, some (.int s), none, none, none, none, none, some (rosD Wa Ro r), none, none, none]) ?_ (ev_methV L.min (ev_n 19) (by exact ⟨rfl, rfl⟩) (av_cons (ev_n 4) (av_cons (ev_n 13) (av_cons (ev_bin (ev_n 13) ev_int b_add) av_nil))) (pure_min _ _ ok (hg.mem hn)) rfl (by show 2 ≤ k; omega)) rfl)
      (ev_b1 (d2 := .int (minsIn (r.st n) s (s + 1000))) (L.fk.free _ (by decide)) PyProof.Rows.boot_sum (Ev.cast (ev_lc (r.st n) twD (fun _ => true) (fun x => .int (max 0 (min x.2.2 (s + 1000) - max x.2.1 s))) [("row", 20)] [20] (iv_list (ev_dget (ev_n 5) own_in (ev_n 4) (own_val hn))) (by have := hg.row n; omega) (fun x hx => elc_n 20 (ev_b2 (L.fk.free _ (by decide)) PyProof.Rows.boot_max ev_int (ev_bin (ev_b2 (L.fk.free _ (by decide)) PyProof.Rows.boot_min (ev_ixT (ev_n 20) ev_int (by rfl)) (ev_bin (ev_n 13) ev_int b_add) c_min2) (ev_b2 (L.fk.free _ (by decide)) PyProof.Rows.boot_max (ev_ixT (ev_n 20) ev_int (by rfl)) (ev_n 13) c_max2) b_sub) c_max2))) ?_) c_sumL) (b_neSame (n := 0) trivial rfl)) (fun z => by cases z) (fun _ => run_nil ⟨_, rfl, rfl⟩))
    · exact (.no (.no (.no (.no (.yes (by simp [sbD]) (.no (.no (.no (.no (.no (.no (.no (.no (.yes (by simp [sbD]) (.no (.no (.no (.no (.no (.yes (sb_ros) (.no (.no (.no (.nil))))))))))))))))))))))))
    · rw [keep_all]
      exact congrArg D.lst (by rw [List.map_map]; rfl : (r.st n).map _ = ((r.st n).map fun x => max 0 (min x.2.2 (s + 1000) - max x.2.1 s)).map D.int)
  · rintro δ' μ' ⟨w4, rfl, rfl⟩
    refine Run.perm (μ1 := ((l, dm y0 y1 y2) :: [(PA, .gt gAll), (PP, .tbl lq cs)]) ++ [(ra, rosO Ro Dd r), (Dd, .dK (rosDk Wa r)), (o, .dK (ownDk ns r.st))]) (Run.drop (h y0 y1 y2 _ _)) ?_
    refine List.Perm.cons _ ?_
    have e1 : ([(ra, rosO Ro Dd r), (Dd, MO.dK (rosDk Wa r))] ++ [(PA, MO.gt gAll)] ++ [(o, MO.dK (ownDk ns r.st))] ++ [(PP, MO.tbl lq cs)]).Perm ([(PA, MO.gt gAll)] ++ [(ra, rosO Ro Dd r), (Dd, MO.dK (rosDk Wa r))] ++ ([(PP, MO.tbl lq cs)] ++ [(o, MO.dK (ownDk ns r.st))])) := by
      rw [List.append_assoc _ [(o, MO.dK (ownDk ns r.st))]]
      exact List.Perm.append List.perm_append_comm List.perm_append_comm
    have e2 : ([(PA, MO.gt gAll)] ++ ([(ra, rosO Ro Dd r), (Dd, MO.dK (rosDk Wa r))] ++ [(PP, MO.tbl lq cs)]) ++ [(o, MO.dK (ownDk ns r.st))]).Perm ([(PA, MO.gt gAll)] ++ ([(PP, MO.tbl lq cs)] ++ [(ra, rosO Ro Dd r), (Dd, MO.dK (rosDk Wa r))]) ++ [(o, MO.dK (ownDk ns r.st))]) := (List.Perm.append_left _ List.perm_append_comm).append_right _
    exact e1.trans e2
end
end K4

set_option maxRecDepth 100000
set_option maxHeartbeats 8000000
namespace K4
open PySem L2 Dl Sp Lw LamX
def nmOf (m : Nat) : List Str := ([("a" : Str), ("b" : Str), ("c" : Str)]).take m
theorem nm_facts : ∀ m : Nat, m < 3 → PyProof.Rows.sortedS (nmOf (m + 1)) = true ∧ (nmOf (m + 1)).Nodup ∧ (∀ x ∈ nmOf (m + 1), x ≠ ("CrewError" : Str)) ∧ (∀ x ∈ nmOf (m + 1), PyData.strOk x = true) ∧ nmOf (m + 1) ≠ [] := by decide +kernel
theorem nm_len (m : Nat) : (nmOf m).length ≤ 3 := by
  unfold nmOf
  rw [List.length_take]
  exact Nat.min_le_right _ _
theorem own_nil : ∀ m : Nat, m < 3 → mergeD [] ((nmOf (m + 1)).map fun n => ((Sum.inr n : Key), D.lst [])) = ownDk (nmOf (m + 1)) (fun _ => [])
  | 0, _ => by with_unfolding_all rfl
  | 1, _ => by with_unfolding_all rfl
  | 2, _ => by with_unfolding_all rfl
  | n + 3, h => by omega
theorem good_nil {m : Nat} (hm : m < 3) {most : Int} (h1 : 1 ≤ most) : Good ⟨(nmOf (m + 1)).reverse, most, fun _ => []⟩ (nmOf (m + 1)) 0 := by
  obtain ⟨f1, f2, f3, f4, f5⟩ := nm_facts m hm
  refine ⟨⟨fun z => f5 (List.reverse_eq_nil_iff.mp z), (List.reverse_perm _).nodup_iff.mpr f2, h1⟩, ⟨(List.reverse_perm _).symm, f1⟩, fun _ => Nat.le_refl _, ⟨fun _ => List.nodup_nil, fun _ w hw => (by cases hw), fun n hn => f4 n (List.mem_reverse.mp hn)⟩, f3, nm_len _⟩
theorem pm6 {α : Type} {a b c d e f : α} : [a, b, c, d, e, f].Perm [d, c, b, e, a, f] := by
  have h1 : [a, b, c, d, e, f].Perm [b, c, d, e, a, f] := (List.perm_middle (a := a) (l₁ := [b, c, d, e]) (l₂ := [f])).symm
  have h2 : ([b, c, d] ++ [e, a, f]).Perm ([d, c, b] ++ [e, a, f]) := (List.reverse_perm [b, c, d]).symm.append_right _
  exact h1.trans h2
def xOf (i : Nat) : Str := ("x" : Str) ++ Str.ofString (toString (i : Int))
theorem x_facts : ∀ m : Nat, m < 7 → ((List.range m).map xOf).Nodup := by decide +kernel
theorem x_str (i : Nat) : PyData.strOk (xOf i) = true := strOk_app (by decide +kernel) (strOk_of _)
theorem x_len : ∀ i : Nat, i < 7 → (Str.ofString (toString (i : Int))).length ≤ 10 := by decide +kernel
section
variable {P : Program} {w : World} {K : PySem.W.Frag} {mg : Str → Option Value} {base : Heap} {B : Hp} {Wa Ro Ce PA PP c l o ra Dd : Addr} {k : Nat} {E : XK} {XP : Value → Mem → Prop} {q lq : Str} {ν μ : Mem} {F : Dl.Fin} {r : Ros} {ns : List Str} {cs : List Addr} {v0 v1 v2 v3 v4 v5 v6 v7 v8 v9 v10 v11 v12 v13 v14 v15 v16 v17 v18 v19 v20 v21 v22 : Option D}
/-- the names, the crews -/
theorem stStart (L : Fl P w K mg base B Wa Ro Ce PA) (hk : 8 ≤ k) {x0 x1 x2 : Int} {c0 : D}
    (h : ∀ (r : Ros) (ns : List Str) (o ra Dd : Addr) (x0 x1 x2 : Int) (v4 : Option D), Good r ns 0 → Run (gL P w K mg base B q c k E XP) (some c0 :: some (.adr l) :: some (.lst (ns.map D.str)) :: some (.int r.most) :: v4 :: some (.adr o) :: v6 :: v7 :: v8 :: v9 :: v10 :: v11 :: v12 :: v13 :: v14 :: v15 :: v16 :: v17 :: v18 :: some (.adr ra) :: v20 :: v21 :: v22 :: []) ((l, dm x0 x1 x2) :: lawM Wa Ro PA PP lq o ra Dd r ns cs) (forB.drop 2) F) :
    Run (gL P w K mg base B q c k E XP) (some c0 :: some (.adr l) :: v2 :: v3 :: v4 :: v5 :: v6 :: v7 :: v8 :: v9 :: v10 :: v11 :: v12 :: v13 :: v14 :: v15 :: v16 :: v17 :: v18 :: v19 :: v20 :: v21 :: v22 :: []) ((l, dm x0 x1 x2) :: [(PA, .gt gAll), (PP, .tbl lq cs)]) forB F := by
  refine run_cons (ru_asg (ixs := [2] ++ ([3] ++ [])) (ew_tup (aw_cons (ew_slLh (ds := [.str "a", .str "b", .str "c"]) (ev_lst (av_cons ev_str (av_cons ev_str (av_cons ev_str av_nil)))) (ew_bin (ev_int.w (ew_roll L.roll (ev_n 1) ev_int (by omega) (by show 1 ≤ k; omega) fun a y0 y1 y2 a1 a2 => ⟨_, b_add, _, rfl, aw_cons (ew_bin (ev_int.w (ew_roll L.roll (ev_n 1) ev_int (by omega) (by show 1 ≤ k; omega) fun b z0 z1 z2 b1 b2 => ⟨_, b_add, aw_nil ⟨Nat.le_of_ble_eq_true rfl, tg_tup (tgs_cons (tg_n 2 (tgs_cons (tg_n 3 (tgs_nil ?_)))))⟩⟩)))⟩)))))))
  obtain ⟨m, rfl⟩ : ∃ m : Nat, a = (m : Int) := ⟨a.toNat, by omega⟩
  have hm : m < 3 := by omega
  have en : cutA [D.str ("a" : Str), D.str ("b" : Str), D.str ("c" : Str)] none (some (1 + (m : Int))) = (nmOf (m + 1)).map D.str := by
    have e : (1 + (m : Int)) = ((m + 1 : Nat) : Int) := by omega
    rw [e, cut_to]
    unfold nmOf
    rw [List.map_take]
    rfl
  rw [en]
  have hn3 := nm_len (m + 1)
  have hg := good_nil hm (most := 1 + b) (by omega)
  have ho := own_nil m hm
  generalize nmOf (m + 1) = ns at hn3 hg ho
  refine run_cons (ru_asg (ixs := [19] ++ ([5] ++ [])) (ew_tup (aw_cons (ew_makeM L.cr (by show 1 + 1 ≤ k; omega) ((av_cons (Ev.cast (ev_revL (ev_n 2) (ev_neg ev_int)) (by rw [← List.map_reverse])) (av_cons (ev_n 3) av_nil)).w ⟨rfl, fun ra => ⟨fun _ _ => False, ⟨ra, ns.reverse, 1 + b, rfl, by rw [List.length_reverse]; omega, rfl, fun _ Dd => ⟨rfl, ?_⟩, fun z => (z hg.ok).elim⟩, fun _ _ z => z.elim⟩⟩)))))
  refine aw_cons (ew_dictP (kss := ns.map fun n => (n, D.lst [])) (L.fk.free _ (by decide)) (Ev.cast (ev_lc ns D.str (fun _ => true) (fun n => .tup [.str n, .lst []]) [("name", 4)] [4] (iv_list (ev_n 2)) (by omega) (fun n hn => elc_n 4 (ev_tup (av_cons (ev_n 4) (av_cons (ev_lst av_nil) av_nil))))) (by rw [keep_all, List.map_map]; rfl)) fun o => aw_nil ⟨Nat.le_of_ble_eq_true rfl, tg_tup (tgs_cons (tg_n 19 (tgs_cons (tg_n 5 (tgs_nil ?_)))))⟩)
  have ho2 : mergeD [] ((ns.map fun n => (n, D.lst [])).map fun x => ((Sum.inr x.1 : Key), x.2)) = ownDk ns fun _ => [] := by rw [List.map_map]; exact ho
  rw [ho2]
  exact Run.perm (h ⟨ns.reverse, 1 + b, fun _ => []⟩ ns o ra Dd z0 z1 z2 _ hg) pm6
/-- few watches -/
theorem stFew (L : Fl P w K mg base B Wa Ro Ce PA) (hk : 8 ≤ k) {x0 x1 x2 : Int} {c0 : D}
    (h : ∀ (ws : List Wt) (x0 x1 x2 : Int) (v7 v15 : Option D), ws.length ≤ 5 → ws.map (fun w : Wt => w.1) = (List.range ws.length).map xOf → (∀ w ∈ ws, okW w) → Run (gL P w K mg base B q c k E XP) (some c0 :: some (.adr l) :: v2 :: v3 :: v4 :: v5 :: v6 :: v7 :: v8 :: v9 :: v10 :: v11 :: v12 :: v13 :: some (tRow ws) :: v15 :: v16 :: v17 :: v18 :: v19 :: v20 :: v21 :: v22 :: []) ((l, dm x0 x1 x2) :: ν) (forB.drop 7) F) :
    Run (gL P w K mg base B q c k E XP) (some c0 :: some (.adr l) :: v2 :: v3 :: v4 :: v5 :: v6 :: v7 :: v8 :: v9 :: v10 :: v11 :: v12 :: v13 :: v14 :: v15 :: v16 :: v17 :: v18 :: v19 :: v20 :: v21 :: v22 :: []) ((l, dm x0 x1 x2) :: ν) (forB.drop 5) F := by
  refine run_cons (ru_set 14 (ew_nilM fun f => ?_))
  refine Run.perm (μ1 := (l, dm x0 x1 x2) :: (f, .lst []) :: ν) ?_ (List.Perm.swap _ _ _)
  refine run_cons (ru_for (ixs := [15]) (iw_r1 L.fk.free (ew_roll L.roll (ev_n 1) ev_int (by omega) (by show 1 ≤ k; omega) fun s y0 y1 y2 s1 s2 => ⟨s, rfl, by omega, ?_⟩)))
  refine ⟨fun i δ' μ' => ∃ (ws : List Wt) (x0 x1 x2 : Int) (v7 v15 : Option D), ws.length = i ∧ ws.map (fun w : Wt => w.1) = (List.range i).map xOf ∧ (∀ w ∈ ws, okW w) ∧ δ' = (some c0 :: some (.adr l) :: v2 :: v3 :: v4 :: v5 :: v6 :: v7 :: v8 :: v9 :: v10 :: v11 :: v12 :: v13 :: some (.adr f) :: v15 :: v16 :: v17 :: v18 :: v19 :: v20 :: v21 :: v22 :: []) ∧ μ' = (l, dm x0 x1 x2) :: (f, .lst (ws.map twD)) :: ν, ⟨[], y0, y1, y2, _, _, rfl, rfl, fun w hw => (by cases hw), rfl, rfl⟩, ?_, ?_⟩
  · rintro i x δ' μ' hd ⟨ws, z0, z1, z2, w7, w15, hlen, hnm, hws, rfl, rfl⟩
    obtain ⟨hi, rfl⟩ := rngD_get hd
    have ei : (0 : Int) + (i : Int) * 1 = (i : Int) := by omega
    rw [ei]
    refine tg_n 15 ?_
    refine run_cons (ru_set 7 (ew_roll L.roll (ev_n 1) ev_int (by omega) (by show 1 ≤ k; omega) fun a y0 y1 y2 a1 a2 => ?_))
    refine run_one (ru_expr (ew_append (ev_n 14) (ew_tup (aw_cons (Ev.w (ev_bin ev_str (ev_t1 (L.fk.free _ (by decide)) PyProof.Rows.boot_str (ev_n 15) (c_str (log_ok (by omega) (by omega)))) (b_str ?_)) (aw_cons (Ev.w (ev_n 7) (aw_cons (ew_bin (Ev.w (ev_bin (ev_n 7) ev_int b_add) (ew_roll L.roll (ev_n 1) ev_int (by omega) (by show 1 ≤ k; omega) fun b w0 w1 w2 b1 b2 => ⟨_, b_add, aw_nil ⟨Nat.le_of_ble_eq_true rfl, [(l, dm w0 w1 w2)], ws.map twD, ν, rfl, by rw [List.length_map]; omega, ?_⟩⟩))))))))) ⟨_, List.mem_cons_of_mem _ List.mem_cons_self⟩))
    · have := x_len i (by omega)
      show 1 + _ ≤ _
      omega
    · refine ⟨ws ++ [(xOf i, a, a + 1 + b)], w0, w1, w2, _, _, by simp [hlen], ?_, fun w hw => ?_, rfl, ?_⟩
      · rw [List.map_append, hnm, List.range_succ, List.map_append]
        rfl
      · rcases List.mem_append.mp hw with z | z
        · exact hws w z
        · rw [List.mem_singleton.mp z]
          exact ⟨by show 0 < a + 1 + b - a; omega, by show a + 1 + b - a ≤ 600; omega⟩
      · rw [List.map_append]
        rfl
  · rintro δ' μ' ⟨ws, z0, z1, z2, w7, w15, hlen, hnm, hws, rfl, rfl⟩
    rw [rngD_len] at hlen hnm
    refine run_frz (ν1 := [(l, dm z0 z1 z2)]) (ν2 := ν) 14 rfl ?_
    exact h ws z0 z1 z2 _ _ (by omega) (by rw [hlen]; exact hnm) hws
/-- the fewest crews, and the order -/
theorem stWays (L : Fl P w K mg base B Wa Ro Ce PA) (hk : 8 ≤ k) {c0 : D} {ws : List Wt} (hl : ws.length ≤ 5) (hnm : ws.map (fun w : Wt => w.1) = (List.range ws.length).map xOf) (hws : ∀ w ∈ ws, okW w)
    (h : ∀ (v16 v18 : Option D), F.nx (some c0 :: some (.adr l) :: v2 :: v3 :: v4 :: v5 :: v6 :: v7 :: v8 :: v9 :: v10 :: v11 :: v12 :: v13 :: some (tRow ws) :: v15 :: v16 :: v17 :: v18 :: v19 :: v20 :: v21 :: v22 :: []) μ) :
    Run (gL P w K mg base B q c k E XP) (some c0 :: some (.adr l) :: v2 :: v3 :: v4 :: v5 :: v6 :: v7 :: v8 :: v9 :: v10 :: v11 :: v12 :: v13 :: some (tRow ws) :: v15 :: v16 :: v17 :: v18 :: v19 :: v20 :: v21 :: v22 :: []) μ (forB.drop 7) F := by
  have nd : (ws.map fun w : Wt => w.1).Nodup := by rw [hnm]; exact x_facts _ (by omega)
  have hstr : ∀ w ∈ ws, PyData.strOk w.1 = true := fun w hw => by
    have : w.1 ∈ ws.map fun w : Wt => w.1 := List.mem_map.mpr ⟨w, hw, rfl⟩
    rw [hnm] at this
    obtain ⟨i, _, e⟩ := List.mem_map.mp this
    rw [← e]
    exact x_str i
  have hpos : posW ws := fun w hw => by have := (hws w hw).1; omega
  have hrl : ws.reverse.length ≤ 5 := by rw [List.length_reverse]; omega
  have hps := Nat.le_trans (parts_many ws.reverse) (fac_mono hrl)
  have hpl := parts_len ws.reverse
  have hne := partsR_ne ws.reverse
  have hmin := fun {m : Nat} (a1 : m ∈ leafs (sortW ws) []) (a2 : ∀ j ∈ leafs (sortW ws) [], m ≤ j) => few_min nd hpos a1 a2
  have hfac : fac 5 = 120 := rfl
  refine run_cons (ru_lc 16 (partsR ws.reverse) wayD (fun _ => true) (fun x => .int (x.length : Int)) [("way", 21)] [21] (iv_list (ev_callV L.parts (av_cons (ev_n 14) av_nil) (pure_parts hl) rfl (by show 6 ≤ k; omega))) (by omega) (fun x hx => elc_n 21 ((ev_len L.fk.free (ev_n 21)).cast (by rw [List.length_map]))) ?_)
  have ew : D.lst (keepL (partsR ws.reverse) (fun _ => true) fun x => .int (x.length : Int)) = .lst (((partsR ws.reverse).map fun x => (x.length : Int)).map D.int) := by
    rw [keep_all, List.map_map]
    rfl
  rw [ew]
  have hne2 : ((partsR ws.reverse).map fun x => (x.length : Int)) ≠ [] := by simpa using hne
  have hmn := minI_ok hne2
  have h0 : 0 ≤ minI ((partsR ws.reverse).map fun x => (x.length : Int)) := by
    obtain ⟨x, _, e⟩ := List.mem_map.mp hmn.1
    rw [← e]
    omega
  generalize (partsR ws.reverse).map (fun x => (x.length : Int)) = ls at hne2 h0 hmin hmn
  clear hmn hpl hps ew
  refine run_cons (ru_set 18 (Ev.w (Ev.cast (ev_lc ws twD (fun _ => true) (watD Wa) [("row", 20)] [20] (iv_list (ev_n 14)) (by omega) (fun w hw => elc_n 20 (ev_makeV (ns := nW) (fs := [.str w.1, .int w.2.1, .int w.2.2]) L.cw (av_cons (ev_ixT (ev_n 20) ev_int (by rfl)) (av_cons (ev_ixT (ev_n 20) ev_int (by rfl)) (av_cons (ev_ixT (ev_n 20) ev_int (by rfl)) av_nil))) (mk_wat (hws w hw)) rfl (by show 1 + 1 ≤ k; omega)))) (congrArg D.lst (keep_all _ _))) ?_))
  have hrev : (ws.map (watD Wa)).reverse = ws.reverse.map (watD Wa) := List.map_reverse.symm
  have ndr : (ws.reverse.map fun w : Wt => w.1).Nodup := (((List.reverse_perm ws).map fun w : Wt => w.1).nodup_iff).mpr nd
  have esr : sortW ws.reverse = sortW ws := sortW_cong (List.reverse_perm ws) ndr
  have hsl : (sortW ws).length ≤ 5 := by rw [(sortW_perm ws).length_eq]; exact hl
  have hstr2 : ∀ w ∈ sortW ws, PyData.strOk w.1 = true := fun w hw => hstr w ((sortW_perm ws).mem_iff.mp hw)
  refine run_one (ru_ifv (k := false) (Wv.t (wv_or (t := false) (u := false) (tv_cmp (ev_callV L.few (av_cons (ev_n 18) av_nil) (pure_few (ws := ws) (n := (minI ls).toNat) (by omega) nd hstr fun m a1 a2 => by have := hmin a1 a2; omega) rfl (by show 3 ≤ k; omega)) (ev_b1 (d2 := .int (minI ls)) (L.fk.free _ (by decide)) PyProof.Rows.boot_min (ev_n 16) (c_minL hne2)) (b_neSame (n := 0) trivial (by rw [Int.toNat_of_nonneg h0])))
    fun _ => wv_1 (tv_cmp (Ev.cast (ev_lc (sortW ws) (watD Wa) (fun _ => true) (fun w => .str w.1) [("one", 12)] [12] (iv_list (Ev.cast (ev_callV L.sortw (av_cons (Ev.cast (ev_revL (ds := ws.map (watD Wa)) (ev_n 18) (ev_neg ev_int)) (congrArg D.lst hrev)) av_nil) (pure_sortw (ws := ws.reverse) (by omega) ndr (fun w hw => hstr w (List.mem_reverse.mp hw))) rfl (by show 2 ≤ k; omega)) (by rw [esr]; rfl))) (by omega) (fun w hw => elc_n 12 (ev_fld (ev_n 12) L.fk.wc L.fk.w0 rfl))) (congrArg D.lst (keep_all _ _)))
      (Ev.cast (ev_lc (sortW ws) (fun w => fnD (fnOf w)) (fun _ => true) (fun w => .str w.1) [("row", 20)] [20] (iv_list (ev_b1 (d2 := .lst ((sortW ws).map fun w => fnD (fnOf w))) (L.fk.free _ (by decide)) PyProof.Rows.boot_sorted (Ev.cast (ev_lc ws twD (fun _ => true) (fun w => fnD (fnOf w)) [("row", 20)] [20] (iv_list (ev_n 14)) (by omega) (fun w hw => elc_n 20 (ev_tup (av_cons (ev_ixT (ev_n 20) ev_int (by rfl)) (av_cons (ev_ixT (ev_n 20) ev_int (by rfl)) av_nil))))) (congrArg D.lst (keep_all _ _))) (c_sortF hstr (by omega)))) (by omega) (fun w hw => elc_n 20 (ev_ixT (ev_n 20) ev_int (by rfl)))) (congrArg D.lst (keep_all _ _))) (b_neSame (n := 1) ?_ rfl)))) (fun z => by cases z) (fun _ => run_nil (h _ _)))
  simp only [Pd]
  intro x hx
  obtain ⟨w, hw, rfl⟩ := List.mem_map.mp hx
  exact hstr2 w hw
end
end K4

set_option maxRecDepth 100000
set_option maxHeartbeats 8000000
namespace K4
open PySem L2 Dl Sp Lw LamX
def w1 : Wt := ("w", 0, 600)
def r0 : Ros := ⟨["a"], 600, fun _ => []⟩
def r1 : Ros := takeR r0 "a" w1
def nineOf (i : Nat) : Wt := (Str.ofString (toString (i : Int)), 0, 1)
def nine : List Wt := (List.range 9).map nineOf
theorem nine_str : ∀ v ∈ nine, PyData.strOk v.1 = true := fun v hv => by
  obtain ⟨i, _, rfl⟩ := List.mem_map.mp hv
  exact strOk_of _
theorem good0 : Good r0 ["a"] 0 := good_nil (m := 0) (by decide) (most := 600) (by decide)
theorem given0 : givenB ["a"] r0.st "w" = false := by decide +kernel
theorem able0 : ableOf r0 ["a"] w1 = [(0, ("a" : Str))] := by decide +kernel
theorem st1 : r1.st "a" = [w1] := by
  show sortW ([] ++ [w1]) = [w1]
  exact List.perm_singleton.mp (sortW_perm [w1])
theorem given1 : givenB ["a"] r1.st "w" = true := by
  unfold givenB
  rw [List.any_cons, st1]
  decide +kernel
theorem good1 : Good r1 ["a"] 1 := good_take good0 (by decide +kernel) (by decide +kernel) given0
theorem ok0 : OkR r0 := good0.okR (by decide)
theorem nb : ("b" : Str) ∉ r0.names := by decide +kernel
theorem can1 : canB (r1.st "a") ("v", 9480, 9481) r1.most = false ∧ canB (r1.st "a") ("v", 10080, 10081) r1.most = true := by
  rw [st1]
  decide +kernel
theorem sort2 {v : Wt} (nd : ([w1, v].map fun w : Wt => w.1).Nodup) (h : leF w1 v = true) : sortW [w1, v] = [w1, v] := by
  have p := sortW_perm [w1, v]
  refine sort_uniq (le := leF) p (fun a ha b hb => leF_anti nd a (p.mem_iff.mp ha) b (p.mem_iff.mp hb)) (sortW_pw _) ?_
  refine List.pairwise_cons.mpr ⟨fun b hb => ?_, List.pairwise_singleton _ _⟩
  rw [List.mem_singleton.mp hb]
  exact h
theorem few2 {b : Int} (hb : 0 < b) : sortW [w1, ("v", b, 1081)] = [w1, ("v", b, 1081)] := sort2 (by show ([("w" : Str), ("v" : Str)]).Nodup; decide +kernel) (by
  rw [leF_eq, Bool.not_eq_true']
  show (if b = (0 : Int) then PySem.W.DatumOrd.lt ("v" : Str) ("w" : Str) else decide (b < 0)) = false
  rw [if_neg (by omega)]
  exact decide_eq_false (by omega))
theorem leaf1 : leafs [w1, ("v", 1080, 1081)] [] = [1, 2] ∧ leafs [w1, ("v", 1079, 1081)] [] = [2] := by decide +kernel
section
variable {P : Program} {w : World} {K : PySem.W.Frag} {mg : Str → Option Value} {base : Heap} {B : Hp} {Wa Ro Ce PA PP c l o ra Dd : Addr} {k : Nat} {E : XK} {XP : Value → Mem → Prop} {q lq : Str} {ν μ : Mem} {F : Dl.Fin} {r : Ros} {ns : List Str} {cs : List Addr} {v0 v1 v2 v3 v4 v5 v6 v7 v8 v9 v10 v11 v12 v13 v14 v15 v16 v17 v18 v19 v20 v21 v22 : Option D}
theorem pure_few2 {b : Int} {n : Nat} (hb : 0 < b) (h : ∀ m, m ∈ leafs [w1, ("v", b, 1081)] [] → (∀ j ∈ leafs [w1, ("v", b, 1081)] [], m ≤ j) → m = n) : Pure (S_few Wa Ce) [wRow Wa [w1, ("v", b, 1081)]] (.int (n : Int)) :=
  pure_few (by show 2 ≤ 8; decide) (by show ([("w" : Str), ("v" : Str)]).Nodup; decide +kernel) (fun w hw => by
    rcases List.mem_cons.mp hw with rfl | z
    · show PyData.strOk ("w" : Str) = true
      decide +kernel
    · rw [List.mem_singleton.mp z]
      show PyData.strOk ("v" : Str) = true
      decide +kernel) (by rw [few2 hb]; exact h)
/-- the law's tail -/
theorem stTail (L : Fl P w K mg base B Wa Ro Ce PA) (Tk : Tl K mg base c PP "CrewError" Ce) (hk : 8 ≤ k) {y0 y1 y2 : Int} {c0 : D} (h : ∀ μ, F.rt (.bl true) μ) :
    Run (gL P w K mg base B q c k E XP) (some c0 :: v1 :: v2 :: v3 :: v4 :: v5 :: v6 :: v7 :: v8 :: v9 :: v10 :: v11 :: v12 :: v13 :: v14 :: v15 :: v16 :: v17 :: v18 :: v19 :: v20 :: v21 :: v22 :: []) ((l, dm y0 y1 y2) :: [(PA, .gt gAll), (PP, .tbl (((gL P w K mg base B q c k E XP).qual) ++ "<lambda>") cs)]) ((defBody sLaw).drop 1) F := by
  refine run_cl fun cl => ?_
  refine run_cons (ru_asg (ixs := [12] ++ ([19] ++ [])) (ew_tup (aw_cons (Ev.w (ev_makeV (ns := nW) (fs := [.str "w", .int 0, .int 600]) L.cw (av_cons ev_str (av_cons ev_int (av_cons ev_int av_nil))) (mk_wat (v := w1) ⟨by decide, by decide⟩) rfl (by show 1 + 1 ≤ k; omega)) (aw_cons (ew_makeM L.cr (by show 1 + 1 ≤ k; omega) ((av_cons (ev_lst (av_cons ev_str av_nil)) (av_cons ev_int av_nil)).w ⟨rfl, fun ra => ⟨fun _ _ => False, ⟨ra, ["a"], 600, rfl, by decide, rfl, fun ok Dd => ⟨rfl, aw_nil ⟨by show 2 ≤ 100000; decide, tg_tup (tgs_cons (tg_n 12 (tgs_cons (tg_n 19 (tgs_nil ?_)))))⟩⟩, fun z => (z good0.ok).elim⟩, fun _ _ z => z.elim⟩⟩)))))))
  refine Run.perm (μ1 := ((rosM Wa Ro ra Dd r0 ++ [(PA, .gt gAll)]) ++ (PP, .tbl (((gL P w K mg base B q c k E XP).qual) ++ "<lambda>") cs) :: []) ++ [(l, dm y0 y1 y2)]) (Run.drop ?_) ?_
  · refine run_cons (ru_set 17 (ew_lst (aw_cons (ew_lam (ν1 := rosM Wa Ro ra Dd r0 ++ [(PA, .gt gAll)]) (ν2 := []) rfl Tk.tb rfl (fun _ z => z) (lamS_by (by kernel_rfl)) fun c1 => aw_cons (ew_lam (ν1 := rosM Wa Ro ra Dd r0 ++ [(PA, .gt gAll)]) (ν2 := []) rfl Tk.tb rfl (fun _ z => z) (lamS_by (by kernel_rfl)) fun c2 => aw_cons (ew_lam (ν1 := rosM Wa Ro ra Dd r0 ++ [(PA, .gt gAll)]) (ν2 := []) rfl Tk.tb rfl (fun _ z => z) (lamS_by (by kernel_rfl)) fun c3 => aw_cons (ew_lam (ν1 := rosM Wa Ro ra Dd r0 ++ [(PA, .gt gAll)]) (ν2 := []) rfl Tk.tb rfl (fun _ z => z) (lamS_by (by kernel_rfl)) fun c4 => aw_cons (ew_lam (ν1 := rosM Wa Ro ra Dd r0 ++ [(PA, .gt gAll)]) (ν2 := []) rfl Tk.tb rfl (fun _ z => z) (lamS_by (by kernel_rfl)) fun c5 => aw_cons (ew_lam (ν1 := rosM Wa Ro ra Dd r0 ++ [(PA, .gt gAll)]) (ν2 := []) rfl Tk.tb rfl (fun _ z => z) (lamS_by (by kernel_rfl)) fun c6 => aw_cons (ew_lam (ν1 := rosM Wa Ro ra Dd r0 ++ [(PA, .gt gAll)]) (ν2 := []) rfl Tk.tb rfl (fun _ z => z) (lamS_by (by kernel_rfl)) fun c7 => aw_cons (ew_lam (ν1 := rosM Wa Ro ra Dd r0 ++ [(PA, .gt gAll)]) (ν2 := []) rfl Tk.tb rfl (fun _ z => z) (lamS_by (by kernel_rfl)) fun c8 => aw_cons (ew_lam (ν1 := rosM Wa Ro ra Dd r0 ++ [(PA, .gt gAll)]) (ν2 := []) rfl Tk.tb rfl (fun _ z => z) (lamS_by (by kernel_rfl)) fun c9 => aw_cons (ew_lam (ν1 := rosM Wa Ro ra Dd r0 ++ [(PA, .gt gAll)]) (ν2 := []) rfl Tk.tb rfl (fun _ z => z) (lamS_by (by kernel_rfl)) fun c10 => aw_nil ⟨by show 10 ≤ 100000; decide, ?_⟩)))))))))))))
    obtain ⟨tr, hre⟩ := L.fk.rest
    obtain ⟨tl, hlo⟩ := L.fk.long
    obtain ⟨tm, hmw⟩ := L.fk.mw
    have ok1 : OkR r1 := good1.okR (by decide)
    have hl1 : (r1.st "a").length ≤ 900 := by rw [st1]; decide
    have ha1 : ("a" : Str) ∈ r1.names := by decide +kernel
    refine run_cons ?_
    refine ru_if (Tw.pw (ww_or (Tv.w (t := false) ?_ ⟨fun z => (by cases z), fun _ => ww_or (Tv.w (t := false) ?_ ⟨fun z => (by cases z), fun _ => ?_⟩)⟩)))
    · refine tv_cmp (d1 := .lst []) ?_ (ev_lst av_nil) b_neE
      refine ev_bad (i := 22) (kk := 6) (PP := PP) Tk.told (by decide +kernel) Tk.exm (List.mem_append_right _ List.mem_cons_self) rfl (fun _ z => z) (ev_n 17) (by show 10 ≤ 100000; decide) ?_ (by show 8 ≤ k; omega) rfl (fun _ => rfl) rfl rfl (by exact L2.blkOk_by (by kernel_rfl))
      show ∀ d ∈ _, _
      refine List.forall_mem_cons.mpr ⟨⟨_, _, _, _, rfl, by simp, lamS_by (by kernel_rfl), (fun _ _ _ _ _ => rfl), fun C E XP hC hx => ?_⟩, ?_⟩
      · exact ew_makeX (XP := fun cls _ => cls = .ref Ce) (L.up hC).cw (av_cons ev_str (av_cons ev_int (av_cons ev_int av_nil))) (fun a => ⟨a, ("w", 0, 0), rfl, rfl, fun ok => absurd ok.1 (by decide), fun _ => rfl⟩) (fun cls _ z => z ▸ hx) rfl (by show 1 + 1 ≤ 6; decide)
      refine List.forall_mem_cons.mpr ⟨⟨_, _, _, _, rfl, by simp, lamS_by (by kernel_rfl), (fun _ _ _ _ _ => rfl), fun C E XP hC hx => ?_⟩, ?_⟩
      · exact ew_makeX (XP := fun cls _ => cls = .ref Ce) (L.up hC).cw (av_cons ev_str (av_cons ev_int (av_cons ev_int av_nil))) (fun a => ⟨a, ("w", 0, 601), rfl, rfl, fun ok => absurd ok.2 (by decide), fun _ => rfl⟩) (fun cls _ z => z ▸ hx) rfl (by show 1 + 1 ≤ 6; decide)
      refine List.forall_mem_cons.mpr ⟨⟨_, _, _, _, rfl, by simp, lamS_by (by kernel_rfl), (fun _ _ _ _ _ => rfl), fun C E XP hC hx => ?_⟩, ?_⟩
      · exact ew_makeX (XP := fun cls _ => cls = .ref Ce) (L.up hC).cr (av_cons (ev_lst av_nil) (av_cons ev_int av_nil)) (fun a => ⟨a, [], 5, rfl, by decide, rfl, fun ok => absurd rfl ok.1, fun _ => rfl⟩) (fun cls _ z => z ▸ hx) rfl (by show 1 + 1 ≤ 6; decide)
      refine List.forall_mem_cons.mpr ⟨⟨_, _, _, _, rfl, by simp, lamS_by (by kernel_rfl), (fun _ _ _ _ _ => rfl), fun C E XP hC hx => ?_⟩, ?_⟩
      · exact ew_makeX (XP := fun cls _ => cls = .ref Ce) (L.up hC).cr (av_cons (ev_lst (av_cons ev_str (av_cons ev_str av_nil))) (av_cons ev_int av_nil)) (fun a => ⟨a, ["a", "a"], 5, rfl, by decide, rfl, fun ok => absurd ok.2.1 (by decide +kernel), fun _ => rfl⟩) (fun cls _ z => z ▸ hx) rfl (by show 1 + 1 ≤ 6; decide)
      refine List.forall_mem_cons.mpr ⟨⟨_, _, _, _, rfl, by simp, lamS_by (by kernel_rfl), (fun _ _ _ _ _ => rfl), fun C E XP hC hx => ?_⟩, ?_⟩
      · exact ew_makeX (XP := fun cls _ => cls = .ref Ce) (L.up hC).cr (av_cons (ev_lst (av_cons ev_str av_nil)) (av_cons ev_int av_nil)) (fun a => ⟨a, ["a"], 0, rfl, by decide, rfl, fun ok => absurd ok.2.2 (by decide), fun _ => rfl⟩) (fun cls _ z => z ▸ hx) rfl (by show 1 + 1 ≤ 6; decide)
      refine List.forall_mem_cons.mpr ⟨⟨_, _, _, _, rfl, by simp, lamS_by (by kernel_rfl), (fun _ _ _ _ _ => rfl), fun C E XP hC hx => ?_⟩, ?_⟩
      · exact ew_meth' (L.up hC).min (by show 2 ≤ 6; decide) (Ev.w (ev_n 19) ⟨recv_ros (r := r0) (Dd := Dd) (by simp [rosM]), aw_cons (Ev.w ev_str (aw_cons (Ev.w ev_int (aw_cons (Ev.w ev_int (aw_nil ⟨rfl, rosM Wa Ro ra Dd r0, [(PA, .gt gAll), (PP, _)], fun cls μ' => cls = .ref Ce ∧ μ' = rosM Wa Ro ra Dd r0, List.Perm.refl _, ⟨r0, "b", 0, 1, ok0, .inr ⟨ra, Dd, rfl, rfl, nb, ⟨rfl, rfl⟩⟩⟩, fun cls μ' z => ⟨_, ⟨[], by rw [z.2, List.append_nil]; exact List.Perm.refl _⟩, z.1 ▸ hx⟩⟩))))))⟩)
      refine List.forall_mem_cons.mpr ⟨⟨_, _, _, _, rfl, by simp, lamS_by (by kernel_rfl), (fun _ _ _ _ _ => rfl), fun C E XP hC hx => ?_⟩, ?_⟩
      · exact ew_meth' (L.up hC).can (by show 4 ≤ 6; decide) (Ev.w (ev_n 19) ⟨recv_ros (r := r0) (Dd := Dd) (by simp [rosM]), aw_cons (Ev.w ev_str (aw_cons (Ev.w (ev_n 12) (aw_nil ⟨rfl, rosM Wa Ro ra Dd r0, [(PA, .gt gAll), (PP, _)], fun cls μ' => cls = .ref Ce ∧ μ' = rosM Wa Ro ra Dd r0, List.Perm.refl _, ⟨r0, "b", w1, ra, Dd, ok0, by decide, rfl, rfl, fun z => (nb z).elim, fun _ => ⟨rfl, rfl⟩⟩, fun cls μ' z => ⟨_, ⟨[], by rw [z.2, List.append_nil]; exact List.Perm.refl _⟩, z.1 ▸ hx⟩⟩))))⟩)
      refine List.forall_mem_cons.mpr ⟨⟨_, _, _, _, rfl, by simp, lamS_by (by kernel_rfl), (fun _ _ _ _ _ => rfl), fun C E XP hC hx => ?_⟩, ?_⟩
      · exact ew_meth' (L.up hC).whole (by show 2 ≤ 6; decide) (Ev.w (ev_n 19) ⟨recv_ros (r := r0) (Dd := Dd) (by simp [rosM]), aw_cons (Ev.w ev_str (aw_nil ⟨rfl, rosM Wa Ro ra Dd r0, [(PA, .gt gAll), (PP, _)], fun cls μ' => cls = .ref Ce ∧ μ' = rosM Wa Ro ra Dd r0, List.Perm.refl _, ⟨r0, "b", ok0, .inr ⟨ra, Dd, rfl, rfl, nb, ⟨rfl, rfl⟩⟩⟩, fun cls μ' z => ⟨_, ⟨[], by rw [z.2, List.append_nil]; exact List.Perm.refl _⟩, z.1 ▸ hx⟩⟩))⟩)
      refine List.forall_mem_cons.mpr ⟨⟨_, _, _, _, rfl, by simp, lamS_by (by kernel_rfl), (fun _ _ _ _ _ => rfl), fun C E XP hC hx => ?_⟩, ?_⟩
      · exact ew_callX (XP := fun cls _ => cls = .ref Ce) (L.up hC).few (av_cons (ev_lst (av_cons (ev_n 12) (av_cons (ev_n 12) av_nil))) av_nil) ⟨[w1, w1], rfl, by decide, by decide +kernel, fun ok => absurd ok.2 (by decide +kernel), fun _ => rfl⟩ (fun cls _ z => z ▸ hx) rfl (by show 3 ≤ 6; decide)
      refine List.forall_mem_cons.mpr ⟨⟨_, _, _, _, rfl, by simp, lamS_by (by kernel_rfl), (fun _ _ _ _ _ => rfl), fun C E XP hC hx => ?_⟩, ?_⟩
      · exact ew_callX (XP := fun cls _ => cls = .ref Ce) (L.up hC).few (av_cons (Ev.cast (d1 := wRow Wa nine) (ev_lc (List.range 9) (fun (i : Nat) => D.int (i : Int)) (fun _ => true) (fun i => watD Wa (nineOf i)) [("k", 15)] [15] (iv_rN (n := 9) L.fk.free ev_int (by decide)) (by decide) (fun i hi => elc_n 15 (ev_makeV (ns := nW) (fs := [.str (nineOf i).1, .int (nineOf i).2.1, .int (nineOf i).2.2]) (L.up hC).cw (av_cons (ev_t1 (L.fk.free _ (by decide)) PyProof.Rows.boot_str (ev_n 15) (c_str (log_ok (by omega) (by have := List.mem_range.mp hi; omega)))) (av_cons ev_int (av_cons ev_int av_nil))) (mk_wat (v := nineOf i) ⟨by show (0 : Int) < 1 - 0; decide, by show (1 : Int) - 0 ≤ 600; decide⟩) rfl (by show 1 + 1 ≤ 6; decide)))) (by rw [keep_all]; unfold wRow nine; rw [List.map_map]; rfl)) av_nil) ⟨nine, rfl, by decide, nine_str, fun ok => absurd ok.1 (by decide +kernel), fun _ => rfl⟩ (fun cls _ z => z ▸ hx) rfl (by show 3 ≤ 6; decide)
      intro d hd
      cases hd
    · exact tv_cmp (ev_tup (av_cons (ev_glob hre) (av_cons (ev_glob hlo) (av_cons (ev_glob hmw) av_nil)))) (ev_tup (av_cons ev_int (av_cons ev_int (av_cons ev_int av_nil)))) (b_neSame (n := 1) (by simp [Pd]) rfl)
    refine ww_1 (tw_cmp (nomark _) (ew_meth' L.take (by show 5 ≤ k; omega) (Ev.w (ev_n 19) ⟨recv_ros (r := r0) (Dd := Dd) (by simp [rosM]), aw_cons (Ev.w (ev_n 12) (aw_nil ⟨rfl, rosM Wa Ro ra Dd r0 ++ ([(PA, .gt gAll)] ++ []), [(PP, _)], fun _ _ => False, List.Perm.refl _, ⟨r0, ["a"], w1, ra, Dd, ok0, good0.srt, good0.nm, fun _ => Nat.zero_le _, by decide +kernel, rfl, rfl, (fun z => by rw [show givenB ["a"] r0.st w1.1 = false from given0] at z; cases z), (fun _ z => by rw [able0] at z; cases z), fun x xs _ q2 => ?_⟩, fun _ _ z => z.elim⟩))⟩)))
    rw [able0] at q2
    cases q2
    refine ⟨(rosM Wa Ro ra Dd r1 ++ [(PA, .gt gAll)]) ++ (PP, .tbl (((gL P w K mg base B q c k E XP).qual) ++ "<lambda>") _) :: [], ⟨[], by rw [List.append_nil]; exact List.Perm.refl _⟩, Ev.w ev_str ⟨false, b_neSame (n := 0) (by show PyData.strOk ("a" : Str) = true; decide +kernel) rfl, (fun z => by cases z), fun _ => run_nil ?_⟩⟩
    refine run_one (ru_ret (ew_and (ew_cmp (nomark _) (ew_toldL (kk := 6) Tk.told rfl Tk.tb rfl (fun _ z => z) (lamS_by (by kernel_rfl)) (by show 8 ≤ k; omega) (fun _ _ _ _ _ => rfl) fun c' C E hC => ew_meth' (L.up hC).take (by show 5 ≤ 6; decide) (Ev.w (ev_n 19) ⟨recv_ros (r := r1) (Dd := Dd) (by simp [rosM]), aw_cons (Ev.w (ev_n 12) (aw_nil ⟨rfl, rosM Wa Ro ra Dd r1 ++ ([(PA, .gt gAll)] ++ []), [(PP, _)], fun cls μ' => cls = .ref Ce ∧ μ' = rosM Wa Ro ra Dd r1 ++ ([(PA, .gt gAll)] ++ []), List.Perm.refl _, ⟨r1, ["a"], w1, ra, Dd, ok1, good1.srt, good1.nm, fun m => by have := good1.row m; omega, by decide +kernel, rfl, rfl, fun _ => ⟨rfl, rfl⟩, fun _ _ => ⟨rfl, rfl⟩, fun x xs q1 _ => ?_⟩, fun cls μ' z => ⟨(rosM Wa Ro ra Dd r1 ++ [(PA, .gt gAll)]) ++ (PP, .tbl (((gL P w K mg base B q c k E XP).qual) ++ "<lambda>") _) :: [], ⟨[], by rw [z.2, List.append_nil]; exact List.Perm.refl _⟩, by rw [z.1]; exact Tk.exm, Ev.w ev_str ⟨_, b_eqSame (n := 0) (by show PyData.strOk _ = true; decide +kernel) rfl, true, rfl, fun _ => ?_, fun z => by cases z⟩⟩⟩))⟩)))))
    · rw [show givenB ["a"] r1.st w1.1 = true from given1] at q1
      cases q1
    obtain ⟨cA, cB⟩ := can1
    obtain ⟨lA, lB⟩ := leaf1
    have mv : ∀ {v : Wt}, okW v → ∀ a (P : Pst), P .non [(a, .ins Wa nW [.str v.1, .int v.2.1, .int v.2.2])] → S_winit Wa Ce [.adr a, .str v.1, .int v.2.1, .int v.2.2] [(a, .ins Wa [] [])] P NoX := fun hv => mk_wat hv
    refine ew_and (ew_not (Ev.w (Ev.cast (ev_methM L.can (List.Perm.of_eq (List.append_assoc _ _ _)) (ev_n 19) (recv_ros (r := r1) (Dd := Dd) (by simp [rosM])) (av_cons ev_str (av_cons (ev_makeV (ns := nW) (fs := [.str "v", .int 9480, .int 9481]) L.cw (av_cons ev_str (av_cons ev_int (av_cons ev_int av_nil))) (mv (v := ("v", 9480, 9481)) ⟨by decide, by decide⟩) rfl (by show 1 + 1 ≤ k; omega)) av_nil)) (pure_can (v := ("v", 9480, 9481)) ok1 hl1 ha1) rfl (by show 4 ≤ k; omega)) (congrArg D.bl cA)) ⟨false, rfl, true, rfl, fun _ => ?_, fun z => by cases z⟩))
    refine ew_and (Ev.w (Ev.cast (ev_methM L.can (List.Perm.of_eq (List.append_assoc _ _ _)) (ev_n 19) (recv_ros (r := r1) (Dd := Dd) (by simp [rosM])) (av_cons ev_str (av_cons (ev_makeV (ns := nW) (fs := [.str "v", .int 10080, .int 10081]) L.cw (av_cons ev_str (av_cons ev_int (av_cons ev_int av_nil))) (mv (v := ("v", 10080, 10081)) ⟨by decide, by decide⟩) rfl (by show 1 + 1 ≤ k; omega)) av_nil)) (pure_can (v := ("v", 10080, 10081)) ok1 hl1 ha1) rfl (by show 4 ≤ k; omega)) (congrArg D.bl cB)) ⟨true, rfl, fun _ => ?_, fun z => by cases z⟩)
    refine ew_and (ew_cmp (nomark _) (Ev.w (ev_callV L.few (av_cons (ev_lst av_nil) av_nil) (pure_few (ws := []) (n := 0) (by decide) List.nodup_nil (fun w hw => by cases hw) (fun m hm _ => ?_)) rfl (by show 3 ≤ k; omega)) (Ev.w ev_int ⟨_, b_eqSame (n := 0) trivial rfl, true, rfl, fun _ => ?_, fun z => by cases z⟩)))
    · have e : sortW [] = [] := List.perm_nil.mp (sortW_perm [])
      rw [e] at hm
      exact List.mem_singleton.mp hm
    refine ew_and (ew_cmp (nomark _) (Ev.w (ev_callV L.few (av_cons (ev_lst (av_cons (ev_n 12) (av_cons (ev_makeV (ns := nW) (fs := [.str "v", .int 1080, .int 1081]) L.cw (av_cons ev_str (av_cons ev_int (av_cons ev_int av_nil))) (mv (v := ("v", 1080, 1081)) ⟨by decide, by decide⟩) rfl (by show 1 + 1 ≤ k; omega)) av_nil))) av_nil) (pure_few2 (b := 1080) (n := 1) (by decide) (fun m hm hj => ?_)) rfl (by show 3 ≤ k; omega)) (Ev.w ev_int ⟨_, b_eqSame (n := 0) trivial rfl, true, rfl, fun _ => ?_, fun z => by cases z⟩)))
    · rw [lA] at hm hj
      have := hj 1 (by simp)
      simp only [List.mem_cons, List.not_mem_nil, or_false] at hm
      omega
    refine ew_and1 (ew_cmp (nomark _) (Ev.w (ev_callV L.few (av_cons (ev_lst (av_cons (ev_n 12) (av_cons (ev_makeV (ns := nW) (fs := [.str "v", .int 1079, .int 1081]) L.cw (av_cons ev_str (av_cons ev_int (av_cons ev_int av_nil))) (mv (v := ("v", 1079, 1081)) ⟨by decide, by decide⟩) rfl (by show 1 + 1 ≤ k; omega)) av_nil))) av_nil) (pure_few2 (b := 1079) (n := 2) (by decide) (fun m hm hj => ?_)) rfl (by show 3 ≤ k; omega)) (Ev.w ev_int ⟨_, b_eqSame (n := 0) trivial rfl, h _⟩)))
    rw [lB] at hm
    exact List.mem_singleton.mp hm
  · have e1 : ∀ {α : Type} {a b x y z : α}, [a, b, x, y, z].Perm [b, a, y, z, x] := fun {α a b x y z} => (List.Perm.swap _ _ _).trans (((List.perm_append_comm (l₁ := [x]) (l₂ := [y, z])).append_left [b, a]))
    exact e1
end
end K4

set_option maxRecDepth 100000
set_option maxHeartbeats 4000000
namespace K4
open PySem L2 Dl Sp Lw LamX
section
variable {P : Program} {w : World} {K : PySem.W.Frag} {mg : Str → Option Value} {base : Heap} {B : Hp} {Wa Ro Ce PA PP c l o ra Dd : Addr} {k : Nat} {E : XK} {XP : Value → Mem → Prop} {q lq : Str} {ν μ : Mem} {F : Dl.Fin} {r : Ros} {ns : List Str} {cs : List Addr} {v0 v1 v2 v3 v4 v5 v6 v7 v8 v9 v10 v11 v12 v13 v14 v15 v16 v17 v18 v19 v20 v21 v22 : Option D}
/-- the loop's body -/
theorem stLoop (L : Fl P w K mg base B Wa Ro Ce PA) (Tk : Tl K mg base c PP "CrewError" Ce) (hlq : (gL P w K mg base B q c k E XP).qual ++ "<lambda>" = lq) (hk : 8 ≤ k) {x0 x1 x2 : Int} {c0 : D}
    (h : ∀ (cs : List Addr) (y0 y1 y2 : Int) (v2 v3 v4 v5 v6 v7 v8 v9 v10 v11 v13 v14 v15 v16 v18 v19 : Option D), F.nx (some c0 :: some (.adr l) :: v2 :: v3 :: v4 :: v5 :: v6 :: v7 :: v8 :: v9 :: v10 :: v11 :: v12 :: v13 :: v14 :: v15 :: v16 :: v17 :: v18 :: v19 :: v20 :: v21 :: v22 :: []) ((l, dm y0 y1 y2) :: [(PA, .gt gAll), (PP, .tbl lq cs)])) :
    Run (gL P w K mg base B q c k E XP) (some c0 :: some (.adr l) :: v2 :: v3 :: v4 :: v5 :: v6 :: v7 :: v8 :: v9 :: v10 :: v11 :: v12 :: v13 :: v14 :: v15 :: v16 :: v17 :: v18 :: v19 :: v20 :: v21 :: v22 :: []) ((l, dm x0 x1 x2) :: [(PA, .gt gAll), (PP, .tbl lq cs)]) forB F := by
  refine stStart L hk fun r ns o ra Dd y0 y1 y2 w4 hg => ?_
  refine stSteps L Tk hlq hk hg fun r cs u0 u1 u2 w6 w7 w8 w9 w10 w11 w18 hg => ?_
  refine stMins L hk hg fun t0 t1 t2 w4' w13 => ?_
  refine stFew L hk fun ws s0 s1 s2 w7' w15 hl hnm hws => ?_
  refine stWays L hk hl hnm hws fun w16 w18' => ?_
  exact h cs s0 s1 s2 _ _ _ _ _ _ _ _ _ _ _ _ _ _ _ _
def S_law (PA PP : Addr) (q : Str) : Dl.Spec := fun ds μ P _ => ∃ cs : List Int, ds = [.lsq (cs.map D.int)] ∧ μ = [(PA, .gt gAll), (PP, .tbl q [])] ∧ ∀ μ', P (.bl true) μ'
theorem run_law {ds : List D} {R : Pst} (L : Fl P w K mg base B Wa Ro Ce PA) (Tk : Tl K mg base c PP "CrewError" Ce) (hk : 8 ≤ k) (hS : S_law PA PP ((gL P w K mg base B q c k E XP).qual ++ "<lambda>") ds μ R XP) :
    Run (gL P w K mg base B q c k E XP) (startD nL ds) μ (defBody sLaw) { nx := fun _ μ' => R .non μ', rt := R } := by
  obtain ⟨cs, rfl, rfl, h⟩ := hS
  refine run_cons (ru_for (ixs := [1]) (iw_list (ew_call L.rounds (by show 3 ≤ k; omega) rfl ((av_cons (ev_n 0) (av_cons ev_int av_nil)).w ⟨rfl, [], _, NoX, rfl, ⟨cs, rfl, fun a x0 x1 x2 => ⟨_, rfl, ?_⟩⟩, fun _ _ z => z.elim⟩))))
  refine ⟨fun i δ' μ' => (i = 0 ∧ δ' = startD nL [.lsq (cs.map D.int)] ∧ μ' = (a, dm x0 x1 x2) :: [(PA, .gt gAll), (PP, .tbl ((gL P w K mg base B q c k E XP).qual ++ "<lambda>") [])]) ∨ (i = 1 ∧ ∃ (zs : List Addr) (y0 y1 y2 : Int) (v2 v3 v4 v5 v6 v7 v8 v9 v10 v11 v13 v14 v15 v16 v18 v19 : Option D), δ' = (some (.lsq (cs.map D.int)) :: some (.adr a) :: v2 :: v3 :: v4 :: v5 :: v6 :: v7 :: v8 :: v9 :: v10 :: v11 :: none :: v13 :: v14 :: v15 :: v16 :: none :: v18 :: v19 :: none :: none :: none :: []) ∧ μ' = (a, dm y0 y1 y2) :: [(PA, .gt gAll), (PP, .tbl ((gL P w K mg base B q c k E XP).qual ++ "<lambda>") zs)]), .inl ⟨rfl, rfl, rfl⟩, ?_, ?_⟩
  · rintro i d δ' μ' hd hI
    have hi : i = 0 ∧ d = .adr a := by
      cases i with
      | zero => exact ⟨rfl, by simpa using hd.symm⟩
      | succ n => simp at hd
    obtain ⟨rfl, rfl⟩ := hi
    rcases hI with ⟨_, rfl, rfl⟩ | ⟨z, _⟩
    · refine tg_n 1 ?_
      exact stLoop L Tk rfl hk fun zs y0 y1 y2 w2 w3 w4 w5 w6 w7 w8 w9 w10 w11 w13 w14 w15 w16 w18 w19 => .inr ⟨rfl, zs, y0, y1, y2, _, _, _, _, _, _, _, _, _, _, _, _, _, _, _, _, rfl, rfl⟩
    · omega
  · rintro δ' μ' hI
    rcases hI with ⟨z, _⟩ | ⟨_, zs, y0, y1, y2, w2, w3, w4, w5, w6, w7, w8, w9, w10, w11, w13, w14, w15, w16, w18, w19, rfl, rfl⟩
    · exact absurd z (by simp)
    · exact stTail L Tk hk h
end
end K4

set_option maxRecDepth 100000
set_option maxHeartbeats 0
namespace K4
open PySem PySem.Spec PyProof.Rows L2
def dF (x : Str) (i : Nat) : He.DefD := ⟨(x, none), x, x, defArgs (top i), defBody (top i), defScope (top i), [], []⟩
def dM (C m : Str) (q : Str) (i j : Nat) : He.DefD := ⟨(C, some m), m, q, defArgs (inClass (top i) j), defBody (inClass (top i) j), defScope (inClass (top i) j), [], []⟩
def fn : List He.DefD := [dM "Watch" "__init__" "Watch.__init__" 7 0, dM "Roster" "__init__" "Roster.__init__" 8 0, dM "Roster" "minutes_in" "Roster.minutes_in" 8 1, dM "Roster" "can_take" "Roster.can_take" 8 2, dM "Roster" "take" "Roster.take" 8 3, dM "Roster" "whole" "Roster.whole" 8 4, dM "Roster" "all_watches" "Roster.all_watches" 8 5,
  dF "sorted_watches" 9, dF "fewest_crews" 10, dF "_law_dice" 12, dF "_law_roll" 13, dF "_law_rounds" 14, dF "_law_told" 15, dF "_law_can" 16, dF "_law_parts" 17, dF "law" 18]
def fa : List He.Fa := Dl.bnames.map He.Fa.free ++ [.glo "Watch", .glo "Roster", .glo "CrewError", .glo "sorted_watches", .glo "fewest_crews", .glo "_law_dice", .glo "_law_roll", .glo "_law_rounds", .glo "_law_told", .glo "_law_can", .glo "_law_parts", .glo "law", .int "REST" 480, .int "LONGEST" 600, .int "MOST_WATCHES" 8,
  .cls "Watch", .cls "Roster", .noat "Watch" "name", .noat "Watch" "first", .noat "Watch" "last", .noat "Roster" "crews", .noat "Roster" "most",
  .meth "Roster" "minutes_in", .meth "Roster" "can_take", .meth "Roster" "take", .meth "Roster" "whole", .meth "Roster" "all_watches",
  .mkr "Watch", .mkr "Roster", .exc "CrewError", .exm "CrewError" "CrewError" true]
def tfo : List He.Defn := [("Roster", some "minutes_in"), ("Roster", some "can_take"), ("Roster", some "take"), ("Roster", some "whole"), ("sorted_watches", none)]
def tfm : List He.Defn := [("law", none), ("Roster", some "all_watches")]
def tf : List He.Defn := [("Roster", some "minutes_in"), ("Roster", some "can_take"), ("Roster", some "take"), ("Roster", some "whole"), ("sorted_watches", none), ("law", none), ("Roster", some "all_watches")]
def exD (K : PySem.W.Frag) : Bool := decide ((tfm.map fun p => (He.cT K p).2).Nodup) && !(tfo.any fun p => tfm.any fun q => decide ((He.cT K p).2 = (He.cT K q).2))
abbrev R : PySem.W.OpenRow := PySem.W.OpenLaw.row PySem.Challenge.rw_tidestack_k04_watches_and_rests
abbrev hk : PySem.W.Hook := He.hookX 5 fa fn [] tf exD
def ob (s : PySem.W.SharedT) : He.AlX := He.obsX 5 fa fn [] tf exD (HandSHeadRun.getT s)
theorem ob_eq (s : PySem.W.SharedT) : ob s = hk.obs s.abs := He.obsX_eq (HandSHeadRun.getT_eq s)
def loose : List Str := ["_wall", "TideError", "CrewError", "REST", "LONGEST", "MOST_WATCHES", "Watch", "Roster", "sorted_watches", "fewest_crews", "_law_dice", "_law_roll", "_law_rounds", "_law_told", "_law_can", "_law_parts"]
theorem run (w : World) : HandSHeadRun.RunEq R (PySem.W.view R.prog [18]) hk ob 4000 loose w := by
  intro os
  kernel_rfl
end K4

set_option maxRecDepth 100000
set_option maxHeartbeats 4000000
namespace K4
open PySem PySem.Spec PyProof.Rows L2 Dl Sp Lw LamX
section
variable {P : Program} {w : World} {K : PySem.W.Frag} {h : Heap} {mg : Str → Option Value} {base : Heap} {B : Hp} {c PA : Addr}
theorem fk_of (X : K.In h) (G : h.Ns mainGlobals mg) (c : He.SaysD fa fn K) : Fr4 K mg (He.ga K "Watch") (He.ga K "Roster") (He.ga K "CrewError") where
  free := fun x hx => He.free_ok X G (c.facts (List.mem_append_left _ (List.mem_map.mpr ⟨x, hx, rfl⟩)))
  wc := He.cls_ok (c.fact 33 (f := .cls "Watch") rfl)
  w0 := He.noat_ok (c.fact 35 (f := .noat "Watch" "name") rfl)
  w1 := He.noat_ok (c.fact 36 (f := .noat "Watch" "first") rfl)
  w2 := He.noat_ok (c.fact 37 (f := .noat "Watch" "last") rfl)
  rc := He.cls_ok (c.fact 34 (f := .cls "Roster") rfl)
  r0 := He.noat_ok (c.fact 38 (f := .noat "Roster" "crews") rfl)
  r1 := He.noat_ok (c.fact 39 (f := .noat "Roster" "most") rfl)
  rest := He.int_ok X G (c.fact 30 (f := .int "REST" 480) rfl)
  long := He.int_ok X G (c.fact 31 (f := .int "LONGEST" 600) rfl)
  mw := He.int_ok X G (c.fact 32 (f := .int "MOST_WATCHES" 8) rfl)
  xc := by
    obtain ⟨e1, e2, e3, e4⟩ := He.exc_ok (c.fact 47 (f := .exc "CrewError") rfl)
    exact ⟨⟨_, _, _, _, PySem.F.excBase_ValueError, e1⟩, He.glo_ok X G (c.fact 20 (f := .glo "CrewError") rfl), e2, e3, e4⟩
theorem sc_cw : FnScope ["self", "name", "first", "last"] ["self", "name", "first", "last"] (defScope sWInit) := ⟨rfl, rfl, rfl, by decide +kernel, rfl, by decide +kernel, by decide +kernel⟩
theorem cw_of (X : K.In h) (G : h.Ns mainGlobals mg) (c : He.SaysD fa fn K)  : Cn P w K mg base B "Watch" (He.ga K "Watch") 1 4 (S_winit (He.ga K "Watch") (He.ga K "CrewError")) := by
  obtain ⟨fd, FF⟩ := c.def_ 0 (d := dM "Watch" "__init__" "Watch.__init__" 7 0) rfl
  have F := fk_of X G c
  have b := FunD.bindsN (ps := ["self", "name", "first", "last"]) FF fun _ _ _ _ _ _ us hl => match us, hl with | [_, _, _, _], _ => rfl
  have OK := fn_ok (P := P) (w := w) (mg := mg) (base := base) (B := B) (k := 0) (S := S_winit (He.ga K "Watch") (He.ga K "CrewError")) FF sc_cw (fun E ds μ R XP hl hS => run_winit F hS)
  exact ⟨⟨_, fd, _, rfl, OK, He.glo_ok X G (c.fact 18 (f := .glo "Watch") rfl), He.mkr_ok (c.fact 45 (f := .mkr "Watch") rfl), b⟩⟩
theorem sc_cr : FnScope ["self", "names", "most", "name"] ["self", "names", "most"] (defScope sRInit) := ⟨rfl, rfl, rfl, by decide +kernel, rfl, by decide +kernel, by decide +kernel⟩
theorem cr_of (X : K.In h) (G : h.Ns mainGlobals mg) (c : He.SaysD fa fn K)  : Cn P w K mg base B "Roster" (He.ga K "Roster") 1 3 (S_rinit (He.ga K "Watch") (He.ga K "Roster") (He.ga K "CrewError")) := by
  obtain ⟨fd, FF⟩ := c.def_ 1 (d := dM "Roster" "__init__" "Roster.__init__" 8 0) rfl
  have F := fk_of X G c
  have b := FunD.bindsN (ps := ["self", "names", "most"]) FF fun _ _ _ _ _ _ us hl => match us, hl with | [_, _, _], _ => rfl
  have OK := fn_ok (P := P) (w := w) (mg := mg) (base := base) (B := B) (k := 0) (S := S_rinit (He.ga K "Watch") (He.ga K "Roster") (He.ga K "CrewError")) FF sc_cr (fun E ds μ R XP hl hS => run_rinit F hS)
  exact ⟨⟨_, fd, _, rfl, OK, He.glo_ok X G (c.fact 19 (f := .glo "Roster") rfl), He.mkr_ok (c.fact 46 (f := .mkr "Roster") rfl), b⟩⟩
theorem sc_mi : FnScope ["self", "name", "first", "last", "one"] ["self", "name", "first", "last"] (defScope sMin) := ⟨rfl, rfl, rfl, by decide +kernel, rfl, by decide +kernel, by decide +kernel⟩
theorem mi_of (X : K.In h) (G : h.Ns mainGlobals mg) (c : He.SaysD fa fn K) (St : Sf mg base B (He.codeOf K ("Roster", some "minutes_in"))) : Mn P w K mg base B (He.ga K "Roster") "minutes_in" 2 4 (S_min (He.ga K "Watch") (He.ga K "Roster") (He.ga K "CrewError")) := by
  obtain ⟨fd, FF⟩ := c.def_ 2 (d := dM "Roster" "minutes_in" "Roster.minutes_in" 8 1) rfl
  have F := fk_of X G c
  have b := FunD.bindsN (ps := ["self", "name", "first", "last"]) FF fun _ _ _ _ _ _ us hl => match us, hl with | [_, _, _, _], _ => rfl
  have OK := fn_ok (P := P) (w := w) (mg := mg) (base := base) (B := B) (k := 1) (S := S_min (He.ga K "Watch") (He.ga K "Roster") (He.ga K "CrewError")) FF sc_mi (fun E ds μ R XP hl hS => run_min F St (by decide) hS)
  exact ⟨He.cls_ok (c.fact 34 (f := .cls "Roster") rfl), ⟨_, fd, _, rfl, OK, He.meth_ok (c.fact 40 (f := .meth "Roster" "minutes_in") rfl), b⟩⟩
theorem sc_ca : FnScope ["self", "name", "watch", "rows", "starts", "good", "one", "start"] ["self", "name", "watch"] (defScope sCan) := ⟨rfl, rfl, rfl, by decide +kernel, rfl, by decide +kernel, by decide +kernel⟩
theorem ca_of (X : K.In h) (G : h.Ns mainGlobals mg) (c : He.SaysD fa fn K) (St : Sf mg base B (He.codeOf K ("Roster", some "can_take"))) (GM : Mn P w K mg base B (He.ga K "Roster") "minutes_in" 2 4 (S_min (He.ga K "Watch") (He.ga K "Roster") (He.ga K "CrewError"))) : Mn P w K mg base B (He.ga K "Roster") "can_take" 4 3 (S_can (He.ga K "Watch") (He.ga K "Roster") (He.ga K "CrewError")) := by
  obtain ⟨fd, FF⟩ := c.def_ 3 (d := dM "Roster" "can_take" "Roster.can_take" 8 2) rfl
  have F := fk_of X G c
  have b := FunD.bindsN (ps := ["self", "name", "watch"]) FF fun _ _ _ _ _ _ us hl => match us, hl with | [_, _, _], _ => rfl
  have OK := fn_ok (P := P) (w := w) (mg := mg) (base := base) (B := B) (k := 3) (S := S_can (He.ga K "Watch") (He.ga K "Roster") (He.ga K "CrewError")) FF sc_ca (fun E ds μ R XP hl hS => run_can F St GM (by decide) hS)
  exact ⟨He.cls_ok (c.fact 34 (f := .cls "Roster") rfl), ⟨_, fd, _, rfl, OK, He.meth_ok (c.fact 41 (f := .meth "Roster" "can_take") rfl), b⟩⟩
theorem sc_ta : FnScope ["self", "watch", "name", "rows", "names"] ["self", "watch"] (defScope sTake) := ⟨rfl, rfl, rfl, by decide +kernel, rfl, by decide +kernel, by decide +kernel⟩
theorem ta_of (X : K.In h) (G : h.Ns mainGlobals mg) (c : He.SaysD fa fn K) (St : Sf mg base B (He.codeOf K ("Roster", some "take"))) (GC : Mn P w K mg base B (He.ga K "Roster") "can_take" 4 3 (S_can (He.ga K "Watch") (He.ga K "Roster") (He.ga K "CrewError"))) (GW : Mn P w K mg base B (He.ga K "Roster") "whole" 2 2 (S_whole (He.ga K "Watch") (He.ga K "Roster") (He.ga K "CrewError"))) (GA : Mn P w K mg base B (He.ga K "Roster") "all_watches" 3 1 (S_all (He.ga K "Watch") (He.ga K "Roster") PA)) (GS : Gn P w K mg base B "sorted_watches" 2 1 (S_sortw (He.ga K "Watch"))) : Mn P w K mg base B (He.ga K "Roster") "take" 5 2 (S_take (He.ga K "Watch") (He.ga K "Roster") (He.ga K "CrewError") PA) := by
  obtain ⟨fd, FF⟩ := c.def_ 4 (d := dM "Roster" "take" "Roster.take" 8 3) rfl
  have F := fk_of X G c
  have b := FunD.bindsN (ps := ["self", "watch"]) FF fun _ _ _ _ _ _ us hl => match us, hl with | [_, _], _ => rfl
  have OK := fn_ok (P := P) (w := w) (mg := mg) (base := base) (B := B) (k := 4) (S := S_take (He.ga K "Watch") (He.ga K "Roster") (He.ga K "CrewError") PA) FF sc_ta (fun E ds μ R XP hl hS => run_take F St GC GW GA GS (by decide) hS)
  exact ⟨He.cls_ok (c.fact 34 (f := .cls "Roster") rfl), ⟨_, fd, _, rfl, OK, He.meth_ok (c.fact 42 (f := .meth "Roster" "take") rfl), b⟩⟩
theorem sc_wh : FnScope ["self", "name", "one"] ["self", "name"] (defScope sWhole) := ⟨rfl, rfl, rfl, by decide +kernel, rfl, by decide +kernel, by decide +kernel⟩
theorem wh_of (X : K.In h) (G : h.Ns mainGlobals mg) (c : He.SaysD fa fn K) (St : Sf mg base B (He.codeOf K ("Roster", some "whole"))) : Mn P w K mg base B (He.ga K "Roster") "whole" 2 2 (S_whole (He.ga K "Watch") (He.ga K "Roster") (He.ga K "CrewError")) := by
  obtain ⟨fd, FF⟩ := c.def_ 5 (d := dM "Roster" "whole" "Roster.whole" 8 4) rfl
  have F := fk_of X G c
  have b := FunD.bindsN (ps := ["self", "name"]) FF fun _ _ _ _ _ _ us hl => match us, hl with | [_, _], _ => rfl
  have OK := fn_ok (P := P) (w := w) (mg := mg) (base := base) (B := B) (k := 1) (S := S_whole (He.ga K "Watch") (He.ga K "Roster") (He.ga K "CrewError")) FF sc_wh (fun E ds μ R XP hl hS => run_whole F St (by decide) hS)
  exact ⟨He.cls_ok (c.fact 34 (f := .cls "Roster") rfl), ⟨_, fd, _, rfl, OK, He.meth_ok (c.fact 43 (f := .meth "Roster" "whole") rfl), b⟩⟩
theorem sc_al : FnScope ["self", "name", "one"] ["self"] (defScope sAll) := ⟨rfl, rfl, rfl, by decide +kernel, rfl, by decide +kernel, by decide +kernel⟩
theorem al_of (X : K.In h) (G : h.Ns mainGlobals mg) (c : He.SaysD fa fn K) (St : Sn mg base (He.codeOf K ("Roster", some "all_watches")) PA) : Mn P w K mg base B (He.ga K "Roster") "all_watches" 3 1 (S_all (He.ga K "Watch") (He.ga K "Roster") PA) := by
  obtain ⟨fd, FF⟩ := c.def_ 6 (d := dM "Roster" "all_watches" "Roster.all_watches" 8 5) rfl
  have F := fk_of X G c
  have b := FunD.bindsN (ps := ["self"]) FF fun _ _ _ _ _ _ us hl => match us, hl with | [_], _ => rfl
  have OK := fn_ok (P := P) (w := w) (mg := mg) (base := base) (B := B) (k := 2) (S := S_all (He.ga K "Watch") (He.ga K "Roster") PA) FF sc_al (fun E ds μ R XP hl hS => run_all F St (by decide) hS)
  exact ⟨He.cls_ok (c.fact 34 (f := .cls "Roster") rfl), ⟨_, fd, _, rfl, OK, He.meth_ok (c.fact 44 (f := .meth "Roster" "all_watches") rfl), b⟩⟩
theorem sc_so : FnScope ["watches", "table", "one", "first", "name"] ["watches"] (defScope sSortW) := ⟨rfl, rfl, rfl, by decide +kernel, rfl, by decide +kernel, by decide +kernel⟩
theorem so_of (X : K.In h) (G : h.Ns mainGlobals mg) (c : He.SaysD fa fn K) (St : Sf mg base B (He.codeOf K ("sorted_watches", none))) : Gn P w K mg base B "sorted_watches" 2 1 (S_sortw (He.ga K "Watch")) := by
  obtain ⟨fd, FF⟩ := c.def_ 7 (d := dF "sorted_watches" 9) rfl
  have F := fk_of X G c
  have b := FunD.bindsN (ps := ["watches"]) FF fun _ _ _ _ _ _ us hl => match us, hl with | [_], _ => rfl
  have OK := fn_ok (P := P) (w := w) (mg := mg) (base := base) (B := B) (k := 1) (S := S_sortw (He.ga K "Watch")) FF sc_so (fun E ds μ R XP hl hS => run_sortw F St (by decide) hS)
  exact ⟨⟨_, fd, _, rfl, OK, He.glo_ok X G (c.fact 21 (f := .glo "sorted_watches") rfl), FF.kp, b⟩⟩
theorem sc_few : FnScope ["watches", "best", "left", "ends", "rest", "watch", "place", "end", "one"] ["watches"] (defScope sFew) := ⟨rfl, rfl, rfl, by decide +kernel, rfl, by decide +kernel, by decide +kernel⟩
theorem few_of (X : K.In h) (G : h.Ns mainGlobals mg) (c : He.SaysD fa fn K) (GS : Gn P w K mg base B "sorted_watches" 2 1 (S_sortw (He.ga K "Watch"))) : Gn P w K mg base B "fewest_crews" 3 1 (S_few (He.ga K "Watch") (He.ga K "CrewError")) := by
  obtain ⟨fd, FF⟩ := c.def_ 8 (d := dF "fewest_crews" 10) rfl
  have F := fk_of X G c
  have b := FunD.bindsN (ps := ["watches"]) FF fun _ _ _ _ _ _ us hl => match us, hl with | [_], _ => rfl
  have OK := fn_ok (P := P) (w := w) (mg := mg) (base := base) (B := B) (k := 2) (S := S_few (He.ga K "Watch") (He.ga K "CrewError")) FF sc_few (fun E ds μ R XP hl hS => run_few F GS (by decide) hS)
  exact ⟨⟨_, fd, _, rfl, OK, He.glo_ok X G (c.fact 22 (f := .glo "fewest_crews") rfl), FF.kp, b⟩⟩
theorem sc_dice : FnScope ["cell"] ["cell"] (defScope sDice) := ⟨rfl, rfl, rfl, by decide +kernel, rfl, by decide +kernel, by decide +kernel⟩
theorem dice_of (X : K.In h) (G : h.Ns mainGlobals mg) (c : He.SaysD fa fn K)  : Gn P w K mg base B "_law_dice" 1 1 (S_dice) := by
  obtain ⟨fd, FF⟩ := c.def_ 9 (d := dF "_law_dice" 12) rfl
  have F := fk_of X G c
  have b := FunD.bindsN (ps := ["cell"]) FF fun _ _ _ _ _ _ us hl => match us, hl with | [_], _ => rfl
  have OK := fn_ok (P := P) (w := w) (mg := mg) (base := base) (B := B) (k := 0) (S := S_dice) FF sc_dice (fun E ds μ R XP hl hS => run_dice F.free hS)
  exact ⟨⟨_, fd, _, rfl, OK, He.glo_ok X G (c.fact 23 (f := .glo "_law_dice") rfl), FF.kp, b⟩⟩
theorem sc_roll : FnScope ["dice", "many", "found"] ["dice", "many"] (defScope sRoll) := ⟨rfl, rfl, rfl, by decide +kernel, rfl, by decide +kernel, by decide +kernel⟩
theorem roll_of (X : K.In h) (G : h.Ns mainGlobals mg) (c : He.SaysD fa fn K)  : Gn P w K mg base B "_law_roll" 1 2 (S_roll) := by
  obtain ⟨fd, FF⟩ := c.def_ 10 (d := dF "_law_roll" 13) rfl
  have F := fk_of X G c
  have b := FunD.bindsN (ps := ["dice", "many"]) FF fun _ _ _ _ _ _ us hl => match us, hl with | [_, _], _ => rfl
  have OK := fn_ok (P := P) (w := w) (mg := mg) (base := base) (B := B) (k := 0) (S := S_roll) FF sc_roll (fun E ds μ R XP hl hS => run_roll F.free hS)
  exact ⟨⟨_, fd, _, rfl, OK, He.glo_ok X G (c.fact 24 (f := .glo "_law_roll") rfl), FF.kp, b⟩⟩
theorem sc_rounds : FnScope ["script", "most", "cells", "cell"] ["script", "most"] (defScope sRounds) := ⟨rfl, rfl, rfl, by decide +kernel, rfl, by decide +kernel, by decide +kernel⟩
theorem rounds_of (X : K.In h) (G : h.Ns mainGlobals mg) (c : He.SaysD fa fn K) (GD : Gn P w K mg base B "_law_dice" 1 1 S_dice) : Gn P w K mg base B "_law_rounds" 3 2 (S_rounds) := by
  obtain ⟨fd, FF⟩ := c.def_ 11 (d := dF "_law_rounds" 14) rfl
  have F := fk_of X G c
  have b := FunD.bindsN (ps := ["script", "most"]) FF fun _ _ _ _ _ _ us hl => match us, hl with | [_, _], _ => rfl
  have OK := fn_ok (P := P) (w := w) (mg := mg) (base := base) (B := B) (k := 2) (S := S_rounds) FF sc_rounds (fun E ds μ R XP hl hS => run_rounds F.free GD (by decide) hS)
  exact ⟨⟨_, fd, _, rfl, OK, He.glo_ok X G (c.fact 25 (f := .glo "_law_rounds") rfl), FF.kp, b⟩⟩
theorem sc_can : FnScope ["rows", "watch", "most", "one", "start", "row"] ["rows", "watch", "most"] (defScope sLCan) := ⟨rfl, rfl, rfl, by decide +kernel, rfl, by decide +kernel, by decide +kernel⟩
theorem can_of (X : K.In h) (G : h.Ns mainGlobals mg) (c : He.SaysD fa fn K)  : Gn P w K mg base B "_law_can" 1 3 (S_lcan) := by
  obtain ⟨fd, FF⟩ := c.def_ 13 (d := dF "_law_can" 16) rfl
  have F := fk_of X G c
  have b := FunD.bindsN (ps := ["rows", "watch", "most"]) FF fun _ _ _ _ _ _ us hl => match us, hl with | [_, _, _], _ => rfl
  have OK := fn_ok (P := P) (w := w) (mg := mg) (base := base) (B := B) (k := 0) (S := S_lcan) FF sc_can (fun E ds μ R XP hl hS => run_lcan F.free hS)
  exact ⟨⟨_, fd, _, rfl, OK, He.glo_ok X G (c.fact 27 (f := .glo "_law_can") rfl), FF.kp, b⟩⟩
theorem sc_parts : FnScope ["rows", "found", "way", "last", "k", "row"] ["rows"] (defScope sLParts) := ⟨rfl, rfl, rfl, by decide +kernel, rfl, by decide +kernel, by decide +kernel⟩
theorem parts_of (X : K.In h) (G : h.Ns mainGlobals mg) (c : He.SaysD fa fn K) : ∀ n : Nat, n ≤ 6 → Gn P w K mg base B "_law_parts" (n + 1) 1 (S_parts n)
  | 0, _ => by
    obtain ⟨fd, FF⟩ := c.def_ 14 (d := dF "_law_parts" 17) rfl
    have F := fk_of X G c
    have b := FunD.bindsN (ps := ["rows"]) FF fun _ _ _ _ _ _ us hl => match us, hl with | [_], _ => rfl
    have OK := fn_ok (P := P) (w := w) (mg := mg) (base := base) (B := B) (k := 0) (S := S_parts 0) FF sc_parts (fun E ds μ R XP hl hS => run_parts (j := 0) F.free (by decide) (.inl rfl) (Nat.le_refl _) hS)
    exact ⟨⟨_, fd, _, rfl, OK, He.glo_ok X G (c.fact 28 (f := .glo "_law_parts") rfl), FF.kp, b⟩⟩
  | n + 1, hn => by
    have ih := parts_of X G c n (by omega)
    obtain ⟨fd, FF⟩ := c.def_ 14 (d := dF "_law_parts" 17) rfl
    have F := fk_of X G c
    have b := FunD.bindsN (ps := ["rows"]) FF fun _ _ _ _ _ _ us hl => match us, hl with | [_], _ => rfl
    have OK := fn_ok (P := P) (w := w) (mg := mg) (base := base) (B := B) (k := n + 1) (S := S_parts (n + 1)) FF sc_parts (fun E ds μ R XP hl hS => run_parts (j := n + 1) F.free hn (.inr ⟨n, rfl, ih⟩) (Nat.le_refl _) hS)
    exact ⟨⟨_, fd, _, rfl, OK, He.glo_ok X G (c.fact 28 (f := .glo "_law_parts") rfl), FF.kp, b⟩⟩
theorem sc_told : FnScope ["what"] ["what"] (defScope sTold) := ⟨rfl, rfl, rfl, by decide +kernel, rfl, by decide +kernel, by decide +kernel⟩
theorem told_of (X : K.In h) (G : h.Ns mainGlobals mg) (c : He.SaysD fa fn K) : ToldOk K mg "_law_told" "CrewError" (He.ga K "CrewError") := by
  obtain ⟨fd, FF⟩ := c.def_ 12 (d := dF "_law_told" 15) rfl
  have b := FunD.bindsN (ps := ["what"]) FF fun _ _ _ _ _ _ us hl => match us, hl with | [_], _ => rfl
  obtain ⟨oc, od, dV, kV, doc, pm, an, cdv, ct, osl, e, lk, hcd, _, _⟩ := FF.ex
  exact ⟨_, _, _, dV, kV, doc, pm, cdv, ct, oc, an, od, osl, ["what"], "what", "CrewError", _, _, _, _, _, _, _, _, _, fd, e, lk, hcd, He.glo_ok X G (c.fact 26 (f := .glo "_law_told") rfl), FF.kp, b, sc_told, rfl, Or.inl rfl, by decide, by decide, rfl, He.glo_ok X G (c.fact 20 (f := .glo "CrewError") rfl), by decide⟩
theorem sc_law : FnScope nL ["script"] (defScope sLaw) := ⟨rfl, rfl, rfl, by decide +kernel, rfl, by decide +kernel, by decide +kernel⟩
end
end K4


set_option maxRecDepth 100000
set_option maxHeartbeats 4000000
namespace K4
open PySem PySem.Spec PyProof.Rows L2 Dl Sp Lw LamX
def tabs (K : PySem.W.Frag) : List Addr := tfo.map fun p => (He.cT K p).2
def lawT (K : PySem.W.Frag) : Addr := (He.cT K ("law", none)).2
def pA (K : PySem.W.Frag) : Addr := (He.cT K ("Roster", some "all_watches")).2
def mtbs (K : PySem.W.Frag) : List Addr := [lawT K, pA K]
noncomputable def Bs (K : PySem.W.Frag) : Hp := cvT (tabs K) fun _ => none
def lq : Str := (envOfC "law" (defScope sLaw) 0 0 .none).qual ++ "<lambda>"
section
variable {P : Program} {w : World} {K : PySem.W.Frag} {h : Heap} {mg : Str → Option Value} {base : Heap}
theorem bm_of {P : Addr} (x : base.BuiltinsAt mg P) : Gx.Bm base mg := by
  obtain ⟨bm, o, a1, a2, a3, _, a5, a6, a7, a8⟩ := x
  exact ⟨bm, o, a1, a2, a3, a5, a6, a7, a8⟩
theorem sf_of {p : He.Defn} (t : TabB base mg (He.cT K p).1 (He.cT K p).2) (hp : (He.cT K p).2 ∈ tabs K) : Sf mg base (Bs K) (He.codeOf K p) := ⟨⟨_, t.code, cvT_in hp⟩, bm_of t.bm⟩
theorem sn_of {p : He.Defn} (t : TabB base mg (He.cT K p).1 (He.cT K p).2) : Sn mg base (He.codeOf K p) (He.cT K p).2 := ⟨t.code, bm_of t.bm⟩
theorem tb_in {p : He.Defn} (h : p ∈ tfo) : (He.cT K p).2 ∈ tabs K := List.mem_map.mpr ⟨p, h, rfl⟩
theorem fl_of (X : K.In h) (G : h.Ns mainGlobals mg) (c : He.SaysD fa fn K) (hd : ∀ p ∈ tf, TabB base mg (He.cT K p).1 (He.cT K p).2) : Fl P w K mg base (Bs K) (He.ga K "Watch") (He.ga K "Roster") (He.ga K "CrewError") (pA K) := by
  have s1 := sf_of (hd ("Roster", some "minutes_in") (by simp [tf])) (tb_in (by simp [tfo]))
  have s2 := sf_of (hd ("Roster", some "can_take") (by simp [tf])) (tb_in (by simp [tfo]))
  have s3 := sf_of (hd ("Roster", some "take") (by simp [tf])) (tb_in (by simp [tfo]))
  have s4 := sf_of (hd ("Roster", some "whole") (by simp [tf])) (tb_in (by simp [tfo]))
  have s5 := sf_of (hd ("sorted_watches", none) (by simp [tf])) (tb_in (by simp [tfo]))
  have n1 : Sn mg base (He.codeOf K ("Roster", some "all_watches")) (pA K) := sn_of (hd ("Roster", some "all_watches") (by simp [tf]))
  have mi := mi_of (P := P) (w := w) (base := base) (B := Bs K) X G c s1
  have ca := ca_of (P := P) (w := w) (base := base) (B := Bs K) X G c s2 mi
  have wh := wh_of (P := P) (w := w) (base := base) (B := Bs K) X G c s4
  have al := al_of (P := P) (w := w) (base := base) (B := Bs K) X G c n1
  have so := so_of (P := P) (w := w) (base := base) (B := Bs K) X G c s5
  have ta := ta_of (P := P) (w := w) (base := base) (B := Bs K) X G c s3 ca wh al so
  exact ⟨fk_of X G c, rounds_of X G c (dice_of X G c), roll_of X G c, can_of X G c, parts_of X G c 5 (by decide), cw_of X G c, cr_of X G c, mi, ca, wh, al, ta, so, few_of X G c so⟩
theorem law_ok (X : K.In h) (G : h.Ns mainGlobals mg) (c : He.SaysD fa fn K) (hd : ∀ p ∈ tf, TabB base mg (He.cT K p).1 (He.cT K p).2) {fd : FuncData} (FF : FunD K "law" "law" (defArgs sLaw) (defBody sLaw) (defScope sLaw) [] [] (He.fAd K ("law", none)) fd) :
    FnOk P w K mg base (L2.CX P w) 9 (He.fAd K ("law", none)) fd ["script"] (spD K (Bs K) (S_law (pA K) (lawT K) lq) 1) :=
  fn_ok (P := P) (w := w) (mg := mg) (base := base) (B := Bs K) (k := 8) (S := S_law (pA K) (lawT K) lq) FF sc_law fun E ds μ R XP hl hS =>
    run_law (fl_of X G c hd) (PP := lawT K) ⟨hd ("law", none) (by simp [tf]), told_of X G c, He.exm_ok (c.fact 48 (f := .exm "CrewError" "CrewError" true) rfl)⟩ (by decide) hS
theorem entry {H : Hp} {a : Addr} {ns : List Int} (hT : ∀ b ∈ tabs K, H b = some (.tbl #[])) (hL : ∀ b ∈ mtbs K, H b = some (.tbl #[])) (hne : ∀ b ∈ mtbs K, b ∉ tabs K) (hnd : (mtbs K).Nodup) (hS : SqL K H a (ns.map V.int)) :
    spD K (Bs K) (S_law (pA K) (lawT K) lq) 1 [.ref a] (cvT (tabs K) H) (fun v H' => (∀ b ∈ tabs K, H' b = some (Gx.TbO b)) ∧ ∀ H'' : Hp, v = .bl true) fun _ _ _ => False := by
  have lC : ∀ b, b ∉ mtbs K → (fun b => if b ∈ mtbs K then none else cvT (tabs K) H b) b = cvT (tabs K) H b := fun b hb => if_neg hb
  have lI : ∀ b, b ∈ tabs K → b ∉ mtbs K := fun b hb hm => hne b hm hb
  refine ⟨rfl, fun b => if b ∈ mtbs K then none else cvT (tabs K) H b, [.lsq (ns.map D.int)], [(pA K, .gt gAll), (lawT K, .tbl lq [])], fun d _ => d = .bl true, NoX, fun b o e => ?_, fun b o e => ?_, .cons (.lsq ?_ (DatAll.ofInts ns)) .nil, ⟨?_, fun p hp => ?_⟩, ⟨ns, rfl, rfl, fun _ => rfl⟩, fun v d μ' C' H' g s m r p => ⟨fun b hb => ?_, fun _ => ?_⟩, fun _ _ _ _ _ _ _ _ z => z⟩
  · by_cases hb : b ∈ tabs K
    · rw [lC b (lI b hb), cvT_in hb]
      rw [show Bs K b = some (Gx.TbO b) from cvT_in hb] at e
      exact e
    · rw [show Bs K b = none from cvT_out hb] at e
      cases e
  · have e : (if b ∈ mtbs K then none else cvT (tabs K) H b) = some o := e
    by_cases hb : b ∈ mtbs K
    · rw [if_pos hb] at e
      cases e
    · rw [if_neg hb] at e
      exact e
  · have tr : ∀ {u : HO}, Rd H a u → (∀ ps, u ≠ .tbl ps) → Rd (fun b => if b ∈ mtbs K then none else cvT (tabs K) H b) a u := fun {u} hr hn => by
      have n1 : a ∉ mtbs K := fun z => by
        rcases hr with q | ⟨o, q⟩
        · rw [hL a z] at q; exact hn _ (Option.some.inj q).symm
        · rw [hL a z] at q; cases q
      have n2 : a ∉ tabs K := fun z => by
        rcases hr with q | ⟨o, q⟩
        · rw [hT a z] at q; exact hn _ (Option.some.inj q).symm
        · rw [hT a z] at q; cases q
      have e : (fun b => if b ∈ mtbs K then none else cvT (tabs K) H b) a = H a := by rw [lC a n1, cvT_out n2]
      rcases hr with q | ⟨o, q⟩
      · exact .inl (e.trans q)
      · exact .inr ⟨o, e.trans q⟩
    rcases hS with q | q
    · exact .inl (tr q fun ps z => by cases z)
    · exact .inr q
  · show [pA K, lawT K].Nodup
    have hp : [pA K, lawT K].Perm (mtbs K) := List.Perm.swap _ _ _
    exact hp.nodup_iff.mpr hnd
  · have hin : p.1 ∈ mtbs K := by
      simp only [List.cons_append, List.nil_append, List.mem_cons, List.not_mem_nil, or_false] at hp
      rcases hp with rfl | rfl <;> simp [mtbs]
    have hH : cvT (tabs K) H p.1 = some (.tbl #[]) := by rw [cvT_out (hne _ hin)]; exact hL _ hin
    refine ⟨if_pos hin, .tbl #[], hH, ?_⟩
    simp only [List.cons_append, List.nil_append, List.mem_cons, List.not_mem_nil, or_false] at hp
    have nc : ∀ (pos : Pos) (cv : Value), codeAmong pos [] ≠ some cv := fun pos cv z => by simp [codeAmong] at z
    rcases hp with rfl | rfl
    · exact ⟨#[], rfl, True.intro, fun cv hc => (nc _ cv hc).elim⟩
    · exact ⟨#[], rfl, True.intro, fun pos cv hc => (nc pos cv hc).elim, fun d hd => by cases hd⟩
  · exact s _ _ (g.core _ _ ((lC b (lI b hb)).trans (cvT_in hb)))
  · subst p
    cases r
    rfl
end
end K4

set_option maxRecDepth 100000
set_option maxHeartbeats 0
namespace K4
open PySem PySem.Spec PyProof.Rows L2 Dl Sp Lw LamX
theorem lawAt {w : World} {mg : Str → Option Value} {fa' : Addr} {h : Heap} {K : PySem.W.Frag} (X : K.In h) (G : h.Ns mainGlobals mg) (hfa : mg ("law" : Str) = some (.ref fa')) (c : He.SaysX fa fn [] tf exD w h K) :
    LawAtS PySem.Challenge.rw_tidestack_k04_watches_and_rests w K (L2.CX PySem.Challenge.rw_tidestack_k04_watches_and_rests.prog w) 9 63 "script" mg fa' h := by
  have cd := c.t.d
  obtain ⟨fd, FF⟩ := cd.def_ 15 (d := dF "law" 18) rfl
  have e := hfa.symm.trans (He.glo_ok X G (cd.fact 29 (f := .glo "law") rfl))
  cases e
  have b := FunD.bindsA (ps := ["script"]) FF fun _ _ _ _ _ _ us hl => match us, hl with | [_], _ => rfl
  have m : exD K = true := c.more
  unfold exD at m
  rw [Bool.and_eq_true, decide_eq_true_eq, Bool.not_eq_true'] at m
  have hnd : (mtbs K).Nodup := m.1
  have hne : ∀ b ∈ mtbs K, b ∉ tabs K := fun b hb z => by
    obtain ⟨p, hp, e⟩ := List.mem_map.mp z
    have hb : b ∈ tfm.map fun p => (He.cT K p).2 := hb
    obtain ⟨q, hq, e2⟩ := List.mem_map.mp hb
    have h1 := List.any_eq_false.mp m.2 p hp
    refine h1 (List.any_eq_true.mpr ⟨q, hq, decide_eq_true ?_⟩)
    rw [e2]
    exact e
  have sub : ∀ {p : He.Defn}, p ∈ tfo → p ∈ tf := fun hp => (show tfo ++ tfm = tf from rfl) ▸ List.mem_append_left _ hp
  have subm : ∀ {p : He.Defn}, p ∈ tfm → p ∈ tf := fun hp => (show tfo ++ tfm = tf from rfl) ▸ List.mem_append_right _ hp
  have mem : ∀ {p : He.Defn}, p ∈ tf → He.cT K p ∈ tf.map (He.cT K) := fun hp => List.mem_map.mpr ⟨_, hp, rfl⟩
  refine ⟨fd, tf.map (He.cT K), fun vs H Q E => (∀ b ∈ tabs K, H b = some (.tbl #[])) ∧ spD K (Bs K) (S_law (pA K) (lawT K) lq) 1 vs (cvT (tabs K) H) (fun v H' => (∀ b ∈ tabs K, H' b = some (Gx.TbO b)) ∧ ∀ H'', Q v H'') fun _ _ _ => False, fun p hp => ?_, fun p hp => ?_, fun p hp => ?_, fun s v => b s [v] rfl, fun H a ns _ _ hH hS => ?_, fun base _ _ hB => ?_⟩
  · obtain ⟨q, hq, rfl⟩ := List.mem_map.mp hp
    exact c.empty q hq
  · obtain ⟨q, hq, rfl⟩ := List.mem_map.mp hp
    exact c.out q hq
  · obtain ⟨q, hq, rfl⟩ := List.mem_map.mp hp
    exact PySem.W.codeHd_of_K X (c.hd q hq)
  · have hT : ∀ b ∈ tabs K, H b = some (.tbl #[]) := fun b hb => by
      obtain ⟨p, hp, rfl⟩ := List.mem_map.mp hb
      exact hH _ (mem (sub hp))
    have hL : ∀ b ∈ mtbs K, H b = some (.tbl #[]) := fun b hb => by
      have hb : b ∈ tfm.map fun p => (He.cT K p).2 := hb
      obtain ⟨p, hp, rfl⟩ := List.mem_map.mp hb
      exact hH _ (mem (subm hp))
    exact ⟨hT, entry hT hL hne hnd hS⟩
  · exact fn_conv (law_ok X G cd (fun p hp => hB _ (mem hp)) FF) (tabs K)
end K4
open PySem PySem.W PySem.Calls PyProof.Rows
theorem PySem.Challenge.cw_tidestack_k04_watches_and_rests_holds : PySem.Challenge.rw_tidestack_k04_watches_and_rests.Holds := by
  w_on; o_law
  refine HandSHeadRun.head_any (r := OpenLaw.row PySem.Challenge.rw_tidestack_k04_watches_and_rests) (q := view (OpenLaw.row PySem.Challenge.rw_tidestack_k04_watches_and_rests).prog [18]) (H := K4.hk) (ob := K4.ob) (M := 4000) (loose := K4.loose) (d := HandSHeadRun.topDef (OpenLaw.row PySem.Challenge.rw_tidestack_k04_watches_and_rests).prog 18) (kwd := []) K4.ob_eq
    (by kernel_rfl) (fun s => by kernel_rfl) K4.run (by kernel_rfl) (by kernel_rfl) (by kernel_rfl) (by rfl) (by first | assumption | decide +kernel) (by decide +kernel) ⟨rfl, rfl, rfl, rfl, rfl, by decide +kernel⟩ ?hw ?hc
  case hw => w_witness2
  case hc =>
    refine LamX.walk_ofTsE (l := PySem.Challenge.rw_tidestack_k04_watches_and_rests) (n := 63) (k := 9) (x := "script") (CX := fun w => L2.CX PySem.Challenge.rw_tidestack_k04_watches_and_rests.prog w) rfl (by decide) (by kernel_rfl) ⟨rfl, by decide, by decide⟩ ?F (fun w H s e s' z => by obtain ⟨_, _, _, _, _, _, _, _, _, _, _, _, z⟩ := z; exact z)
    intro w mg fa h Y G hmg0
    obtain ⟨K, KX, c⟩ := Y
    have hmg : mg ("law" : PySem.Str) = some (.ref fa) := by
      have e : (HandSHeadRun.topDef (OpenLaw.row PySem.Challenge.rw_tidestack_k04_watches_and_rests).prog 18).name = ("law" : PySem.Str) := by kernel_rfl
      rw [← e]
      exact hmg0
    exact ⟨K, KX, K4.lawAt KX G hmg c⟩

