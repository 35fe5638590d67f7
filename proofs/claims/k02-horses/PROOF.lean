import PyProof.Rows.All
import Wide.All
import OpenK.AllK
import Wide.FinOn
import HandS.ForMost
import HandS.ForExc
import HandS.Lambda
import HandS.EndTab
import HandS.GenList
import PyProof.TupleOfGen
import KE.SortData
import KE.DataMinMax
import HandS.Small
import HandS.Flow
import HandS.Wide
import HandS.DictTup
import HandS.DictComp
import HandS.TupAny
import HandS.SortRule
import HandS.FStr
import HandS.Deep
import HandS.Text
import HandS.TupLen
import HandS.WordsDict
import HandS.Conv
import HandS.TryOnly
import HandS.ExcOwn
import HandS.WordsExc
import HandS.CallRecv
import HandS.SetFor
import HandS.BoundList
import HandS.GenCall
import HandS.Ends
import KE.KStateDown
import HandS.Defaults
import HandS.Words
import HandS.Head0
import HandS.Head1
import HandS.Head2
import HandS.HeadEnd
import HandS.HeadHook1
import HandS.HeadHook2
import HandS.HeadHook3
import HandS.HeadHook4
import HandS.HeadWalk
import PyProof.ExcBaseAll.ValueError
import PySem.Challenge.RW_coachstack_k02_horses_that_go_in_turn
section
set_option Elab.async false
set_option linter.all false
set_option maxRecDepth 100000
set_option maxHeartbeats 2000000
/-! generator expressions that are eaten by a built-in: the frame, the loop -/
namespace GXP
open PySem PySem.Spec PyProof.Rows L2 GenW

/-- the names of the generator expression: as a comprehension's block, no cells, the walked thing at «.0» -/
structure GOk (N : List Str) (sc scope : Scope) (own : List (Str × Nat)) : Prop where
  blk : BlkOk N sc scope own
  co : scope.isCoroutine = false
  cell : ∀ y ∈ scope.names, y.2 ≠ .cell
  dot : scope.names.lookup (".0" : Str) = some NameKind.local

/-- the generator's frame, entered at s -/
def gxCx (X : Cx) (A : Around) (s : Shared) (H : Hp) (cenv : Env) (fp : List Addr) (pn : List (Addr × Obj)) : Cx where
  prog := X.prog
  w := X.w
  K := X.K
  mg := X.mg
  base := X.base
  A := A.deeper cenv
  N := X.N
  s_0 := s
  H_0 := H
  env := cenv
  outer := X.stack
  stack := cenv :: X.stack
  ex := fp
  fn := fun _ => false
  calm := true
  pn := pn
  xe := fun _ _ => False

theorem over_gx {A : Around} {elt tg iter : Expr} {ifs : List Expr} {scope : Scope} {pos : Pos} {it acc : Value} {env : Env} :
    A.over (.compLoop (.GeneratorExp elt [⟨tg, iter, ifs, 0⟩] scope pos) 0 it acc env) [] = A.deeper env := by
  first
    | rfl
    | (obtain ⟨hd, d, fr, gs, u⟩ := A; simp [Around.over, Around.deeper, marksOver, frameCount, unitsOf, envsOf, guardsOf, pushEnvs, pushGuards, Code.envs, Code.env?, Code.isFrame, Code.guards, Code.isGuard, Code.weight, Code.frames, Code.isCreation, Code.isCaller, Code.cUnits])
theorem over_gx0 {A : Around} {elt tg iter : Expr} {ifs : List Expr} {scope : Scope} {pos : Pos} {it acc : Value} {env : Env} :
    A.over (.compStart (.GeneratorExp elt [⟨tg, iter, ifs, 0⟩] scope pos) 0 it acc env) [] = A.deeper env := by
  first
    | rfl
    | (obtain ⟨hd, d, fr, gs, u⟩ := A; simp [Around.over, Around.deeper, marksOver, frameCount, unitsOf, envsOf, guardsOf, pushEnvs, pushGuards, Code.envs, Code.env?, Code.isFrame, Code.guards, Code.isGuard, Code.weight, Code.frames, Code.isCreation, Code.isCaller, Code.cUnits])

section
variable {X : Cx} {pins : List (Addr × Obj)} {σ : L2.St} {H : Hp} {s : Shared}
/-- the frame has been made in the state s, whose iterator's objects stand at fp; s5: the state when the generator is woken first -/
theorem gx_start (hNd : X.N.Nodup) {scope : Scope} {own : List (Str × Nat)} {fp : List Addr} {A : Around} {code itv : Value} {pn pp : List (Addr × Obj)} {s5 : Shared} (I : Inv X pins σ H s) (ok : GOk X.N X.env.scope scope own) (hfp : ∀ b ∈ fp, FpOk X pins H b ∧ b < s.heap.objs.size)
    (hd : A.handled = none) (hfr : A.frames = some X.stack) (hns : s5.heap.Ns s.heap.objs.size fun y => if y = (".0" : Str) then some itv else none) (kp : ∀ b o, s.heap.get? b = some o → s5.heap.get? b = some o)
    (hos : s5.os = s.os) (hba : AllBare s5.gens) (hpin : ∀ p ∈ pn ++ pp, s5.heap.get? p.1 = some p.2 ∧ s.heap.objs.size < p.1 ∧ ∀ v, p.2.data ≠ .cell v) :
    Inv (gxCx X A s H (genEnv scope (cloFrom X.env.cells scope.names []) s.heap.objs.size code builtinsNs X.env) fp pn) pp (wipe σ (own.map (·.2))) H s5 := by
  have hfree : ∀ y ∈ scope.names, y.2 = .free → ∃ c, X.env.cells.lookup y.1 = some c := fun y hy e => by
    rcases ok.blk.free y hy e with k | k
    · exact I.ok.has _ (.inl k)
    · exact I.ok.has _ (.inr k)
  have cm : ∀ {y c}, (cloFrom X.env.cells scope.names []).lookup y = some c → X.env.cells.lookup y = some c := fun {y c} e => by
    rcases cloFrom_mem (PySem.mem_of_lookup e) with hm | ⟨h1, h2⟩
    · cases hm
    · obtain ⟨c1, hc⟩ := hfree _ h1 rfl
      have hc : X.env.cells.lookup y = some c1 := hc
      have e2 : c = c1 := by rw [h2, hc] <;> rfl
      rw [e2]; exact hc
  have look : ∀ {y}, scope.names.lookup y = some .free → ∃ c, (cloFrom X.env.cells scope.names []).lookup y = some c := fun {y} hl =>
    mem_lookup (cloFrom_has (cells := X.env.cells) (acc := []) (PySem.mem_of_lookup hl))
  have clt : ∀ {y c}, X.env.cells.lookup y = some c → c < s.heap.objs.size := fun {y c} e => by
    obtain ⟨v, z⟩ := I.cell y c e
    exact z.lt
  obtain ⟨hh, g5, d5, t5, o5⟩ := s5
  have e5 : o5 = s.os := hos
  subst e5
  refine ⟨⟨I.ok.mod, ok.blk.kind, I.ok.glob, rfl, Nat.le_refl _, fun y z c e1 e2 => I.ok.inj y z c (cm e1) (cm e2), fun y hy => ?_, fun y c z _ => ?_, fun _ => hd, Around.frames_deeper hfr, .inr ⟨rfl, rfl⟩, fun b hb => ⟨?_, fun y c e z => ?_⟩, I.bs, Nat.le_trans I.ok.bsz I.sz, fun b o e hb => ?_, fun b hb z => ?_, I.stack, I.stkFree⟩,
    rfl, hba, Un.kept kp, ⟨_, hns, fun i y v e1 e2 e3 => ?_⟩, fun y c e => ?_, I.hok.fresh (Nat.le_refl _), fun y c e => I.freeC y c (cm e), fun p hp => ?_, I.hok.kept kp, by show (wipe σ _).length = _; rw [wipe_length]; exact I.len⟩
  · have hy : scope.names.lookup y = some .cell ∨ scope.names.lookup y = some .free := hy
    rcases hy with hy | hy
    · exact absurd rfl (ok.cell _ (PySem.mem_of_lookup hy))
    · exact look hy
  · have z : false = true := z
    cases z
  · exact Nat.ne_of_lt (hfp b hb).2
  · exact (hfp b hb).1.2.2.2.2.1 y c (cm e) z
  · rcases (hfp b hb).1.2.2.2.1 with z | z
    · exact I.ok.noex b o e z
    · exact absurd (Nat.lt_of_lt_of_le (Heap.lt_size e) (Nat.le_trans I.ok.bsz z)) (Nat.lt_irrefl _)
  · have z : b ∈ frs X.stack := z
    rcases List.mem_cons.mp (I.stkSub b z) with z | z
    · exact (hfp b hb).1.2.1 z
    · exact (hfp b hb).1.2.2.1 z
  · obtain ⟨e2, ni⟩ := wipe_some e2
    have e3 : Vis scope y := e3
    have hN : X.N[i]? = some y := e1
    have own_ : scope.names.lookup y = some .local → False := fun k => by
      rcases ok.blk.own (y, .local) (PySem.mem_of_lookup k) (.inl rfl) with z | z
      · obtain ⟨p, hp, ep⟩ := List.mem_map.mp z
        have q := ok.blk.ix p hp
        have ep : p.1 = y := ep
        rw [ep] at q
        -- the same place: N has y at p.2 and at i
        exact ni (List.mem_map.mpr ⟨p, hp, nodup_ix hNd q hN⟩)
      · exact z (List.mem_of_getElem? hN)
    rcases e3 with k | k | k
    · exact (own_ k).elim
    · exact absurd rfl (ok.cell _ (PySem.mem_of_lookup k))
    · obtain ⟨m, hn, hl⟩ := I.loc
      have hvis : Vis X.env.scope y := (ok.blk.free _ (PySem.mem_of_lookup k) rfl).elim (fun k => .inr (.inl k)) (fun k => .inr (.inr k))
      obtain ⟨w', r, q⟩ := hl i y v e1 e2 hvis
      obtain ⟨c2, h2⟩ := look k
      refine ⟨w', r, .inr ⟨.inr k, c2, h2, ?_⟩⟩
      have c1 := cm h2
      rcases q with ⟨k', _⟩ | ⟨_, c3, e', z⟩
      · have k' : X.env.scope.names.lookup y = some .local := k'
        rcases ok.blk.free _ (PySem.mem_of_lookup k) rfl with k2 | k2 <;> rw [show X.env.scope.names.lookup y = _ from k2] at k' <;> cases k'
      · rw [c1] at e'
        cases e'
        obtain ⟨o, ho, hdd⟩ := z
        exact ⟨o, kp _ _ ho, hdd⟩
  · obtain ⟨v, o, ho, hdd⟩ := I.cell y c (cm e)
    exact ⟨v, o, kp _ _ ho, hdd⟩
  · obtain ⟨q1, q2, q3⟩ := hpin p hp
    exact ⟨q1, I.hok.fresh (Nat.le_of_lt q2), Nat.ne_of_gt q2, fun z => by
      have z : p.1 ∈ frs X.stack := z
      rcases List.mem_cons.mp (I.stkSub _ z) with z | z
      · exact absurd (Nat.lt_of_lt_of_le (z ▸ I.lt) (Nat.le_of_lt q2)) (Nat.lt_irrefl _)
      · exact I.nofs (Nat.le_of_lt q2) z, q3⟩
end
end GXP

end
section
set_option Elab.async false
set_option linter.all false
set_option maxRecDepth 100000
set_option maxHeartbeats 2000000
/-! generator expressions: the loop under the protocol -/
namespace GXP
open PySem PySem.Spec PyProof.Rows L2 GenW

/-- the consumer's own objects stand at SA; CS: what they are when out has come -/
abbrev CSt (α : Type) := α → List (Addr × Obj) → Prop
/-- while the generator sleeps its consumer changes its own objects; all else is kept -/
structure SlX {α : Type} (SA : List Addr) (CS : CSt α) (out : α) (s s' : Shared) : Prop where
  os : s'.os = s.os
  bare : AllBare s'.gens
  keep : ∀ b o, b ∉ SA → s.heap.get? b = some o → s'.heap.get? b = some o
  own : ∃ cp : List (Addr × Obj), cp.map (·.1) = SA ∧ CS out cp ∧ ∀ p ∈ cp, s'.heap.get? p.1 = some p.2 ∧ ∀ v, p.2.data ≠ .cell v
abbrev Itm (α : Type) := α → V → Hp → (α → Prop) → Prop
def YX {α : Type} (sz : α → Nat) (G : Cx) (SA : List Addr) (CS : CSt α) (item : Itm α) : Protocol := fun n s₀ v s1 kap =>
  ∃ (out : α) (x : V) (H' : Hp) (σ' : L2.St) (pn' cp : List (Addr × Obj)) (Nc : α → Prop), n + 1 + sz out = sizeLine ∧ RelV x v ∧ Inv G (cp ++ pn') σ' H' s1 ∧ cp.map (·.1) = SA ∧ CS out cp ∧ (∀ p ∈ cp, s₀.heap.get? p.1 = some p.2) ∧ item out x H' Nc ∧
    (∀ out', sz out' = sz out + 1 → Nc out' → ∀ s', SlX SA CS out' s1 s' → kap (.send .none) s')
def FX {α : Type} (sz : α → Nat) (G : Cx) (SA : List Addr) (CS : CSt α) (fin : α → Hp → Prop) : Nat → Shared → Shared → Prop := fun n s₀ s1 =>
  ∃ (out : α) (H' : Hp) (σ' : L2.St) (pn' cp : List (Addr × Obj)), n + sz out = sizeLine ∧ Inv G (cp ++ pn') σ' H' s1 ∧ cp.map (·.1) = SA ∧ CS out cp ∧ (∀ p ∈ cp, s₀.heap.get? p.1 = some p.2) ∧ fin out H'
def RX {α : Type} (sz : α → Nat) (G : Cx) (SA : List Addr) (CS : CSt α) (fin : α → Hp → Prop) : GenEnd := fun n s₀ r s1 =>
  ((r = .ok (.ret .none) ∨ r = .ok .next) ∧ FX sz G SA CS fin n s₀ s1) ∨ ∃ e, r = .error e ∧ (False : Prop)

/-- the consumer's objects: younger than the entry, none of the frame's, none of the iterator's -/
structure ApX (G : Cx) (SA : List Addr) : Prop where
  young : ∀ b ∈ SA, G.s_0.heap.objs.size ≤ b ∧ b ≠ G.env.locals ∧ (∀ x c, G.env.cells.lookup x = some c → c ≠ b) ∧ b ∉ G.ex
  pn : ∀ p ∈ G.pn, p.1 ∉ SA ∧ p.1 ∉ G.ex

theorem woken {α : Type} {G : Cx} {SA : List Addr} {CS : CSt α} {out : α} {cp pn' : List (Addr × Obj)} {σ : L2.St} {H : Hp} {s s' : Shared} (ap : ApX G SA) (hcp : cp.map (·.1) = SA) (I : Inv G (cp ++ pn') σ H s) (z : SlX SA CS out s s') :
    ∃ cp' : List (Addr × Obj), cp'.map (·.1) = SA ∧ CS out cp' ∧ Inv G cp' σ H s' ∧ ∀ b o, b ∉ SA → s.heap.get? b = some o → s'.heap.get? b = some o := by
  obtain ⟨z1, z2, z3, cp', z4, z5, z6⟩ := z
  have old : ∀ b ∈ SA, H b = none ∧ b ∉ G.fs := fun b hb => by
    rw [← hcp] at hb
    obtain ⟨p, hp, e⟩ := List.mem_map.mp hb
    obtain ⟨_, h2, _, h4, _⟩ := I.pin p (List.mem_append_right _ (List.mem_append_left _ hp))
    rw [← e]; exact ⟨h2, h4⟩
  have I0 : Inv G [] σ H s := I.pins_of fun p hp => absurd hp (by simp)
  have nt : ∀ b u, H b = some u → b ∉ SA := fun b u q hb => by rw [(old b hb).1] at q; cases q
  have nL : G.env.locals ∉ SA := fun hb => (ap.young _ hb).2.1 rfl
  obtain ⟨hh, g, d, t, o⟩ := s'
  have ho : o = s.os := z1
  subst ho
  have J : Inv G [] σ H { s with heap := hh, gens := g, drawn := d, toks := t } := by
    refine I0.step (g' := g) (t' := t) (d' := d) (ch := SA) (fun b hb => ?_)
      (fun b ob _ _ hc q _ => z3 b ob hc q) (fun b ob _ _ hc q _ => ⟨ob.slots, z3 b ob hc q⟩) (fun _ _ _ _ n => n) (fun b ob hc q => ⟨ob, z3 b ob hc q⟩)
      (fun _ _ q => q) (fun _ _ _ q => q) (fun b ps q => ⟨#[], by rw [q]; simp⟩) (fun m hm => ?_) (fun b u q => ?_) z2
    · obtain ⟨y1, y2, y3, y4⟩ := ap.young b hb
      refine ⟨.inr y1, y2, y3, fun p hp e => ?_⟩
      rw [List.append_nil] at hp
      exact (ap.pn p hp).1 (e ▸ hb)
    · obtain ⟨ob, es, ep, ho, r⟩ := hm
      exact ⟨ob, es, ep, z3 _ ob nL ho, r⟩
    · refine (I0.hok b u q).stay (fun c v hc y => z3 c v ?_ y) (fun _ y => y) fun _ _ y => y
      rcases hc with y | y
      · rw [y]; exact nt b u q
      · exact nt c _ y
  refine ⟨cp', z4, z5, J.pins_of fun p hp => ?_, z3⟩
  have hS : p.1 ∈ SA := by rw [← z4]; exact List.mem_map.mpr ⟨p, hp, rfl⟩
  exact ⟨(z6 p hp).1, (old _ hS).1, (ap.young _ hS).2.1, (old _ hS).2, (z6 p hp).2⟩

section
variable {G : Cx} {A : Around} {elt tg iter : Expr} {ifs : List Expr} {scope : Scope} {pos : Pos} {it : Addr} {SA : List Addr} {α : Type} {sz : α → Nat} {CS : CSt α} {item : Itm α} {fin : α → Hp → Prop}
/-- THE LOOP -/
theorem seg_gx {fp : List Addr} {tn : Nat → Heap → Prop} {J : It} {g : TG} {tt : TT} {te : TE} {vs : List Nat} {σ : L2.St} (hA : G.A = A.deeper G.env) (hc : G.calm = true) (hcal : A.handled = none) (hex : G.ex = fp) (ap : ApX G SA) (hxe : G.xe = fun _ _ => False) (hco : G.env.scope.isCoroutine = false)
    (T : Turn G.prog G.w G.K tg J fp it tn) (pg : PG G tg g) (pt : PTs G ifs tt) (pe : PE G elt te)
    (W : Nat → Nat → α → Hp → Prop)
    (turn : ∀ i m out H, W i m out H → (J.stop i H ∧ fin out H) ∨ (J.go i H ∧ ∃ Nx : α → Hp → Prop, (∀ out' H', Nx out' H' → ∃ m', m' < m ∧ W (i + 1) m' out' H') ∧ ∀ x H', J.yld i H x H' → g x (wipe σ vs) H' fun σ2 H2 => wipe σ2 vs = wipe σ vs ∧
      tt σ2 H2 fun b H3 => if b = true then te σ2 H3 fun y H4 => sz out < sizeLine ∧ item out y H4 fun out' => Nx out' H4 else Nx out H3)) :
    ∀ (m n i : Nat) (out : α) (s₀ s : Shared) (H : Hp) (cp : List (Addr × Obj)), n + sz out = sizeLine → W i m out H → Inv G cp (wipe σ vs) H s → cp.map (·.1) = SA → CS out cp → (∀ p ∈ cp, s₀.heap.get? p.1 = some p.2) → tn i s.heap → (∀ b ∈ fp, H b = none) →
      Seg (model G.prog G.w) A (RX sz G SA CS fin) (YX sz G SA CS item) n s₀ (.compLoop (.GeneratorExp elt [⟨tg, iter, ifs, 0⟩] scope pos) 0 (.ref it) .none G.env)
        ((model G.prog G.w).den (.compLoop (.GeneratorExp elt [⟨tg, iter, ifs, 0⟩] scope pos) 0 (.ref it) .none G.env)) [] s := by
  have ov : A.over (.compLoop (.GeneratorExp elt [⟨tg, iter, ifs, 0⟩] scope pos) 0 (.ref it) .none G.env) [] = G.A := over_gx.trans hA.symm
  have stat : ∀ {σ' : L2.St} {H' : Hp} {s' : Shared} {cp : List (Addr × Obj)}, cp.map (·.1) = SA → Inv G cp σ' H' s' → (∀ b ∈ fp, H' b = none) → ∀ b ∈ fp, FpOk G cp H' b := fun {σ' H' s' cp} hcp I' hn b hb => by
    have hb' : b ∈ G.ex := by rw [hex]; exact hb
    refine ⟨hn b hb, (I'.ok.exf b hb').1, I'.ok.exfs b hb', .inl hb', fun x c e => (I'.ok.exf b hb').2 x c e, fun p hp e => ?_⟩
    rcases List.mem_append.mp hp with z | z
    · exact (ap.pn p z).2 (e ▸ hb')
    · have hS : p.1 ∈ SA := by rw [← hcp]; exact List.mem_map.mpr ⟨p, z, rfl⟩
      exact (ap.young _ hS).2.2.2 (e ▸ hb')
  have fl : ∀ {α : Type} {t : Sem α} {Q Q' : α → Shared → Prop} {E : Value → Shared → Prop} {s : Shared}, wpAny (model G.prog G.w) G.A t Q G.xe s → (∀ a s, Q a s → Q' a s) → wpAny (model G.prog G.w) G.A t Q' E s := fun h hQ => wpAny_mono h hQ fun _ _ z => by
    rw [hxe] at z; exact z.elim
  intro m
  induction m using Nat.strongRecOn with
  | ind m ih =>
    intro n i out s₀ s H cp hn w I hcp hcs h0 st nfp
    show Seg _ A _ _ _ s₀ _ ((compTurn (.GeneratorExp elt [⟨tg, iter, ifs, 0⟩] scope pos) 0 (.ref it) .none G.env).onRaise (leaving G.env)) [] s
    rw [compTurn_gen, Sem.onRaise_eq_wrap]
    refine seg_bind_wrap (wpAny_standAt ?_)
    rcases turn i m out H w with ⟨stop, qq⟩ | ⟨go, Nx, hNx, step⟩
    · refine seg_bind_wrap ?_
      rw [ov]
      refine wpAny_mono (T.done G rfl rfl rfl hc i cp s _ H (fun _ _ => False) I (stat hcp I nfp) st stop) (fun r s6 ⟨hr, I6⟩ => ?_) fun _ _ z => z.elim
      subst hr
      exact seg_end (.ok .next) (.inl ⟨.inr rfl, out, H, _, [], cp, hn, by rw [List.append_nil]; exact I6, hcp, hcs, h0, qq⟩)
    · refine seg_bind_wrap ?_
      rw [ov]
      refine wpAny_mono (T.item G rfl rfl rfl hc i cp s _ H (fun _ _ => False) I (stat hcp I nfp) st go) (fun r s6 ⟨u, hr, h6⟩ => ?_) fun _ _ z => z.elim
      subst hr
      refine seg_bind_wrap ?_
      rw [ov]
      refine wpAny_mono h6 (fun _ s7 ⟨x, H7, I7, r7, y7, st7, n7⟩ => ?_) fun _ _ z => z.elim
      have I7' := I7.pinned (stat hcp I7 n7) (T.obj _ _ st7)
      refine seg_bind_wrap ?_
      rw [ov]
      refine fl (pg.run _ s7 _ H7 x u _ I7' r7 (step x H7 y7)) fun _ s8 ⟨σ8, H8, I8, hw8, q8⟩ => ?_
      refine seg_bind_wrap ?_
      rw [ov]
      refine fl (pt.run _ s8 σ8 H8 _ I8 q8) fun b s9 ⟨H9, I9, q9⟩ => ?_
      have hl : (wipe σ vs).length = σ8.length := by rw [← hw8, wipe_length]
      have pinF : ∀ {s' : Shared} {H' : Hp} {pl : List (Addr × Obj)}, Inv G (cp ++ pinsAt fp s7.heap) σ8 H' s' → ∀ b ∈ fp, ∀ o, s7.heap.get? b = some o → s'.heap.get? b = some o ∧ H' b = none := fun {s' H' pl} I' b hb o e =>
        let z := I'.pin (b, o) (List.mem_append_right _ (List.mem_append_right _ (mem_pinsAt hb e)))
        ⟨z.1, z.2.1⟩
      have nF : ∀ {s' : Shared} {H' : Hp}, Inv G (cp ++ pinsAt fp s7.heap) σ8 H' s' → ∀ b ∈ fp, H' b = none := fun {s' H'} I' b hb => by
        obtain ⟨o, e, _⟩ := T.obj _ _ st7 b hb
        exact (pinF (pl := []) I' b hb o e).2
      have back : ∀ {s' : Shared} {H' : Hp} {pl : List (Addr × Obj)}, Inv G pl σ8 H' s' → Inv G pl (wipe σ vs) H' s' := fun {s' H' pl} I' => I'.weak hl fun j v e => by
        rw [← hw8] at e
        exact (wipe_some e).1
      cases b with
      | false =>
        simp only [Bool.false_eq_true, if_false] at q9 ⊢
        obtain ⟨m', hm, w'⟩ := hNx out H9 q9
        exact seg_again rfl (ih m' hm n (i + 1) out s₀ s9 H9 cp hn w' (back I9.unpinned) hcp hcs h0 (T.keep _ _ _ st7 fun b hb o e => (pinF (pl := []) I9 b hb o e).1) (nF I9))
      | true =>
        simp only [if_true] at q9 ⊢
        have hy : ∀ v, yieldOut G.env v = yieldValue v := fun v => by simp only [yieldOut, hco, Bool.false_eq_true, if_false]
        simp only [hy]
        rw [Sem.bind_eq_wrap', Sem.bind_eq_wrap', Sem.wrap_wrap, Sem.wrap_wrap]
        refine seg_wrap ?_
        rw [ov]
        refine fl (pe.run _ s9 σ8 H9 _ I9 q9) fun z s10 ⟨yv, H10, I10, r10, hlt, hit⟩ => ?_
        obtain ⟨k, rfl⟩ : ∃ k, n = k + 1 := ⟨n - 1, by omega⟩
        refine seg_at (seg_yield rfl rfl rfl ⟨out, yv, H10, σ8, pinsAt fp s7.heap, cp, _, hn, r10, I10, hcp, hcs, h0, hit, fun out' hsz nx s'' hsl => ?_⟩)
        obtain ⟨m', hm, w'⟩ := hNx out' H10 nx
        obtain ⟨cp', c1, c2, c3, c4⟩ := woken ap hcp I10 hsl
        refine seg_again rfl (ih m' hm k (i + 1) out' s'' s'' H10 cp' (by omega) w' (back c3) c1 c2 (fun p hp => (c3.pin p (List.mem_append_right _ hp)).1) (T.keep _ _ _ st7 fun b hb o e => c4 b o ?_ (pinF (pl := []) I10 b hb o e).1) (nF I10))
        exact fun hS => (ap.young b hS).2.2.2 (by rw [hex]; exact hb)

/-- from the start of the generator -/
theorem seg_gx0 {n : Nat} {s₀ s : Shared} (hA : G.A = A.deeper G.env) (hself : ∀ (A : Around) (Q : Value → Shared → Prop) (E : Value → Shared → Prop), Q (.ref it) s → wpAny (model G.prog G.w) A (pyIter (.ref it)) Q E s)
    (loop : Seg (model G.prog G.w) A (RX sz G SA CS fin) (YX sz G SA CS item) n s₀ (.compLoop (.GeneratorExp elt [⟨tg, iter, ifs, 0⟩] scope pos) 0 (.ref it) .none G.env)
        ((model G.prog G.w).den (.compLoop (.GeneratorExp elt [⟨tg, iter, ifs, 0⟩] scope pos) 0 (.ref it) .none G.env)) [] s) :
    Seg (model G.prog G.w) A (RX sz G SA CS fin) (YX sz G SA CS item) n s₀ (.compStart (.GeneratorExp elt [⟨tg, iter, ifs, 0⟩] scope pos) 0 (.ref it) .none G.env)
        ((model G.prog G.w).den (.compStart (.GeneratorExp elt [⟨tg, iter, ifs, 0⟩] scope pos) 0 (.ref it) .none G.env)) [] s := by
  show Seg _ A _ _ _ s₀ _ ((compStart (.GeneratorExp elt [⟨tg, iter, ifs, 0⟩] scope pos) 0 (.ref it) .none G.env).onRaise (leaving G.env)) [] s
  unfold compStart
  rw [Sem.onRaise_eq_wrap]
  show Seg _ A _ _ _ s₀ _ ((ask >>= _).wrap _ _ _ _) [] s
  refine seg_bind_wrap (wpAny_askSetting ?_)
  split
  · exact seg_again rfl loop
  · first
      | exact seg_bind_wrap (wpAny_rule (seg_bind_wrap (wpAny_standAt (seg_bind_wrap (hself _ _ _ (seg_again rfl loop))))))
      | (refine seg_bind_wrap (wpAny_rule ?_); show Seg _ A _ _ _ s₀ _ ((standAt iter.pos >>= _).wrap _ _ _ _) [] s; exact seg_bind_wrap (wpAny_standAt (seg_bind_wrap (hself _ _ _ (seg_again rfl loop)))))
end
end GXP

end
section
set_option Elab.async false
set_option linter.all false
set_option maxRecDepth 100000
set_option maxHeartbeats 2000000
/-! generator expressions: made, woken, asked for the next -/
namespace GXP
open PySem PySem.Spec PyProof.Rows L2 GenW

/-- the generator at a sleeps, ready -/
def GPh {α : Type} (sz : α → Nat) (G : Cx) (A : Around) (SA : List Addr) (CS : CSt α) (item : Itm α) (fin : α → Hp → Prop) (a : Addr) (g : Nat) (n : Nat) (s : Shared) : Prop :=
  s.heap.IsGen a g ∧ s.heap.NoLimit ∧ ∃ gs, s.gens[g]? = some gs ∧ gs.Goes (model G.prog G.w) A (RX sz G SA CS fin) (YX sz G SA CS item) n (.send .none) (s.setGen g .running)

theorem inv_gens {X : Cx} {pins : List (Addr × Obj)} {σ : L2.St} {H : Hp} {s : Shared} {g : Nat} {x : GenState} (I : Inv X pins σ H s) (hx : x.bare = true) : Inv X pins σ H (s.setGen g x) :=
  I.call' (ch := []) rfl Un.refl I.hok (allBare_setGen I.bare hx) fun b z => absurd z (by simp)

theorem gx_next {G : Cx} {A : Around} {SA : List Addr} {α : Type} {sz : α → Nat} {CS : CSt α} {item : Itm α} {fin : α → Hp → Prop} {a : Addr} {g n : Nat} {s : Shared} {Q : Option Value → Shared → Prop} {E : Value → Shared → Prop}
    (hh : A.handled = none) (hroom : A.depth < recursionLimit) (haS : a ∉ SA) (hcS : cStatics ∉ SA) (hap : ∃ go, (a, go) ∈ G.pn ∧ ∀ h : Heap, h.get? a = some go → h.IsGen a g) (h : GPh sz G A.in1 SA CS item fin a g n s)
    (hnone : ∀ s1 s0 out H' σ' pn' cp, n + sz out = sizeLine → Inv G (cp ++ pn') σ' H' s0 → cp.map (·.1) = SA → CS out cp → (∀ p ∈ cp, s.heap.get? p.1 = some p.2) → fin out H' → s1.os = s0.os → AllBare s1.gens → (∀ b o, s0.heap.get? b = some o → s1.heap.get? b = some o) → Q none s1)
    (hsome : ∀ v s1 out x H' σ' pn' cp Nc, sz out < sizeLine → RelV x v → Inv G (cp ++ pn') σ' H' s1 → cp.map (·.1) = SA → CS out cp → (∀ p ∈ cp, s.heap.get? p.1 = some p.2) → item out x H' Nc →
      (∀ out', sz out' = sz out + 1 → Nc out' → ∀ s', s'.gens = s1.gens → SlX SA CS out' s1 s' → 0 < n ∧ GPh sz G A.in1 SA CS item fin a g (n - 1) s') → Q (some v) s1) :
    wpAny (model G.prog G.w) A (pyNext (.ref a)) Q E s := by
  obtain ⟨hg, hl, gs, hgs, hgo⟩ := h
  have hgl : g < s.gens.size := (Array.getElem?_eq_some_iff.mp hgs).1
  refine wpAny_gsz (n := g + 1) hgl (next_genG (F := FX sz G SA CS fin) (Er := fun _ _ => False) hh hl hroom hg hgs hgo (fun v s₁ gs' hb hv => ?_) (fun s₁ hp h' hk => ?_) fun e s₁ he => he.elim)
  · intro hsz
    obtain ⟨out, x, H', σ', pn', cp, Nc, hn, rx, I, hcp, hcs, h0, hit, hk⟩ := hv
    have hsz1 : g < s₁.gens.size := by
      have q : (s₁.setGen g gs').gens.size = s₁.gens.size := setGen_size _ _ _
      have hsz' : g + 1 ≤ (s₁.setGen g gs').gens.size := hsz
      omega
    have hg1 : s₁.heap.IsGen a g := by
      obtain ⟨go, hpn, hgo'⟩ := hap
      exact hgo' _ (I.pin (a, go) (List.mem_append_left _ hpn)).1
    refine hsome v _ out x H' σ' pn' cp Nc (by omega) rx (inv_gens I hb) hcp hcs h0 hit fun out' hsz' nc s' hgens hsl => ?_
    obtain ⟨y1, y2, y3, y4⟩ := hsl
    have hs'' : SlX SA CS out' s₁ (s'.setGen g .running) := ⟨y1, allBare_setGen y2 rfl, fun b o hb e => y3 b o hb e, y4⟩
    have kk := hk out' hsz' nc _ hs''
    cases n with
    | zero => exact False.elim kk
    | succ m =>
      refine ⟨Nat.succ_pos _, ?_, ?_, gs', by rw [hgens]; exact setGen_at hsz1, kk⟩
      · obtain ⟨o, nm, qn, ho, r⟩ := hg1
        exact ⟨o, nm, qn, y3 a o haS ho, r⟩
      · obtain ⟨mc, hns, hnn⟩ := I.nolimit
        exact ⟨mc, hns.at' fun o e => y3 _ o hcS e, hnn⟩
  · intro _
    obtain ⟨out, H', σ', pn', cp, hn, I, hcp, hcs, h0, hf⟩ := hp
    exact hnone _ s₁ out H' σ' pn' cp hn I hcp hcs h0 hf rfl (allBare_setGen I.bare rfl) hk

/-- the generator has been made in X: what is to be known of it -/
structure GMk (X : Cx) (pins : List (Addr × Obj)) (σ : L2.St) (elt tg iter : Expr) (ifs : List Expr) (scope : Scope) (pos : Pos) (s5 : Shared) (a g : Nat) (go : Obj) (s4 : Shared) (H2 : Hp) (fp : List Addr) (tn : Nat → Heap → Prop) (J : It) (it : Addr) (code : Value) : Prop where
  gen : ∀ h : Heap, h.get? a = some go → h.IsGen a g
  at_ : s5.heap.get? a = some go
  nc : ∀ v, go.data ≠ .cell v
  gs : s5.gens[g]? = some (.fresh (.compStart (.GeneratorExp elt [⟨tg, iter, ifs, 0⟩] scope pos) 0 (.ref it) .none (genEnv scope (cloFrom X.env.cells scope.names []) s4.heap.objs.size code builtinsNs X.env)))
  lt : s4.heap.objs.size < a
  inv : Inv X pins σ H2 s4
  fpk : ∀ b ∈ fp, FpOk X pins H2 b ∧ b < s4.heap.objs.size
  turn : Turn X.prog X.w X.K tg J fp it tn
  tn0 : tn 0 s4.heap
  kp : ∀ b o, s4.heap.get? b = some o → s5.heap.get? b = some o
  os : s5.os = s4.os
  bare : AllBare s5.gens
  ns : s5.heap.Ns s4.heap.objs.size fun y => if y = (".0" : Str) then some (.ref it) else none

def TabG (H : Hp) (P : Addr) : Prop := ∃ ps : Array Value, H P = some (.tbl ps) ∧ TriplesOk ps.toList
/-- H' is H but for the table at P -/
def Tabbed (P : Addr) (H H' : Hp) : Prop := TabG H' P ∧ ∀ b, b ≠ P → H' b = H b
structure TabB (base : Heap) (mg : Str → Option Value) (c P : Addr) : Prop where
  code : PySem.W.CodeHd base c P
  bm : base.BuiltinsAt mg P
  gP : mainGlobals ≠ P
theorem sh_eta (s s' : Shared) (h : s'.os = s.os) : ({ s with heap := s'.heap, gens := s'.gens, drawn := s'.drawn, toks := s'.toks } : Shared) = s' := by
  cases s'
  cases h
  rfl
/-- the table has grown; what stood is kept -/
theorem inv_tab {X : Cx} {pins : List (Addr × Obj)} {σ : L2.St} {H : Hp} {s : Shared} {P : Addr} {ps more : Array Value} {h' : Heap} {t' : Nat} (I : Inv X pins σ H s) (hP : H P = some (.tbl ps)) (k : ∀ b o, b ≠ P → s.heap.get? b = some o → h'.get? b = some o)
    (hm : h'.get? P = some { cls := .none, data := .fields (ps ++ more) }) :
    Inv X pins σ (upd H P (.tbl (ps ++ more))) { s with heap := h', toks := t' } := by
  have at_ : ∀ b, b ≠ P → upd H P (.tbl (ps ++ more)) b = H b := fun b h1 => upd_ne h1
  have nP : ∀ b u, H b = some u → (∀ q, u ≠ .tbl q) → b ≠ P := fun b u e q z => by
    rw [z, hP] at e
    exact q ps (Option.some.inj e).symm
  have nN : ∀ b, H b = none → b ≠ P := fun b e z => by
    rw [z, hP] at e
    cases e
  refine I.step (g' := s.gens) (d' := s.drawn) (ch := []) (fun b hb => absurd hb (by simp)) (fun b o _ _ _ e n => k b o (nN b n) e) (fun b o _ _ _ e n => ⟨o.slots, k b o (nN b n) e⟩)
    (fun b o _ e n => by rw [at_ b (nN b n)]; exact n) (fun b o _ e => ?_) (fun b xs e => by rw [at_ b (nP b _ e (fun q z => by cases z))]; exact e) (fun b o u e => by rw [at_ b (nP b _ e (fun q z => by cases z))]; exact e) (fun b qs e => ?_) (fun m hn => ?_) (fun b u e => ?_) I.bare
  · by_cases hb : b = P
    · rw [hb]
      exact ⟨_, hm⟩
    · exact ⟨o, k b o hb e⟩
  · by_cases hb : b = P
    · rw [hb, hP] at e
      cases e
      rw [hb, upd_same]
      exact ⟨more, rfl⟩
    · rw [at_ b hb, e]
      exact ⟨#[], by simp⟩
  · obtain ⟨ob, es, ep, ho, r⟩ := hn
    exact ⟨ob, es, ep, k _ ob (nN _ I.free) ho, r⟩
  · by_cases hb2 : b = P
    · rw [hb2, upd_same] at e
      cases e
      rw [hb2]
      exact hm
    · rw [at_ b hb2] at e
      refine (I.hok b u e).stay (fun d v hd q => k d v ?_ q) (fun d q => by rw [at_ d (nP d _ q (fun q z => by cases z))]; exact q) fun d xs q => by rw [at_ d (nP d _ q (fun q z => by cases z))]; exact q
      rcases hd with z | z
      · rw [z]
        exact hb2
      · exact nP d _ z (fun q z => by cases z)

/-- the walked thing, then the table of code objects grows, then what the consumer wants -/
def tGx (P : Addr) (wi : TI) (Z : It → Hp → Prop) : L2.St → Hp → Prop := fun σ H => wi σ H fun J H1 => TabG H1 P ∧ ∀ H2, Tabbed P H1 H2 → Z J H2

section
variable {X : Cx} {pins : List (Addr × Obj)} {σ : L2.St} {H : Hp} {s : Shared}
theorem gx_make {c P : Addr} {elt tg iter : Expr} {ifs : List Expr} {gpos : Pos} {scope : Scope} {own : List (Str × Nat)} {wi : TI} {Z : It → Hp → Prop} {k : Nat} {Q' : Value → Shared → Prop}
    (hr : Room k X.A) (TB : TabB X.base X.mg c P) (hcode : X.env.code = .ref c) (ok : GOk X.N X.env.scope scope own) (hi : PI X tg iter wi)
    (hs : ∀ v, genFold iter X.env v = pure v) (I : Inv X pins σ H s) (h : tGx P wi Z σ H)
    (hQ : ∀ s5 a g go s4 H2 fp tn J it code, GMk X pins σ elt tg iter ifs scope gpos s5 a g go s4 H2 fp tn J it code → Z J H2 → Q' (.ref a) s5) :
    wpAny (model X.prog X.w) X.A (eval (.GeneratorExp elt [⟨tg, iter, ifs, 0⟩] scope gpos) X.env) Q' X.xe s := by
  have hfree : ∀ y ∈ scope.names, y.2 = .free → ∃ c, X.env.cells.lookup y.1 = some c := fun y hy e => by
    rcases ok.blk.free y hy e with k | k
    · exact I.ok.has _ (.inl k)
    · exact I.ok.has _ (.inr k)
  refine wpAny_GeneratorExp_make ok.co (closure_ok hfree) ok.cell ok.dot ok.blk.kind hr.depth ?_ hs
  refine thn (hi.run pins s σ H _ I h) fun xv s1 hx => thn hx fun itv s2 h2 => ?_
  obtain ⟨it, fp, tn, J, H1, e, I2, T, st2, f2, q⟩ := h2
  subst e
  obtain ⟨⟨ps, hP, ht⟩, hZ⟩ := q
  have hPs : s2.heap.get? P = some { cls := .none, data := .fields ps } := I2.hok P _ hP
  have cd : PySem.W.CodeHd s2.heap c P := TB.code.keeps fun b u e => I2.bk b u e
  refine ⟨I2.nolimit, ?_⟩
  have szF : ∀ b ∈ fp, b < s2.heap.objs.size := fun b hb => by
    obtain ⟨o, e, _⟩ := T.obj _ _ st2 b hb
    exact Heap.lt_size e
  have nfP : ∀ b ∈ fp, b ≠ P := fun b hb z => by
    have := (f2 b hb).1
    rw [z, hP] at this; cases this
  have cont : ∀ (code : Value) (h3 : Heap) (tk : Nat) (more : Array Value), Heap.ExtBut P s2.heap h3 → s2.heap.objs.size ≤ h3.objs.size → h3.get? P = some { cls := .none, data := .fields (ps ++ more) } → TriplesOk (ps ++ more).toList →
      wpAny (model X.prog X.w) X.A (builtinsFor X.env.globals X.env.builtins) (fun bi s₄ =>
        ∀ h', h'.Ns s₄.heap.objs.size (fun y => if y = (".0" : Str) then some (Value.ref it) else none) → Heap.SameBut s₄.heap.objs.size (s₄.heap.push { cls := .type "frame", data := .dict #[] }) h' →
          Q' (.ref h'.objs.size) { s₄ with
            gens := s₄.gens.push (.fresh (.compStart (.GeneratorExp elt [⟨tg, iter, ifs, 0⟩] scope gpos) 0 (.ref it) .none (genEnv scope (cloFrom X.env.cells scope.names []) s₄.heap.objs.size code bi X.env))),
            toks := s₄.toks + 1 + 1 + 1,
            heap := h'.push { cls := .type "generator", data := .fields #[.int s₄.gens.size 0, .str "<genexpr>" (s₄.toks + 1), .str (X.env.qual ++ "<genexpr>") (s₄.toks + 1 + 1)] } }) X.xe { s2 with heap := h3, toks := tk } := by
    intro code h3 tk more hx hsz hP3 ht3
    obtain ⟨bm, ob, e1, e2, e3, e4, e5, e6, e7, e8⟩ := TB.bm
    have keep3 : ∀ b u, b ≠ P → s2.heap.get? b = some u → h3.get? b = some u := fun b u hb e => hx b u hb e
    have I4 : Inv X pins σ (upd H1 P (.tbl (ps ++ more))) { s2 with heap := h3, toks := tk } := inv_tab I2 hP keep3 hP3
    refine wpAny_builtinsFor (m := X.mg) (by rw [I2.ok.glob]; exact (I2.mod.glob.keeps I2.bk).extBut hx TB.gP) e1 e2 (keep3 _ _ e4 (I2.bk _ _ e5)) e6 e7 e8 ?_
    intro h' hns hsb
    have kp' : ∀ b o, h3.get? b = some o → h'.get? b = some o := fun b o e => hsb.extBut b o (Nat.ne_of_lt (Heap.lt_size e)) (Heap.get?_push_of_some _ e)
    have hsz' : h3.objs.size < h'.objs.size := hns.lt
    refine hQ _ h'.objs.size s2.gens.size _ { s2 with heap := h3, toks := tk } (upd H1 P (.tbl (ps ++ more))) fp tn J it code ⟨fun h e => ⟨_, _, _, e, rfl, rfl, rfl⟩, Heap.get?_push_size _ rfl, fun v z => (by cases z), Array.getElem?_push_size .., hsz', I4, fun b hb => ⟨⟨?_, (f2 b hb).2⟩, Nat.lt_of_lt_of_le (szF b hb) hsz⟩, T, T.keep _ _ _ st2 fun b hb o e => keep3 b o (nfP b hb) e, fun b o e => Heap.get?_push_of_some _ (kp' b o e), rfl, AllBare.push I2.bare rfl, hns.push _⟩ (hZ _ ⟨⟨ps ++ more, upd_same, ht3⟩, fun b hb => upd_ne hb⟩)
    rw [upd_ne (nfP b hb)]
    exact (f2 b hb).1
  cases hf : codeAmong gpos ps.toList with
  | none =>
    refine wpAny_genexprCodeX hcode (cd.code hPs ht) (cd.tab hPs) hf fun c' h' tk hx hge hlt hco' _ htab' _ => ?_
    obtain ⟨o1, vs, f1, tf, fl, tg', inF, tx, tt, op, _, _, _, _, _, _, _, _, _, htr, _⟩ := hco'
    exact cont _ h' tk _ hx (Nat.le_trans hge (Nat.le_of_lt hlt)) htab'.2 htr
  | some cv =>
    refine wpAny_genexprCode_hit hcode (cd.code hPs ht) hf ?_
    exact cont cv s2.heap s2.toks #[] (Heap.ExtBut.refl _ _) (Nat.le_refl _) (by simpa using hPs) (by simpa using ht)

/-- woken for the first time by a consumer whose objects stand at SA -/
theorem gx_wake (hNd : X.N.Nodup) {elt tg iter : Expr} {ifs : List Expr} {gpos : Pos} {scope : Scope} {own : List (Str × Nat)} {s5 s6 : Shared} {a g : Nat} {go : Obj} {s4 : Shared} {H2 : Hp} {fp : List Addr} {tn : Nat → Heap → Prop} {J : It} {it : Addr} {code : Value}
    {A : Around} {SA : List Addr} {α : Type} {sz : α → Nat} {CS : CSt α} {item : Itm α} {fin : α → Hp → Prop} {a0 : α} {gt : TG} {tt : TT} {te : TE} {k : Nat} (M : GMk X pins σ elt tg iter ifs scope gpos s5 a g go s4 H2 fp tn J it code) (ok : GOk X.N X.env.scope scope own)
    (hr : Room (k + 1) A) (hfr : A.frames = some X.stack)
    (hg : ∀ A s H C cd fp pn, PG (gxCx X A s H (genEnv scope (cloFrom X.env.cells scope.names []) C cd builtinsNs X.env) fp pn) tg gt)
    (ht : ∀ A s H C cd fp pn, Room k (A.deeper (genEnv scope (cloFrom X.env.cells scope.names []) C cd builtinsNs X.env)) → PTs (gxCx X A s H (genEnv scope (cloFrom X.env.cells scope.names []) C cd builtinsNs X.env) fp pn) ifs tt)
    (he : ∀ A s H C cd fp pn, Room k (A.deeper (genEnv scope (cloFrom X.env.cells scope.names []) C cd builtinsNs X.env)) → PE (gxCx X A s H (genEnv scope (cloFrom X.env.cells scope.names []) C cd builtinsNs X.env) fp pn) elt te)
    (kp : ∀ b o, s5.heap.get? b = some o → s6.heap.get? b = some o) (hos : s6.os = s5.os) (hgn : s6.gens = s5.gens) (hSA : ∀ b ∈ SA, s5.heap.objs.size ≤ b)
    (hcp : ∃ cp : List (Addr × Obj), cp.map (·.1) = SA ∧ CS a0 cp ∧ ∀ p ∈ cp, s6.heap.get? p.1 = some p.2 ∧ ∀ v, p.2.data ≠ .cell v)
    (ha0 : sz a0 = 0) (hW : ∃ W : Nat → Nat → α → Hp → Prop, (∃ m, W 0 m a0 H2) ∧ ∀ i m out H, W i m out H → (J.stop i H ∧ fin out H) ∨ (J.go i H ∧ ∃ Nx : α → Hp → Prop, (∀ out' H', Nx out' H' → ∃ m', m' < m ∧ W (i + 1) m' out' H') ∧ ∀ x H', J.yld i H x H' → gt x (wipe σ (own.map (·.2))) H' fun σ2 H2 => wipe σ2 (own.map (·.2)) = wipe σ (own.map (·.2)) ∧
      tt σ2 H2 fun b H3 => if b = true then te σ2 H3 fun y H4 => sz out < sizeLine ∧ item out y H4 fun out' => Nx out' H4 else Nx out H3)) :
    let G := gxCx X A s4 H2 (genEnv scope (cloFrom X.env.cells scope.names []) s4.heap.objs.size code builtinsNs X.env) fp [(a, go)]
    GPh sz G A SA CS item fin a g sizeLine s6 ∧ a ∉ SA ∧ cStatics ∉ SA ∧ (∃ go, (a, go) ∈ G.pn ∧ ∀ h : Heap, h.get? a = some go → h.IsGen a g) := by
  intro G
  obtain ⟨cp, c1, c2, c3⟩ := hcp
  obtain ⟨W, ⟨m0, w0⟩, turn⟩ := hW
  have alt : a < s5.heap.objs.size := Heap.lt_size M.at_
  have aS : a ∉ SA := fun z => absurd (Nat.lt_of_lt_of_le alt (hSA a z)) (Nat.lt_irrefl _)
  have lim5 : s5.heap.NoLimit := M.inv.nolimit.keeps M.kp
  have lim6 : s6.heap.NoLimit := lim5.keeps kp
  have cS : cStatics ∉ SA := fun z => by
    have : cStatics < s5.heap.objs.size := let ⟨_, hn, _⟩ := lim5; hn.lt
    exact absurd (Nat.lt_of_lt_of_le this (hSA _ z)) (Nat.lt_irrefl _)
  have hpn : ∀ p ∈ [(a, go)] ++ cp, s6.heap.get? p.1 = some p.2 ∧ s4.heap.objs.size < p.1 ∧ ∀ v, p.2.data ≠ .cell v := fun p hp => by
    rcases List.mem_append.mp hp with z | z
    · rw [List.mem_singleton.mp z]
      exact ⟨kp _ _ M.at_, M.lt, M.nc⟩
    · have hS : p.1 ∈ SA := by rw [← c1]; exact List.mem_map.mpr ⟨p, z, rfl⟩
      exact ⟨(c3 p z).1, Nat.lt_trans M.lt (Nat.lt_of_lt_of_le alt (hSA _ hS)), (c3 p z).2⟩
  have I6 : Inv G cp (wipe σ (own.map (·.2))) H2 (s6.setGen g .running) :=
    gx_start hNd (pp := cp) M.inv ok M.fpk hr.hd hfr (M.ns.keeps kp) (fun b o e => kp b o (M.kp b o e)) (hos.trans M.os) (allBare_setGen (by rw [hgn]; exact M.bare) rfl) hpn
  have ap : ApX G SA := by
    refine ⟨fun b hb => ?_, fun p hp => ?_⟩
    · have h1 : s4.heap.objs.size < b := Nat.lt_trans M.lt (Nat.lt_of_lt_of_le alt (hSA b hb))
      refine ⟨Nat.le_of_lt h1, Nat.ne_of_gt h1, fun x c e z => ?_, fun z => ?_⟩
      · obtain ⟨v, o, ho, _⟩ := I6.cell x c e
        have e : (cloFrom X.env.cells scope.names []).lookup x = some c := e
        rcases cloFrom_mem (PySem.mem_of_lookup e) with hm | ⟨q1, q2⟩
        · cases hm
        · have q3 : ∃ c, X.env.cells.lookup x = some c := by
            rcases ok.blk.free _ q1 rfl with k | k
            · exact M.inv.ok.has _ (.inl k)
            · exact M.inv.ok.has _ (.inr k)
          obtain ⟨c1, q3⟩ := q3
          obtain ⟨v1, q4⟩ := M.inv.cell x c1 q3
          have q5 : c = c1 := by rw [q2, q3] <;> rfl
          have := q4.lt
          rw [← q5, z] at this
          exact absurd (Nat.lt_trans this h1) (Nat.lt_irrefl _)
      · exact absurd (Nat.lt_trans (M.fpk b z).2 h1) (Nat.lt_irrefl _)
    · rw [List.mem_singleton.mp (show p ∈ [(a, go)] from hp)]
      exact ⟨aS, fun z => absurd (Nat.lt_trans (M.fpk a z).2 M.lt) (Nat.lt_irrefl _)⟩
  have hgs := M.gs
  rw [← hgn] at hgs
  refine ⟨⟨(M.gen _ (kp _ _ M.at_)), lim6, _, hgs, rfl, ?_⟩, aS, cS, go, List.mem_singleton.mpr rfl, M.gen⟩
  have st6 : tn 0 (s6.setGen g .running).heap := M.turn.keep _ _ _ M.tn0 fun b _ o e => kp b o (M.kp b o e)
  refine seg_gx0 (G := G) rfl (fun A' Q E hq => M.turn.self A' 0 _ _ _ st6 hq) ?_
  exact seg_gx (G := G) (vs := own.map (·.2)) (σ := σ) rfl rfl hr.hd rfl ap rfl ok.co M.turn (hg A s4 H2 _ code fp _) (ht A s4 H2 _ code fp _ (hr.deeper _)) (he A s4 H2 _ code fp _ (hr.deeper _)) W turn m0 sizeLine 0 a0 _ _ H2 cp (by rw [ha0]; rfl) w0 I6 c1 c2 (fun p hp => (c3 p hp).1) st6 fun b hb => (M.fpk b hb).1.1

/-- back in the def's context -/
theorem gx_back {elt tg iter : Expr} {ifs : List Expr} {gpos : Pos} {scope : Scope} {s5 : Shared} {a g : Nat} {go : Obj} {s4 : Shared} {H2 : Hp} {fp : List Addr} {tn : Nat → Heap → Prop} {J : It} {it : Addr} {code : Value} {A : Around} {cenv : Env} {pn pp : List (Addr × Obj)}
    (M : GMk X pins σ elt tg iter ifs scope gpos s5 a g go s4 H2 fp tn J it code) {σ' : L2.St} {H' : Hp} {s0 s' : Shared} (I : Inv (gxCx X A s4 H2 cenv fp pn) pp σ' H' s0) (hos : s'.os = s0.os) (hba : AllBare s'.gens) (kp : ∀ b o, s0.heap.get? b = some o → s'.heap.get? b = some o) : Inv X pins σ H' s' :=
  M.inv.call' (ch := fp) (hos.trans I.os) ((I.base).trans (Un.kept kp)) (I.hok.kept kp) hba fun b hb => ⟨(M.fpk b hb).1.2.2.2.1, (M.fpk b hb).1.2.1, (M.fpk b hb).1.2.2.2.2.1, (M.fpk b hb).1.2.2.2.2.2⟩
end
end GXP

end
section
set_option Elab.async false
set_option linter.all false
set_option maxRecDepth 100000
set_option maxHeartbeats 4000000
/-! generator expressions: the consumers -/
namespace GXP
open PySem PySem.Spec PyProof.Rows L2 GenW

def ZW (gt : TG) (tt : TT) (te : TE) (vs : List Nat) (σ : L2.St) {α : Type} (sz : α → Nat) (a0 : α) (item : Itm α) (fin : α → Hp → Prop) : It → Hp → Prop := fun J H2 =>
  ∃ W : Nat → Nat → α → Hp → Prop, (∃ m, W 0 m a0 H2) ∧ ∀ i m out H, W i m out H → (J.stop i H ∧ fin out H) ∨ (J.go i H ∧ ∃ Nx : α → Hp → Prop, (∀ out' H', Nx out' H' → ∃ m', m' < m ∧ W (i + 1) m' out' H') ∧ ∀ x H', J.yld i H x H' → gt x (wipe σ vs) H' fun σ2 H2 => wipe σ2 vs = wipe σ vs ∧
      tt σ2 H2 fun b H3 => if b = true then te σ2 H3 fun y H4 => sz out < sizeLine ∧ item out y H4 fun out' => Nx out' H4 else Nx out H3)

/-- the parts of a generator expression in X -/
structure GDer (X : Cx) (k : Nat) (elt tg iter : Expr) (ifs : List Expr) (scope : Scope) (own : List (Str × Nat)) (P : Addr) (wi : TI) (gt : TG) (tt : TT) (te : TE) : Prop where
  nd : X.N.Nodup
  tab : ∃ c, TabB X.base X.mg c P ∧ X.env.code = .ref c
  ok : GOk X.N X.env.scope scope own
  it : PI X tg iter wi
  fold : ∀ v, genFold iter X.env v = pure v
  tgt : ∀ A s H C cd fp pn, PG (gxCx X A s H (genEnv scope (cloFrom X.env.cells scope.names []) C cd builtinsNs X.env) fp pn) tg gt
  tst : ∀ A s H C cd fp pn, Room k (A.deeper (genEnv scope (cloFrom X.env.cells scope.names []) C cd builtinsNs X.env)) → PTs (gxCx X A s H (genEnv scope (cloFrom X.env.cells scope.names []) C cd builtinsNs X.env) fp pn) ifs tt
  elt : ∀ A s H C cd fp pn, Room k (A.deeper (genEnv scope (cloFrom X.env.cells scope.names []) C cd builtinsNs X.env)) → PE (gxCx X A s H (genEnv scope (cloFrom X.env.cells scope.names []) C cd builtinsNs X.env) fp pn) elt te

/-! ### any, all -/
def itBool (stop : Bool) (T : Hp → Prop) : Itm Nat := fun n x H Nc => ∃ b, x = .bl b ∧ (b = stop → T H) ∧ (b ≠ stop → Nc (n + 1))

section
variable {G : Cx} {A : Around} {a g : Nat} {T : Hp → Prop} {fin : Nat → Hp → Prop} {R : Result → Shared → Prop}
theorem any_loop (hh : A.handled = none) (hroom : A.depth < recursionLimit) (hap : ∃ go, (a, go) ∈ G.pn ∧ ∀ h : Heap, h.get? a = some go → h.IsGen a g)
    (hT : ∀ s1 s0 H' σ' pp, Inv G pp σ' H' s0 → s1.os = s0.os → AllBare s1.gens → (∀ b o, s0.heap.get? b = some o → s1.heap.get? b = some o) → T H' → R (.ok (.ret (.bool true))) s1)
    (hF : ∀ s1 s0 H' σ' pp out, Inv G pp σ' H' s0 → s1.os = s0.os → AllBare s1.gens → (∀ b o, s0.heap.get? b = some o → s1.heap.get? b = some o) → fin out H' → R (.ok (.ret (.bool false))) s1) :
    ∀ (n : Nat) (s : Shared), GPh id G A.in1.in1 [] (fun _ cp => cp = []) (itBool true T) fin a g n s → codeAny (model G.prog G.w) A (.builtin "any.loop" ⟨[.ref a], []⟩) R s := by
  intro n
  induction n using Nat.strongRecOn with
  | ind n ih =>
    intro s h
    refine codeAny_builtin F.entry_any_loop ?_
    rw [Around.under_plainId F.plain_any_loop _]
    show wpAny _ A.in1 (pyNext (.ref a) >>= _) _ _ s
    refine wpAny_bind (gx_next (A := A.in1) hh hroom (by simp) (by simp) hap h (fun s1 s0 out H' σ' pn' cp _ I _ _ _ hf h1 h2 h3 => ?_) fun v s1 out x H' σ' pn' cp Nc hlt rx I hcp hcs h0 hit hk => ?_)
    · exact wpAny_bind (wpAny_rule (wpAny_pure (hF s1 s0 H' σ' _ out I h1 h2 h3 hf)))
    · obtain ⟨b, rfl, hb1, hb2⟩ := hit
      obtain rfl : v = Value.bool b := rx
      refine wpAny_bind (wpAny_holding (wpAny_truthy_bool ?_))
      refine wpAny_bind (wpAny_letGo ?_)
      cases b with
      | false =>
        simp only [Bool.false_eq_true, if_false]
        obtain ⟨h1, h2⟩ := hk (out + 1) rfl (hb2 (by decide)) s1 rfl ⟨rfl, I.bare, fun _ _ _ e => e, [], rfl, rfl, fun _ z => absurd z (by simp)⟩
        exact wpAny_pure ⟨plainId_quiet F.plain_any_loop _, ih (n - 1) (by omega) s1 h2⟩
      | true =>
        simp only [if_true]
        exact wpAny_bind (wpAny_rule (wpAny_pure (hT s1 s1 H' σ' _ I rfl I.bare (fun _ _ e => e) (hb1 rfl))))
theorem all_loop (hh : A.handled = none) (hroom : A.depth < recursionLimit) (hap : ∃ go, (a, go) ∈ G.pn ∧ ∀ h : Heap, h.get? a = some go → h.IsGen a g)
    (hT : ∀ s1 s0 H' σ' pp, Inv G pp σ' H' s0 → s1.os = s0.os → AllBare s1.gens → (∀ b o, s0.heap.get? b = some o → s1.heap.get? b = some o) → T H' → R (.ok (.ret (.bool false))) s1)
    (hF : ∀ s1 s0 H' σ' pp out, Inv G pp σ' H' s0 → s1.os = s0.os → AllBare s1.gens → (∀ b o, s0.heap.get? b = some o → s1.heap.get? b = some o) → fin out H' → R (.ok (.ret (.bool true))) s1) :
    ∀ (n : Nat) (s : Shared), GPh id G A.in1.in1 [] (fun _ cp => cp = []) (itBool false T) fin a g n s → codeAny (model G.prog G.w) A (.builtin "all.loop" ⟨[.ref a], []⟩) R s := by
  intro n
  induction n using Nat.strongRecOn with
  | ind n ih =>
    intro s h
    refine codeAny_builtin F.entry_all_loop ?_
    rw [Around.under_plainId F.plain_all_loop _]
    show wpAny _ A.in1 (pyNext (.ref a) >>= _) _ _ s
    refine wpAny_bind (gx_next (A := A.in1) hh hroom (by simp) (by simp) hap h (fun s1 s0 out H' σ' pn' cp _ I _ _ _ hf h1 h2 h3 => ?_) fun v s1 out x H' σ' pn' cp Nc hlt rx I hcp hcs h0 hit hk => ?_)
    · exact wpAny_bind (wpAny_rule (wpAny_pure (hF s1 s0 H' σ' _ out I h1 h2 h3 hf)))
    · obtain ⟨b, rfl, hb1, hb2⟩ := hit
      obtain rfl : v = Value.bool b := rx
      refine wpAny_bind (wpAny_holding (wpAny_truthy_bool ?_))
      refine wpAny_bind (wpAny_letGo ?_)
      cases b with
      | true =>
        simp only [if_true]
        obtain ⟨h1, h2⟩ := hk (out + 1) rfl (hb2 (by decide)) s1 rfl ⟨rfl, I.bare, fun _ _ _ e => e, [], rfl, rfl, fun _ z => absurd z (by simp)⟩
        exact wpAny_pure ⟨plainId_quiet F.plain_all_loop _, ih (n - 1) (by omega) s1 h2⟩
      | false =>
        simp only [Bool.false_eq_true, if_false]
        exact wpAny_bind (wpAny_rule (wpAny_pure (hT s1 s1 H' σ' _ I rfl I.bare (fun _ _ e => e) (hb1 rfl))))
end

section
variable {X : Cx} {k : Nat} {elt tg iter : Expr} {ifs : List Expr} {scope : Scope} {own : List (Str × Nat)} {P : Addr} {wi : TI} {gt : TG} {tt : TT} {te : TE} {p pos gpos : Pos}
/-- any(..) -/
def tGAny (P : Addr) (wi : TI) (gt : TG) (tt : TT) (te : TE) (vs : List Nat) : TE := fun σ H Q => tGx P wi (ZW gt tt te vs σ id 0 (itBool true (Q (.bl true))) fun _ H' => Q (.bl false) H') σ H
def tGAll (P : Addr) (wi : TI) (gt : TG) (tt : TT) (te : TE) (vs : List Nat) : TE := fun σ H Q => tGx P wi (ZW gt tt te vs σ id 0 (itBool false (Q (.bl false))) fun _ H' => Q (.bl true) H') σ H

theorem pe_gany (D : GDer X k elt tg iter ifs scope own P wi gt tt te) (hr : Room (k + 4) X.A) (hg : Gl X "any") (hm : X.mg "any" = none)
    (he : starEach [.GeneratorExp elt [⟨tg, iter, ifs, 0⟩] scope gpos] X.env = (false, eval (.GeneratorExp elt [⟨tg, iter, ifs, 0⟩] scope gpos) X.env) :: starEach [] X.env := by rfl) :
    PE X (.Call (.Name "any" p) [.GeneratorExp elt [⟨tg, iter, ifs, 0⟩] scope gpos] [] pos) (tGAny P wi gt tt te (own.map (·.2))) := by
  refine ⟨fun pins s σ H Q I h => ?_⟩
  obtain ⟨c, TB, hcode⟩ := D.tab
  refine wpAny_Call_Name_kw (ld_blt I hg hm boot_any ?_)
  refine PyProof.Rows.callWith_builtin1 ?_ he (by rfl)
  rw [he]
  show wpAny _ _ (spliced ((false, eval (.GeneratorExp elt [⟨tg, iter, ifs, 0⟩] scope gpos) X.env) :: backTo pos (starEach [] X.env))) _ _ s
  refine Calls.spliced_cons (gx_make (k := k + 4) hr TB hcode D.ok D.it D.fold I h fun s5 a g go s4 H2 fp tn J it code M hZ => ?_)
  refine Calls.spliced_nil ?_
  refine call_function_tree F.kind_any F.plain_any F.entry_any (F.args_any1 _) ?_
  unfold Builtin.«any»
  refine wpAny_bind (m := oneArg "any" _) (wpAny_pure ?_)
  refine wpAny_bind (wpAny_pyIter_gen (M.gen _ M.at_) ?_)
  obtain ⟨w1, w2, w3, w4⟩ := gx_wake (α := Nat) (sz := id) (a0 := 0) D.nd (s6 := s5) (A := X.A.in1.in1) (SA := []) (CS := fun _ cp => cp = []) (k := k) M D.ok ((hr.mono (by omega : k + 1 + 2 ≤ k + 4)).in1.in1) I.ok.frames D.tgt D.tst D.elt (fun _ _ e => e) rfl rfl (by simp) ⟨[], rfl, rfl, fun _ z => absurd z (by simp)⟩ rfl hZ
  refine wpAny_pure ⟨plainId_quiet F.plain_any_loop _, any_loop (A := X.A) hr.hd (by have := hr.dp; show X.A.depth < _; omega) w4 (fun s1 s0 H' σ' pp J' h1 h2 h3 hq => ?_) (fun s1 s0 H' σ' pp out J' h1 h2 h3 hq => ?_) sizeLine s5 w1⟩
  · exact ⟨.bl true, H', gx_back M J' h1 h2 h3, rfl, hq⟩
  · exact ⟨.bl false, H', gx_back M J' h1 h2 h3, rfl, hq⟩
theorem pe_gall (D : GDer X k elt tg iter ifs scope own P wi gt tt te) (hr : Room (k + 4) X.A) (hg : Gl X "all") (hm : X.mg "all" = none) (hb : bootBuiltins "all" = some (.builtin "all"))
    (he : starEach [.GeneratorExp elt [⟨tg, iter, ifs, 0⟩] scope gpos] X.env = (false, eval (.GeneratorExp elt [⟨tg, iter, ifs, 0⟩] scope gpos) X.env) :: starEach [] X.env := by rfl) :
    PE X (.Call (.Name "all" p) [.GeneratorExp elt [⟨tg, iter, ifs, 0⟩] scope gpos] [] pos) (tGAll P wi gt tt te (own.map (·.2))) := by
  refine ⟨fun pins s σ H Q I h => ?_⟩
  obtain ⟨c, TB, hcode⟩ := D.tab
  refine wpAny_Call_Name_kw (ld_blt I hg hm hb ?_)
  refine PyProof.Rows.callWith_builtin1 ?_ he (by rfl)
  rw [he]
  show wpAny _ _ (spliced ((false, eval (.GeneratorExp elt [⟨tg, iter, ifs, 0⟩] scope gpos) X.env) :: backTo pos (starEach [] X.env))) _ _ s
  refine Calls.spliced_cons (gx_make (k := k + 4) hr TB hcode D.ok D.it D.fold I h fun s5 a g go s4 H2 fp tn J it code M hZ => ?_)
  refine Calls.spliced_nil ?_
  refine call_function_tree F.kind_all F.plain_all F.entry_all (F.args_all1 _) ?_
  unfold Builtin.«all»
  refine wpAny_bind (m := oneArg "all" _) (wpAny_pure ?_)
  refine wpAny_bind (wpAny_pyIter_gen (M.gen _ M.at_) ?_)
  obtain ⟨w1, w2, w3, w4⟩ := gx_wake (α := Nat) (sz := id) (a0 := 0) D.nd (s6 := s5) (A := X.A.in1.in1) (SA := []) (CS := fun _ cp => cp = []) (k := k) M D.ok ((hr.mono (by omega : k + 1 + 2 ≤ k + 4)).in1.in1) I.ok.frames D.tgt D.tst D.elt (fun _ _ e => e) rfl rfl (by simp) ⟨[], rfl, rfl, fun _ z => absurd z (by simp)⟩ rfl hZ
  refine wpAny_pure ⟨plainId_quiet F.plain_all_loop _, all_loop (A := X.A) hr.hd (by have := hr.dp; show X.A.depth < _; omega) w4 (fun s1 s0 H' σ' pp J' h1 h2 h3 hq => ?_) (fun s1 s0 H' σ' pp out J' h1 h2 h3 hq => ?_) sizeLine s5 w1⟩
  · exact ⟨.bl false, H', gx_back M J' h1 h2 h3, rfl, hq⟩
  · exact ⟨.bl true, H', gx_back M J' h1 h2 h3, rfl, hq⟩
end
end GXP

end
section
set_option Elab.async false
set_option linter.all false
set_option maxRecDepth 100000
set_option maxHeartbeats 4000000
/-! generator expressions: collected into a list, a tuple; sorted -/
namespace GXP
open PySem PySem.Spec PyProof.Rows L2 GenW

/-- the list at S holds what has come -/
def csL (S : Addr) : CSt (List V) := fun out cp => ∃ (acc : Array Value) (c : Nat), cp = [(S, lstObj acc c)] ∧ Vals out acc.toList
def itAll : Itm (List V) := fun out x _ Nc => Nc (out ++ [x])

section
variable {G : Cx} {A : Around} {a g S : Addr} {fin : List V → Hp → Prop} {R : Result → Shared → Prop} {res : Value}
theorem ext_loop (hh : A.handled = none) (hroom : A.depth < recursionLimit) (haS : a ≠ S) (hcS : cStatics ≠ S) (hap : ∃ go, (a, go) ∈ G.pn ∧ ∀ h : Heap, h.get? a = some go → h.IsGen a g)
    (hR : ∀ s1 s0 H' σ' pp out acc c, Inv G pp σ' H' s0 → s1.os = s0.os → AllBare s1.gens → (∀ b o, s0.heap.get? b = some o → s1.heap.get? b = some o) → fin out H' → H' S = none → out.length ≤ sizeLine → s1.heap.get? S = some (lstObj acc c) → Vals out acc.toList → R (.ok (.ret res)) s1) :
    ∀ (n : Nat) (s : Shared), (∃ acc c, s.heap.get? S = some (lstObj acc c)) → GPh List.length G A.in1.in1 [S] (csL S) itAll fin a g n s → codeAny (model G.prog G.w) A (.builtin "list.extend.loop" ⟨[.ref S, .ref a, res], []⟩) R s := by
  intro n
  induction n using Nat.strongRecOn with
  | ind n ih =>
    intro s hS h
    refine codeAny_builtin F.entry_extend_loop ?_
    rw [Around.under_plainId F.plain_extend_loop _]
    show wpAny _ A.in1 (pyNext (.ref a) >>= _) _ _ s
    refine wpAny_bind (gx_next (A := A.in1) hh hroom (by simp [haS]) (by simp [hcS]) hap h (fun s1 s0 out H' σ' pn' cp hn I hcp hcs h0 hf h1 h2 h3 => ?_) fun v s1 out x H' σ' pn' cp Nc hlt rx I hcp hcs h0 hit hk => ?_)
    · obtain ⟨acc, c, rfl, rv⟩ := hcs
      obtain ⟨p1, p2, _⟩ := I.pin (S, lstObj acc c) (List.mem_append_right _ (List.mem_append_left _ (List.mem_singleton.mpr rfl)))
      exact wpAny_pure (hR s1 s0 H' σ' _ out acc c I h1 h2 h3 hf p2 (by omega) (h3 _ _ p1) rv)
    · obtain ⟨acc, c, rfl, rv⟩ := hcs
      obtain ⟨p1, p2, _⟩ := I.pin (S, lstObj acc c) (List.mem_append_right _ (List.mem_append_left _ (List.mem_singleton.mpr rfl)))
      have hsz : acc.size = out.length := by
        have e1 := rv.length
        have e2 : acc.toList.length = acc.size := by simp
        omega
      show wpAny _ A.in1 (updateSeq S (·.push v) >>= _) _ _ _
      refine wpAny_bind ?_
      refine wpAny_updateSeq p1 rfl ?_ (by rw [hsz]; omega) (by show (acc.push v).size ≤ sizeLine + 1; rw [Array.size_push, hsz]; omega)
      have hS' := Heap.get?_update_self (Obj.mapSeq (·.push v)) p1 rfl
      have rv' : Vals (out ++ [x]) (acc.push v).toList := by
        rw [Array.toList_push]
        exact rv.append (.cons rx .nil)
      obtain ⟨c', hc'⟩ : ∃ c', (s1.heap.update S (Obj.mapSeq (·.push v))).get? S = some (lstObj (acc.push v) c') := ⟨_, hS'⟩
      obtain ⟨h1, h2⟩ := hk (out ++ [x]) (by simp) hit { s1 with heap := s1.heap.update S (Obj.mapSeq (·.push v)) } rfl ⟨rfl, I.bare, fun b o hb e => (Heap.get?_update_other _ _ (fun z => hb (by rw [z]; exact List.mem_singleton.mpr rfl))).trans e,
        [(S, lstObj (acc.push v) c')], rfl, ⟨_, _, rfl, rv'⟩, fun p hp => by rw [List.mem_singleton.mp hp]; exact ⟨hc', fun v z => by cases z⟩⟩
      exact wpAny_pure ⟨plainId_quiet F.plain_extend_loop _, ih (n - 1) (by omega) _ ⟨_, _, hc'⟩ h2⟩
end

section
variable {X : Cx} {pins : List (Addr × Obj)} {σ : L2.St} {k : Nat} {elt tg iter : Expr} {ifs : List Expr} {scope : Scope} {own : List (Str × Nat)} {P : Addr} {wi : TI} {gt : TG} {tt : TT} {te : TE} {p pos gpos : Pos}
theorem collect_gx {A : Around} {E : Value → Shared → Prop} {Q : List Value → Shared → Prop} {fin : List V → Hp → Prop} {s5 : Shared} {a g : Nat} {go : Obj} {s4 : Shared} {H2 : Hp} {fp : List Addr} {tn : Nat → Heap → Prop} {J : It} {it : Addr} {code : Value}
    (D : GDer X k elt tg iter ifs scope own P wi gt tt te) (M : GMk X pins σ elt tg iter ifs scope gpos s5 a g go s4 H2 fp tn J it code) (hr : Room (k + 3) A) (hfr : A.frames = some X.stack)
    (hZ : ZW gt tt te (own.map (·.2)) σ List.length [] itAll fin J H2)
    (hQ : ∀ s1 H' out us, Inv X pins σ H' s1 → fin out H' → out.length ≤ sizeLine → Vals out us → Q us s1) : wpAny (model X.prog X.w) A (collect (.ref a)) Q E s5 := by
  have alt : a < s5.heap.objs.size := Heap.lt_size M.at_
  have hSI : s5.heap.objs.size ≠ a := Nat.ne_of_gt alt
  unfold collect
  refine wpAny_bind (wpAny_runValue (codeAny_builtin F.entry_proto_collect ?_))
  rw [Around.under_plainId F.plain_proto_collect _]
  show wpAny _ A.in1 (newList [] >>= fun l => again (.builtin "list.__iadd__" ⟨[l, .ref a], []⟩)) _ _ s5
  refine wpAny_bind (wpAny_newObj_type ?_)
  refine wpAny_pure ⟨plainId_quiet F.plain_list_iadd _, codeAny_builtin F.entry_list_iadd ?_⟩
  rw [Around.under_plainId F.plain_list_iadd _]
  have g1 : (s5.heap.push { cls := .type "list", data := .seq ([] : List Value).toArray }).IsGen a g := M.gen _ (Heap.get?_push_of_some _ M.at_)
  show wpAny _ A.in1 (Builtin.List.listExtendWith (.ref s5.heap.objs.size) (.ref a) (.ref s5.heap.objs.size)) _ _ _
  unfold Builtin.List.listExtendWith
  refine wpAny_bind (wpAny_typeOf (Heap.IsGen.typeIs (s := { s5 with heap := _ }) g1) ?_)
  have h1 : Builtin.List.listSameRef (.ref s5.heap.objs.size) (.ref a) = false := by simp [Builtin.List.listSameRef, hSI]
  have h2 : (Value.type "generator" == Value.type "list") = false := by decide
  have h3 : (Value.type "generator" == Value.type "tuple") = false := by decide
  simp only [h1, h2, h3, Bool.or_false, Bool.false_eq_true, if_false]
  refine wpAny_bind (wpAny_pyIter_gen (s := { s5 with heap := _ }) g1 ?_)
  refine wpAny_bind (wpAny_holding ?_)
  unfold Builtin.List.listLengthHint
  refine wpAny_bind (wpAny_specialOf (Heap.IsGen.typeIs (s := { s5 with heap := _ }) g1) F.gen_no_len ?_)
  show wpAny _ A.in1 (specialOf (Value.ref a) (Str.ofString "__length_hint__") >>= _) _ _ _
  refine wpAny_bind (wpAny_specialOf (Heap.IsGen.typeIs (s := { s5 with heap := _ }) g1) F.gen_no_hint ?_)
  refine wpAny_pure ?_
  show wpAny _ A.in1 (rule "list.extend.makes-room" >>= fun _ => Builtin.List.listTouch (.ref s5.heap.objs.size) >>= fun _ =>
    again (.builtin "list.extend.loop" ⟨[.ref s5.heap.objs.size, .ref a, .ref s5.heap.objs.size], []⟩)) _ _ _
  refine wpAny_bind (wpAny_rule ?_)
  have hS₁ : (s5.heap.push { cls := .type "list", data := .seq ([] : List Value).toArray }).get? s5.heap.objs.size = some { cls := .type "list", data := .seq ([] : List Value).toArray } := Heap.get?_push_size _ rfl
  refine wpAny_bind ?_
  show wpAny _ A.in1 (updateSeq s5.heap.objs.size (·.push .none) >>= fun _ => updateSeq s5.heap.objs.size (·.pop)) _ _ _
  refine wpAny_bind (wpAny_updateSeq hS₁ rfl ?_)
  have hS₂ := Heap.get?_update_self (Obj.mapSeq (·.push Value.none)) hS₁ rfl
  refine wpAny_updateSeq hS₂ rfl ?_
  have hS₃ := Heap.get?_update_self (Obj.mapSeq (·.pop)) hS₂ rfl
  have oth : ∀ b o, b ≠ s5.heap.objs.size → (s5.heap.push { cls := .type "list", data := .seq ([] : List Value).toArray }).get? b = some o →
      (((s5.heap.push { cls := .type "list", data := .seq ([] : List Value).toArray }).update s5.heap.objs.size (Obj.mapSeq (·.push Value.none))).update s5.heap.objs.size (Obj.mapSeq (·.pop))).get? b = some o :=
    fun b o hb e => (Heap.get?_update_other _ _ (Ne.symm hb)).trans ((Heap.get?_update_other _ _ (Ne.symm hb)).trans e)
  obtain ⟨acc0, c0, hc0, ea⟩ : ∃ acc0 c0, (((s5.heap.push { cls := .type "list", data := .seq ([] : List Value).toArray }).update s5.heap.objs.size (Obj.mapSeq (·.push Value.none))).update s5.heap.objs.size (Obj.mapSeq (·.pop))).get? s5.heap.objs.size = some (lstObj acc0 c0) ∧ acc0 = #[] := ⟨_, _, hS₃, rfl⟩
  subst ea
  obtain ⟨w1, w2, w3, w4⟩ := gx_wake (α := List V) (sz := List.length) (a0 := []) D.nd (s6 := { s5 with heap := ((s5.heap.push { cls := .type "list", data := .seq ([] : List Value).toArray }).update s5.heap.objs.size (Obj.mapSeq (·.push Value.none))).update s5.heap.objs.size (Obj.mapSeq (·.pop)) }) (A := A.in1.in1) (SA := [s5.heap.objs.size]) (CS := csL s5.heap.objs.size) (k := k) M D.ok (hr.in1.in1) hfr D.tgt D.tst D.elt
    (fun b o e => oth b o (Nat.ne_of_lt (Heap.lt_size e)) (Heap.get?_push_of_some _ e)) rfl rfl (by simp) ⟨[(s5.heap.objs.size, lstObj #[] c0)], rfl, ⟨_, _, rfl, .nil⟩, fun p hp => by rw [List.mem_singleton.mp hp]; exact ⟨hc0, fun v z => by cases z⟩⟩ rfl hZ
  refine wpAny_pure ⟨plainId_quiet F.plain_extend_loop _, ext_loop (A := A) hr.hd (by have := hr.dp; omega) (Ne.symm hSI) (fun z => w3 (by rw [z]; exact List.mem_singleton.mpr rfl)) w4 (fun s1 s0 H' σ' pp out acc c J' h1 h2 h3 hq hSn hlen hS' rv => ?_) sizeLine _ ⟨_, _, hc0⟩ w1⟩
  show wpAny _ A (load s5.heap.objs.size >>= _) _ _ s1
  refine wpAny_bind (wpAny_load hS' ?_)
  exact wpAny_pure (hQ s1 H' out acc.toList (gx_back M J' h1 h2 h3) hq hlen rv)

/-- tuple(..) -/
def tGTup (P : Addr) (wi : TI) (gt : TG) (tt : TT) (te : TE) (vs : List Nat) : TE := fun σ H Q => tGx P wi (ZW gt tt te vs σ List.length [] itAll fun out H' => ∀ p, H' p = none → Q (.ref p) (upd H' p (.tup out))) σ H

theorem code_tup_gx {A : Around} {E : Value → Shared → Prop} {Q₁ : Value → Shared → Prop} {fin : List V → Hp → Prop} {s5 : Shared} {a g : Nat} {go : Obj} {s4 : Shared} {H2 : Hp} {fp : List Addr} {tn : Nat → Heap → Prop} {J : It} {it : Addr} {code : Value}
    (D : GDer X k elt tg iter ifs scope own P wi gt tt te) (M : GMk X pins σ elt tg iter ifs scope gpos s5 a g go s4 H2 fp tn J it code) (hr : Room (k + 4) A) (hfr : A.frames = some X.stack)
    (hZ : ZW gt tt te (own.map (·.2)) σ List.length [] itAll fin J H2)
    (h : ∀ s1 H' out us, Inv X pins σ H' s1 → fin out H' → out.length ≤ sizeLine → Vals out us → Q₁ (.ref s1.heap.objs.size) { s1 with heap := s1.heap.push { cls := .type "tuple", data := .seq us.toArray } }) :
    codeAny (model X.prog X.w) A (.call (.builtin "tuple.__new__") ⟨[.type "tuple", .ref a], []⟩) (wants Q₁ E) s5 := by
  refine codeAny_of_tree ?_
  show wpAny _ A.in1 (do checkBuiltinCall "tuple.__new__" ⟨[.type "tuple", .ref a], []⟩; again (.builtin "tuple.__new__" ⟨[.type "tuple", .ref a], []⟩)) _ _ s5
  refine wpAny_bind (wpAny_of_eq (F.newCall_tuple_1 _) (wpAny_pure ⟨plainId_quiet F.plain_tuple_new _, codeAny_builtin F.entry_tuple_new ?_⟩))
  rw [Around.under_plainId F.plain_tuple_new _]
  have hsub := sub_tuple_self
  have hinit := init_tuple_lookup
  have hmh := madeHere_tuple
  have hTI : s5.TypeIs (.ref a) "generator" := Heap.IsGen.typeIs (M.gen _ M.at_)
  wp_walk using wpAny_typeOf hTI, collect_gx (A := A.in1) D M hr.in1 hfr hZ
  intro s1 H' out us I hf hlen rv
  show wpAny _ _ (Builtin.Tuple.tupleExact us.toArray >>= fun v => ret v) _ _ _
  unfold Builtin.Tuple.tupleExact
  refine wpAny_bind (wpAny_newObj_type ?_ (by show us.toArray.size ≤ sizeLine; simp only [List.size_toArray]; rw [← rv.length]; exact hlen))
  refine wpAny_pure ?_
  exact h s1 H' out us I hf hlen rv

theorem pe_gtup (D : GDer X k elt tg iter ifs scope own P wi gt tt te) (hr : Room (k + 5) X.A) (hg : Gl X "tuple") (hm : X.mg "tuple" = none) (hv : bootBuiltins "tuple" = some (.type "tuple"))
    (he : starEach [.GeneratorExp elt [⟨tg, iter, ifs, 0⟩] scope gpos] X.env = (false, eval (.GeneratorExp elt [⟨tg, iter, ifs, 0⟩] scope gpos) X.env) :: starEach [] X.env := by rfl) :
    PE X (.Call (.Name "tuple" p) [.GeneratorExp elt [⟨tg, iter, ifs, 0⟩] scope gpos] [] pos) (tGTup P wi gt tt te (own.map (·.2))) := by
  refine ⟨fun pins s σ H Q I h => ?_⟩
  obtain ⟨c, TB, hcode⟩ := D.tab
  refine wpAny_Call_Name_kw (ld_blt I hg hm hv ?_)
  refine PyProof.Rows.callWith_type1 ?_ he rfl
  rw [he]
  show wpAny _ _ (spliced ((false, eval (.GeneratorExp elt [⟨tg, iter, ifs, 0⟩] scope gpos) X.env) :: backTo pos (starEach [] X.env))) _ _ s
  refine Calls.spliced_cons (gx_make (k := k + 5) hr TB hcode D.ok D.it D.fold I h fun s5 a g go s4 H2 fp tn J it code M hZ => ?_)
  refine Calls.spliced_nil ?_
  refine callType_codes (Q₁ := fun obj s₁ => s₁.TypeIs obj "tuple" ∧ EP X pins σ Q obj s₁) F.called_tuple (F.typeCall_tuple_1 _) F.entry_object_init
    (code_tup_gx D M (hr.mono (by omega : k + 4 + 1 ≤ k + 5)).in1 I.ok.frames hZ fun s1 H' out us I1 hf hlen rv => ⟨⟨_, Heap.get?_push_size _ rfl, rfl⟩, ?_⟩) fun obj s₁ h₁ => ?_
  · have hn : H' s1.heap.objs.size = none := I1.hok.fresh (Nat.le_refl _)
    refine ⟨.ref s1.heap.objs.size, upd H' s1.heap.objs.size (.tup out), I1.laid (t' := s1.toks) (fun b u e => Heap.get?_push_of_some _ e) (Nat.le_refl _) ⟨hlen, us, rv, ⟨_, Heap.get?_push_size _ rfl, rfl, _, rfl⟩⟩, rfl, hf _ hn⟩
  · exact ⟨h₁.1, F.args_object_init_2 obj _, object_init_meets F.called_tuple.init.lookup F.called_tuple.made (by decide) X.prog X.w X.A.in1 _ s₁ ⟨h₁.1, rfl, h₁.2⟩⟩
end
end GXP

end
section
set_option Elab.async false
set_option linter.all false
set_option maxRecDepth 100000
set_option maxHeartbeats 4000000
/-! generator expressions: sorted, sum, min, max -/
namespace GXP
open PySem PySem.Spec PyProof.Rows L2 GenW PySem.W

/-! ### data in the heap: what sorting asks -/
def srtV (xs : List V) (ds : List PyData) : List V := ((xs.zip ds).mergeSort (dataLe false Prod.snd)).map Prod.fst
theorem DpAll.len {K : PySem.W.Frag} {H : Hp} : ∀ {vs : List V} {ds : List PyData}, DpAll K H vs ds → vs.length = ds.length
  | _, _, .nil => rfl
  | _, _, .cons _ t => by simp [DpAll.len t]
theorem reads_old {h : Heap} {n : Nat} (hn : h.objs.size ≤ n) : ∀ {v : Value} {d : PyData} {as : List Addr}, Reads h v d as → n ∉ as := by
  intro v d as r
  refine Reads.rec (motive_1 := fun _ _ as _ => n ∉ as) (motive_2 := fun _ _ as _ => n ∉ as) ?_ ?_ ?_ ?_ ?_ ?_ ?_ ?_ ?_ r
  · simp
  · intros; simp
  · intros; simp
  · intros; simp
  · intro a o vs m xs as e _ _ _ ih hm
    rcases List.mem_cons.mp hm with z | z
    · have := Heap.lt_size e
      rw [← z] at this
      exact absurd (Nat.lt_of_lt_of_le this hn) (Nat.lt_irrefl _)
    · exact ih z
  · intro a o vs m xs as _ _ _ _ ih
    exact ih
  · intro a o es m kvs as bs e _ _ _ _ ih1 ih2 hm
    rcases List.mem_append.mp hm with z | z
    · rcases List.mem_cons.mp z with z | z
      · have := Heap.lt_size e
        rw [← z] at this
        exact absurd (Nat.lt_of_lt_of_le this hn) (Nat.lt_irrefl _)
      · exact ih1 z
    · exact ih2 z
  · simp
  · intro v vs d ds as bs _ _ ih1 ih2 hm
    rcases List.mem_append.mp hm with z | z
    · exact ih1 z
    · exact ih2 z
section
variable {X : Cx} {pins : List (Addr × Obj)} {σ : L2.St} {H : Hp} {s : Shared}
theorem each_reads (I : Inv X pins σ H s) : ∀ {vs : List V} {us : List Value} {ds : List PyData}, Vals vs us → DpAll X.K H vs ds → EachIs (fun u (b : V × PyData) => ∃ as, Reads s.heap u b.2 as) us (vs.zip ds)
  | _, _, _, .nil, .nil => .nil
  | _, _, _, .cons r rs, .cons d ds => .cons (Dp.reads I _ _ _ d r) (each_reads I rs ds)
theorem each_rel : ∀ {vs : List V} {us : List Value} {ds : List PyData}, Vals vs us → vs.length = ds.length → EachIs (fun u (b : V × PyData) => RelV b.1 u) us (vs.zip ds)
  | _, _, [], .nil, _ => .nil
  | _, _, _ :: _, .cons r rs, h => .cons r (each_rel rs (by simpa using h))
theorem vals_of_each : ∀ {us : List Value} {bs : List (V × PyData)}, EachIs (fun u (b : V × PyData) => RelV b.1 u) us bs → Vals (bs.map Prod.fst) us
  | _, _, .nil => .nil
  | _, _, .cons r rs => .cons r (vals_of_each rs)
theorem zip_snd : ∀ {vs : List V} {ds : List PyData}, vs.length = ds.length → (vs.zip ds).map Prod.snd = ds
  | [], [], _ => rfl
  | _ :: _, _ :: _, h => by simp [zip_snd (by simpa using h)]

/-- a new list that holds xs is sorted in place -/
theorem sort_new {A : Around} {E : Value → Shared → Prop} {Q : Value → Shared → Prop} {xs : List V} {us : List Value} {ds : List PyData} (hu : A.units + 65 < cLine) (I : Inv X pins σ H s) (rv : Vals xs us) (hd : DpAll X.K H xs ds) (hal : AllAlike ds) (hk : W.Sortable ds) (hL : xs.length ≤ sizeLine) (hdp : ∀ d ∈ ds, d.depth < 64)
    (hQ : ∀ s' p, Inv X pins σ (upd H p (.lst (srtV xs ds))) s' → p = s.heap.objs.size → Q .none s') :
    wpAny (model X.prog X.w) A (call (.builtin "list.sort") [.ref s.heap.objs.size]) Q E { s with heap := s.heap.push { cls := .type "list", data := .seq us.toArray } } := by
  have hlen := DpAll.len hd
  have ho : (s.heap.push { cls := .type "list", data := .seq us.toArray }).get? s.heap.objs.size = some (seqObj "list" us.toArray 0) := Heap.get?_push_size _ rfl
  have hn : H s.heap.objs.size = none := I.hok.fresh (Nat.le_refl _)
  refine list_sort_data (bs := xs.zip ds) (enc := Prod.snd) (R := fun u b => RelV b.1 u) ho (each_rel rv hlen) ((each_reads I rv hd).mono fun u b ⟨as, r⟩ => ⟨as, PyProof.Rows.Reads.keeps (fun b o e => Heap.get?_push_of_some _ e) r, reads_old (Nat.le_refl _) r⟩)
    (by rw [zip_snd hlen]; exact hal) (by rw [zip_snd hlen]; exact hk) (by rw [List.length_zip]; omega) (fun b hb => ?_) fun out ho2 eo => ?_
  · have : b.2 ∈ ds := (List.of_mem_zip (show (b.1, b.2) ∈ xs.zip ds from hb)).2
    have := hdp _ this
    omega
  · obtain ⟨c, hc⟩ := sortedHeap_at (vs := us) (out := out.toArray) ho
    refine hQ _ s.heap.objs.size (I.laid (t' := s.toks) (fun b o e => ?_) (Nat.le_refl _) ?_) rfl
    · have hlt : b < s.heap.objs.size := Heap.lt_size e
      rw [sortedHeap_old (Nat.ne_of_lt hlt) (by rw [Heap.size_push]; exact Nat.lt_succ_of_lt hlt)]
      exact Heap.get?_push_of_some _ e
    · refine ⟨?_, out, c, vals_of_each eo, hc⟩
      unfold srtV
      rw [List.length_map, List.length_mergeSort, List.length_zip]
      omega
end

section
variable {X : Cx} {k : Nat} {elt tg iter : Expr} {ifs : List Expr} {scope : Scope} {own : List (Str × Nat)} {P : Addr} {wi : TI} {gt : TG} {tt : TT} {te : TE} {p pos gpos : Pos}
/-- what sorted asks of the list, and gives -/
def finSort (K : PySem.W.Frag) (Q : VK) : List V → Hp → Prop := fun out H' => ∃ ds, DpAll K H' out ds ∧ AllAlike ds ∧ W.Sortable ds ∧ (∀ d ∈ ds, d.depth < 64) ∧ ∀ p, H' p = none → Q (.ref p) (upd H' p (.lst (srtV out ds)))
def tGSrt (K : PySem.W.Frag) (P : Addr) (wi : TI) (gt : TG) (tt : TT) (te : TE) (vs : List Nat) : TE := fun σ H Q => tGx P wi (ZW gt tt te vs σ List.length [] itAll (finSort K Q)) σ H

theorem pe_gsorted (D : GDer X k elt tg iter ifs scope own P wi gt tt te) (hr : Room (k + 5) X.A) (hg : Gl X "sorted") (hm : X.mg "sorted" = none) (hv : bootBuiltins "sorted" = some (.builtin "sorted"))
    (he : starEach [.GeneratorExp elt [⟨tg, iter, ifs, 0⟩] scope gpos] X.env = (false, eval (.GeneratorExp elt [⟨tg, iter, ifs, 0⟩] scope gpos) X.env) :: starEach [] X.env := by rfl) :
    PE X (.Call (.Name "sorted" p) [.GeneratorExp elt [⟨tg, iter, ifs, 0⟩] scope gpos] [] pos) (tGSrt X.K P wi gt tt te (own.map (·.2))) := by
  refine ⟨fun pins s σ H Q I h => ?_⟩
  obtain ⟨c, TB, hcode⟩ := D.tab
  refine wpAny_Call_Name_kw (ld_blt I hg hm hv ?_)
  refine PyProof.Rows.callWith_builtin1 ?_ he (by rfl)
  rw [he]
  show wpAny _ _ (spliced ((false, eval (.GeneratorExp elt [⟨tg, iter, ifs, 0⟩] scope gpos) X.env) :: backTo pos (starEach [] X.env))) _ _ s
  refine Calls.spliced_cons (gx_make (k := k + 5) hr TB hcode D.ok D.it D.fold I h fun s5 a g go s4 H2 fp tn J it code M hZ => ?_)
  refine Calls.spliced_nil ?_
  refine call_function_tree PyProof.Rows.kind_sorted PyProof.Rows.plain_sorted PyProof.Rows.entry_sorted (PyProof.Rows.args_sorted1 _) ?_
  show wpAny _ X.A.in1 (checkCount "sorted" 1 1 1 >>= _) _ _ s5
  refine wpAny_bind (wpAny_of_eq (a := ()) (by rfl) ?_)
  refine wpAny_bind (m := collect (.ref a)) (collect_gx (A := X.A.in1) D M ((hr.mono (by omega : k + 3 + 1 ≤ k + 5)).in1) I.ok.frames hZ fun s1 H' out us I1 hf hlen rv => ?_)
  obtain ⟨ds, q1, q2, q3, q4, q5⟩ := hf
  refine wpAny_bind (wpAny_newObj_type ?_ (by show us.toArray.size ≤ sizeLine; simp only [List.size_toArray]; rw [← rv.length]; exact hlen))
  refine wpAny_bind (wpAny_holding (sort_new (A := X.A.in1) (by have := hr.un; show X.A.units + 1 + 65 < _; omega) I1 rv q1 q2 q3 hlen q4 fun s' p hI hp => ?_))
  subst hp
  exact wpAny_pure ⟨.ref s1.heap.objs.size, _, hI, rfl, q5 _ (I1.hok.fresh (Nat.le_refl _))⟩
end
end GXP

end
section
set_option Elab.async false
set_option linter.all false
set_option maxRecDepth 100000
set_option maxHeartbeats 4000000
/-! generator expressions: sum, min, max -/
namespace GXP
open PySem PySem.Spec PyProof.Rows L2 GenW PySem.W

/-! ### sum -/
def csS (S : Addr) : CSt (Nat × Int) := fun a cp => ∃ (t : Tok) (c : Nat), cp = [(S, lstObj #[.int a.2 t] c)]
def itSum : Itm (Nat × Int) := fun a x _ Nc => ∃ j : Int, x = .int j ∧ (-(2 ^ 63) ≤ j ∧ j < 2 ^ 63) ∧ (-(2 ^ 63) ≤ a.2 + j ∧ a.2 + j < 2 ^ 63) ∧ Nc (a.1 + 1, a.2 + j)
section
variable {G : Cx} {A : Around} {a g S : Addr} {fin : Nat × Int → Hp → Prop} {R : Result → Shared → Prop}
theorem sum_loop (hh : A.handled = none) (hroom : A.depth < recursionLimit) (haS : a ≠ S) (hcS : cStatics ≠ S) (hap : ∃ go, (a, go) ∈ G.pn ∧ ∀ h : Heap, h.get? a = some go → h.IsGen a g)
    (hR : ∀ s1 s0 H' σ' pp acc t, Inv G pp σ' H' s0 → s1.os = s0.os → AllBare s1.gens → (∀ b o, s0.heap.get? b = some o → s1.heap.get? b = some o) → fin acc H' → R (.ok (.ret (.int acc.2 t))) s1) :
    ∀ (n : Nat) (s : Shared), (∃ t0 tok c, s.heap.get? S = some (lstObj #[.int t0 tok] c)) → GPh Prod.fst G A.in1.in1 [S] (csS S) itSum fin a g n s → codeAny (model G.prog G.w) A (.builtin "sum.loop" ⟨[.ref a, .ref S, rawInt 0, rawInt 0], []⟩) R s := by
  intro n
  induction n using Nat.strongRecOn with
  | ind n ih =>
    intro s hS h
    obtain ⟨t0, tok, c0, hS⟩ := hS
    refine codeAny_builtin F.entry_sum_loop ?_
    rw [Around.under_plainId F.plain_sum_loop _]
    show wpAny _ A.in1 (seqItems? (.ref S) >>= _) _ _ s
    refine wpAny_bind (wpAny_seqItems hS rfl ?_)
    show wpAny _ A.in1 (tryCatch (pyNext (.ref a)) _ >>= _) _ _ s
    refine wpAny_bind (wpAny_tryCatch (gx_next (A := A.in1) hh hroom (by simp [haS]) (by simp [hcS]) hap h (fun s1 s0 out H' σ' pn' cp hn I hcp hcs h0 hf h1 h2 h3 => ?_) fun v s1 out x H' σ' pn' cp Nc hlt rx I hcp hcs h0 hit hk => ?_))
    · obtain ⟨t, c, rfl⟩ := hcs
      have e := h0 _ (List.mem_singleton.mpr rfl)
      rw [hS] at e
      cases e
      exact wpAny_pure (hR s1 s0 H' σ' _ out tok I h1 h2 h3 hf)
    · obtain ⟨t, c, rfl⟩ := hcs
      have e := h0 _ (List.mem_singleton.mpr rfl)
      rw [hS] at e
      cases e
      obtain ⟨p1, p2, _⟩ := I.pin (S, lstObj #[.int out.2 tok] c0) (List.mem_append_right _ (List.mem_append_left _ (List.mem_singleton.mpr rfl)))
      obtain ⟨j, rfl, ⟨f1, f2⟩, ⟨f3, f4⟩, nc⟩ := hit
      obtain ⟨tj, rfl⟩ := rx
      have hc : ((decide (-(2 ^ 63) ≤ j) && decide (j < 2 ^ 63)) && (decide (-(2 ^ 63) ≤ out.2 + j) && decide (out.2 + j < 2 ^ 63))) = true := by
        simp only [Bool.and_eq_true, decide_eq_true_eq]
        exact ⟨⟨f1, f2⟩, f3, f4⟩
      show wpAny _ A.in1 (if (_ : Bool) = true then (mkInt (out.2 + j) >>= _) else _) _ _ _
      split
      · refine wpAny_bind (wpAny_mkInt ?_)
        show wpAny _ A.in1 (updateSeq S (fun _ => #[.int (out.2 + j) s1.toks]) >>= _) _ _ _
        refine wpAny_bind ?_
        refine wpAny_updateSeq p1 rfl ?_
        obtain ⟨c', hc'⟩ : ∃ c', (s1.heap.update S (Obj.mapSeq (fun _ => #[.int (out.2 + j) s1.toks]))).get? S = some (lstObj #[.int (out.2 + j) s1.toks] c') := ⟨_, Heap.get?_update_self _ p1 rfl⟩
        obtain ⟨h1, h2⟩ := hk (out.1 + 1, out.2 + j) rfl nc { s1 with heap := s1.heap.update S (Obj.mapSeq (fun _ => #[.int (out.2 + j) s1.toks])), toks := s1.toks + 1 } rfl ⟨rfl, I.bare, fun b o hb e => (Heap.get?_update_other _ _ (fun z => hb (by rw [z]; exact List.mem_singleton.mpr rfl))).trans e,
          [(S, lstObj #[.int (out.2 + j) s1.toks] c')], rfl, ⟨_, _, rfl⟩, fun p hp => by rw [List.mem_singleton.mp hp]; exact ⟨hc', fun v z => by cases z⟩⟩
        exact wpAny_pure ⟨plainId_quiet F.plain_sum_loop _, ih (n - 1) (by omega) _ ⟨_, _, _, hc'⟩ h2⟩
      · rename_i hneg
        exact absurd hc hneg
end
section
variable {X : Cx} {k : Nat} {elt tg iter : Expr} {ifs : List Expr} {scope : Scope} {own : List (Str × Nat)} {P : Addr} {wi : TI} {gt : TG} {tt : TT} {te : TE} {p pos gpos : Pos}
def tGSum (P : Addr) (wi : TI) (gt : TG) (tt : TT) (te : TE) (vs : List Nat) : TE := fun σ H Q => tGx P wi (ZW gt tt te vs σ Prod.fst (0, 0) itSum fun acc H' => Q (.int acc.2) H') σ H
theorem pe_gsum (D : GDer X k elt tg iter ifs scope own P wi gt tt te) (hr : Room (k + 4) X.A) (hg : Gl X "sum") (hm : X.mg "sum" = none) (hb : bootBuiltins "sum" = some (.builtin "sum"))
    (he : starEach [.GeneratorExp elt [⟨tg, iter, ifs, 0⟩] scope gpos] X.env = (false, eval (.GeneratorExp elt [⟨tg, iter, ifs, 0⟩] scope gpos) X.env) :: starEach [] X.env := by rfl) :
    PE X (.Call (.Name "sum" p) [.GeneratorExp elt [⟨tg, iter, ifs, 0⟩] scope gpos] [] pos) (tGSum P wi gt tt te (own.map (·.2))) := by
  refine ⟨fun pins s σ H Q I h => ?_⟩
  obtain ⟨c, TB, hcode⟩ := D.tab
  refine wpAny_Call_Name_kw (ld_blt I hg hm hb ?_)
  refine PyProof.Rows.callWith_builtin1 ?_ he (by rfl)
  rw [he]
  show wpAny _ _ (spliced ((false, eval (.GeneratorExp elt [⟨tg, iter, ifs, 0⟩] scope gpos) X.env) :: backTo pos (starEach [] X.env))) _ _ s
  refine Calls.spliced_cons (gx_make (k := k + 4) hr TB hcode D.ok D.it D.fold I h fun s5 a g go s4 H2 fp tn J it code M hZ => ?_)
  refine Calls.spliced_nil ?_
  have alt : a < s5.heap.objs.size := Heap.lt_size M.at_
  refine call_function_tree F.kind_sum F.plain_sum F.entry_sum (F.args_sum1 _) ?_
  unfold Builtin.«sum»
  simp only [List.length_cons, List.length_nil]
  rw [if_neg (by decide)]
  refine wpAny_bind (wpAny_of_eq (show Builtin.Builtins.bindParams "sum" ["start"] 0 { } = pure [none] from rfl) ?_)
  refine wpAny_bind (wpAny_pyIter_gen (M.gen _ M.at_) ?_)
  refine wpAny_bind (wpAny_mkInt ?_)
  refine wpAny_bind (wpAny_pure ?_)
  simp only [List.forIn_cons, List.forIn_nil]
  refine wpAny_bind (wpAny_bind (wpAny_bind (wpAny_isInstance (T := "int") (b := false) (typeIs_int _ _ _) PySem.sub_int_str ?_)))
  simp only [Bool.false_eq_true, if_false]
  refine wpAny_pure (wpAny_bind (wpAny_bind (wpAny_isInstance (T := "int") (b := false) (typeIs_int _ _ _) PySem.sub_int_bytes ?_)))
  simp only [Bool.false_eq_true, if_false]
  refine wpAny_pure (wpAny_bind (wpAny_bind (wpAny_isInstance (T := "int") (b := false) (typeIs_int _ _ _) PySem.sub_int_bytearray ?_)))
  simp only [Bool.false_eq_true, if_false]
  refine wpAny_pure (wpAny_pure ?_)
  refine wpAny_bind (wpAny_newObj_type ?_)
  have hS₁ : (s5.heap.push { cls := .type "list", data := .seq ([Value.int 0 s5.toks] : List Value).toArray }).get? s5.heap.objs.size = some (lstObj #[Value.int 0 s5.toks] 0) := Heap.get?_push_size _ rfl
  obtain ⟨w1, w2, w3, w4⟩ := gx_wake (α := Nat × Int) (sz := Prod.fst) (a0 := (0, 0)) (item := itSum) (fin := fun acc H' => Q (.int acc.2) H') D.nd (s6 := { s5 with heap := s5.heap.push { cls := .type "list", data := .seq ([Value.int 0 s5.toks] : List Value).toArray }, toks := s5.toks + 1 }) (A := X.A.in1.in1) (SA := [s5.heap.objs.size]) (CS := csS s5.heap.objs.size) (k := k) M D.ok ((hr.mono (by omega : k + 1 + 2 ≤ k + 4)).in1.in1) I.ok.frames D.tgt D.tst D.elt
    (fun b o e => Heap.get?_push_of_some _ e) rfl rfl (by simp) ⟨[(s5.heap.objs.size, lstObj #[Value.int 0 s5.toks] 0)], rfl, ⟨_, _, rfl⟩, fun p hp => by rw [List.mem_singleton.mp hp]; exact ⟨hS₁, fun v z => by cases z⟩⟩ rfl hZ
  refine wpAny_pure ⟨plainId_quiet F.plain_sum_loop _, sum_loop (A := X.A) hr.hd (by have := hr.dp; show X.A.depth < _; omega) (Nat.ne_of_lt alt) (fun z => w3 (by rw [z]; exact List.mem_singleton.mpr rfl)) w4 (fun s1 s0 H' σ' pp acc t J' h1 h2 h3 hq => ?_) sizeLine _ ⟨_, _, _, hS₁⟩ w1⟩
  exact ⟨.int acc.2, H', gx_back M J' h1 h2 h3, ⟨t, rfl⟩, hq⟩
end

/-! ### min, max -/
def csM (S : Addr) : CSt (Nat × Option V) := fun a cp => (a.2 = none ∧ ∃ c, cp = [(S, lstObj #[] c)]) ∨ ∃ xb vb c, a.2 = some xb ∧ RelV xb vb ∧ cp = [(S, lstObj #[vb, vb] c)]
/-- the one that is kept, of an old one and a new one -/
def itMM (K : PySem.W.Frag) (mx : Bool) : Itm (Nat × Option V) := fun a y H Nc => match a.2 with
  | none => Nc (a.1 + 1, some y)
  | some xb => ∃ dy db, Dp K H y dy ∧ Dp K H xb db ∧ alike dy db = true ∧ dy ≠ .none ∧ dy.depth < 64 ∧ Nc (a.1 + 1, some (if (if mx then dataLt db dy else dataLt dy db) = true then y else xb))
section
variable {G : Cx} {A : Around} {a g S : Addr} {fin : Nat × Option V → Hp → Prop} {R : Result → Shared → Prop}
theorem min_loop (hh : A.handled = none) (hroom : A.depth < recursionLimit) (hun : A.units + 70 < cLine) (haS : a ≠ S) (hcS : cStatics ≠ S) (hap : ∃ go, (a, go) ∈ G.pn ∧ ∀ h : Heap, h.get? a = some go → h.IsGen a g)
    (hf0 : ∀ n H, ¬ fin (n, none) H)
    (hR : ∀ s1 s0 H' σ' pp n xb vb, Inv G pp σ' H' s0 → s1.os = s0.os → AllBare s1.gens → (∀ b o, b ≠ S → s0.heap.get? b = some o → s1.heap.get? b = some o) → (∃ o, s1.heap.get? S = some o) → H' S = none → fin (n, some xb) H' → RelV xb vb → R (.ok (.ret vb)) s1) :
    ∀ (n : Nat) (s : Shared), (∃ acc cp, csM S acc cp ∧ ∀ p ∈ cp, s.heap.get? p.1 = some p.2) → GPh Prod.fst G A.in1.in1 [S] (csM S) (itMM G.K false) fin a g n s → codeAny (model G.prog G.w) A (.builtin "min.loop" ⟨[.ref a, .none, .ref S], []⟩) R s := by
  have hname : (toString "min" ++ toString ".loop" : String) = "min.loop" := by decide
  intro n
  induction n using Nat.strongRecOn with
  | ind n ih =>
    intro s hS h
    obtain ⟨acc0, cp0, hS, hS0⟩ := hS
    obtain ⟨o0, hcp0, ho0⟩ : ∃ o0, cp0 = [(S, o0)] ∧ s.heap.get? S = some o0 := by
      rcases hS with ⟨_, c, rfl⟩ | ⟨_, _, c, _, _, rfl⟩ <;> exact ⟨_, rfl, hS0 _ (List.mem_singleton.mpr rfl)⟩
    have upd_ : ∀ {s1 : Shared} {o1 : Obj} {b : Value} {acc' : Nat × Option V} {xb : V} {c1 : Nat} {old : Array Value} {out : Nat × Option V} {x : V}, s1.heap.get? S = some (lstObj old c1) → AllBare s1.gens → acc'.2 = some xb → RelV xb b →
        (∀ b' o, b' ∉ [S] → s1.heap.get? b' = some o → (s1.heap.update S (Obj.mapSeq fun _ => #[b, b])).get? b' = some o) ∧ ∃ cp : List (Addr × Obj), cp.map (·.1) = [S] ∧ csM S acc' cp ∧ ∀ p ∈ cp, (s1.heap.update S (Obj.mapSeq fun _ => #[b, b])).get? p.1 = some p.2 ∧ ∀ v, p.2.data ≠ .cell v := by
      intro s1 o1 b acc' xb c1 old out x e hb h1 h2
      refine ⟨fun b' o hb e => (Heap.get?_update_other _ _ (fun z => hb (by rw [z]; exact List.mem_singleton.mpr rfl))).trans e, ?_⟩
      obtain ⟨c', hc'⟩ : ∃ c', (s1.heap.update S (Obj.mapSeq fun _ => #[b, b])).get? S = some (lstObj #[b, b] c') := ⟨_, Heap.get?_update_self _ e rfl⟩
      exact ⟨[(S, lstObj #[b, b] c')], rfl, .inr ⟨xb, b, c', h1, h2, rfl⟩, fun p hp => by rw [List.mem_singleton.mp hp]; exact ⟨hc', fun v z => by cases z⟩⟩
    refine codeAny_builtin F.entry_min_loop ?_
    rw [Around.under_plainId F.plain_min_loop _]
    show wpAny _ A.in1 (seqItems? (.ref S) >>= _) _ _ s
    rcases hS with ⟨hn0, c, hcpe⟩ | ⟨xb, vb, c, hn0, rb, hcpe⟩
    · -- none so far
      have hoe := hS0 (S, lstObj #[] c) (by rw [hcpe]; exact List.mem_singleton.mpr rfl)
      refine wpAny_bind (wpAny_seqItems hoe rfl ?_)
      show wpAny _ A.in1 (tryCatch (pyNext (.ref a)) _ >>= _) _ _ s
      refine wpAny_bind (wpAny_tryCatch (gx_next (A := A.in1) hh hroom (by simp [haS]) (by simp [hcS]) hap h (fun s1 s0 out H' σ' pn' cp hn I hcp hcs h0 hf h1 h2 h3 => ?_) fun v s1 out x H' σ' pn' cp Nc hlt rx I hcp hcs h0 hit hk => ?_))
      · exfalso
        rcases hcs with ⟨e1, c1, rfl⟩ | ⟨xb1, vb1, c1, e1, _, rfl⟩
        · obtain ⟨o1, o2⟩ := out
          have e1 : o2 = none := e1
          subst e1
          exact hf0 _ _ hf
        · have e := h0 _ (List.mem_singleton.mpr rfl)
          rw [hoe] at e
          cases e
      · have e2 : out.2 = none ∧ s1.heap.get? S = some (lstObj #[] c) := by
          rcases hcs with ⟨e1, c1, rfl⟩ | ⟨xb1, vb1, c1, e1, _, rfl⟩
          · have e := h0 _ (List.mem_singleton.mpr rfl)
            rw [hoe] at e
            cases e
            exact ⟨e1, (I.pin _ (List.mem_append_right _ (List.mem_append_left _ (List.mem_singleton.mpr rfl)))).1⟩
          · have e := h0 _ (List.mem_singleton.mpr rfl)
            rw [hoe] at e
            cases e
        obtain ⟨e2, e3⟩ := e2
        unfold itMM at hit
        rw [e2] at hit
        show wpAny _ A.in1 (updateSeq S (fun _ => #[v, v]) >>= _) _ _ _
        refine wpAny_bind ?_
        refine wpAny_updateSeq e3 rfl ?_
        rw [hname]
        obtain ⟨u1, u2⟩ := upd_ (o1 := lstObj #[] c) (acc' := (out.1 + 1, some x)) (out := out) (x := x) e3 I.bare rfl rx
        obtain ⟨h1, h2⟩ := hk (out.1 + 1, some x) rfl hit { s1 with heap := s1.heap.update S (Obj.mapSeq fun _ => #[v, v]) } rfl ⟨rfl, I.bare, u1, u2⟩
        obtain ⟨cp2, y1, y2, y3⟩ := u2
        exact wpAny_pure ⟨plainId_quiet F.plain_min_loop _, ih (n - 1) (by omega) _ ⟨_, cp2, y2, fun p hp => (y3 p hp).1⟩ h2⟩
    · -- one is kept
      have hoe := hS0 (S, lstObj #[vb, vb] c) (by rw [hcpe]; exact List.mem_singleton.mpr rfl)
      refine wpAny_bind (wpAny_seqItems hoe rfl ?_)
      show wpAny _ A.in1 (tryCatch (pyNext (.ref a)) _ >>= _) _ _ s
      have link : ∀ {out : Nat × Option V} {cp pn' : List (Addr × Obj)} {σ' : L2.St} {H' : Hp} {s1 : Shared}, csM S out cp → (∀ p ∈ cp, s.heap.get? p.1 = some p.2) → Inv G (cp ++ pn') σ' H' s1 → (∃ xb', out.2 = some xb' ∧ RelV xb' vb) ∧ s1.heap.get? S = some (lstObj #[vb, vb] c) ∧ H' S = none := by
        intro out cp pn' σ' H' s1 hcs h0 I
        rcases hcs with ⟨e1, c1, rfl⟩ | ⟨xb1, vb1, c1, e1, r1, rfl⟩
        · have e := h0 _ (List.mem_singleton.mpr rfl)
          rw [hoe] at e
          cases e
        · have e := h0 _ (List.mem_singleton.mpr rfl)
          rw [hoe] at e
          cases e
          have q := I.pin _ (List.mem_append_right _ (List.mem_append_left _ (List.mem_singleton.mpr rfl)))
          exact ⟨⟨xb1, e1, r1⟩, q.1, q.2.1⟩
      refine wpAny_bind (wpAny_tryCatch (gx_next (A := A.in1) hh hroom (by simp [haS]) (by simp [hcS]) hap h (fun s1 s0 out H' σ' pn' cp hn I hcp hcs h0 hf h1 h2 h3 => ?_) fun v s1 out x H' σ' pn' cp Nc hlt rx I hcp hcs h0 hit hk => ?_))
      · obtain ⟨⟨xb', e1, r1⟩, e2, e3⟩ := link hcs h0 I
        obtain ⟨o1, o2⟩ := out
        have e1 : o2 = some xb' := e1
        subst e1
        have e4 := h3 _ _ e2
        show wpAny _ A.in1 (updateSeq S (fun _ => #[]) >>= _) _ _ _
        refine wpAny_bind ?_
        refine wpAny_updateSeq e4 rfl (wpAny_bind (wpAny_letGo (wpAny_pure ?_)))
        exact hR _ s0 H' σ' _ o1 xb' vb I h1 h2 (fun b o hb e => (Heap.get?_update_other _ _ (Ne.symm hb)).trans (h3 b o e)) ⟨_, Heap.get?_update_self _ e4 rfl⟩ e3 hf r1
      · obtain ⟨⟨xb', e1, r1⟩, e2, e3⟩ := link hcs h0 I
        unfold itMM at hit
        rw [e1] at hit
        obtain ⟨dy, db, d1, d2, d3, d4, d5, nc⟩ := hit
        obtain ⟨as1, y1⟩ := Dp.reads I dy x v d1 rx
        obtain ⟨as2, y2⟩ := Dp.reads I db xb' vb d2 r1
        show wpAny _ A.in1 (tryCatch (holding [v, v] (richCompare .Lt v vb >>= _)) _ >>= _) _ _ _
        refine wpAny_bind (wpAny_tryCatch (wpAny_holding (wpAny_bind (rcLt_alike dy db A.in1 s1 v vb as1 as2 y1 y2 d3 d4 (by
          have := Nat.min_le_left dy.depth db.depth
          show A.units + 1 + _ < _
          omega) G.prog G.w _ _ ?_))))
        refine wpAny_bind (wpAny_holding (wpAny_truthy_bool ?_))
        refine wpAny_bind (wpAny_letGo (wpAny_pure ?_))
        cases hb : dataLt dy db with
        | true =>
          simp only [if_true]
          refine wpAny_bind ?_
          refine wpAny_updateSeq e2 rfl (wpAny_bind (wpAny_letGo ?_))
          rw [hname]
          rw [hb] at nc
          obtain ⟨u1, u2⟩ := upd_ (o1 := lstObj #[] c) (acc' := (out.1 + 1, some x)) (out := out) (x := x) e2 I.bare rfl rx
          obtain ⟨h1, h2⟩ := hk (out.1 + 1, some x) rfl (by simpa using nc) { s1 with heap := s1.heap.update S (Obj.mapSeq fun _ => #[v, v]) } rfl ⟨rfl, I.bare, u1, u2⟩
          obtain ⟨cp2, z1, z2, z3⟩ := u2
          exact wpAny_pure ⟨plainId_quiet F.plain_min_loop _, ih (n - 1) (by omega) _ ⟨_, cp2, z2, fun p hp => (z3 p hp).1⟩ h2⟩
        | false =>
          simp only [Bool.false_eq_true, if_false]
          refine wpAny_bind (wpAny_letGo ?_)
          rw [hname]
          rw [hb] at nc
          obtain ⟨h1, h2⟩ := hk (out.1 + 1, some xb') rfl (by simpa using nc) s1 rfl ⟨rfl, I.bare, fun _ _ _ e => e, [(S, lstObj #[vb, vb] c)], rfl, .inr ⟨xb', vb, c, rfl, r1, rfl⟩, fun p hp => by rw [List.mem_singleton.mp hp]; exact ⟨e2, fun v z => by cases z⟩⟩
          exact wpAny_pure ⟨plainId_quiet F.plain_min_loop _, ih (n - 1) (by omega) _ ⟨(0, some xb'), [(S, lstObj #[vb, vb] c)], .inr ⟨xb', vb, c, rfl, r1, rfl⟩, fun p hp => by rw [List.mem_singleton.mp hp]; exact e2⟩ h2⟩
end
end GXP

end
section
set_option Elab.async false
set_option linter.all false
set_option maxRecDepth 100000
set_option maxHeartbeats 4000000
/-! generator expressions: max; min and max as rules -/
namespace GXP
open PySem PySem.Spec PyProof.Rows L2 GenW PySem.W
section
variable {G : Cx} {A : Around} {a g S : Addr} {fin : Nat × Option V → Hp → Prop} {R : Result → Shared → Prop}
theorem max_loop (hh : A.handled = none) (hroom : A.depth < recursionLimit) (hun : A.units + 70 < cLine) (haS : a ≠ S) (hcS : cStatics ≠ S) (hap : ∃ go, (a, go) ∈ G.pn ∧ ∀ h : Heap, h.get? a = some go → h.IsGen a g)
    (hf0 : ∀ n H, ¬ fin (n, none) H)
    (hR : ∀ s1 s0 H' σ' pp n xb vb, Inv G pp σ' H' s0 → s1.os = s0.os → AllBare s1.gens → (∀ b o, b ≠ S → s0.heap.get? b = some o → s1.heap.get? b = some o) → (∃ o, s1.heap.get? S = some o) → H' S = none → fin (n, some xb) H' → RelV xb vb → R (.ok (.ret vb)) s1) :
    ∀ (n : Nat) (s : Shared), (∃ acc cp, csM S acc cp ∧ ∀ p ∈ cp, s.heap.get? p.1 = some p.2) → GPh Prod.fst G A.in1.in1 [S] (csM S) (itMM G.K true) fin a g n s → codeAny (model G.prog G.w) A (.builtin "max.loop" ⟨[.ref a, .none, .ref S], []⟩) R s := by
  have hname : (toString "max" ++ toString ".loop" : String) = "max.loop" := by decide
  intro n
  induction n using Nat.strongRecOn with
  | ind n ih =>
    intro s hS h
    obtain ⟨acc0, cp0, hS, hS0⟩ := hS
    obtain ⟨o0, hcp0, ho0⟩ : ∃ o0, cp0 = [(S, o0)] ∧ s.heap.get? S = some o0 := by
      rcases hS with ⟨_, c, rfl⟩ | ⟨_, _, c, _, _, rfl⟩ <;> exact ⟨_, rfl, hS0 _ (List.mem_singleton.mpr rfl)⟩
    have upd_ : ∀ {s1 : Shared} {o1 : Obj} {b : Value} {acc' : Nat × Option V} {xb : V} {c1 : Nat} {old : Array Value} {out : Nat × Option V} {x : V}, s1.heap.get? S = some (lstObj old c1) → AllBare s1.gens → acc'.2 = some xb → RelV xb b →
        (∀ b' o, b' ∉ [S] → s1.heap.get? b' = some o → (s1.heap.update S (Obj.mapSeq fun _ => #[b, b])).get? b' = some o) ∧ ∃ cp : List (Addr × Obj), cp.map (·.1) = [S] ∧ csM S acc' cp ∧ ∀ p ∈ cp, (s1.heap.update S (Obj.mapSeq fun _ => #[b, b])).get? p.1 = some p.2 ∧ ∀ v, p.2.data ≠ .cell v := by
      intro s1 o1 b acc' xb c1 old out x e hb h1 h2
      refine ⟨fun b' o hb e => (Heap.get?_update_other _ _ (fun z => hb (by rw [z]; exact List.mem_singleton.mpr rfl))).trans e, ?_⟩
      obtain ⟨c', hc'⟩ : ∃ c', (s1.heap.update S (Obj.mapSeq fun _ => #[b, b])).get? S = some (lstObj #[b, b] c') := ⟨_, Heap.get?_update_self _ e rfl⟩
      exact ⟨[(S, lstObj #[b, b] c')], rfl, .inr ⟨xb, b, c', h1, h2, rfl⟩, fun p hp => by rw [List.mem_singleton.mp hp]; exact ⟨hc', fun v z => by cases z⟩⟩
    refine codeAny_builtin F.entry_max_loop ?_
    rw [Around.under_plainId F.plain_max_loop _]
    show wpAny _ A.in1 (seqItems? (.ref S) >>= _) _ _ s
    rcases hS with ⟨hn0, c, hcpe⟩ | ⟨xb, vb, c, hn0, rb, hcpe⟩
    · -- none so far
      have hoe := hS0 (S, lstObj #[] c) (by rw [hcpe]; exact List.mem_singleton.mpr rfl)
      refine wpAny_bind (wpAny_seqItems hoe rfl ?_)
      show wpAny _ A.in1 (tryCatch (pyNext (.ref a)) _ >>= _) _ _ s
      refine wpAny_bind (wpAny_tryCatch (gx_next (A := A.in1) hh hroom (by simp [haS]) (by simp [hcS]) hap h (fun s1 s0 out H' σ' pn' cp hn I hcp hcs h0 hf h1 h2 h3 => ?_) fun v s1 out x H' σ' pn' cp Nc hlt rx I hcp hcs h0 hit hk => ?_))
      · exfalso
        rcases hcs with ⟨e1, c1, rfl⟩ | ⟨xb1, vb1, c1, e1, _, rfl⟩
        · obtain ⟨o1, o2⟩ := out
          have e1 : o2 = none := e1
          subst e1
          exact hf0 _ _ hf
        · have e := h0 _ (List.mem_singleton.mpr rfl)
          rw [hoe] at e
          cases e
      · have e2 : out.2 = none ∧ s1.heap.get? S = some (lstObj #[] c) := by
          rcases hcs with ⟨e1, c1, rfl⟩ | ⟨xb1, vb1, c1, e1, _, rfl⟩
          · have e := h0 _ (List.mem_singleton.mpr rfl)
            rw [hoe] at e
            cases e
            exact ⟨e1, (I.pin _ (List.mem_append_right _ (List.mem_append_left _ (List.mem_singleton.mpr rfl)))).1⟩
          · have e := h0 _ (List.mem_singleton.mpr rfl)
            rw [hoe] at e
            cases e
        obtain ⟨e2, e3⟩ := e2
        unfold itMM at hit
        rw [e2] at hit
        show wpAny _ A.in1 (updateSeq S (fun _ => #[v, v]) >>= _) _ _ _
        refine wpAny_bind ?_
        refine wpAny_updateSeq e3 rfl ?_
        rw [hname]
        obtain ⟨u1, u2⟩ := upd_ (o1 := lstObj #[] c) (acc' := (out.1 + 1, some x)) (out := out) (x := x) e3 I.bare rfl rx
        obtain ⟨h1, h2⟩ := hk (out.1 + 1, some x) rfl hit { s1 with heap := s1.heap.update S (Obj.mapSeq fun _ => #[v, v]) } rfl ⟨rfl, I.bare, u1, u2⟩
        obtain ⟨cp2, y1, y2, y3⟩ := u2
        exact wpAny_pure ⟨plainId_quiet F.plain_max_loop _, ih (n - 1) (by omega) _ ⟨_, cp2, y2, fun p hp => (y3 p hp).1⟩ h2⟩
    · -- one is kept
      have hoe := hS0 (S, lstObj #[vb, vb] c) (by rw [hcpe]; exact List.mem_singleton.mpr rfl)
      refine wpAny_bind (wpAny_seqItems hoe rfl ?_)
      show wpAny _ A.in1 (tryCatch (pyNext (.ref a)) _ >>= _) _ _ s
      have link : ∀ {out : Nat × Option V} {cp pn' : List (Addr × Obj)} {σ' : L2.St} {H' : Hp} {s1 : Shared}, csM S out cp → (∀ p ∈ cp, s.heap.get? p.1 = some p.2) → Inv G (cp ++ pn') σ' H' s1 → (∃ xb', out.2 = some xb' ∧ RelV xb' vb) ∧ s1.heap.get? S = some (lstObj #[vb, vb] c) ∧ H' S = none := by
        intro out cp pn' σ' H' s1 hcs h0 I
        rcases hcs with ⟨e1, c1, rfl⟩ | ⟨xb1, vb1, c1, e1, r1, rfl⟩
        · have e := h0 _ (List.mem_singleton.mpr rfl)
          rw [hoe] at e
          cases e
        · have e := h0 _ (List.mem_singleton.mpr rfl)
          rw [hoe] at e
          cases e
          have q := I.pin _ (List.mem_append_right _ (List.mem_append_left _ (List.mem_singleton.mpr rfl)))
          exact ⟨⟨xb1, e1, r1⟩, q.1, q.2.1⟩
      refine wpAny_bind (wpAny_tryCatch (gx_next (A := A.in1) hh hroom (by simp [haS]) (by simp [hcS]) hap h (fun s1 s0 out H' σ' pn' cp hn I hcp hcs h0 hf h1 h2 h3 => ?_) fun v s1 out x H' σ' pn' cp Nc hlt rx I hcp hcs h0 hit hk => ?_))
      · obtain ⟨⟨xb', e1, r1⟩, e2, e3⟩ := link hcs h0 I
        obtain ⟨o1, o2⟩ := out
        have e1 : o2 = some xb' := e1
        subst e1
        have e4 := h3 _ _ e2
        show wpAny _ A.in1 (updateSeq S (fun _ => #[]) >>= _) _ _ _
        refine wpAny_bind ?_
        refine wpAny_updateSeq e4 rfl (wpAny_bind (wpAny_letGo (wpAny_pure ?_)))
        exact hR _ s0 H' σ' _ o1 xb' vb I h1 h2 (fun b o hb e => (Heap.get?_update_other _ _ (Ne.symm hb)).trans (h3 b o e)) ⟨_, Heap.get?_update_self _ e4 rfl⟩ e3 hf r1
      · obtain ⟨⟨xb', e1, r1⟩, e2, e3⟩ := link hcs h0 I
        unfold itMM at hit
        rw [e1] at hit
        obtain ⟨dy, db, d1, d2, d3, d4, d5, nc⟩ := hit
        obtain ⟨as1, y1⟩ := Dp.reads I dy x v d1 rx
        obtain ⟨as2, y2⟩ := Dp.reads I db xb' vb d2 r1
        show wpAny _ A.in1 (tryCatch (holding [v, v] (richCompare .Gt v vb >>= _)) _ >>= _) _ _ _
        refine wpAny_bind (wpAny_tryCatch (wpAny_holding (wpAny_bind (rcGt_alike dy db A.in1 s1 v vb as1 as2 y1 y2 d3 d4 (by
          have := Nat.min_le_left dy.depth db.depth
          show A.units + 1 + _ < _
          omega) G.prog G.w _ _ ?_))))
        refine wpAny_bind (wpAny_holding (wpAny_truthy_bool ?_))
        refine wpAny_bind (wpAny_letGo (wpAny_pure ?_))
        cases hb : dataLt db dy with
        | true =>
          simp only [if_true]
          refine wpAny_bind ?_
          refine wpAny_updateSeq e2 rfl (wpAny_bind (wpAny_letGo ?_))
          rw [hname]
          rw [hb] at nc
          obtain ⟨u1, u2⟩ := upd_ (o1 := lstObj #[] c) (acc' := (out.1 + 1, some x)) (out := out) (x := x) e2 I.bare rfl rx
          obtain ⟨h1, h2⟩ := hk (out.1 + 1, some x) rfl (by simpa using nc) { s1 with heap := s1.heap.update S (Obj.mapSeq fun _ => #[v, v]) } rfl ⟨rfl, I.bare, u1, u2⟩
          obtain ⟨cp2, z1, z2, z3⟩ := u2
          exact wpAny_pure ⟨plainId_quiet F.plain_max_loop _, ih (n - 1) (by omega) _ ⟨_, cp2, z2, fun p hp => (z3 p hp).1⟩ h2⟩
        | false =>
          simp only [Bool.false_eq_true, if_false]
          refine wpAny_bind (wpAny_letGo ?_)
          rw [hname]
          rw [hb] at nc
          obtain ⟨h1, h2⟩ := hk (out.1 + 1, some xb') rfl (by simpa using nc) s1 rfl ⟨rfl, I.bare, fun _ _ _ e => e, [(S, lstObj #[vb, vb] c)], rfl, .inr ⟨xb', vb, c, rfl, r1, rfl⟩, fun p hp => by rw [List.mem_singleton.mp hp]; exact ⟨e2, fun v z => by cases z⟩⟩
          exact wpAny_pure ⟨plainId_quiet F.plain_max_loop _, ih (n - 1) (by omega) _ ⟨(0, some xb'), [(S, lstObj #[vb, vb] c)], .inr ⟨xb', vb, c, rfl, r1, rfl⟩, fun p hp => by rw [List.mem_singleton.mp hp]; exact e2⟩ h2⟩
end

section
variable {X : Cx} {k : Nat} {elt tg iter : Expr} {ifs : List Expr} {scope : Scope} {own : List (Str × Nat)} {P : Addr} {wi : TI} {gt : TG} {tt : TT} {te : TE} {p pos gpos : Pos}
def tGMin (K : PySem.W.Frag) (P : Addr) (wi : TI) (gt : TG) (tt : TT) (te : TE) (vs : List Nat) : TE := fun σ H Q => tGx P wi (ZW gt tt te vs σ Prod.fst (0, none) (itMM K false) fun acc H' => ∃ x, acc.2 = some x ∧ Q x H') σ H
theorem pe_gmin (D : GDer X k elt tg iter ifs scope own P wi gt tt te) (hr : Room (k + 5) X.A) (hg : Gl X "min") (hm : X.mg "min" = none) (hb : bootBuiltins "min" = some (.builtin "min"))
    (he : starEach [.GeneratorExp elt [⟨tg, iter, ifs, 0⟩] scope gpos] X.env = (false, eval (.GeneratorExp elt [⟨tg, iter, ifs, 0⟩] scope gpos) X.env) :: starEach [] X.env := by rfl) :
    PE X (.Call (.Name "min" p) [.GeneratorExp elt [⟨tg, iter, ifs, 0⟩] scope gpos] [] pos) (tGMin X.K P wi gt tt te (own.map (·.2))) := by
  refine ⟨fun pins s σ H Q I h => ?_⟩
  obtain ⟨c, TB, hcode⟩ := D.tab
  have hname : (toString "min" ++ toString ".loop" : String) = "min.loop" := by decide
  refine wpAny_Call_Name_kw (ld_blt I hg hm hb ?_)
  refine PyProof.Rows.callWith_builtin1 ?_ he (by rfl)
  rw [he]
  show wpAny _ _ (spliced ((false, eval (.GeneratorExp elt [⟨tg, iter, ifs, 0⟩] scope gpos) X.env) :: backTo pos (starEach [] X.env))) _ _ s
  refine Calls.spliced_cons (gx_make (k := k + 5) hr TB hcode D.ok D.it D.fold I h fun s5 a g go s4 H2 fp tn J it code M hZ => ?_)
  refine Calls.spliced_nil ?_
  have alt : a < s5.heap.objs.size := Heap.lt_size M.at_
  refine call_function_tree F.kind_min F.plain_min F.entry_min (F.args_min1 _) ?_
  show wpAny _ X.A.in1 (Builtin.Builtins.bindParams "min" ["key", "default"] 0 ⟨[], []⟩ >>= _) _ _ s5
  refine wpAny_bind (wpAny_of_eq (show Builtin.Builtins.bindParams "min" ["key", "default"] 0 ⟨[], []⟩ = pure [none, none] from rfl) ?_)
  refine wpAny_bind (wpAny_pure ?_)
  refine wpAny_bind (wpAny_pyIter_gen (M.gen _ M.at_) ?_)
  refine wpAny_bind (wpAny_newObj_type ?_)
  rw [hname]
  have hS₁ : (s5.heap.push { cls := .type "list", data := .seq ([] : List Value).toArray }).get? s5.heap.objs.size = some (lstObj #[] 0) := Heap.get?_push_size _ rfl
  obtain ⟨w1, w2, w3, w4⟩ := gx_wake (α := Nat × Option V) (sz := Prod.fst) (a0 := (0, none)) (item := itMM X.K false) (fin := fun acc H' => ∃ x, acc.2 = some x ∧ Q x H') D.nd (s6 := { s5 with heap := s5.heap.push { cls := .type "list", data := .seq ([] : List Value).toArray } }) (A := X.A.in1.in1) (SA := [s5.heap.objs.size]) (CS := csM s5.heap.objs.size) (k := k) M D.ok ((hr.mono (by omega : k + 1 + 2 ≤ k + 5)).in1.in1) I.ok.frames D.tgt D.tst D.elt
    (fun b o e => Heap.get?_push_of_some _ e) rfl rfl (by simp) ⟨[(s5.heap.objs.size, lstObj #[] 0)], rfl, .inl ⟨rfl, 0, rfl⟩, fun p hp => by rw [List.mem_singleton.mp hp]; exact ⟨hS₁, fun v z => by cases z⟩⟩ rfl hZ
  refine wpAny_pure ⟨plainId_quiet F.plain_min_loop _, min_loop (A := X.A) hr.hd (by have := hr.dp; show X.A.depth < _; omega) (by have := hr.un; omega) (Nat.ne_of_lt alt) (fun z => w3 (by rw [z]; exact List.mem_singleton.mpr rfl)) w4 (fun n H hx => by obtain ⟨x, e, _⟩ := hx; cases e) (fun s1 s0 H' σ' pp n xb vb J' h1 h2 h3 hS2 hSn hq rb => ?_) sizeLine _ ⟨(0, none), [(s5.heap.objs.size, lstObj #[] 0)], .inl ⟨rfl, 0, rfl⟩, fun p hp => by rw [List.mem_singleton.mp hp]; exact hS₁⟩ w1⟩
  obtain ⟨x, e, hq⟩ := hq
  cases e
  -- the consumer's own list is no object of ours: what stood ahead of it stands
  refine ⟨xb, H', ?_, rb, hq⟩
  have B := J'.base
  refine M.inv.call' (ch := fp) (h1.trans J'.os) ?_ ?_ h2 fun b hb => ⟨(M.fpk b hb).1.2.2.2.1, (M.fpk b hb).1.2.1, (M.fpk b hb).1.2.2.2.2.1, (M.fpk b hb).1.2.2.2.2.2⟩
  · have nS : ∀ b o, s4.heap.get? b = some o → b ≠ s5.heap.objs.size := fun b o e => Nat.ne_of_lt (Heap.lt_size (M.kp b o e))
    refine ⟨fun b o e n hb hx => h3 b o (nS b o e) (B.keep b o e n hb hx), fun b o e n hb hx => ?_, fun b o e n hx => B.free b o e n hx, fun b o e hx => ?_, B.tups, B.frzs, B.tbls⟩
    · obtain ⟨sl, q⟩ := B.slot b o e n hb hx
      exact ⟨sl, h3 b _ (nS b o e) q⟩
    · obtain ⟨o', q⟩ := B.there b o e hx
      exact ⟨o', h3 b _ (nS b o e) q⟩
  · exact fun b u e => (J'.hok b u e).stay (fun c v hc q => h3 c v (fun z => by
      rcases hc with y | y
      · rw [y] at z; rw [z, hSn] at e; cases e
      · rw [z, hSn] at y; cases y) q) (fun _ q => q) fun _ _ q => q
end

section
variable {X : Cx} {k : Nat} {elt tg iter : Expr} {ifs : List Expr} {scope : Scope} {own : List (Str × Nat)} {P : Addr} {wi : TI} {gt : TG} {tt : TT} {te : TE} {p pos gpos : Pos}
def tGMax (K : PySem.W.Frag) (P : Addr) (wi : TI) (gt : TG) (tt : TT) (te : TE) (vs : List Nat) : TE := fun σ H Q => tGx P wi (ZW gt tt te vs σ Prod.fst (0, none) (itMM K true) fun acc H' => ∃ x, acc.2 = some x ∧ Q x H') σ H
theorem pe_gmax (D : GDer X k elt tg iter ifs scope own P wi gt tt te) (hr : Room (k + 5) X.A) (hg : Gl X "max") (hm : X.mg "max" = none) (hb : bootBuiltins "max" = some (.builtin "max"))
    (he : starEach [.GeneratorExp elt [⟨tg, iter, ifs, 0⟩] scope gpos] X.env = (false, eval (.GeneratorExp elt [⟨tg, iter, ifs, 0⟩] scope gpos) X.env) :: starEach [] X.env := by rfl) :
    PE X (.Call (.Name "max" p) [.GeneratorExp elt [⟨tg, iter, ifs, 0⟩] scope gpos] [] pos) (tGMax X.K P wi gt tt te (own.map (·.2))) := by
  refine ⟨fun pins s σ H Q I h => ?_⟩
  obtain ⟨c, TB, hcode⟩ := D.tab
  have hname : (toString "max" ++ toString ".loop" : String) = "max.loop" := by decide
  refine wpAny_Call_Name_kw (ld_blt I hg hm hb ?_)
  refine PyProof.Rows.callWith_builtin1 ?_ he (by rfl)
  rw [he]
  show wpAny _ _ (spliced ((false, eval (.GeneratorExp elt [⟨tg, iter, ifs, 0⟩] scope gpos) X.env) :: backTo pos (starEach [] X.env))) _ _ s
  refine Calls.spliced_cons (gx_make (k := k + 5) hr TB hcode D.ok D.it D.fold I h fun s5 a g go s4 H2 fp tn J it code M hZ => ?_)
  refine Calls.spliced_nil ?_
  have alt : a < s5.heap.objs.size := Heap.lt_size M.at_
  refine call_function_tree F.kind_max F.plain_max F.entry_max (F.args_max1 _) ?_
  show wpAny _ X.A.in1 (Builtin.Builtins.bindParams "max" ["key", "default"] 0 ⟨[], []⟩ >>= _) _ _ s5
  refine wpAny_bind (wpAny_of_eq (show Builtin.Builtins.bindParams "max" ["key", "default"] 0 ⟨[], []⟩ = pure [none, none] from rfl) ?_)
  refine wpAny_bind (wpAny_pure ?_)
  refine wpAny_bind (wpAny_pyIter_gen (M.gen _ M.at_) ?_)
  refine wpAny_bind (wpAny_newObj_type ?_)
  rw [hname]
  have hS₁ : (s5.heap.push { cls := .type "list", data := .seq ([] : List Value).toArray }).get? s5.heap.objs.size = some (lstObj #[] 0) := Heap.get?_push_size _ rfl
  obtain ⟨w1, w2, w3, w4⟩ := gx_wake (α := Nat × Option V) (sz := Prod.fst) (a0 := (0, none)) (item := itMM X.K true) (fin := fun acc H' => ∃ x, acc.2 = some x ∧ Q x H') D.nd (s6 := { s5 with heap := s5.heap.push { cls := .type "list", data := .seq ([] : List Value).toArray } }) (A := X.A.in1.in1) (SA := [s5.heap.objs.size]) (CS := csM s5.heap.objs.size) (k := k) M D.ok ((hr.mono (by omega : k + 1 + 2 ≤ k + 5)).in1.in1) I.ok.frames D.tgt D.tst D.elt
    (fun b o e => Heap.get?_push_of_some _ e) rfl rfl (by simp) ⟨[(s5.heap.objs.size, lstObj #[] 0)], rfl, .inl ⟨rfl, 0, rfl⟩, fun p hp => by rw [List.mem_singleton.mp hp]; exact ⟨hS₁, fun v z => by cases z⟩⟩ rfl hZ
  refine wpAny_pure ⟨plainId_quiet F.plain_max_loop _, max_loop (A := X.A) hr.hd (by have := hr.dp; show X.A.depth < _; omega) (by have := hr.un; omega) (Nat.ne_of_lt alt) (fun z => w3 (by rw [z]; exact List.mem_singleton.mpr rfl)) w4 (fun n H hx => by obtain ⟨x, e, _⟩ := hx; cases e) (fun s1 s0 H' σ' pp n xb vb J' h1 h2 h3 hS2 hSn hq rb => ?_) sizeLine _ ⟨(0, none), [(s5.heap.objs.size, lstObj #[] 0)], .inl ⟨rfl, 0, rfl⟩, fun p hp => by rw [List.mem_singleton.mp hp]; exact hS₁⟩ w1⟩
  obtain ⟨x, e, hq⟩ := hq
  cases e
  -- the consumer's own list is no object of ours: what stood ahead of it stands
  refine ⟨xb, H', ?_, rb, hq⟩
  have B := J'.base
  refine M.inv.call' (ch := fp) (h1.trans J'.os) ?_ ?_ h2 fun b hb => ⟨(M.fpk b hb).1.2.2.2.1, (M.fpk b hb).1.2.1, (M.fpk b hb).1.2.2.2.2.1, (M.fpk b hb).1.2.2.2.2.2⟩
  · have nS : ∀ b o, s4.heap.get? b = some o → b ≠ s5.heap.objs.size := fun b o e => Nat.ne_of_lt (Heap.lt_size (M.kp b o e))
    refine ⟨fun b o e n hb hx => h3 b o (nS b o e) (B.keep b o e n hb hx), fun b o e n hb hx => ?_, fun b o e n hx => B.free b o e n hx, fun b o e hx => ?_, B.tups, B.frzs, B.tbls⟩
    · obtain ⟨sl, q⟩ := B.slot b o e n hb hx
      exact ⟨sl, h3 b _ (nS b o e) q⟩
    · obtain ⟨o', q⟩ := B.there b o e hx
      exact ⟨o', h3 b _ (nS b o e) q⟩
  · exact fun b u e => (J'.hok b u e).stay (fun c v hc q => h3 c v (fun z => by
      rcases hc with y | y
      · rw [y] at z; rw [z, hSn] at e; cases e
      · rw [z, hSn] at y; cases y) q) (fun _ q => q) fun _ _ q => q
end
end GXP

end
section
set_option Elab.async false
set_option linter.all false
set_option maxRecDepth 100000
set_option maxHeartbeats 2000000
/-! the mirror: data, store, frames; how they stand in the abstract heap -/
namespace MP
open PySem L2

/-- a value as data: texts are their codes; lst, dct: lists and dicts that nobody changes any more; obj: an object of the store -/
inductive D where
  | non
  | bl (b : Bool)
  | int (i : Int)
  | str (s : List Nat)
  | tup (l : List D)
  | kt (l : List D)
  | lst (l : List D)
  | kl (l : List D)
  | dct (t : Bool) (l : List (D × D))
  | obj (n : Nat)
  | lam (j : Nat)
  | kd (j : Nat)

/-- an object of the store: a list, a dict (t: its keys are tuples), an instance of the class c -/
inductive C where
  | lst (l : List D)
  | dct (t : Bool) (l : List (D × D))
  | ins (c : Nat) (fs : List (Nat × D))

structure Sto where
  nx : Nat
  ce : Nat → Option C
abbrev Lk := Nat → Bool
abbrev Fr := List (Option D)
inductive R where
  | ok (d : D)
  | ex (c : Nat)
inductive Fl where
  | nx
  | ret (d : D)
  | brk
  | cnt
  | ex (c : Nat)
abbrev ME := Fr → Lk → Sto → Option (R × Sto)
abbrev MS := Fr → Lk → Sto → Option (Fl × Fr × Sto)
abbrev MF := List D → Lk → Sto → Option (R × Sto)

/-- the program's world: the written part, the classes' places, the attributes' names, the tables of code objects, the lambdas, the written dicts -/
structure Wd where
  K : PySem.W.Frag
  ca : Nat → Addr
  fn : Nat → Str
  fm : Nat
  tb : List Addr
  tq : List (Addr × Str)
  lm : Nat → List (Str × Addr) → Addr → Addr → Heap → Prop
  co : Addr → Heap → Prop
  kd : Nat → Addr → Prop

structure Im where
  io : Nat → Option Addr
  fz : Addr → Prop
  cs : List (Str × Addr)

def keyD : Key → D
  | .inl i => .int i
  | .inr x => .str x.cps.toList
def keysD (ks : List Key) : D := .tup (ks.map keyD)

mutual
inductive RV (w : Wd) (m : Im) (H : Hp) : V → D → Prop
  | non : RV w m H .non .non
  | bl (b : Bool) : RV w m H (.bl b) (.bl b)
  | int (i : Int) : RV w m H (.int i) (.int i)
  | str (x : Str) : RV w m H (.str x) (.str x.cps.toList)
  | tup {a : Addr} {vs : List V} {ds : List D} : H a = some (.tup vs) → RVs w m H vs ds → RV w m H (.ref a) (.tup ds)
  | kt {a : Addr} {vs : List V} {ds : List D} : SqT w.K H a vs → RVs w m H vs ds → RV w m H (.ref a) (.kt ds)
  | lst {a : Addr} {vs : List V} {ds : List D} : m.fz a → H a = some (.lst vs) → RVs w m H vs ds → RV w m H (.ref a) (.lst ds)
  | kl {a : Addr} {vs : List V} {ds : List D} : SqL w.K H a vs → (m.fz a ∨ ∀ H', SqL w.K H' a vs) → RVs w m H vs ds → RV w m H (.ref a) (.kl ds)
  | dK {a : Addr} {kvs : List (Key × V)} {l : List (D × D)} : m.fz a → Rd H a (.dK kvs) → RKs w m H kvs l → RV w m H (.ref a) (.dct false l)
  | dT {a : Addr} {kvs : List (List Key × V)} {l : List (D × D)} : m.fz a → Rd H a (.dT kvs) → RTs w m H kvs l → RV w m H (.ref a) (.dct true l)
  | obj {a : Addr} {n : Nat} : m.io n = some a → RV w m H (.ref a) (.obj n)
  | lam {a c : Addr} {j : Nat} : H a = some (.ext (w.lm j m.cs a c)) → H c = some (.ext (w.co c)) → RV w m H (.ref a) (.lam j)
  | kd {a : Addr} {j : Nat} : w.kd j a → RV w m H (.ref a) (.kd j)
inductive RVs (w : Wd) (m : Im) (H : Hp) : List V → List D → Prop
  | nil : RVs w m H [] []
  | cons {v : V} {d : D} {vs : List V} {ds : List D} : RV w m H v d → RVs w m H vs ds → RVs w m H (v :: vs) (d :: ds)
inductive RKs (w : Wd) (m : Im) (H : Hp) : List (Key × V) → List (D × D) → Prop
  | nil : RKs w m H [] []
  | cons {k : Key} {v : V} {d : D} {kvs : List (Key × V)} {l : List (D × D)} : RV w m H v d → RKs w m H kvs l → RKs w m H ((k, v) :: kvs) ((keyD k, d) :: l)
inductive RTs (w : Wd) (m : Im) (H : Hp) : List (List Key × V) → List (D × D) → Prop
  | nil : RTs w m H [] []
  | cons {k : List Key} {v : V} {d : D} {kvs : List (List Key × V)} {l : List (D × D)} : RV w m H v d → RTs w m H kvs l → RTs w m H ((k, v) :: kvs) ((keysD k, d) :: l)
end

inductive RFs (w : Wd) (m : Im) (H : Hp) : List (Str × V) → List (Nat × D) → Prop
  | nil : RFs w m H [] []
  | cons {i : Nat} {v : V} {d : D} {fs : List (Str × V)} {l : List (Nat × D)} : i < w.fm → RV w m H v d → RFs w m H fs l → RFs w m H ((w.fn i, v) :: fs) ((i, d) :: l)

inductive RC (w : Wd) (m : Im) (H : Hp) : HO → C → Prop
  | lst {vs : List V} {ds : List D} : RVs w m H vs ds → RC w m H (.lst vs) (.lst ds)
  | dK {kvs : List (Key × V)} {l : List (D × D)} : RKs w m H kvs l → RC w m H (.dK kvs) (.dct false l)
  | dT {kvs : List (List Key × V)} {l : List (D × D)} : RTs w m H kvs l → RC w m H (.dT kvs) (.dct true l)
  | ins {c : Nat} {dx : Addr} {fs : List (Str × V)} {l : List (Nat × D)} : RFs w m H fs l → RC w m H (.ins (w.ca c) dx fs) (.ins c l)

/-- what is said of data stays: a weak order of abstract heaps -/
structure Wx (m m' : Im) (H H' : Hp) : Prop where
  io : ∀ n a, m.io n = some a → m'.io n = some a
  fz : ∀ a, m.fz a → m'.fz a
  rd : ∀ a u, m.fz a → Rd H a u → Rd H' a u
  tp : ∀ a xs, H a = some (.tup xs) → H' a = some (.tup xs)
  tf : ∀ a o u, H a = some (.frz o u) → (∃ xs, u = .tup xs) → Rd H' a u
  ex : ∀ a φ, H a = some (.ext φ) → H' a = some (.ext φ)
  ls : ∀ a xs, m.fz a → H a = some (.lst xs) → H' a = some (.lst xs)
  cs : m'.cs = m.cs

theorem Wx.sqt {w : Wd} {m m' : Im} {H H' : Hp} (x : Wx m m' H H') {a : Addr} {vs : List V} (h : SqT w.K H a vs) : SqT w.K H' a vs := by
  rcases h with (h | ⟨o, h⟩) | h
  · exact .inl (.inl (x.tp _ _ h))
  · exact .inl (x.tf _ _ _ h ⟨_, rfl⟩)
  · exact .inr h

mutual
theorem RV.mono {w : Wd} {m m' : Im} {H H' : Hp} (x : Wx m m' H H') : ∀ {v : V} {d : D}, RV w m H v d → RV w m' H' v d
  | _, _, .non => .non
  | _, _, .bl b => .bl b
  | _, _, .int i => .int i
  | _, _, .str z => .str z
  | _, _, .tup h t => .tup (x.tp _ _ h) (RVs.mono x t)
  | _, _, .kt h t => .kt (x.sqt h) (RVs.mono x t)
  | _, _, .lst f h t => .lst (x.fz _ f) (x.ls _ _ f h) (RVs.mono x t)
  | _, _, .kl h f t => .kl (f.elim (fun z => h.elim (fun y => .inl (x.rd _ _ z y)) .inr) fun z => z H') (f.imp (x.fz _) id) (RVs.mono x t)
  | _, _, .dK f h t => .dK (x.fz _ f) (x.rd _ _ f h) (RKs.mono x t)
  | _, _, .dT f h t => .dT (x.fz _ f) (x.rd _ _ f h) (RTs.mono x t)
  | _, _, .obj h => .obj (x.io _ _ h)
  | _, _, .lam h h2 => .lam (by rw [x.cs]; exact x.ex _ _ h) (x.ex _ _ h2)
  | _, _, .kd h => .kd h
theorem RVs.mono {w : Wd} {m m' : Im} {H H' : Hp} (x : Wx m m' H H') : ∀ {vs : List V} {ds : List D}, RVs w m H vs ds → RVs w m' H' vs ds
  | _, _, .nil => .nil
  | _, _, .cons h t => .cons (RV.mono x h) (RVs.mono x t)
theorem RKs.mono {w : Wd} {m m' : Im} {H H' : Hp} (x : Wx m m' H H') : ∀ {vs : List (Key × V)} {ds : List (D × D)}, RKs w m H vs ds → RKs w m' H' vs ds
  | _, _, .nil => .nil
  | _, _, .cons h t => .cons (RV.mono x h) (RKs.mono x t)
theorem RTs.mono {w : Wd} {m m' : Im} {H H' : Hp} (x : Wx m m' H H') : ∀ {vs : List (List Key × V)} {ds : List (D × D)}, RTs w m H vs ds → RTs w m' H' vs ds
  | _, _, .nil => .nil
  | _, _, .cons h t => .cons (RV.mono x h) (RTs.mono x t)
end
theorem RFs.mono {w : Wd} {m m' : Im} {H H' : Hp} (x : Wx m m' H H') : ∀ {vs : List (Str × V)} {ds : List (Nat × D)}, RFs w m H vs ds → RFs w m' H' vs ds
  | _, _, .nil => .nil
  | _, _, .cons hi h t => .cons hi (RV.mono x h) (RFs.mono x t)
theorem RC.mono {w : Wd} {m m' : Im} {H H' : Hp} (x : Wx m m' H H') : ∀ {u : HO} {c : C}, RC w m H u c → RC w m' H' u c
  | _, _, .lst t => .lst (t.mono x)
  | _, _, .dK t => .dK (t.mono x)
  | _, _, .dT t => .dT (t.mono x)
  | _, _, .ins t => .ins (t.mono x)

theorem RVs.len {w : Wd} {m : Im} {H : Hp} : ∀ {vs : List V} {ds : List D}, RVs w m H vs ds → vs.length = ds.length
  | _, _, .nil => rfl
  | _, _, .cons _ t => by simp [t.len]
theorem RVs.get {w : Wd} {m : Im} {H : Hp} : ∀ {vs : List V} {ds : List D}, RVs w m H vs ds → ∀ {i : Nat} {d : D}, ds[i]? = some d → ∃ v, vs[i]? = some v ∧ RV w m H v d
  | _, _, .nil, _, _, e => by simp at e
  | _, _, .cons h _, 0, _, e => by simp at e; subst e; exact ⟨_, rfl, h⟩
  | _, _, .cons _ t, i + 1, _, e => by simpa using t.get (i := i) (by simpa using e)
theorem RVs.get' {w : Wd} {m : Im} {H : Hp} : ∀ {vs : List V} {ds : List D}, RVs w m H vs ds → ∀ {i : Nat} {v : V}, vs[i]? = some v → ∃ d, ds[i]? = some d ∧ RV w m H v d
  | _, _, .nil, _, _, e => by simp at e
  | _, _, .cons h _, 0, _, e => by simp at e; subst e; exact ⟨_, rfl, h⟩
  | _, _, .cons _ t, i + 1, _, e => by simpa using t.get' (i := i) (by simpa using e)
theorem RVs.append {w : Wd} {m : Im} {H : Hp} : ∀ {vs us : List V} {ds es : List D}, RVs w m H vs ds → RVs w m H us es → RVs w m H (vs ++ us) (ds ++ es)
  | _, _, _, _, .nil, s => s
  | _, _, _, _, .cons h t, s => .cons h (t.append s)
theorem RVs.set {w : Wd} {m : Im} {H : Hp} {v : V} {d : D} (r : RV w m H v d) : ∀ {vs : List V} {ds : List D} (i : Nat), RVs w m H vs ds → RVs w m H (vs.set i v) (ds.set i d)
  | _, _, _, .nil => .nil
  | _, _, 0, .cons _ t => .cons r t
  | _, _, i + 1, .cons q t => .cons q (RVs.set r i t)
theorem RVs.drop {w : Wd} {m : Im} {H : Hp} : ∀ {vs : List V} {ds : List D} (n : Nat), RVs w m H vs ds → RVs w m H (vs.drop n) (ds.drop n)
  | _, _, 0, r => r
  | _, _, _ + 1, .nil => .nil
  | _, _, n + 1, .cons _ t => RVs.drop n t
theorem RVs.take {w : Wd} {m : Im} {H : Hp} : ∀ {vs : List V} {ds : List D} (n : Nat), RVs w m H vs ds → RVs w m H (vs.take n) (ds.take n)
  | _, _, 0, _ => .nil
  | _, _, _ + 1, .nil => .nil
  | _, _, n + 1, .cons r t => .cons r (RVs.take n t)

/-- a dict -/
def isDc : HO → Bool
  | .dK _ => true
  | .dT _ => true
  | _ => false
/-- the store stands in the abstract heap -/
structure Rp (w : Wd) (m : Im) (H : Hp) (lk : Lk) (μ : Sto) : Prop where
  cell : ∀ n c, μ.ce n = some c → ∃ a u, m.io n = some a ∧ RC w m H u c ∧ (H a = some u ∨ (lk n = true ∧ isDc u = true ∧ ∃ o, H a = some (.frz o u)))
  inj : ∀ n n' a, m.io n = some a → m.io n' = some a → n = n'
  nx : ∀ n a, m.io n = some a → n < μ.nx
  there : ∀ n a, m.io n = some a → H a ≠ none
  fz : ∀ a, m.fz a → H a ≠ none ∧ ∀ n, m.io n ≠ some a
  tab : ∀ P ∈ w.tb, GXP.TabG H P
  tabq : LamX.Tabs w.tq H
  ioT : ∀ n a, m.io n = some a → ∀ ps, H a ≠ some (.tbl ps)
  fzT : ∀ a, m.fz a → ∀ ps, H a ≠ some (.tbl ps)

/-- a code object's table -/
def isTbl : HO → Bool
  | .tbl _ => true
  | _ => false
/-- behind a step: what callers rely on -/
structure Ext (m m' : Im) (lk : Lk) (H H' : Hp) : Prop where
  io : ∀ n a, m.io n = some a → m'.io n = some a
  fz : ∀ a, m.fz a → m'.fz a
  kF : ∀ a, m.fz a → H' a = H a
  kT : ∀ a xs, H a = some (.tup xs) → H' a = some (.tup xs)
  kL : ∀ n a, lk n = true → m.io n = some a → H' a = H a
  kZ : ∀ a o u, H a = some (.frz o u) → H' a = some (.frz o u)
  kE : ∀ a φ, H a = some (.ext φ) → H' a = some (.ext φ)
  th : ∀ a, H a ≠ none → H' a ≠ none
  ioN : ∀ n a, m'.io n = some a → m.io n = some a ∨ H a = none
  kU : ∀ b u, H b = some u → (∀ n, m.io n ≠ some b) → isTbl u = false → H' b = some u
  fzN : ∀ a, m'.fz a → m.fz a ∨ H a = none
  cs : m'.cs = m.cs
theorem Ext.wx {m m' : Im} {lk : Lk} {H H' : Hp} (x : Ext m m' lk H H') : Wx m m' H H' where
  io := x.io
  fz := x.fz
  rd := fun a u f r => by unfold Rd at *; rw [x.kF a f]; exact r
  tp := x.kT
  tf := fun a o u e _ => .inr ⟨o, x.kZ _ _ _ e⟩
  ex := x.kE
  ls := fun a xs f e => by rw [x.kF a f]; exact e
  cs := x.cs
theorem Ext.refl (m : Im) (lk : Lk) (H : Hp) : Ext m m lk H H := ⟨fun _ _ e => e, fun _ e => e, fun _ _ => rfl, fun _ _ e => e, fun _ _ _ _ => rfl, fun _ _ _ e => e, fun _ _ e => e, fun _ e => e, fun _ _ e => .inl e, fun _ _ e _ _ => e, fun _ e => .inl e, rfl⟩
theorem Ext.trans {m m1 m2 : Im} {lk : Lk} {H H1 H2 : Hp} (a : Ext m m1 lk H H1) (b : Ext m1 m2 lk H1 H2) : Ext m m2 lk H H2 where
  io := fun n a' e => b.io n a' (a.io n a' e)
  fz := fun a' e => b.fz a' (a.fz a' e)
  kF := fun a' f => (b.kF a' (a.fz a' f)).trans (a.kF a' f)
  kT := fun a' xs e => b.kT a' xs (a.kT a' xs e)
  kL := fun n a' h e => (b.kL n a' h (a.io n a' e)).trans (a.kL n a' h e)
  kZ := fun a' o u e => b.kZ a' o u (a.kZ a' o u e)
  kE := fun a' φ e => b.kE a' φ (a.kE a' φ e)
  th := fun a' e => b.th a' (a.th a' e)
  ioN := fun n a' e => (b.ioN n a' e).elim (a.ioN n a') fun z => .inr (by
    cases q : H a' with
    | none => rfl
    | some u => exact absurd z (a.th a' (by rw [q]; simp)))
  kU := fun c u e hn ht => b.kU c u (a.kU c u e hn ht) (fun n z => (a.ioN n c z).elim (hn n) fun q => by rw [q] at e; cases e) ht
  fzN := fun a' e => (b.fzN a' e).elim (a.fzN a') fun z => .inr (by
    cases q : H a' with
    | none => rfl
    | some u => exact absurd z (a.th a' (by rw [q]; simp)))
  cs := b.cs.trans a.cs

structure FrR (w : Wd) (m : Im) (H : Hp) (σ : L2.St) (ρ : Fr) : Prop where
  len : ρ.length = σ.length
  get : ∀ (i : Nat) (d : D), ρ[i]? = some (some d) → ∃ v : V, σ[i]? = some (some v) ∧ RV w m H v d
theorem FrR.mono {w : Wd} {m m' : Im} {H H' : Hp} {σ : L2.St} {ρ : Fr} (f : FrR w m H σ ρ) (x : Wx m m' H H') : FrR w m' H' σ ρ :=
  ⟨f.len, fun i d e => let ⟨v, h1, h2⟩ := f.get i d e; ⟨v, h1, h2.mono x⟩⟩
theorem FrR.set {w : Wd} {m : Im} {H : Hp} {σ : L2.St} {ρ : Fr} {v : V} {d : D} (f : FrR w m H σ ρ) (i : Nat) (r : RV w m H v d) : FrR w m H (σ.set i (some v)) (ρ.set i (some d)) := by
  refine ⟨by rw [List.length_set, List.length_set, f.len], fun j d' e => ?_⟩
  by_cases hj : i = j
  · subst hj
    by_cases hl : i < ρ.length
    · rw [List.getElem?_set_self hl] at e
      cases e
      exact ⟨v, List.getElem?_set_self (by rw [← f.len]; exact hl), r⟩
    · rw [List.getElem?_eq_none (by rw [List.length_set]; omega)] at e
      cases e
  · rw [List.getElem?_set_ne hj] at e
    obtain ⟨v', h1, h2⟩ := f.get j d' e
    exact ⟨v', by rw [List.getElem?_set_ne hj]; exact h1, h2⟩

/-! ### readings -/
def tK (w : Wd) (E : XK) (f : ME) (m : Im) (ρ : Fr) (lk : Lk) (μ : Sto) (H : Hp) (Q : VK) : Prop := ∃ r μ', f ρ lk μ = some (r, μ') ∧ match r with
  | .ok d => ∀ v m' H', Rp w m' H' lk μ' → Ext m m' lk H H' → RV w m' H' v d → Q v H'
  | .ex c => ∀ m' H', Rp w m' H' lk μ' → Ext m m' lk H H' → E (.ref (w.ca c)) none H'
def tE (w : Wd) (E : XK) (f : ME) : TE := fun σ H Q => ∃ m ρ lk μ, Rp w m H lk μ ∧ FrR w m H σ ρ ∧ tK w E f m ρ lk μ H Q
def sK (w : Wd) (E : XK) (f : MS) (m : Im) (ρ : Fr) (lk : Lk) (μ : Sto) (H : Hp) (D : Ends) : Prop := ∃ r ρ' μ', f ρ lk μ = some (r, ρ', μ') ∧ match r with
  | .nx => ∀ σ' m' H', Rp w m' H' lk μ' → Ext m m' lk H H' → FrR w m' H' σ' ρ' → D.nx σ' H'
  | .ret d => ∀ v m' H', Rp w m' H' lk μ' → Ext m m' lk H H' → RV w m' H' v d → D.rt v H'
  | .brk => ∀ σ' m' H', Rp w m' H' lk μ' → Ext m m' lk H H' → FrR w m' H' σ' ρ' → D.bk σ' H'
  | .cnt => ∀ σ' m' H', Rp w m' H' lk μ' → Ext m m' lk H H' → FrR w m' H' σ' ρ' → D.ct σ' H'
  | .ex c => ∀ m' H', Rp w m' H' lk μ' → Ext m m' lk H H' → E (.ref (w.ca c)) none H'
def tS (w : Wd) (E : XK) (f : MS) : TS := fun D σ H => ∃ m ρ lk μ, Rp w m H lk μ ∧ FrR w m H σ ρ ∧ sK w E f m ρ lk μ H D
/-- a def's promise by its mirror -/
def spM (w : Wd) (n : Nat) (f : MF) : Sp := fun vs H Q E => vs.length = n ∧ ∃ m ds lk μ r μ', Rp w m H lk μ ∧ RVs w m H vs ds ∧ f ds lk μ = some (r, μ') ∧ match r with
  | .ok d => ∀ v m' H', Rp w m' H' lk μ' → Ext m m' lk H H' → RV w m' H' v d → Q v H'
  | .ex c => ∀ m' H', Rp w m' H' lk μ' → Ext m m' lk H H' → E (.ref (w.ca c)) none H'
end MP

end
section
set_option Elab.async false
set_option linter.all false
set_option maxRecDepth 100000
set_option maxHeartbeats 2000000
/-! the mirror: steps of the store, the basic rules -/
namespace MP
open PySem L2

/-! ### steps -/
section
variable {w : Wd} {m : Im} {H : Hp} {lk : Lk} {μ : Sto} {p : Addr} {o : HO}
theorem wx_new (hp : H p = none) : Wx m m H (upd H p o) where
  io := fun _ _ e => e
  fz := fun _ e => e
  rd := fun a u _ r => by
    unfold Rd at *
    have : a ≠ p := fun z => by
      rw [z, hp] at r
      rcases r with r | ⟨_, r⟩ <;> cases r
    rw [upd_ne this]; exact r
  tp := fun a xs e => by rw [upd_ne (ne_of_none e hp)]; exact e
  tf := fun a ob u e _ => .inr ⟨ob, by rw [upd_ne (ne_of_none e hp)]; exact e⟩
  ex := fun a φ e => by rw [upd_ne (ne_of_none e hp)]; exact e
  ls := fun a xs _ e => by rw [upd_ne (ne_of_none e hp)]; exact e
  cs := rfl
theorem tabS_keep {H H' : Hp} {P : Addr} {q : Str} (t : LamX.TabS H P q) (e : ∀ ps, H P = some (.tbl ps) → H' P = some (.tbl ps)) (k : ∀ a φ, H a = some (.ext φ) → H' a = some (.ext φ)) : LamX.TabS H' P q := by
  obtain ⟨ps, h1, h2, h3⟩ := t
  refine ⟨ps, e _ h1, h2, fun pos cv hc => ?_⟩
  obtain ⟨c, e1, e2⟩ := h3 pos cv hc
  exact ⟨c, e1, k _ _ e2⟩
theorem Rp.tabs_keep {H' : Hp} (r : Rp w m H lk μ) (e : ∀ a ps, H a = some (.tbl ps) → H' a = some (.tbl ps)) (k : ∀ a φ, H a = some (.ext φ) → H' a = some (.ext φ)) : (∀ P ∈ w.tb, GXP.TabG H' P) ∧ LamX.Tabs w.tq H' :=
  ⟨fun P hP => let ⟨ps, h1, h2⟩ := r.tab P hP; ⟨ps, e _ _ h1, h2⟩, fun q hq => tabS_keep (r.tabq q hq) (fun ps => e _ ps) k⟩
/-- another image of the same store -/
theorem Rp.re {m' : Im} {H' : Hp} (r : Rp w m H lk μ) (x : Wx m m' H H') (hio : ∀ n a, m'.io n = some a → m.io n = some a) (hH : ∀ n a, m.io n = some a → H' a = H a)
    (hfz : ∀ a, m'.fz a → H' a ≠ none ∧ ∀ n, m.io n ≠ some a) (hft : ∀ a, m'.fz a → ∀ ps, H' a ≠ some (.tbl ps)) (e : ∀ a ps, H a = some (.tbl ps) → H' a = some (.tbl ps)) (k : ∀ a φ, H a = some (.ext φ) → H' a = some (.ext φ)) : Rp w m' H' lk μ where
  cell := fun n c h => by
    obtain ⟨a, u, h1, h2, h3⟩ := r.cell n c h
    refine ⟨a, u, x.io _ _ h1, h2.mono x, ?_⟩
    rw [hH n a h1]
    exact h3
  inj := fun n n' a h1 h2 => r.inj n n' a (hio _ _ h1) (hio _ _ h2)
  nx := fun n a h => r.nx n a (hio _ _ h)
  there := fun n a h => by rw [hH n a (hio _ _ h)]; exact r.there n a (hio _ _ h)
  fz := fun a h => ⟨(hfz a h).1, fun n z => (hfz a h).2 n (hio _ _ z)⟩
  tab := (r.tabs_keep e k).1
  tabq := (r.tabs_keep e k).2
  ioT := fun n a h ps => by rw [hH n a (hio _ _ h)]; exact r.ioT n a (hio _ _ h) ps
  fzT := hft
/-- a new object that nobody changes (or that is not told) -/
theorem Rp.new (r : Rp w m H lk μ) (hp : H p = none) : Rp w m (upd H p o) lk μ ∧ Ext m m lk H (upd H p o) := by
  have np : ∀ a, H a ≠ none → a ≠ p := fun a h z => h (by rw [z]; exact hp)
  have nu : ∀ a u, H a = some u → upd H p o a = some u := fun a u e => by rw [upd_ne (ne_of_none e hp)]; exact e
  refine ⟨r.re (wx_new hp) (fun _ _ e => e) (fun n a h => upd_ne (np _ (r.there n a h))) (fun a h => ⟨by rw [upd_ne (np _ (r.fz a h).1)]; exact (r.fz a h).1, (r.fz a h).2⟩) (fun a h ps => by rw [upd_ne (np _ (r.fz a h).1)]; exact r.fzT a h ps) (fun a ps => nu a _) (fun a φ => nu a _), ?_⟩
  exact ⟨fun _ _ e => e, fun _ e => e, fun a h => upd_ne (np _ (r.fz a h).1), fun a xs => nu a _, fun n a _ h => upd_ne (np _ (r.there n a h)), fun a ob u => nu a _, fun a φ => nu a _, fun a h => by rw [upd_ne (np a h)]; exact h, fun _ _ e => .inl e, fun b u e _ _ => nu b u e, fun _ e => .inl e, rfl⟩
def Im.frz (m : Im) (p : Addr) : Im := ⟨m.io, fun a => m.fz a ∨ a = p, m.cs⟩
theorem wx_frz (m : Im) (H : Hp) (p : Addr) : Wx m (m.frz p) H H := ⟨fun _ _ e => e, fun _ e => .inl e, fun _ _ _ r => r, fun _ _ e => e, fun _ _ _ e _ => .inr ⟨_, e⟩, fun _ _ e => e, fun _ _ _ e => e, rfl⟩
/-- a new object that stays as it is -/
theorem Rp.newF (r : Rp w m H lk μ) (hp : H p = none) (ho : isTbl o = false := by rfl) : Rp w (m.frz p) (upd H p o) lk μ ∧ Ext m (m.frz p) lk H (upd H p o) := by
  obtain ⟨r1, e1⟩ := r.new (o := o) hp
  refine ⟨r1.re (wx_frz _ _ _) (fun _ _ e => e) (fun _ _ _ => rfl) (fun a h => ?_) (fun a h ps => ?_) (fun _ _ e => e) (fun _ _ e => e), ⟨fun _ _ e => e, fun _ e => .inl e, e1.kF, e1.kT, e1.kL, e1.kZ, e1.kE, e1.th, fun _ _ e => .inl e, e1.kU, fun a e => e.imp id fun z => by rw [z]; exact hp, rfl⟩⟩
  rcases h with h | h
  · exact r1.fz a h
  · subst h
    exact ⟨by rw [upd_same]; simp, fun n z => r.there n a z hp⟩
  · rcases h with h | h
    · exact r1.fzT a h ps
    · subst h
      rw [upd_same]
      intro z
      cases z
      cases ho
def Im.obj (m : Im) (n : Nat) (p : Addr) : Im := ⟨fun k => if k = n then some p else m.io k, m.fz, m.cs⟩
def Sto.add (μ : Sto) (c : C) : Sto := ⟨μ.nx + 1, fun k => if k = μ.nx then some c else μ.ce k⟩
def Sto.put (μ : Sto) (n : Nat) (c : C) : Sto := ⟨μ.nx, fun k => if k = n then some c else μ.ce k⟩
theorem Rp.io_nx (r : Rp w m H lk μ) : ∀ n a, m.io n = some a → n ≠ μ.nx := fun n a h => Nat.ne_of_lt (r.nx n a h)
theorem wx_obj (r : Rp w m H lk μ) : Wx m (m.obj μ.nx p) H H := ⟨fun n a e => by show (if n = μ.nx then some p else m.io n) = some a; rw [if_neg (r.io_nx n a e)]; exact e, fun _ e => e, fun _ _ _ r => r, fun _ _ e => e, fun _ _ _ e _ => .inr ⟨_, e⟩, fun _ _ e => e, fun _ _ _ e => e, rfl⟩
/-- a new object of the store -/
theorem Rp.newO {c : C} (r : Rp w m H lk μ) (hp : H p = none) (hc : RC w (m.obj μ.nx p) (upd H p o) o c) : Rp w (m.obj μ.nx p) (upd H p o) lk (μ.add c) ∧ Ext m (m.obj μ.nx p) lk H (upd H p o) := by
  obtain ⟨r1, e1⟩ := r.new (o := o) hp
  have x : Wx m (m.obj μ.nx p) (upd H p o) (upd H p o) := wx_obj r1
  have ionew : (m.obj μ.nx p).io μ.nx = some p := if_pos rfl
  have ioold : ∀ n a, m.io n = some a → (m.obj μ.nx p).io n = some a := x.io
  have iocase : ∀ n a, (m.obj μ.nx p).io n = some a → (n = μ.nx ∧ a = p) ∨ (m.io n = some a ∧ n ≠ μ.nx) := fun n a h => by
    have h : (if n = μ.nx then some p else m.io n) = some a := h
    by_cases e : n = μ.nx
    · rw [if_pos e] at h
      exact .inl ⟨e, (Option.some.inj h).symm⟩
    · rw [if_neg e] at h
      exact .inr ⟨h, e⟩
  have np : ∀ n a, m.io n = some a → a ≠ p := fun n a h z => r.there n a h (by rw [z]; exact hp)
  refine ⟨⟨fun n c' h => ?_, fun n n' a h1 h2 => ?_, fun n a h => ?_, fun n a h => ?_, fun a h => ⟨(r1.fz a h).1, fun n z => ?_⟩, r1.tab, r1.tabq, fun n a h ps => ?_, r1.fzT⟩, ⟨ioold, fun _ e => e, e1.kF, e1.kT, e1.kL, e1.kZ, e1.kE, e1.th, fun n a h => (iocase n a h).elim (fun z => .inr (by rw [z.2]; exact hp)) fun z => .inl z.1, e1.kU, fun _ e => .inl e, rfl⟩⟩
  · have h : (if n = μ.nx then some c else μ.ce n) = some c' := h
    by_cases e : n = μ.nx
    · rw [if_pos e] at h
      cases h
      rw [e]
      exact ⟨p, o, ionew, hc, .inl upd_same⟩
    · rw [if_neg e] at h
      obtain ⟨a, u, h1, h2, h3⟩ := r1.cell n c' h
      exact ⟨a, u, ioold _ _ h1, h2.mono x, h3⟩
  · rcases iocase _ _ h1 with ⟨a1, b1⟩ | ⟨a1, b1⟩ <;> rcases iocase _ _ h2 with ⟨a2, b2⟩ | ⟨a2, b2⟩
    · rw [a1, a2]
    · exact absurd b1 (np _ _ a2)
    · exact absurd b2 (np _ _ a1)
    · exact r.inj _ _ _ a1 a2
  · rcases iocase _ _ h with ⟨a1, b1⟩ | ⟨a1, b1⟩
    · rw [a1]; exact Nat.lt_succ_self _
    · exact Nat.lt_succ_of_lt (r.nx _ _ a1)
  · rcases iocase _ _ h with ⟨a1, b1⟩ | ⟨a1, b1⟩
    · rw [b1, upd_same]; simp
    · exact r1.there _ _ a1
  · rcases iocase _ _ z with ⟨a1, b1⟩ | ⟨a1, b1⟩
    · have h : m.fz a := h
      rw [b1] at h
      exact (r.fz p h).1 hp
    · exact (r.fz a h).2 n a1
  · rcases iocase _ _ h with ⟨a1, b1⟩ | ⟨a1, b1⟩
    · rw [b1, upd_same]
      intro z
      cases z
      cases hc
    · exact r1.ioT _ _ a1 ps
/-- an object of the store is changed -/
theorem Rp.write {n : Nat} {c c' : C} {a : Addr} {u u' : HO} (r : Rp w m H lk μ) (hn : μ.ce n = some c) (hl : lk n = false) (ha : m.io n = some a) (hu : H a = some u) (hcu : RC w m H u c) (hc : RC w m (upd H a u') u' c') :
    Rp w m (upd H a u') lk (μ.put n c') ∧ Ext m m lk H (upd H a u') := by
  have nt : (∀ xs, u ≠ .tup xs) ∧ (∀ o v, u ≠ .frz o v) ∧ (∀ φ, u ≠ .ext φ) ∧ (∀ ps, u ≠ .tbl ps) := by
    cases hcu <;> exact ⟨fun _ z => (by cases z), fun _ _ z => (by cases z), fun _ z => (by cases z), fun _ z => (by cases z)⟩
  have ne : ∀ b v, H b = some v → v ≠ u → b ≠ a := fun b v e d z => d (by rw [z, hu] at e; exact (Option.some.inj e).symm)
  have keep : ∀ b v, H b = some v → v ≠ u → upd H a u' b = some v := fun b v e d => by rw [upd_ne (ne b v e d)]; exact e
  have fza : ∀ b, m.fz b → b ≠ a := fun b f z => (r.fz b f).2 n (by rw [z]; exact ha)
  have ioa : ∀ n' b, m.io n' = some b → n' ≠ n → b ≠ a := fun n' b e d z => d (r.inj n' n a (by rw [← z]; exact e) ha)
  have x : Wx m m H (upd H a u') := by
    refine ⟨fun _ _ e => e, fun _ e => e, fun b v f rd => ?_, fun b xs e => keep b _ e fun z => nt.1 xs z.symm, fun b o v e _ => .inr ⟨o, keep b _ e fun z => nt.2.1 o v z.symm⟩, fun b φ e => keep b _ e fun z => nt.2.2.1 φ z.symm, fun b xs f e => by rw [upd_ne (fza b f)]; exact e, rfl⟩
    unfold Rd at *
    rw [upd_ne (fza b f)]
    exact rd
  have kt := r.tabs_keep (H' := upd H a u') (fun b ps e => keep b _ e fun z => nt.2.2.2 ps z.symm) (fun b φ e => keep b _ e fun z => nt.2.2.1 φ z.symm)
  refine ⟨⟨fun k c1 h => ?_, r.inj, r.nx, fun k b h => ?_, fun b f => ⟨by rw [upd_ne (fza b f)]; exact (r.fz b f).1, (r.fz b f).2⟩, kt.1, kt.2, fun k b h ps => ?_, fun b f ps => by rw [upd_ne (fza b f)]; exact r.fzT b f ps⟩, ⟨fun _ _ e => e, fun _ e => e, fun b f => upd_ne (fza b f), x.tp, fun k b hk h => ?_, fun b o v e => keep b _ e fun z => nt.2.1 o v z.symm, fun b φ e => keep b _ e fun z => nt.2.2.1 φ z.symm, fun b h => ?_, fun _ _ e => .inl e, fun b v e hn ht => ?_, fun _ e => .inl e, rfl⟩⟩
  · have h : (if k = n then some c' else μ.ce k) = some c1 := h
    by_cases e : k = n
    · rw [if_pos e] at h
      cases h
      rw [e]
      exact ⟨a, u', ha, hc, .inl upd_same⟩
    · rw [if_neg e] at h
      obtain ⟨b, v, h1, h2, h3⟩ := r.cell k c1 h
      refine ⟨b, v, h1, h2.mono x, ?_⟩
      rw [upd_ne (ioa k b h1 e)]
      exact h3
  · by_cases e : b = a
    · rw [e, upd_same]; simp
    · rw [upd_ne e]; exact r.there k b h
  · by_cases e : b = a
    · rw [e, upd_same]
      intro z
      cases z
      cases hc
    · rw [upd_ne e]; exact r.ioT k b h ps
  · refine upd_ne (ioa k b h fun z => ?_)
    rw [z, hl] at hk
    cases hk
  · by_cases e : b = a
    · rw [e, upd_same]; simp
    · rw [upd_ne e]; exact h
  · rw [upd_ne fun z => hn n (by rw [z]; exact ha)]; exact e
end

/-! ### binding -/
def retE (d : D) : ME := fun _ _ μ => some (.ok d, μ)
def bindE (f : ME) (k : D → ME) : ME := fun ρ lk μ => match f ρ lk μ with
  | some (.ok d, μ') => k d ρ lk μ'
  | some (.ex c, μ') => some (.ex c, μ')
  | none => none
/-- a value by the store, which is not changed -/
def liftE (g : Sto → Option D) : ME := fun _ _ μ => match g μ with
  | some d => some (.ok d, μ)
  | none => none
section
variable {w : Wd} {E : XK} {m : Im} {ρ : Fr} {lk : Lk} {μ : Sto} {H : Hp} {Q Q' : VK}
theorem tK_mono {f : ME} (h : tK w E f m ρ lk μ H Q) (k : ∀ v H', Q v H' → Q' v H') : tK w E f m ρ lk μ H Q' := by
  obtain ⟨r, μ', e, q⟩ := h
  refine ⟨r, μ', e, ?_⟩
  cases r with
  | ok d => exact fun v m' H' a b c => k _ _ (q v m' H' a b c)
  | ex c => exact q
theorem tK_bind {f : ME} {k : D → ME} (h : tK w E (bindE f k) m ρ lk μ H Q) :
    tK w E f m ρ lk μ H fun v H1 => ∃ d m1 μ1, Rp w m1 H1 lk μ1 ∧ Ext m m1 lk H H1 ∧ RV w m1 H1 v d ∧ tK w E (k d) m1 ρ lk μ1 H1 Q := by
  obtain ⟨r, μ', e, q⟩ := h
  unfold bindE at e
  cases e1 : f ρ lk μ with
  | none => rw [e1] at e; cases e
  | some p =>
    obtain ⟨r1, μ1⟩ := p
    rw [e1] at e
    cases r1 with
    | ex c =>
      cases e
      exact ⟨.ex c, _, e1, q⟩
    | ok d =>
      refine ⟨.ok d, μ1, e1, fun v m1 H1 rp ex rv => ⟨d, m1, μ1, rp, ex, rv, r, μ', e, ?_⟩⟩
      cases r with
      | ok d' => exact fun v' m' H' a b c => q v' m' H' a (ex.trans b) c
      | ex c => exact fun m' H' a b => q m' H' a (ex.trans b)
theorem tK_lift {g : Sto → Option D} (h : tK w E (liftE g) m ρ lk μ H Q) : ∃ d, g μ = some d ∧ ∀ v m' H', Rp w m' H' lk μ → Ext m m' lk H H' → RV w m' H' v d → Q v H' := by
  obtain ⟨r, μ', e, q⟩ := h
  unfold liftE at e
  cases e1 : g μ with
  | none => rw [e1] at e; cases e
  | some d =>
    rw [e1] at e
    cases e
    exact ⟨d, rfl, q⟩
end
theorem pe_imp {X : Cx} {e : Expr} {t t' : TE} (h : PE X e t) (k : ∀ σ H Q, t' σ H Q → t σ H Q) : PE X e t' := ⟨fun pins s σ H Q I q => h.run pins s σ H Q I (k _ _ _ q)⟩
theorem ps_imp {X : Cx} {e : Stmt} {t t' : TS} (h : PS X e t) (k : ∀ D σ H, t' D σ H → t D σ H) : PS X e t' := ⟨fun pins s σ H D I q => h.run pins s σ H D I (k _ _ _ q)⟩
theorem pss_imp {X : Cx} {e : List Stmt} {t t' : TS} (h : PSs X e t) (k : ∀ D σ H, t' D σ H → t D σ H) : PSs X e t' := ⟨fun pins s σ H D I q => h.run pins s σ H D I (k _ _ _ q)⟩

/-! ### operators by values -/
abbrev Op1 := Sto → D → Option D
abbrev Op2 := Sto → D → D → Option D
def op1E (f : Op1) (a : ME) : ME := bindE a fun x => liftE fun μ => f μ x
def op2E (f : Op2) (a b : ME) : ME := bindE a fun x => bindE b fun y => liftE fun μ => f μ x y
def OpS (w : Wd) (r : R2) (f : Op2) : Prop := ∀ m H lk μ x y d e q Q, Rp w m H lk μ → RV w m H x d → RV w m H y e → f μ d e = some q → (∀ v m' H', Rp w m' H' lk μ → Ext m m' lk H H' → RV w m' H' v q → Q v H') → r x y H Q
theorem tOp_of {w : Wd} {E : XK} {r : R2} {f : Op2} {ma mb : ME} (hs : OpS w r f) {σ : L2.St} {H : Hp} {Q : VK} (h : tE w E (op2E f ma mb) σ H Q) : tOp r (tE w E ma) (tE w E mb) σ H Q := by
  obtain ⟨m, ρ, lk, μ, rp, fr, h⟩ := h
  refine ⟨m, ρ, lk, μ, rp, fr, tK_mono (tK_bind h) ?_⟩
  rintro x H1 ⟨d, m1, μ1, rp1, ex1, rx, h1⟩
  refine ⟨m1, ρ, lk, μ1, rp1, fr.mono ex1.wx, tK_mono (tK_bind h1) ?_⟩
  rintro y H2 ⟨e, m2, μ2, rp2, ex2, ry, h2⟩
  obtain ⟨q, hq, k⟩ := tK_lift h2
  exact hs m2 H2 lk μ2 x y d e q Q rp2 (rx.mono ex2.wx) ry hq k
section
variable {X : Cx} {w : Wd} {E : XK} {a b : Expr} {ma mb : ME} {pos : Pos}
theorem r_bin {op : Operator} {r : R2} {f : Op2} (ho : OpR X (binaryOp op) r) (hs : OpS w r f) (ha : PE X a (tE w E ma)) (hb : PE X b (tE w E mb)) : PE X (.BinOp a op b pos) (tE w E (op2E f ma mb)) :=
  pe_imp (pe_op ho ha hb) fun _ _ _ h => tOp_of hs h
theorem r_cmp {op : CmpOp} {r : R2} {f : Op2} (ho : OpR X (compareOp op) r) (hs : OpS w r f) (ha : PE X a (tE w E ma)) (hb : PE X b (tE w E mb)) (hm : behindInMarks op b = false) : PE X (.Compare a [op] [b] pos) (tE w E (op2E f ma mb)) :=
  pe_imp (pe_cmpR ho ha hb hm) fun _ _ _ h => tOp_of hs h
end
end MP

end
section
set_option Elab.async false
set_option linter.all false
set_option maxRecDepth 100000
set_option maxHeartbeats 2000000
/-! the mirror: operators by values -/
namespace MP
open PySem PyProof.Rows L2

/-! ### either -/
def orE (f g : ME) : ME := fun ρ lk μ => match f ρ lk μ with
  | some r => some r
  | none => g ρ lk μ
def orOp (f g : Op2) : Op2 := fun μ d e => match f μ d e with
  | some q => some q
  | none => g μ d e
theorem tE_or {w : Wd} {E : XK} {f g : ME} {σ : L2.St} {H : Hp} {Q : VK} (h : tE w E (orE f g) σ H Q) : tE w E f σ H Q ∨ tE w E g σ H Q := by
  obtain ⟨m, ρ, lk, μ, rp, fr, r, μ', e, q⟩ := h
  unfold orE at e
  cases e1 : f ρ lk μ with
  | some p =>
    rw [e1] at e
    exact .inl ⟨m, ρ, lk, μ, rp, fr, r, μ', by rw [e1]; exact e, q⟩
  | none =>
    rw [e1] at e
    exact .inr ⟨m, ρ, lk, μ, rp, fr, r, μ', e, q⟩
theorem r_or {X : Cx} {w : Wd} {E : XK} {x : Expr} {f g : ME} (a : PE X x (tE w E f)) (b : PE X x (tE w E g)) : PE X x (tE w E (orE f g)) :=
  ⟨fun pins s σ H Q I h => (tE_or h).elim (a.run pins s σ H Q I) (b.run pins s σ H Q I)⟩
theorem OpS.or {w : Wd} {r r' : R2} {f f' : Op2} (h : OpS w r f) (h' : OpS w r' f') : OpS w (fun x y H Q => r x y H Q ∨ r' x y H Q) (orOp f f') := by
  intro m H lk μ x y d e q Q rp rx ry hq k
  unfold orOp at hq
  cases e1 : f μ d e with
  | some q1 =>
    rw [e1] at hq
    cases hq
    exact .inl (h m H lk μ x y d e q Q rp rx ry e1 k)
  | none =>
    rw [e1] at hq
    exact .inr (h' m H lk μ x y d e q Q rp rx ry hq k)

/-! ### ints, bools, texts -/
theorem rv_int {w : Wd} {m : Im} {H : Hp} {x : V} {i : Int} (r : RV w m H x (.int i)) : x = .int i := by cases r; rfl
theorem rv_bl {w : Wd} {m : Im} {H : Hp} {x : V} {b : Bool} (r : RV w m H x (.bl b)) : x = .bl b := by cases r; rfl
theorem rv_non {w : Wd} {m : Im} {H : Hp} {x : V} (r : RV w m H x .non) : x = .non := by cases r; rfl
theorem rv_str {w : Wd} {m : Im} {H : Hp} {x : V} {s : List Nat} (r : RV w m H x (.str s)) : x = .str ⟨s.toArray⟩ := by
  generalize hd : D.str s = d at r
  cases r <;> try cases hd
  rfl
theorem rv_mkStr (w : Wd) (m : Im) (H : Hp) (s : List Nat) : RV w m H (.str ⟨s.toArray⟩) (.str s) := RV.str ⟨s.toArray⟩
def opII (C : Int → Int → Bool) (g : Int → Int → D) : Op2 := fun _ d e => match d, e with
  | .int i, .int j => if C i j then some (g i j) else none
  | _, _ => none
theorem opII_inv {C : Int → Int → Bool} {g : Int → Int → D} {μ : Sto} {d e q : D} (h : opII C g μ d e = some q) : ∃ i j, d = .int i ∧ e = .int j ∧ C i j = true ∧ q = g i j := by
  unfold opII at h
  split at h
  · rename_i i j
    split at h
    · rename_i hc
      cases h
      exact ⟨i, j, rfl, rfl, hc, rfl⟩
    · cases h
  · cases h
theorem opS_rI {w : Wd} {C : Int → Int → Bool} {C' : Int → Int → Prop} {g : Int → Int → D} {g' : Int → Int → V} (hC : ∀ i j, C i j = true → C' i j) (hg : ∀ i j m H, C i j = true → RV w m H (g' i j) (g i j)) : OpS w (rI C' g') (opII C g) := by
  intro m H lk μ x y d e q Q rp rx ry hq k
  obtain ⟨i, j, rfl, rfl, c, rfl⟩ := opII_inv hq
  obtain rfl := rv_int rx
  obtain rfl := rv_int ry
  exact ⟨i, j, rfl, rfl, hC i j c, k _ _ _ rp (Ext.refl _ _ _) (hg i j m H c)⟩
theorem opS_rI0 {w : Wd} {g : Int → Int → D} {g' : Int → Int → V} (hg : ∀ i j m H, RV w m H (g' i j) (g i j)) : OpS w (rI0 g') (opII (fun _ _ => true) g) := by
  intro m H lk μ x y d e q Q rp rx ry hq k
  obtain ⟨i, j, rfl, rfl, c, rfl⟩ := opII_inv hq
  obtain rfl := rv_int rx
  obtain rfl := rv_int ry
  exact ⟨i, j, rfl, rfl, k _ _ _ rp (Ext.refl _ _ _) (hg i j m H)⟩
def p64 : Int := 18446744073709551616
theorem p64_eq : p64 = 2 ^ 64 := by decide
def iAdd : Op2 := opII (fun _ _ => true) fun i j => .int (i + j)
def iSub : Op2 := opII (fun _ _ => true) fun i j => .int (i - j)
def iMul : Op2 := opII (fun i j => (decide (-p64 < i) && decide (i < p64)) || (decide (-p64 < j) && decide (j < p64))) fun i j => .int (i * j)
def iDiv : Op2 := opII (fun _ j => decide (j ≠ 0) && decide (j.natAbs < 1073741824)) fun i j => .int (i.fdiv j)
def iDivW : Op2 := opII (fun _ j => decide (0 < j) && decide (j.natAbs.log2 < 9000)) fun i j => .int (i / j)
def iMod : Op2 := opII (fun _ j => decide (j ≠ 0)) fun i j => .int (i.fmod j)
def iPow : Op2 := opII (fun i j => decide (0 ≤ j) && decide (j ≤ 1000000) && decide (i.natAbs < 18446744073709551616)) fun i j => .int (i ^ j.toNat)
section
variable {w : Wd}
theorem s_iAdd : OpS w (rI0 fun i j => .int (i + j)) iAdd := opS_rI0 fun _ _ _ _ => .int _
theorem s_iSub : OpS w (rI0 fun i j => .int (i - j)) iSub := opS_rI0 fun _ _ _ _ => .int _
theorem s_iMul : OpS w (rI CMul fun i j => .int (i * j)) iMul := opS_rI (fun i j h => by
  simp only [Bool.or_eq_true, Bool.and_eq_true, decide_eq_true_eq, p64_eq] at h
  exact h) fun _ _ _ _ _ => .int _
theorem s_iDiv : OpS w (rI CDivN fun i j => .int (i.fdiv j)) iDiv := opS_rI (fun i j h => by
  simp only [Bool.and_eq_true, decide_eq_true_eq] at h
  exact h) fun _ _ _ _ _ => .int _
theorem s_iDivW : OpS w (rI CDivW fun i j => .int (i / j)) iDivW := opS_rI (fun i j h => by
  simp only [Bool.and_eq_true, decide_eq_true_eq] at h
  exact h) fun _ _ _ _ _ => .int _
theorem s_iMod : OpS w (rI (fun _ j => j ≠ 0) fun i j => .int (i.fmod j)) iMod := opS_rI (fun i j h => by simpa using h) fun _ _ _ _ _ => .int _
theorem s_iPow : OpS w (rI CPow fun i j => .int (i ^ j.toNat)) iPow := opS_rI (fun i j h => by
  simp only [Bool.and_eq_true, decide_eq_true_eq] at h
  exact ⟨h.1.1, h.1.2, h.2⟩) fun _ _ _ _ _ => .int _
end
/-- text + text -/
def sAdd : Op2 := fun _ d e => match d, e with
  | .str a, .str b => if a.length + b.length ≤ 16777216 then some (.str (a ++ b)) else none
  | _, _ => none
def ibAdd : Op2 := fun _ d e => match d, e with
  | .int i, .bl b => some (.int (i + b2i b))
  | _, _ => none
section
variable {w : Wd}
theorem s_sAdd : OpS w (fun x y H Q => ∃ i j, x = .str i ∧ y = .str j ∧ i.length + j.length ≤ sizeLine ∧ Q (.str (i ++ j)) H) sAdd := by
  intro m H lk μ x y d e q Q rp rx ry hq k
  unfold sAdd at hq
  split at hq
  · rename_i a b
    split at hq
    · rename_i hl
      cases hq
      obtain rfl := rv_str rx
      obtain rfl := rv_str ry
      refine ⟨_, _, rfl, rfl, by rw [sizeLine_eq]; simpa [Str.length] using hl, k _ _ _ rp (Ext.refl _ _ _) ?_⟩
      have z : (⟨a.toArray⟩ : Str) ++ (⟨b.toArray⟩ : Str) = ⟨(a ++ b).toArray⟩ := by
        show (Str.mk (a.toArray ++ b.toArray)) = _
        simp
      rw [z]
      exact rv_mkStr _ _ _ _
    · cases hq
  · cases hq
theorem s_ibAdd : OpS w (fun x y H Q => ∃ i k, x = .int i ∧ y = .bl k ∧ Q (.int (i + b2i k)) H) ibAdd := by
  intro m H lk μ x y d e q Q rp rx ry hq k
  unfold ibAdd at hq
  split at hq
  · cases hq
    obtain rfl := rv_int rx
    obtain rfl := rv_bl ry
    exact ⟨_, _, rfl, rfl, k _ _ _ rp (Ext.refl _ _ _) (.int _)⟩
  · cases hq
end

/-! ### lists and tuples as they are read -/
/-- a tuple's items -/
def itT : D → Option (List D)
  | .tup l => some l
  | .kt l => some l
  | _ => none
def lstOf : Option C → Option (List D)
  | some (.lst l) => some l
  | _ => none
theorem lstOf_some {c : Option C} {l : List D} (h : lstOf c = some l) : c = some (.lst l) := by
  unfold lstOf at h
  split at h
  · cases h; rfl
  · cases h
/-- a list's items -/
def itL (μ : Sto) : D → Option (List D)
  | .lst l => some l
  | .kl l => some l
  | .obj n => lstOf (μ.ce n)
  | _ => none
theorem RVs.toVals {w : Wd} {m : Im} {H : Hp} {vs : List V} {ds : List D} (r : RVs w m H vs ds) : vs.length = ds.length := r.len
theorem itT_rd {w : Wd} {m : Im} {H : Hp} {x : V} {d : D} {l : List D} (r : RV w m H x d) (h : itT d = some l) : ∃ a vs, x = .ref a ∧ SqT w.K H a vs ∧ RVs w m H vs l := by
  cases r <;> try (cases h; done)
  case tup ha t => cases h; exact ⟨_, _, rfl, .inl (.inl ha), t⟩
  case kt ha t => cases h; exact ⟨_, _, rfl, ha, t⟩
theorem cell_lst {w : Wd} {m : Im} {H : Hp} {lk : Lk} {μ : Sto} (rp : Rp w m H lk μ) {n : Nat} {l : List D} (h : μ.ce n = some (.lst l)) : ∃ a vs, m.io n = some a ∧ H a = some (.lst vs) ∧ RVs w m H vs l := by
  obtain ⟨a, u, h1, h2, h3⟩ := rp.cell n _ h
  cases h2 with
  | lst t =>
    rcases h3 with h3 | ⟨_, h3, _⟩
    · exact ⟨a, _, h1, h3, t⟩
    · cases h3
theorem itL_rd {w : Wd} {m : Im} {H : Hp} {lk : Lk} {μ : Sto} (rp : Rp w m H lk μ) {x : V} {d : D} {l : List D} (r : RV w m H x d) (h : itL μ d = some l) : ∃ a vs, x = .ref a ∧ SqL w.K H a vs ∧ RVs w m H vs l := by
  cases r <;> try (cases h; done)
  case lst f ha t => cases h; exact ⟨_, _, rfl, .inl (.inl ha), t⟩
  case kl ha f t => cases h; exact ⟨_, _, rfl, ha, t⟩
  case obj n ha =>
    obtain ⟨a, vs, h1, h2, h3⟩ := cell_lst rp (lstOf_some h)
    rw [ha] at h1
    cases h1
    exact ⟨_, _, rfl, .inl (.inl h2), h3⟩
/-- a list that is tracked itself -/
def itLx (μ : Sto) : D → Option (List D)
  | .lst l => some l
  | .obj n => lstOf (μ.ce n)
  | _ => none
theorem itLx_rd {w : Wd} {m : Im} {H : Hp} {lk : Lk} {μ : Sto} (rp : Rp w m H lk μ) {x : V} {d : D} {l : List D} (r : RV w m H x d) (h : itLx μ d = some l) : ∃ a vs, x = .ref a ∧ H a = some (.lst vs) ∧ RVs w m H vs l := by
  cases r <;> try (cases h; done)
  case lst f ha t => cases h; exact ⟨_, _, rfl, ha, t⟩
  case obj n ha =>
    obtain ⟨a, vs, h1, h2, h3⟩ := cell_lst rp (lstOf_some h)
    rw [ha] at h1
    cases h1
    exact ⟨_, _, rfl, h2, h3⟩
def tAddF : Op2 := fun _ d e => match itT d, itT e with
  | some a, some b => if a.length + b.length ≤ 16777216 then some (if a.isEmpty then e else if b.isEmpty then d else .tup (a ++ b)) else none
  | _, _ => none
def lAddF : Op2 := fun μ d e => match itLx μ d, itLx μ e with
  | some a, some b => if a.length + b.length ≤ 16777216 then some (.lst (a ++ b)) else none
  | _, _ => none
section
variable {w : Wd}
theorem s_tAdd : OpS w (rCatA w.K) tAddF := by
  intro m H lk μ x y d e q Q rp rx ry hq k
  unfold tAddF at hq
  split at hq
  · rename_i a b ha hb
    split at hq
    · rename_i hl
      obtain ⟨p, vs, rfl, hp, rv⟩ := itT_rd rx ha
      obtain ⟨p2, us, rfl, hp2, ru⟩ := itT_rd ry hb
      have l1 := rv.len
      have l2 := ru.len
      refine ⟨p, p2, vs, us, rfl, rfl, hp, hp2, by rw [sizeLine_eq]; omega, fun z => ?_, fun z1 z2 => ?_, fun z1 z2 p3 h3 => ?_⟩
      · have za : a.isEmpty = true := by rw [List.isEmpty_iff]; exact List.length_eq_zero_iff.mp (by rw [← l1, z]; rfl)
        rw [if_pos za] at hq
        cases hq
        exact k _ _ _ rp (Ext.refl _ _ _) ry
      · have za : ¬ a.isEmpty = true := fun w => z1 (List.length_eq_zero_iff.mp (by rw [l1, List.isEmpty_iff.mp w]; rfl))
        have zb : b.isEmpty = true := by rw [List.isEmpty_iff]; exact List.length_eq_zero_iff.mp (by rw [← l2, z2]; rfl)
        rw [if_neg za, if_pos zb] at hq
        cases hq
        exact k _ _ _ rp (Ext.refl _ _ _) rx
      · have za : ¬ a.isEmpty = true := fun w => z1 (List.length_eq_zero_iff.mp (by rw [l1, List.isEmpty_iff.mp w]; rfl))
        have zb : ¬ b.isEmpty = true := fun w => z2 (List.length_eq_zero_iff.mp (by rw [l2, List.isEmpty_iff.mp w]; rfl))
        rw [if_neg za, if_neg zb] at hq
        cases hq
        obtain ⟨rp', ex⟩ := rp.new (o := .tup (vs ++ us)) h3
        exact k _ _ _ rp' ex (.tup upd_same ((rv.append ru).mono ex.wx))
    · cases hq
  · cases hq
theorem s_lAdd : OpS w rCat lAddF := by
  intro m H lk μ x y d e q Q rp rx ry hq k
  unfold lAddF at hq
  split at hq
  · rename_i a b ha hb
    split at hq
    · rename_i hl
      cases hq
      obtain ⟨p, vs, rfl, hp, rv⟩ := itLx_rd rp rx ha
      obtain ⟨p2, us, rfl, hp2, ru⟩ := itLx_rd rp ry hb
      have l1 := rv.len
      have l2 := ru.len
      refine ⟨p, p2, vs, us, rfl, rfl, hp, hp2, by rw [sizeLine_eq]; omega, fun p3 h3 => ?_⟩
      obtain ⟨rp', ex⟩ := rp.newF (o := .lst (vs ++ us)) h3
      exact k _ _ _ rp' ex (.lst (.inr rfl) upd_same ((rv.append ru).mono ex.wx))
    · cases hq
  · cases hq
end
def addD : Op2 := orOp iAdd (orOp sAdd (orOp tAddF (orOp lAddF ibAdd)))
def subD : Op2 := iSub
def divD : Op2 := orOp iDiv iDivW
section
variable {X : Cx} {w : Wd} {E : XK} {a b : Expr} {ma mb : ME} {pos : Pos}
theorem r_add (hK : X.K = w.K) (ha : PE X a (tE w E ma)) (hb : PE X b (tE w E mb)) : PE X (.BinOp a .Add b pos) (tE w E (op2E addD ma mb)) :=
  r_bin (op_add.or (op_add_str.or (op_catA.or (op_cat.or op_add_ib)))) (s_iAdd.or (s_sAdd.or ((hK ▸ s_tAdd).or (s_lAdd.or s_ibAdd)))) ha hb
theorem r_sub (ha : PE X a (tE w E ma)) (hb : PE X b (tE w E mb)) : PE X (.BinOp a .Sub b pos) (tE w E (op2E subD ma mb)) := r_bin op_sub s_iSub ha hb
theorem r_mul (ha : PE X a (tE w E ma)) (hb : PE X b (tE w E mb)) : PE X (.BinOp a .Mult b pos) (tE w E (op2E iMul ma mb)) := r_bin op_mul s_iMul ha hb
theorem r_div (ha : PE X a (tE w E ma)) (hb : PE X b (tE w E mb)) : PE X (.BinOp a .FloorDiv b pos) (tE w E (op2E divD ma mb)) := r_bin (op_fdivN.or op_fdivW) (s_iDiv.or s_iDivW) ha hb
theorem r_mod (ha : PE X a (tE w E ma)) (hb : PE X b (tE w E mb)) : PE X (.BinOp a .Mod b pos) (tE w E (op2E iMod ma mb)) := r_bin op_modN s_iMod ha hb
theorem r_pow (ha : PE X a (tE w E ma)) (hb : PE X b (tE w E mb)) : PE X (.BinOp a .Pow b pos) (tE w E (op2E iPow ma mb)) := r_bin op_pow s_iPow ha hb
end
end MP

end
section
set_option Elab.async false
set_option linter.all false
set_option maxRecDepth 100000
set_option maxHeartbeats 2000000
/-! the mirror: data as data, dicts by keys, comparisons, tests -/
namespace MP
open PySem PyProof.Rows L2

/-! ### data -/
def mapO {α β : Type} (f : α → Option β) : List α → Option (List β)
  | [] => some []
  | x :: r => match f x, mapO f r with
    | some y, some ys => some (y :: ys)
    | _, _ => none
theorem mapO_cons {α β : Type} {f : α → Option β} {x : α} {r : List α} {l : List β} (h : mapO f (x :: r) = some l) : ∃ y ys, f x = some y ∧ mapO f r = some ys ∧ l = y :: ys := by
  unfold mapO at h
  cases e1 : f x with
  | none => rw [e1] at h; cases h
  | some y =>
    cases e2 : mapO f r with
    | none => rw [e1, e2] at h; cases h
    | some ys =>
      rw [e1, e2] at h
      cases h
      exact ⟨y, ys, rfl, rfl, rfl⟩
def optL (g : List PyData → PyData) : Option (List PyData) → Option PyData
  | some l => some (g l)
  | none => none
theorem optL_some {g : List PyData → PyData} {o : Option (List PyData)} {p : PyData} (h : optL g o = some p) : ∃ l, o = some l ∧ p = g l := by
  cases o with
  | none => cases h
  | some l => cases h; exact ⟨l, rfl, rfl⟩
/-- a value's data, lists of the store looked through -/
def snap : Nat → Sto → D → Option PyData
  | 0, _, _ => none
  | n + 1, μ, d => match d with
    | .non => some .none
    | .bl b => some (.bool b)
    | .int i => some (.int i)
    | .str s => some (.str ⟨s.toArray⟩)
    | .tup l => optL .tuple (mapO (snap n μ) l)
    | .kt l => optL .tuple (mapO (snap n μ) l)
    | .lst l => optL .list (mapO (snap n μ) l)
    | .kl l => optL .list (mapO (snap n μ) l)
    | .obj k => match lstOf (μ.ce k) with
      | some l => optL .list (mapO (snap n μ) l)
      | none => none
    | _ => none
section
variable {w : Wd} {m : Im} {H : Hp} {lk : Lk} {μ : Sto}
theorem snaps_of {f : D → Option PyData} (hf : ∀ {x d p}, RV w m H x d → f d = some p → Dp w.K H x p) : ∀ {vs : List V} {ds : List D} {ps : List PyData}, RVs w m H vs ds → mapO f ds = some ps → DpAll w.K H vs ps
  | _, _, _, .nil, h => by cases h; exact .nil
  | _, _, _, .cons r t, h => by
    obtain ⟨y, ys, e1, e2, rfl⟩ := mapO_cons h
    exact .cons (hf r e1) (snaps_of hf t e2)
theorem snap_of (rp : Rp w m H lk μ) : ∀ (n : Nat) {x : V} {d : D} {p : PyData}, RV w m H x d → snap n μ d = some p → Dp w.K H x p
  | 0, _, _, _, _, h => by cases h
  | n + 1, _, _, _, r, h => by
    have ih : ∀ {x : V} {d : D} {p : PyData}, RV w m H x d → snap n μ d = some p → Dp w.K H x p := snap_of rp n
    cases r with
    | non => cases h; exact .non
    | bl b => cases h; exact .bl b
    | int i => cases h; exact .int i
    | str z => cases h; exact .str z
    | tup ha t =>
      obtain ⟨l, e, rfl⟩ := optL_some h
      exact .tup (.inl (.inl ha)) (snaps_of ih t e)
    | kt ha t =>
      obtain ⟨l, e, rfl⟩ := optL_some h
      exact .tup ha (snaps_of ih t e)
    | lst f ha t =>
      obtain ⟨l, e, rfl⟩ := optL_some h
      exact .lst (.inl (.inl ha)) (snaps_of ih t e)
    | kl ha f t =>
      obtain ⟨l, e, rfl⟩ := optL_some h
      exact .lst ha (snaps_of ih t e)
    | dK _ _ _ => cases h
    | dT _ _ _ => cases h
    | lam _ _ => cases h
    | kd _ => cases h
    | obj ha =>
      rename_i a k
      unfold snap at h
      cases e1 : lstOf (μ.ce k) with
      | none => simp only [e1] at h; cases h
      | some l =>
        simp only [e1] at h
        obtain ⟨l', e, rfl⟩ := optL_some h
        obtain ⟨a', vs, h1, h2, h3⟩ := cell_lst rp (lstOf_some e1)
        rw [ha] at h1
        cases h1
        exact .lst (.inl (.inl h2)) (snaps_of ih h3 e)
end
def snapD : Sto → D → Option PyData := snap 12
def eqD : Op2 := fun μ d e => match snapD μ d, snapD μ e with
  | some p, some q => if SeqAt.shaped p && SeqAt.shaped q then some (.bl (PyData.eqv p q)) else none
  | _, _ => none
def neD : Op2 := fun μ d e => match snapD μ d, snapD μ e with
  | some p, some q => if SeqAt.shaped p && SeqAt.shaped q then some (.bl (!PyData.eqv p q)) else none
  | _, _ => none
theorem ite_some {c : Bool} {γ : Type} {a r : γ} (h : (if c = true then some a else none) = some r) : c = true ∧ a = r := by
  cases c with
  | false => cases h
  | true => cases h; exact ⟨rfl, rfl⟩
theorem eqD_inv {μ : Sto} {d e q : D} (h : eqD μ d e = some q) : ∃ p p', snapD μ d = some p ∧ snapD μ e = some p' ∧ SeqAt.shaped p = true ∧ SeqAt.shaped p' = true ∧ q = .bl (PyData.eqv p p') := by
  unfold eqD at h
  split at h
  · rename_i p p' e1 e2
    obtain ⟨hs, rfl⟩ := ite_some h
    rw [Bool.and_eq_true] at hs
    exact ⟨p, p', e1, e2, hs.1, hs.2, rfl⟩
  · cases h
theorem neD_inv {μ : Sto} {d e q : D} (h : neD μ d e = some q) : ∃ p p', snapD μ d = some p ∧ snapD μ e = some p' ∧ SeqAt.shaped p = true ∧ SeqAt.shaped p' = true ∧ q = .bl (!PyData.eqv p p') := by
  unfold neD at h
  split at h
  · rename_i p p' e1 e2
    obtain ⟨hs, rfl⟩ := ite_some h
    rw [Bool.and_eq_true] at hs
    exact ⟨p, p', e1, e2, hs.1, hs.2, rfl⟩
  · cases h
section
variable {w : Wd}
theorem s_eqD : OpS w (rEqD w.K) eqD := by
  intro m H lk μ x y d e q Q rp rx ry hq k
  obtain ⟨p, p', e1, e2, h1, h2, rfl⟩ := eqD_inv hq
  exact ⟨p, p', snap_of rp 12 rx e1, snap_of rp 12 ry e2, h1, h2, k _ _ _ rp (Ext.refl _ _ _) (.bl _)⟩
theorem s_neD : OpS w (rNeD w.K) neD := by
  intro m H lk μ x y d e q Q rp rx ry hq k
  obtain ⟨p, p', e1, e2, h1, h2, rfl⟩ := neD_inv hq
  exact ⟨p, p', snap_of rp 12 rx e1, snap_of rp 12 ry e2, h1, h2, k _ _ _ rp (Ext.refl _ _ _) (.bl _)⟩
end
def iLt : Op2 := opII (fun _ _ => true) fun i j => .bl (decide (i < j))
def iLe : Op2 := opII (fun _ _ => true) fun i j => .bl (decide (i ≤ j))
def iGt : Op2 := opII (fun _ _ => true) fun i j => .bl (decide (j < i))
def iGe : Op2 := opII (fun _ _ => true) fun i j => .bl (decide (j ≤ i))
def isN : Op2 := fun _ d e => match e, d with
  | .non, .non => some (.bl true)
  | .non, _ => some (.bl false)
  | _, _ => none
def notN : Op2 := fun _ d e => match e, d with
  | .non, .non => some (.bl false)
  | .non, _ => some (.bl true)
  | _, _ => none
section
variable {w : Wd}
theorem s_iLt : OpS w (rI0 fun i j => .bl (decide (i < j))) iLt := opS_rI0 fun _ _ _ _ => .bl _
theorem s_iLe : OpS w (rI0 fun i j => .bl (decide (i ≤ j))) iLe := opS_rI0 fun _ _ _ _ => .bl _
theorem s_iGt : OpS w (rI0 fun i j => .bl (decide (j < i))) iGt := opS_rI0 fun _ _ _ _ => .bl _
theorem s_iGe : OpS w (rI0 fun i j => .bl (decide (j ≤ i))) iGe := opS_rI0 fun _ _ _ _ => .bl _
theorem s_isN : OpS w (fun x y H Q => y = .non ∧ Q (.bl (decide (x = .non))) H) isN := by
  intro m H lk μ x y d e q Q rp rx ry hq k
  cases ry <;> try (cases hq; done)
  refine ⟨rfl, k _ _ _ rp (Ext.refl _ _ _) ?_⟩
  cases rx <;> (cases hq; exact .bl _)
theorem s_notN : OpS w (fun x y H Q => y = .non ∧ Q (.bl (!decide (x = .non))) H) notN := by
  intro m H lk μ x y d e q Q rp rx ry hq k
  cases ry <;> try (cases hq; done)
  refine ⟨rfl, k _ _ _ rp (Ext.refl _ _ _) ?_⟩
  cases rx <;> (cases hq; exact .bl _)
end

/-! ### keys -/
def keqs : D → D → Bool
  | .int i, .int j => decide (i = j)
  | .str a, .str b => decide (a = b)
  | _, _ => false
def keqL : List D → List D → Bool
  | [], [] => true
  | x :: xs, y :: ys => keqs x y && keqL xs ys
  | _, _ => false
def keq : D → D → Bool
  | .tup a, .tup b => keqL a b
  | .int i, .int j => decide (i = j)
  | .str a, .str b => decide (a = b)
  | _, _ => false
def isKey : D → Bool
  | .int _ => true
  | .str _ => true
  | _ => false
def toKey : D → Option Key
  | .int i => some (.inl i)
  | .str s => some (.inr ⟨s.toArray⟩)
  | _ => none
theorem str_cps {x y : Str} : x = y ↔ x.cps.toList = y.cps.toList := by
  constructor
  · rintro rfl; rfl
  · intro h
    cases x; cases y
    congr
    exact Array.ext' h
theorem keqs_key (k k' : Key) : keqs (keyD k) (keyD k') = decide (k = k') := by
  cases k with
  | inl i =>
    cases k' with
    | inl j => show decide (i = j) = _; by_cases e : i = j <;> simp [e]
    | inr y => show false = _; simp
  | inr x =>
    cases k' with
    | inl j => show false = _; simp
    | inr y =>
      show decide (x.cps.toList = y.cps.toList) = _
      by_cases e : x = y
      · subst e; simp
      · have : ¬ x.cps.toList = y.cps.toList := fun z => e (str_cps.mpr z)
        simp [e, this]
theorem keq_key (k k' : Key) : keq (keyD k) (keyD k') = decide (k = k') := by
  rw [← keqs_key]
  cases k <;> cases k' <;> rfl
theorem keqL_keys : ∀ (k k' : List Key), keqL (k.map keyD) (k'.map keyD) = decide (k = k')
  | [], [] => rfl
  | [], _ :: _ => rfl
  | _ :: _, [] => rfl
  | a :: r, b :: s => by
    show (keqs (keyD a) (keyD b) && keqL (r.map keyD) (s.map keyD)) = _
    rw [keqs_key, keqL_keys r s]
    by_cases e : a = b <;> by_cases e2 : r = s <;> simp [e, e2]
theorem keq_keys (k k' : List Key) : keq (keysD k) (keysD k') = decide (k = k') := keqL_keys k k'
theorem toKey_some {d : D} {k : Key} (h : toKey d = some k) : d = keyD k := by
  cases d <;> cases h
  · rfl
  · rfl
theorem rv_key {w : Wd} {m : Im} {H : Hp} {y : V} {k : Key} (r : RV w m H y (keyD k)) : y = kV k := by
  cases k with
  | inl i => exact rv_int r
  | inr x => exact rv_str r
theorem rv_kV (w : Wd) (m : Im) (H : Hp) (k : Key) : RV w m H (kV k) (keyD k) := by
  cases k with
  | inl i => exact .int i
  | inr x => exact .str x
theorem toKeys_some : ∀ {l : List D} {ks : List Key}, mapO toKey l = some ks → l = ks.map keyD
  | [], _, h => by cases h; rfl
  | d :: r, _, h => by
    obtain ⟨k, ks, e1, e2, rfl⟩ := mapO_cons h
    rw [toKey_some e1, toKeys_some e2]; rfl
theorem rvs_keys {w : Wd} {m : Im} {H : Hp} : ∀ {vs : List V} {ks : List Key}, RVs w m H vs (ks.map keyD) → vs = ks.map kV
  | _, [], h => by cases h; rfl
  | _, k :: ks, h => by
    cases h with
    | cons r t => rw [rv_key r, rvs_keys t]; rfl

/-! ### dicts by keys -/
def lookD : List (D × D) → D → Option D
  | [], _ => none
  | (k, v) :: r, d => if keq k d then some v else lookD r d
def setD : List (D × D) → D → D → List (D × D)
  | [], _, _ => []
  | (k, v) :: r, d, e => (if keq k d then (k, e) else (k, v)) :: setD r d e
def putD (l : List (D × D)) (d e : D) : List (D × D) := if (lookD l d).isSome then setD l d e else l ++ [(d, e)]
def dropD : List (D × D) → D → List (D × D)
  | [], _ => []
  | (k, v) :: r, d => if keq k d then dropD r d else (k, v) :: dropD r d
def relO (w : Wd) (m : Im) (H : Hp) : Option V → Option D → Prop
  | none, none => True
  | some v, some e => RV w m H v e
  | _, _ => False
section
variable {w : Wd} {m : Im} {H : Hp}
theorem lookK : ∀ {kvs : List (Key × V)} {l : List (D × D)}, RKs w m H kvs l → ∀ k, relO w m H (valV kvs k) (lookD l (keyD k))
  | _, _, .nil, _ => trivial
  | _, _, .cons (k := k0) r t, k => by
    unfold lookD
    rw [keq_key]
    by_cases e : k0 = k
    · rw [if_pos (decide_eq_true e), valV_pos e]; exact r
    · rw [if_neg (by simpa using e), valV_neg e]; exact lookK t k
theorem lookT : ∀ {kvs : List (List Key × V)} {l : List (D × D)}, RTs w m H kvs l → ∀ k, relO w m H (valV kvs k) (lookD l (keysD k))
  | _, _, .nil, _ => trivial
  | _, _, .cons (k := k0) r t, k => by
    unfold lookD
    rw [keq_keys]
    by_cases e : k0 = k
    · rw [if_pos (decide_eq_true e), valV_pos e]; exact r
    · rw [if_neg (by simpa using e), valV_neg e]; exact lookT t k
theorem relO_isSome {o : Option V} {o' : Option D} (h : relO w m H o o') : o.isSome = o'.isSome := by
  cases o <;> cases o' <;> first | rfl | exact h.elim
theorem setK_rel {k : Key} {v : V} {e : D} (rv : RV w m H v e) : ∀ {kvs : List (Key × V)} {l : List (D × D)}, RKs w m H kvs l → RKs w m H (kvs.map fun kv => if kv.1 = k then (kv.1, v) else kv) (setD l (keyD k) e)
  | _, _, .nil => .nil
  | _, _, .cons (k := k0) r t => by
    unfold setD
    rw [keq_key, List.map_cons]
    by_cases q : k0 = k
    · rw [if_pos (decide_eq_true q), if_pos q]; exact .cons rv (setK_rel rv t)
    · simp only [decide_eq_true_eq, if_neg q]; exact .cons r (setK_rel rv t)
theorem setT_rel {k : List Key} {v : V} {e : D} (rv : RV w m H v e) : ∀ {kvs : List (List Key × V)} {l : List (D × D)}, RTs w m H kvs l → RTs w m H (kvs.map fun kv => if kv.1 = k then (kv.1, v) else kv) (setD l (keysD k) e)
  | _, _, .nil => .nil
  | _, _, .cons (k := k0) r t => by
    unfold setD
    rw [keq_keys, List.map_cons]
    by_cases q : k0 = k
    · rw [if_pos (decide_eq_true q), if_pos q]; exact .cons rv (setT_rel rv t)
    · simp only [decide_eq_true_eq, if_neg q]; exact .cons r (setT_rel rv t)
theorem RKs.snoc {k : Key} {v : V} {e : D} (rv : RV w m H v e) : ∀ {kvs : List (Key × V)} {l : List (D × D)}, RKs w m H kvs l → RKs w m H (kvs ++ [(k, v)]) (l ++ [(keyD k, e)])
  | _, _, .nil => .cons rv .nil
  | _, _, .cons r t => .cons r (RKs.snoc rv t)
theorem RTs.snoc {k : List Key} {v : V} {e : D} (rv : RV w m H v e) : ∀ {kvs : List (List Key × V)} {l : List (D × D)}, RTs w m H kvs l → RTs w m H (kvs ++ [(k, v)]) (l ++ [(keysD k, e)])
  | _, _, .nil => .cons rv .nil
  | _, _, .cons r t => .cons r (RTs.snoc rv t)
theorem putK_rel {kvs : List (Key × V)} {l : List (D × D)} {k : Key} {v : V} {e : D} (r : RKs w m H kvs l) (rv : RV w m H v e) : RKs w m H (putK kvs k v) (putD l (keyD k) e) := by
  unfold putK putD
  rw [valV_any, relO_isSome (lookK r k)]
  split
  · exact setK_rel rv r
  · exact r.snoc rv
theorem putT_rel {kvs : List (List Key × V)} {l : List (D × D)} {k : List Key} {v : V} {e : D} (r : RTs w m H kvs l) (rv : RV w m H v e) : RTs w m H (putK kvs k v) (putD l (keysD k) e) := by
  unfold putK putD
  rw [valV_any, relO_isSome (lookT r k)]
  split
  · exact setT_rel rv r
  · exact r.snoc rv
theorem RKs.len : ∀ {kvs : List (Key × V)} {l : List (D × D)}, RKs w m H kvs l → kvs.length = l.length
  | _, _, .nil => rfl
  | _, _, .cons _ t => by simp [t.len]
theorem RTs.len : ∀ {kvs : List (List Key × V)} {l : List (D × D)}, RTs w m H kvs l → kvs.length = l.length
  | _, _, .nil => rfl
  | _, _, .cons _ t => by simp [t.len]
end
def dctC : Option C → Option (Bool × List (D × D))
  | some (.dct t l) => some (t, l)
  | _ => none
theorem dctC_some {c : Option C} {t : Bool} {l : List (D × D)} (h : dctC c = some (t, l)) : c = some (.dct t l) := by
  unfold dctC at h
  split at h
  · cases h; rfl
  · cases h
/-- a dict's pairs as they are read -/
def dctOf (μ : Sto) : D → Option (Bool × List (D × D))
  | .dct t l => some (t, l)
  | .obj n => dctC (μ.ce n)
  | _ => none
def DctR (w : Wd) (m : Im) (H : Hp) (a : Addr) : Bool × List (D × D) → Prop
  | (false, l) => ∃ kvs, Rd H a (.dK kvs) ∧ RKs w m H kvs l
  | (true, l) => ∃ kvs, Rd H a (.dT kvs) ∧ RTs w m H kvs l
theorem cell_dct {w : Wd} {m : Im} {H : Hp} {lk : Lk} {μ : Sto} (rp : Rp w m H lk μ) {n : Nat} {t : Bool} {l : List (D × D)} (h : μ.ce n = some (.dct t l)) : ∃ a, m.io n = some a ∧ DctR w m H a (t, l) ∧ (lk n = false → (∃ kvs, t = false ∧ H a = some (.dK kvs) ∧ RKs w m H kvs l) ∨ (∃ kvs, t = true ∧ H a = some (.dT kvs) ∧ RTs w m H kvs l)) := by
  obtain ⟨a, u, h1, h2, h3⟩ := rp.cell n _ h
  have hr : Rd H a u := by
    rcases h3 with h3 | ⟨_, _, o, h3⟩
    · exact .inl h3
    · exact .inr ⟨o, h3⟩
  have hl : lk n = false → H a = some u := fun z => by
    rcases h3 with h3 | ⟨q, _⟩
    · exact h3
    · rw [z] at q; cases q
  cases h2 with
  | dK r => exact ⟨a, h1, ⟨_, hr, r⟩, fun z => .inl ⟨_, rfl, hl z, r⟩⟩
  | dT r => exact ⟨a, h1, ⟨_, hr, r⟩, fun z => .inr ⟨_, rfl, hl z, r⟩⟩
theorem dctOf_rd {w : Wd} {m : Im} {H : Hp} {lk : Lk} {μ : Sto} (rp : Rp w m H lk μ) {x : V} {d : D} {q : Bool × List (D × D)} (r : RV w m H x d) (h : dctOf μ d = some q) : ∃ a, x = .ref a ∧ DctR w m H a q := by
  cases r <;> try (cases h; done)
  case dK f ha t => cases h; exact ⟨_, rfl, _, ha, t⟩
  case dT f ha t => cases h; exact ⟨_, rfl, _, ha, t⟩
  case obj n ha =>
    obtain ⟨t, l⟩ := q
    obtain ⟨a, h1, h2, _⟩ := cell_dct rp (dctC_some h)
    rw [ha] at h1
    cases h1
    exact ⟨_, rfl, h2⟩
def okKey (t : Bool) (y : D) : Bool := match t, y with
  | false, y => (toKey y).isSome
  | true, .tup l => (mapO toKey l).isSome
  | _, _ => false
def getD (μ : Sto) (d y : D) : Option (Option D) := match dctOf μ d with
  | some (t, l) => if okKey t y then some (lookD l y) else none
  | none => none
theorem okKey_cases {w : Wd} {m : Im} {H : Hp} {y : V} {e : D} {t : Bool} (r : RV w m H y e) (h : okKey t e = true) : (t = false ∧ ∃ k, e = keyD k ∧ y = kV k) ∨ (t = true ∧ ∃ k b, e = keysD k ∧ y = .ref b ∧ H b = some (.tup (k.map kV))) := by
  unfold okKey at h
  split at h
  · obtain ⟨k, hk⟩ := Option.isSome_iff_exists.mp h
    have e1 := toKey_some hk
    subst e1
    exact .inl ⟨rfl, k, rfl, rv_key r⟩
  · rename_i l
    obtain ⟨k, hk⟩ := Option.isSome_iff_exists.mp h
    have e1 := toKeys_some hk
    subst e1
    cases r with
    | tup ha t =>
      rw [rvs_keys t] at ha
      exact .inr ⟨rfl, k, _, rfl, rfl, ha⟩
  · cases h
theorem getD_rd {w : Wd} {m : Im} {H : Hp} {lk : Lk} {μ : Sto} (rp : Rp w m H lk μ) {x y : V} {d e : D} {o : Option D} (rx : RV w m H x d) (ry : RV w m H y e) (h : getD μ d e = some o) : ∃ a ov, x = .ref a ∧ DGet H a y ov ∧ relO w m H ov o := by
  unfold getD at h
  cases e1 : dctOf μ d with
  | none => rw [e1] at h; cases h
  | some q =>
    obtain ⟨t, l⟩ := q
    rw [e1] at h
    obtain ⟨hk, rfl⟩ := ite_some h
    obtain ⟨a, rfl, hd⟩ := dctOf_rd rp rx e1
    rcases okKey_cases ry hk with ⟨rfl, k, rfl, rfl⟩ | ⟨rfl, k, b, rfl, rfl, hb⟩
    · obtain ⟨kvs, h1, h2⟩ := hd
      exact ⟨a, _, rfl, .inl ⟨kvs, k, h1, rfl, rfl⟩, lookK h2 k⟩
    · obtain ⟨kvs, h1, h2⟩ := hd
      exact ⟨a, _, rfl, .inr ⟨kvs, k, b, h1, rfl, hb, rfl⟩, lookT h2 k⟩

/-! ### in -/
def rDIn (neg : Bool) : R2 := fun y x H Q => ∃ a o, x = .ref a ∧ DGet H a y o ∧ Q (.bl (if neg then !o.isSome else o.isSome)) H
theorem op_dinR {X : Cx} (hu : X.A.units + 1 < cLine) : OpR X (compareOp .In) (rDIn false) := by
  intro pins s σ H y x u v Q I ry rx h
  obtain ⟨a, o, rfl, g, q⟩ := h
  obtain rfl : v = Value.ref a := rx
  exact d_in hu I g ry fun s3 I3 => ⟨.bl o.isSome, H, I3, rfl, q⟩
theorem op_dnotinR {X : Cx} (hu : X.A.units + 1 < cLine) : OpR X (compareOp .NotIn) (rDIn true) := by
  intro pins s σ H y x u v Q I ry rx h
  obtain ⟨a, o, rfl, g, q⟩ := h
  obtain rfl : v = Value.ref a := rx
  exact d_notIn hu I g ry fun s3 I3 => ⟨.bl (!o.isSome), H, I3, rfl, q⟩
def inDc (neg : Bool) : Op2 := fun μ y d => match getD μ d y with
  | some o => some (.bl (if neg then !o.isSome else o.isSome))
  | none => none
def flatD : D → Bool
  | .non => true
  | .bl _ => true
  | .int _ => true
  | .str _ => true
  | _ => false
def eqF : D → D → Bool
  | .non, .non => true
  | .bl a, .bl b => a == b
  | .bl a, .int b => (if a then 1 else 0) == b
  | .int a, .bl b => a == (if b then 1 else 0)
  | .int a, .int b => a == b
  | .str a, .str b => a == b
  | _, _ => false
/-- in a list or tuple of flat items -/
def inFl (neg : Bool) : Op2 := fun μ y d => match (match itL μ d with | some l => some l | none => itT d) with
  | some l => if flatD y && l.all flatD then some (.bl (if neg then !(l.any fun z => eqF z y) else l.any fun z => eqF z y)) else none
  | none => none
/-- in a list of data -/
def inLd (neg : Bool) : Op2 := fun μ y d => match snapD μ y, snapD μ d with
  | some p, some (.list ps) => if SeqAt.shaped p && SeqAt.shaped (.list ps) then some (.bl (if neg then !(ps.any fun z => PyData.eqv z p) else ps.any fun z => PyData.eqv z p)) else none
  | _, _ => none
/-- a sign in a text -/
def inSg (neg : Bool) : Op2 := fun _ y d => match y, d with
  | .str [c], .str s => some (.bl (if neg then !decide (c ∈ s) else decide (c ∈ s)))
  | _, _ => none
section
variable {w : Wd} {m : Im} {H : Hp}
theorem s_inDc (neg : Bool) : OpS w (rDIn neg) (inDc neg) := by
  intro m H lk μ y x d e q Q rp rx ry hq k
  unfold inDc at hq
  cases e1 : getD μ e d with
  | none => rw [e1] at hq; cases hq
  | some o =>
    rw [e1] at hq
    cases hq
    obtain ⟨a, ov, rfl, g, r⟩ := getD_rd rp ry rx e1
    refine ⟨a, ov, rfl, g, ?_⟩
    rw [relO_isSome r]
    exact k _ _ _ rp (Ext.refl _ _ _) (.bl _)
theorem flat_V {x : V} {d : D} (r : RV w m H x d) (h : flatD d = true) : flatV x = true := by
  cases r <;> first | rfl | cases h
theorem eqF_V {x y : V} {d e : D} (rx : RV w m H x d) (ry : RV w m H y e) (h1 : flatD d = true) (h2 : flatD e = true) : eqV x y = eqF d e := by
  cases rx <;> try (cases h1; done)
  all_goals cases ry <;> first | (cases h2; done) | rfl | skip
  show (_ == _) = (_ == _)
  rename_i a b
  rw [Bool.eq_iff_iff, beq_iff_eq, beq_iff_eq]
  exact str_cps
theorem any_V {y : V} {e : D} (ry : RV w m H y e) (h2 : flatD e = true) : ∀ {vs : List V} {ds : List D}, RVs w m H vs ds → ds.all flatD = true → (vs.any fun z => eqV z y) = ds.any fun z => eqF z e
  | _, _, .nil, _ => rfl
  | _, _, .cons r t, h => by
    rw [List.all_cons, Bool.and_eq_true] at h
    rw [List.any_cons, List.any_cons, eqF_V r ry h.1 h2, any_V ry h2 t h.2]
theorem all_flat : ∀ {vs : List V} {ds : List D}, RVs w m H vs ds → ds.all flatD = true → vs.all flatV = true
  | _, _, .nil, _ => rfl
  | _, _, .cons r t, h => by
    rw [List.all_cons, Bool.and_eq_true] at h
    rw [List.all_cons, flat_V r h.1, all_flat t h.2]; rfl
theorem s_inFl (neg : Bool) : OpS w (rIn w.K neg) (inFl neg) := by
  intro m H lk μ y x d e q Q rp rx ry hq k
  unfold inFl at hq
  cases e1 : itL μ e with
  | some l =>
    simp only [e1] at hq
    obtain ⟨hf, rfl⟩ := ite_some hq
    rw [Bool.and_eq_true] at hf
    obtain ⟨a, vs, rfl, h1, h2⟩ := itL_rd rp ry e1
    refine ⟨a, vs, rfl, .inl h1, flat_V rx hf.1, all_flat h2 hf.2, ?_⟩
    unfold inV
    rw [any_V rx hf.1 h2 hf.2]
    exact k _ _ _ rp (Ext.refl _ _ _) (.bl _)
  | none =>
    simp only [e1] at hq
    cases e2 : itT e with
    | none => simp only [e2] at hq; cases hq
    | some l =>
      simp only [e2] at hq
      obtain ⟨hf, rfl⟩ := ite_some hq
      rw [Bool.and_eq_true] at hf
      obtain ⟨a, vs, rfl, h1, h2⟩ := itT_rd ry e2
      refine ⟨a, vs, rfl, .inr h1, flat_V rx hf.1, all_flat h2 hf.2, ?_⟩
      unfold inV
      rw [any_V rx hf.1 h2 hf.2]
      exact k _ _ _ rp (Ext.refl _ _ _) (.bl _)
theorem inLd_inv {neg : Bool} {μ : Sto} {d e q : D} (h : inLd neg μ d e = some q) : ∃ p ps, snapD μ d = some p ∧ snapD μ e = some (.list ps) ∧ SeqAt.shaped p = true ∧ SeqAt.shaped (.list ps) = true ∧ q = .bl (if neg then !(ps.any fun z => PyData.eqv z p) else ps.any fun z => PyData.eqv z p) := by
  unfold inLd at h
  split at h
  · rename_i p ps e1 e2
    obtain ⟨hs, rfl⟩ := ite_some h
    rw [Bool.and_eq_true] at hs
    exact ⟨p, ps, e1, e2, hs.1, hs.2, rfl⟩
  · cases h
theorem s_inLd : OpS w (rInD w.K) (inLd false) := by
  intro m H lk μ y x d e q Q rp rx ry hq k
  obtain ⟨p, ps, e1, e2, h1, h2, rfl⟩ := inLd_inv hq
  exact ⟨p, ps, snap_of rp 12 rx e1, snap_of rp 12 ry e2, h1, h2, k _ _ _ rp (Ext.refl _ _ _) (.bl _)⟩
theorem s_notLd : OpS w (rNotInD w.K) (inLd true) := by
  intro m H lk μ y x d e q Q rp rx ry hq k
  obtain ⟨p, ps, e1, e2, h1, h2, rfl⟩ := inLd_inv hq
  exact ⟨p, ps, snap_of rp 12 rx e1, snap_of rp 12 ry e2, h1, h2, k _ _ _ rp (Ext.refl _ _ _) (.bl _)⟩
theorem inSg_inv {neg : Bool} {μ : Sto} {d e q : D} (h : inSg neg μ d e = some q) : ∃ c s, d = .str [c] ∧ e = .str s ∧ q = .bl (if neg then !decide (c ∈ s) else decide (c ∈ s)) := by
  unfold inSg at h
  split at h
  · cases h; exact ⟨_, _, rfl, rfl, rfl⟩
  · cases h
theorem s_inSg : OpS w (fun x y H Q => ∃ (c : Nat) (z : Str), x = .str ⟨#[c]⟩ ∧ y = .str z ∧ Q (.bl (decide (c ∈ z.cps.toList))) H) (inSg false) := by
  intro m H lk μ y x d e q Q rp rx ry hq k
  obtain ⟨c, s, rfl, rfl, rfl⟩ := inSg_inv hq
  obtain rfl := rv_str rx
  obtain rfl := rv_str ry
  refine ⟨c, _, rfl, rfl, k _ _ _ rp (Ext.refl _ _ _) ?_⟩
  exact .bl _
theorem s_notSg : OpS w (fun x y H Q => ∃ (c : Nat) (z : Str), x = .str ⟨#[c]⟩ ∧ y = .str z ∧ Q (.bl (!decide (c ∈ z.cps.toList))) H) (inSg true) := by
  intro m H lk μ y x d e q Q rp rx ry hq k
  obtain ⟨c, s, rfl, rfl, rfl⟩ := inSg_inv hq
  obtain rfl := rv_str rx
  obtain rfl := rv_str ry
  refine ⟨c, _, rfl, rfl, k _ _ _ rp (Ext.refl _ _ _) ?_⟩
  exact .bl _
end
def inD : Op2 := orOp (inDc false) (orOp (inSg false) (orOp (inFl false) (inLd false)))
def notInD : Op2 := orOp (inDc true) (orOp (inSg true) (orOp (inFl true) (inLd true)))
/-- the comparison's mirror -/
def cmpD : CmpOp → Option Op2
  | .Eq => some eqD
  | .NotEq => some neD
  | .Lt => some iLt
  | .LtE => some iLe
  | .Gt => some iGt
  | .GtE => some iGe
  | .Is => some isN
  | .IsNot => some notN
  | .In => some inD
  | .NotIn => some notInD
theorem cmp_ok {X : Cx} {w : Wd} (hK : X.K = w.K) (hu : X.A.units + 70 < cLine) {op : CmpOp} {f : Op2} (h : cmpD op = some f) : ∃ r, OpR X (compareOp op) r ∧ OpS w r f := by
  cases op <;> cases h
  · exact ⟨_, op_eqD (by omega), hK ▸ s_eqD⟩
  · exact ⟨_, op_neD (by omega), hK ▸ s_neD⟩
  · exact ⟨_, op_lt, s_iLt⟩
  · exact ⟨_, op_le, s_iLe⟩
  · exact ⟨_, op_gt, s_iGt⟩
  · exact ⟨_, op_ge, s_iGe⟩
  · exact ⟨_, op_isN, s_isN⟩
  · exact ⟨_, op_notN, s_notN⟩
  · exact ⟨_, (op_dinR (by omega)).or (op_in_sign.or (op_in_seq.or (op_inD (by omega)))), (s_inDc false).or (s_inSg.or ((hK ▸ s_inFl false).or (hK ▸ s_inLd)))⟩
  · exact ⟨_, (op_dnotinR (by omega)).or (op_notIn_sign.or (op_notIn_seq.or (op_notInD (by omega)))), (s_inDc true).or (s_notSg.or ((hK ▸ s_inFl true).or (hK ▸ s_notLd)))⟩
end MP

end
section
set_option Elab.async false
set_option linter.all false
set_option maxRecDepth 100000
set_option maxHeartbeats 2000000
/-! the mirror: expressions -/
namespace MP
open PySem PyProof.Rows L2

/-! ### names, constants -/
def getS : Option (Option D) → Option D
  | some (some d) => some d
  | _ => none
def varE (i : Nat) : ME := fun ρ _ μ => match getS ρ[i]? with
  | some d => some (.ok d, μ)
  | none => none
theorem getS_some {o : Option (Option D)} {d : D} (h : getS o = some d) : o = some (some d) := by
  unfold getS at h
  split at h
  · cases h; rfl
  · cases h
section
variable {X : Cx} {w : Wd} {E : XK} {pos : Pos}
theorem r_var {i : Nat} {x : Str} (hN : X.N[i]? = some x) (hv : Vis X.env.scope x) (hd : (x == ("__debug__" : Str)) = false) (hcd : (x == ("__classdict__" : Str)) = false) : PE X (.Name x pos) (tE w E (varE i)) := by
  refine pe_imp (pe_var hN hv hd hcd) fun σ H Q h => ?_
  obtain ⟨m, ρ, lk, μ, rp, fr, r, μ', e, q⟩ := h
  unfold varE at e
  cases e1 : getS ρ[i]? with
  | none => rw [e1] at e; cases e
  | some d =>
    rw [e1] at e
    cases e
    obtain ⟨v, h1, h2⟩ := fr.get i d (getS_some e1)
    exact ⟨v, h1, q v m H rp (Ext.refl _ _ _) h2⟩
theorem ret_imp {v : V} {d : D} (hr : ∀ m H, RV w m H v d) {σ : L2.St} {H : Hp} {Q : VK} (h : tE w E (retE d) σ H Q) : Q v H := by
  obtain ⟨m, ρ, lk, μ, rp, fr, r, μ', e, q⟩ := h
  cases e
  exact q v m H rp (Ext.refl _ _ _) (hr m H)
theorem r_int {i : Int} {j : Nat} : PE X (.Constant (.int i) j pos) (tE w E (retE (.int i))) := pe_imp pe_int fun _ _ _ h => ret_imp (fun _ _ => .int i) h
theorem r_bl {b : Bool} {j : Nat} : PE X (.Constant (.bool b) j pos) (tE w E (retE (.bl b))) := pe_imp pe_bl fun _ _ _ h => ret_imp (fun _ _ => .bl b) h
theorem r_non {j : Nat} : PE X (.Constant .none j pos) (tE w E (retE .non)) := pe_imp pe_non fun _ _ _ h => ret_imp (fun _ _ => .non) h
theorem r_str {x : Str} {j : Nat} : PE X (.Constant (.str x) j pos) (tE w E (retE (.str x.cps.toList))) := pe_imp pe_str fun _ _ _ h => ret_imp (fun _ _ => .str x) h
theorem r_glob {x : Str} {v : V} {u : Value} {d : D} (hg : Gl X x) (hm : X.mg x = some u) (r : RelV v u) (hr : ∀ m H, RV w m H v d) (hd : (x == ("__debug__" : Str)) = false) : PE X (.Name x pos) (tE w E (retE d)) := pe_imp (pe_glob hg hm r hd) fun _ _ _ h => ret_imp hr h
end

/-! ### a value's one-place operations -/
def Un1S (w : Wd) (r : V → Hp → VK → Prop) (f : Op1) : Prop := ∀ m H lk μ x d q Q, Rp w m H lk μ → RV w m H x d → f μ d = some q → (∀ v m' H', Rp w m' H' lk μ → Ext m m' lk H H' → RV w m' H' v q → Q v H') → r x H Q
theorem op1_imp {w : Wd} {E : XK} {r : V → Hp → VK → Prop} {f : Op1} {ma : ME} (hs : Un1S w r f) {σ : L2.St} {H : Hp} {Q : VK} (h : tE w E (op1E f ma) σ H Q) : tE w E ma σ H fun x H1 => r x H1 Q := by
  obtain ⟨m, ρ, lk, μ, rp, fr, h⟩ := h
  refine ⟨m, ρ, lk, μ, rp, fr, tK_mono (tK_bind h) ?_⟩
  rintro x H1 ⟨d, m1, μ1, rp1, ex1, rx, h1⟩
  obtain ⟨q, hq, k⟩ := tK_lift h1
  exact hs m1 H1 lk μ1 x d q Q rp1 rx hq k
def negD : Op1 := fun _ d => match d with
  | .int i => some (.int (-i))
  | _ => none
theorem s_neg {w : Wd} : Un1S w (rU fun i => .int (-i)) negD := by
  intro m H lk μ x d q Q rp rx hq k
  cases d <;> cases hq
  obtain rfl := rv_int rx
  exact ⟨_, rfl, k _ _ _ rp (Ext.refl _ _ _) (.int _)⟩
/-- a value's truth -/
def truD (μ : Sto) (d : D) : Option Bool := match d with
  | .non => some false
  | .bl b => some b
  | .int i => some (i != 0)
  | .str s => if s.length ≤ 16777216 then some (!s.isEmpty) else none
  | _ => match itL μ d with
    | some l => some (!l.isEmpty)
    | none => match itT d with
      | some l => some (!l.isEmpty)
      | none => none
theorem isEmpty_len {α β : Type} {l : List α} {l' : List β} (h : l.length = l'.length) : l.isEmpty = l'.isEmpty := by
  cases l <;> cases l' <;> first | rfl | (simp at h)
theorem truD_ok {w : Wd} {m : Im} {H : Hp} {lk : Lk} {μ : Sto} {x : V} {d : D} {k : Bool} (rp : Rp w m H lk μ) (r : RV w m H x d) (h : truD μ d = some k) : TruV w.K x H k := by
  have seqs : ∀ {x : V} {d : D}, RV w m H x d → ((match itL μ d with
    | some l => some (!l.isEmpty)
    | none => match itT d with
      | some l => some (!l.isEmpty)
      | none => none) = some k) → TruV w.K x H k := fun {x d} r h => by
    cases e1 : itL μ d with
    | some l =>
      rw [e1] at h
      cases h
      obtain ⟨a, vs, rfl, h1, h2⟩ := itL_rd rp r e1
      exact .inl ⟨vs, h1, by rw [isEmpty_len h2.len]⟩
    | none =>
      rw [e1] at h
      cases e2 : itT d with
      | some l =>
        rw [e2] at h
        cases h
        obtain ⟨a, vs, rfl, h1, h2⟩ := itT_rd r e2
        exact .inr (.inl ⟨vs, h1, by rw [isEmpty_len h2.len]⟩)
      | none => rw [e2] at h; cases h
  unfold truD at h
  split at h
  · cases h; cases r; rfl
  · cases h; cases r; rfl
  · cases h; cases r; rfl
  · rename_i s
    split at h
    · rename_i hl
      cases h
      obtain rfl := rv_str r
      refine ⟨by rw [sizeLine_eq]; simpa [Str.length] using hl, ?_⟩
      cases s <;> simp [Str.length]
      exact (by omega)
    · cases h
  · exact seqs r h
/-- a test: the mirror's value is a bool -/
def truE (f : ME) : ME := bindE f fun d => liftE fun μ => match truD μ d with
  | some b => some (.bl b)
  | none => none
abbrev tQ (w : Wd) (E : XK) (f : ME) : TT := tTest (tE w E f)
theorem pt_imp {X : Cx} {e : Expr} {t t' : TT} (h : PT X e t) (k : ∀ σ H Q, t' σ H Q → t σ H Q) : PT X e t' := ⟨fun pins s σ H Q I q => h.run pins s σ H Q I (k _ _ _ q)⟩
theorem pw_imp {X : Cx} {e : Expr} {t t' : TT} (h : PW X e t) (k : ∀ σ H Q, t' σ H Q → t σ H Q) : PW X e t' := ⟨fun wh pins s σ H Q I q => h.run wh pins s σ H Q I (k _ _ _ q)⟩
def ifE (c a b : ME) : ME := bindE c fun d => match d with
  | .bl true => a
  | .bl false => b
  | _ => fun _ _ _ => none
def notE (c : ME) : ME := op1E (fun _ d => match d with
  | .bl b => some (.bl (!b))
  | _ => none) c
def andQ (a b : ME) : ME := ifE a b (retE (.bl false))
def orQ (a b : ME) : ME := ifE a (retE (.bl true)) b
/-- and, or as values -/
def andE (a b : ME) : ME := bindE a fun d => fun ρ lk μ => match truD μ d with
  | some true => b ρ lk μ
  | some false => some (.ok d, μ)
  | none => none
def orV (a b : ME) : ME := bindE a fun d => fun ρ lk μ => match truD μ d with
  | some true => some (.ok d, μ)
  | some false => b ρ lk μ
  | none => none
section
variable {X : Cx} {w : Wd} {E : XK} {pos : Pos} {a b c : Expr} {rest : List Expr} {ma mb mc : ME}
theorem r_neg (ha : PE X a (tE w E ma)) : PE X (.UnaryOp .USub a pos) (tE w E (op1E negD ma)) := pe_imp (pe_un un_neg ha) fun _ _ _ h => op1_imp s_neg h
theorem tru_imp {σ : L2.St} {H : Hp} {Q : V → Hp → Prop} (hK : X.K = w.K) (h : tE w E (truE ma) σ H Q) : tE w E ma σ H fun x H1 => ∃ k, TruV X.K x H1 k ∧ Q (.bl k) H1 := by
  obtain ⟨m, ρ, lk, μ, rp, fr, h⟩ := h
  refine ⟨m, ρ, lk, μ, rp, fr, tK_mono (tK_bind h) ?_⟩
  rintro x H1 ⟨d, m1, μ1, rp1, ex1, rx, h1⟩
  obtain ⟨q, hq, k⟩ := tK_lift h1
  cases e : truD μ1 d with
  | none => rw [e] at hq; cases hq
  | some t =>
    rw [e] at hq
    cases hq
    exact ⟨t, hK ▸ truD_ok rp1 rx e, k _ _ _ rp1 (Ext.refl _ _ _) (.bl _)⟩
theorem q_val (hK : X.K = w.K) (ha : PE X a (tE w E ma)) (he : ∀ whole, isTrue a X.env whole = (do let v ← whole; standAt a.pos; holding [v] (truthy v))) : PT X a (tQ w E (truE ma)) :=
  pt_imp (pt_truth ha he) fun σ H Q h => by
    obtain ⟨m, ρ, lk, μ, rp, fr, h⟩ := tru_imp (ma := ma) hK h
    exact ⟨m, ρ, lk, μ, rp, fr, tK_mono h fun x H1 ⟨k, t, k', e, q⟩ => ⟨k, t, by cases e; exact q⟩⟩
theorem q_cmp (hK : X.K = w.K) (hu : X.A.units + 70 < cLine) {op : CmpOp} {f : Op2} (hf : cmpD op = some f) (ha : PE X a (tE w E ma)) (hb : PE X b (tE w E mb)) (hm : behindInMarks op b = false) : PT X (.Compare a [op] [b] pos) (tQ w E (op2E f ma mb)) := by
  obtain ⟨r, ho, hs⟩ := cmp_ok hK hu hf
  exact pt_imp (pt_cmpR ho ha hb hm) fun σ H Q h => tOp_of hs h
theorem r_cmpo (hK : X.K = w.K) (hu : X.A.units + 70 < cLine) {op : CmpOp} {f : Op2} (hf : cmpD op = some f) (ha : PE X a (tE w E ma)) (hb : PE X b (tE w E mb)) (hm : behindInMarks op b = false) : PE X (.Compare a [op] [b] pos) (tE w E (op2E f ma mb)) := by
  obtain ⟨r, ho, hs⟩ := cmp_ok hK hu hf
  exact r_cmp ho hs ha hb hm
/-- a op b op' c -/
def chE (f g : Op2) (a b c : ME) : ME := bindE a fun x => bindE b fun y => bindE (liftE fun μ => f μ x y) fun z => match z with
  | .bl true => bindE c fun u => liftE fun μ => g μ y u
  | .bl false => retE (.bl false)
  | _ => fun _ _ _ => none
theorem rv_is_bl {m : Im} {H : Hp} {z : D} {b : Bool} (r : RV w m H (.bl b) z) : z = .bl b := by cases r; rfl
theorem ch_imp {r r' : R2} {f g : Op2} (h1 : OpS w r f) (h2 : OpS w r' g) {σ : L2.St} {H : Hp} {Q : VK} (h : tE w E (chE f g ma mb mc) σ H Q) : tChain r r' (tE w E ma) (tE w E mb) (tE w E mc) σ H Q := by
  obtain ⟨m, ρ, lk, μ, rp, fr, h⟩ := h
  refine ⟨m, ρ, lk, μ, rp, fr, tK_mono (tK_bind h) ?_⟩
  rintro x H1 ⟨d, m1, μ1, rp1, ex1, rx, h1'⟩
  refine ⟨m1, ρ, lk, μ1, rp1, fr.mono ex1.wx, tK_mono (tK_bind h1') ?_⟩
  rintro y H2 ⟨e, m2, μ2, rp2, ex2, ry, h2'⟩
  obtain ⟨z, hz, k⟩ := tK_lift (g := fun μ => f μ d e) (μ := μ2) (tK_bind h2')
  refine h1 m2 H2 lk μ2 x y d e z _ rp2 (rx.mono ex2.wx) ry hz fun v m3 H3 rp3 ex3 rv => ?_
  obtain ⟨z', m4, μ4, rp4, ex4, rz, h4⟩ := k v m3 H3 rp3 ex3 rv
  cases z' with
  | bl t =>
    obtain rfl := rv_bl rz
    refine ⟨t, rfl, ?_⟩
    cases t with
    | true =>
      refine ⟨m4, ρ, lk, μ4, rp4, (fr.mono ex1.wx).mono (ex2.trans ex4).wx, tK_mono (tK_bind h4) ?_⟩
      rintro u H5 ⟨d5, m5, μ5, rp5, ex5, ru, h5⟩
      obtain ⟨q, hq, k5⟩ := tK_lift h5
      exact h2 m5 H5 lk μ5 y u e d5 q Q rp5 ((ry.mono ex4.wx).mono ex5.wx) ru hq k5
    | false =>
      obtain ⟨r5, μ5, e5, q5⟩ := h4
      cases e5
      exact q5 _ _ _ rp4 (Ext.refl _ _ _) (.bl _)
  | _ =>
    obtain ⟨r5, μ5, e5, q5⟩ := h4
    cases e5
theorem r_chain (hK : X.K = w.K) (hu : X.A.units + 70 < cLine) {op op' : CmpOp} {f g : Op2} (hf : cmpD op = some f) (hg : cmpD op' = some g) (ha : PE X a (tE w E ma)) (hb : PE X b (tE w E mb)) (hc : PE X c (tE w E mc)) (hm : lastMarks [op, op'] [b, c] = false) : PE X (.Compare a [op, op'] [b, c] pos) (tE w E (chE f g ma mb mc)) := by
  obtain ⟨r, ho, hs⟩ := cmp_ok hK hu hf
  obtain ⟨r', ho', hs'⟩ := cmp_ok hK hu hg
  exact pe_imp (pe_chain ho ho' ha hb hc hm) fun _ _ _ h => ch_imp hs hs' h
theorem q_chain (hK : X.K = w.K) (hu : X.A.units + 70 < cLine) {op op' : CmpOp} {f g : Op2} (hf : cmpD op = some f) (hg : cmpD op' = some g) (ha : PE X a (tE w E ma)) (hb : PE X b (tE w E mb)) (hc : PE X c (tE w E mc)) (hm : lastMarks [op, op'] [b, c] = false) : PT X (.Compare a [op, op'] [b, c] pos) (tQ w E (chE f g ma mb mc)) := by
  obtain ⟨r, ho, hs⟩ := cmp_ok hK hu hf
  obtain ⟨r', ho', hs'⟩ := cmp_ok hK hu hg
  exact pt_imp (pt_chain ho ho' ha hb hc hm) fun _ _ _ h => ch_imp hs hs' h
/-- a test, then one of two -/
theorem if_imp {σ : L2.St} {H : Hp} {Q : VK} (h : tE w E (ifE mc ma mb) σ H Q) : tE w E mc σ H fun x H1 => ∃ k, x = .bl k ∧ if k = true then tE w E ma σ H1 Q else tE w E mb σ H1 Q := by
  obtain ⟨m, ρ, lk, μ, rp, fr, h⟩ := h
  refine ⟨m, ρ, lk, μ, rp, fr, tK_mono (tK_bind h) ?_⟩
  rintro x H1 ⟨d, m1, μ1, rp1, ex1, rx, h1⟩
  cases d with
  | bl t =>
    obtain rfl := rv_bl rx
    refine ⟨t, rfl, ?_⟩
    cases t with
    | true => exact ⟨m1, ρ, lk, μ1, rp1, fr.mono ex1.wx, h1⟩
    | false => exact ⟨m1, ρ, lk, μ1, rp1, fr.mono ex1.wx, h1⟩
  | _ =>
    obtain ⟨r5, μ5, e5, q5⟩ := h1
    cases e5
theorem retb_imp {b : Bool} {σ : L2.St} {H : Hp} {Q : VK} (h : tE w E (retE (.bl b)) σ H Q) : Q (.bl b) H := ret_imp (fun _ _ => .bl b) h
theorem tE_mono {f : ME} {σ : L2.St} {H : Hp} {Q Q' : VK} (h : tE w E f σ H Q) (k : ∀ v H', Q v H' → Q' v H') : tE w E f σ H Q' := by
  obtain ⟨m, ρ, lk, μ, rp, fr, h⟩ := h
  exact ⟨m, ρ, lk, μ, rp, fr, tK_mono h k⟩
theorem r_if (hc : PT X c (tQ w E mc)) (ha : PE X a (tE w E ma)) (hb : PE X b (tE w E mb)) : PE X (.IfExp c a b pos) (tE w E (ifE mc ma mb)) :=
  pe_imp (pe_ifExp hc ha hb) fun _ _ _ h => if_imp h
theorem qw_and1 (ha : PT X a (tQ w E ma)) : PW X (.BoolOp .And [a] pos) (tQ w E ma) := pw_and1 ha
theorem qw_or1 (ha : PT X a (tQ w E ma)) : PW X (.BoolOp .Or [a] pos) (tQ w E ma) := pw_or1 ha
theorem qw_and (ha : PT X a (tQ w E ma)) (hb : PW X (.BoolOp .And (b :: rest) pos) (tQ w E mb)) : PW X (.BoolOp .And (a :: b :: rest) pos) (tQ w E (andQ ma mb)) :=
  pw_imp (pw_and ha hb) fun σ H Q h => tE_mono (if_imp h) fun x H1 ⟨k, e, q⟩ => ⟨k, e, by
    cases k with
    | true => exact q
    | false => obtain ⟨k', e', q'⟩ := retb_imp q; cases e'; exact q'⟩
theorem qw_or (ha : PT X a (tQ w E ma)) (hb : PW X (.BoolOp .Or (b :: rest) pos) (tQ w E mb)) : PW X (.BoolOp .Or (a :: b :: rest) pos) (tQ w E (orQ ma mb)) :=
  pw_imp (pw_or ha hb) fun σ H Q h => tE_mono (if_imp h) fun x H1 ⟨k, e, q⟩ => ⟨k, e, by
    cases k with
    | false => exact q
    | true => obtain ⟨k', e', q'⟩ := retb_imp q; cases e'; exact q'⟩
theorem not_imp {σ : L2.St} {H : Hp} {Q : VK} (h : tE w E (notE ma) σ H Q) : tE w E ma σ H fun x H1 => ∃ k, x = .bl k ∧ Q (.bl (!k)) H1 := by
  refine op1_imp (r := fun x H1 Q => ∃ k, x = .bl k ∧ Q (.bl (!k)) H1) (fun m H lk μ x d q Q rp rx hq k => ?_) h
  split at hq
  · cases hq
    obtain rfl := rv_bl rx
    exact ⟨_, rfl, k _ _ _ rp (Ext.refl _ _ _) (.bl _)⟩
  · cases hq
theorem q_not (ha : PT X a (tQ w E ma)) : PT X (.UnaryOp .Not a pos) (tQ w E (notE ma)) :=
  pt_imp (pt_not ha) fun σ H Q h => tE_mono (not_imp h) fun x H1 ⟨k, e, k', e', q⟩ => ⟨k, e, by cases e'; exact q⟩
theorem r_not (hK : X.K = w.K) (ha : PE X a (tE w E ma)) : PE X (.UnaryOp .Not a pos) (tE w E (notE (truE ma))) :=
  pe_imp (pe_notT ha) fun σ H Q h => tE_mono (tru_imp hK (not_imp h)) fun x H1 ⟨k, t, k', e, q⟩ => ⟨k, t, by cases e; exact q⟩
theorem r_and (hK : X.K = w.K) (ha : PE X a (tE w E ma)) (hb : PE X (.BoolOp .And (b :: rest) pos) (tE w E mb)) : PE X (.BoolOp .And (a :: b :: rest) pos) (tE w E (andE ma mb)) :=
  pe_imp (pe_andT ha hb) fun σ H Q h => by
    obtain ⟨m, ρ, lk, μ, rp, fr, h⟩ := h
    refine ⟨m, ρ, lk, μ, rp, fr, tK_mono (tK_bind h) ?_⟩
    rintro x H1 ⟨d, m1, μ1, rp1, ex1, rx, r, μ', e, q⟩
    cases e1 : truD μ1 d with
    | none => simp only [e1] at e; cases e
    | some t =>
      simp only [e1] at e
      refine ⟨t, hK ▸ truD_ok rp1 rx e1, ?_⟩
      cases t with
      | true => exact ⟨m1, ρ, lk, μ1, rp1, fr.mono ex1.wx, r, μ', e, q⟩
      | false => cases e; exact q _ _ _ rp1 (Ext.refl _ _ _) rx
theorem r_orV (hK : X.K = w.K) (ha : PE X a (tE w E ma)) (hb : PE X (.BoolOp .Or (b :: rest) pos) (tE w E mb)) : PE X (.BoolOp .Or (a :: b :: rest) pos) (tE w E (orV ma mb)) :=
  pe_imp (pe_orT ha hb) fun σ H Q h => by
    obtain ⟨m, ρ, lk, μ, rp, fr, h⟩ := h
    refine ⟨m, ρ, lk, μ, rp, fr, tK_mono (tK_bind h) ?_⟩
    rintro x H1 ⟨d, m1, μ1, rp1, ex1, rx, r, μ', e, q⟩
    cases e1 : truD μ1 d with
    | none => simp only [e1] at e; cases e
    | some t =>
      simp only [e1] at e
      refine ⟨t, hK ▸ truD_ok rp1 rx e1, ?_⟩
      cases t with
      | false => exact ⟨m1, ρ, lk, μ1, rp1, fr.mono ex1.wx, r, μ', e, q⟩
      | true => cases e; exact q _ _ _ rp1 (Ext.refl _ _ _) rx
end

/-! ### argument lists -/
abbrev MA := Fr → Lk → Sto → Option (Sum (List D) Nat × Sto)
def aK (w : Wd) (E : XK) (f : MA) (m : Im) (ρ : Fr) (lk : Lk) (μ : Sto) (H : Hp) (Q : List V → Hp → Prop) : Prop := ∃ r μ', f ρ lk μ = some (r, μ') ∧ match r with
  | .inl ds => ∀ vs m' H', Rp w m' H' lk μ' → Ext m m' lk H H' → RVs w m' H' vs ds → Q vs H'
  | .inr c => ∀ m' H', Rp w m' H' lk μ' → Ext m m' lk H H' → E (.ref (w.ca c)) none H'
def tAr (w : Wd) (E : XK) (f : MA) : TA := fun σ H Q => ∃ m ρ lk μ, Rp w m H lk μ ∧ FrR w m H σ ρ ∧ aK w E f m ρ lk μ H Q
def nilA : MA := fun _ _ μ => some (.inl [], μ)
def consA (a : ME) (t : MA) : MA := fun ρ lk μ => match a ρ lk μ with
  | some (.ok d, μ1) => match t ρ lk μ1 with
    | some (.inl ds, μ2) => some (.inl (d :: ds), μ2)
    | some (.inr c, μ2) => some (.inr c, μ2)
    | none => none
  | some (.ex c, μ1) => some (.inr c, μ1)
  | none => none
/-- what is done with the arguments -/
def bindA (a : MA) (k : List D → ME) : ME := fun ρ lk μ => match a ρ lk μ with
  | some (.inl ds, μ1) => k ds ρ lk μ1
  | some (.inr c, μ1) => some (.ex c, μ1)
  | none => none
section
variable {w : Wd} {E : XK} {m : Im} {ρ : Fr} {lk : Lk} {μ : Sto} {H : Hp}
theorem aK_mono {f : MA} {Q Q' : List V → Hp → Prop} (h : aK w E f m ρ lk μ H Q) (k : ∀ v H', Q v H' → Q' v H') : aK w E f m ρ lk μ H Q' := by
  obtain ⟨r, μ', e, q⟩ := h
  refine ⟨r, μ', e, ?_⟩
  cases r with
  | inl d => exact fun v m' H' a b c => k _ _ (q v m' H' a b c)
  | inr c => exact q
theorem aK_bind {f : MA} {k : List D → ME} {Q : VK} (h : tK w E (bindA f k) m ρ lk μ H Q) :
    aK w E f m ρ lk μ H fun vs H1 => ∃ ds m1 μ1, Rp w m1 H1 lk μ1 ∧ Ext m m1 lk H H1 ∧ RVs w m1 H1 vs ds ∧ tK w E (k ds) m1 ρ lk μ1 H1 Q := by
  obtain ⟨r, μ', e, q⟩ := h
  unfold bindA at e
  cases e1 : f ρ lk μ with
  | none => rw [e1] at e; cases e
  | some p =>
    obtain ⟨r1, μ1⟩ := p
    rw [e1] at e
    cases r1 with
    | inr c =>
      cases e
      exact ⟨.inr c, _, e1, q⟩
    | inl d =>
      refine ⟨.inl d, μ1, e1, fun v m1 H1 rp ex rv => ⟨d, m1, μ1, rp, ex, rv, r, μ', e, ?_⟩⟩
      cases r with
      | ok d' => exact fun v' m' H' a b c => q v' m' H' a (ex.trans b) c
      | ex c => exact fun m' H' a b => q m' H' a (ex.trans b)
theorem pa_imp {X : Cx} {es : List Expr} {t t' : TA} (h : PA X es t) (k : ∀ σ H Q, t' σ H Q → t σ H Q) : PA X es t' := ⟨fun pos pins s σ H Q I q => h.run pos pins s σ H Q I (k _ _ _ q)⟩
theorem a_nil {X : Cx} : PA X [] (tAr w E nilA) := pa_imp pa_nil fun σ H Q h => by
  obtain ⟨m, ρ, lk, μ, rp, fr, r, μ', e, q⟩ := h
  cases e
  exact q [] m H rp (Ext.refl _ _ _) .nil
theorem a_cons {X : Cx} {e : Expr} {es : List Expr} {a : ME} {t : MA} (ha : PE X e (tE w E a)) (ht : PA X es (tAr w E t)) (hs : starEach (e :: es) X.env = (false, eval e X.env) :: starEach es X.env) : PA X (e :: es) (tAr w E (consA a t)) :=
  pa_imp (pa_cons ha ht hs) fun σ H Q h => by
    obtain ⟨m, ρ, lk, μ, rp, fr, r, μ', e, q⟩ := h
    refine ⟨m, ρ, lk, μ, rp, fr, ?_⟩
    unfold consA at e
    cases e1 : a ρ lk μ with
    | none => rw [e1] at e; cases e
    | some p =>
      obtain ⟨r1, μ1⟩ := p
      rw [e1] at e
      cases r1 with
      | ex c =>
        cases e
        exact ⟨.ex c, _, e1, q⟩
      | ok d =>
        refine ⟨.ok d, μ1, e1, fun v m1 H1 rp1 ex1 rv => ⟨m1, ρ, lk, μ1, rp1, fr.mono ex1.wx, ?_⟩⟩
        cases e2 : t ρ lk μ1 with
        | none => simp only [e2] at e; cases e
        | some p2 =>
          obtain ⟨r2, μ2⟩ := p2
          simp only [e2] at e
          cases r2 with
          | inr c =>
            cases e
            exact ⟨.inr c, _, e2, fun m' H' a b => q m' H' a (ex1.trans b)⟩
          | inl ds =>
            cases e
            exact ⟨.inl ds, _, e2, fun vs m' H' a b c => q (v :: vs) m' H' a (ex1.trans b) (.cons (rv.mono b.wx) c)⟩
end

/-! ### calls of built-in functions -/
abbrev OpN := Sto → List D → Option D
def CalS (w : Wd) (r : List V → Hp → VK → Prop) (f : OpN) : Prop := ∀ m H lk μ xs ds q Q, Rp w m H lk μ → RVs w m H xs ds → f μ ds = some q → (∀ v m' H', Rp w m' H' lk μ → Ext m m' lk H H' → RV w m' H' v q → Q v H') → r xs H Q
def orN (f g : OpN) : OpN := fun μ ds => match f μ ds with
  | some q => some q
  | none => g μ ds
theorem CalS.or {w : Wd} {r r' : List V → Hp → VK → Prop} {f f' : OpN} (h : CalS w r f) (h' : CalS w r' f') : CalS w (fun xs H Q => r xs H Q ∨ r' xs H Q) (orN f f') := by
  intro m H lk μ xs ds q Q rp rx hq k
  unfold orN at hq
  cases e1 : f μ ds with
  | some q1 =>
    rw [e1] at hq
    cases hq
    exact .inl (h m H lk μ xs ds q Q rp rx e1 k)
  | none =>
    rw [e1] at hq
    exact .inr (h' m H lk μ xs ds q Q rp rx hq k)
def calE (f : OpN) (a : MA) : ME := bindA a fun ds => liftE fun μ => f μ ds
theorem cal_imp {w : Wd} {E : XK} {r : List V → Hp → VK → Prop} {f : OpN} {a : MA} (hs : CalS w r f) {σ : L2.St} {H : Hp} {Q : VK} (h : tE w E (calE f a) σ H Q) : tCB r (tAr w E a) σ H Q := by
  obtain ⟨m, ρ, lk, μ, rp, fr, h⟩ := h
  refine ⟨m, ρ, lk, μ, rp, fr, aK_mono (aK_bind h) ?_⟩
  rintro vs H1 ⟨ds, m1, μ1, rp1, ex1, rv, h1⟩
  obtain ⟨q, hq, k⟩ := tK_lift h1
  exact hs m1 H1 lk μ1 vs ds q Q rp1 rv hq k
end MP

end
section
set_option Elab.async false
set_option linter.all false
set_option maxRecDepth 100000
set_option maxHeartbeats 2000000
/-! the mirror: built-in functions -/
namespace MP
open PySem PyProof.Rows L2

/-! ### sorted of a list, a tuple, a dict's keys -/
def SeqK (K : PySem.W.Frag) (H : Hp) (a : Addr) (ys : List V) : Prop := SqL K H a ys ∨ SqT K H a ys ∨ ∃ kvs, Rd H a (.dK kvs) ∧ ys = kvs.map fun kv => kV kv.1
def rSrt (K : PySem.W.Frag) : List V → Hp → VK → Prop := fun xs H Q => ∃ a ys, xs = [.ref a] ∧ SeqK K H a ys ∧ GXP.finSort K Q ys H
theorem vals_keys {K : Type} {acc : List Value} {kvs : List (Key × V)} (hl : acc.length = kvs.length) (h : ∀ (j : Nat) (v : Value), acc[j]? = some v → ∃ k : Key, (kvs.map (·.1))[j]? = some k ∧ keyIs k v = true) : Vals (kvs.map fun kv => kV kv.1) acc := by
  refine vals_of_at (by rw [List.length_map, hl]) fun j x u h1 h2 => ?_
  obtain ⟨k, e1, e2⟩ := h j u h2
  rw [List.getElem?_map] at h1 e1
  cases q : kvs[j]? with
  | none => rw [q] at h1; cases h1
  | some p =>
    rw [q] at h1 e1
    cases h1
    have : p.1 = k := Option.some.inj e1
    subst this
    rcases keyIs_shape e2 with ⟨i, t, e, rfl⟩ | ⟨x, t, e, rfl⟩
    · show RelV (kV p.1) _; rw [e]; exact ⟨t, rfl⟩
    · show RelV (kV p.1) _; rw [e]; exact ⟨t, rfl⟩
theorem collect_seqK {X : Cx} {pins : List (Addr × Obj)} {σ : L2.St} {H : Hp} {s : Shared} {a : Addr} {ys : List V} {R : List Value → Shared → Prop} (hc : X.calm = true) (I : Inv X pins σ H s) (h : SeqK X.K H a ys)
    (q : ∀ us s', Inv X pins σ H s' → Vals ys us → ys.length ≤ sizeLine → R us s') : wpAny (model X.prog X.w) X.A.in1 (collect (.ref a)) R X.xe s := by
  rcases h with h | h | ⟨kvs, h, rfl⟩
  · obtain ⟨its, rv, pl, hz⟩ := I.list h
    obtain ⟨o, n, ho, hc2, hdn, hd⟩ := pl
    exact wpAny_collect_seq a (.inl rfl) ho hc2 hd (fun h' k => q _ _ (I.kept (t' := s.toks) k) (by simpa using rv) (by have := rv.length; omega)) (by rw [List.size_toArray]; have := rv.length; omega)
  · obtain ⟨its, rv, ⟨o, ho, hc2, n, hd⟩, hz⟩ := I.tuple h
    exact wpAny_collect_seq a (.inr rfl) ho hc2 hd (fun h' k => q _ _ (I.kept (t' := s.toks) k) (by simpa using rv) (by have := rv.length; omega)) (by rw [List.size_toArray]; have := rv.length; omega)
  · obtain ⟨z, lo, vs, rel, dd⟩ := dk_rd I.hok h
    obtain ⟨ep, hat⟩ := dd.dictAt
    have hl : kvs.length = vs.length := Paired.length rel
    refine PySem.W.kdu_collect (A := X.A.in1) (PySem.W.kdl_dict (knd := mixKind X.prog X.w) (kvs := vs) (ep := ep) lo) (I.ok.hd hc) hat (by omega) fun h' tk acc hk hacc => ?_
    refine q _ _ (I.kept hk) (vals_keys (K := Unit) (by rw [Array.length_toList, hacc.1, hl]) fun j v e => ?_) (by rw [List.length_map]; exact z)
    obtain ⟨k, x, e1, e2⟩ := hacc.2 j v (by rw [← Array.getElem?_toList]; exact e)
    refine ⟨k, ?_, e2⟩
    rw [rel.keys, List.getElem?_map, e1]
    all_goals rfl
theorem call_srt {X : Cx} (hc : X.calm = true) (hu : X.A.units + 70 < cLine) : CallR X (.builtin "sorted") (rSrt X.K) := by
  intro pins s σ H xs us Q I r h
  obtain ⟨a, ys, rfl, hs, hf⟩ := h
  obtain ⟨u, rfl, rx⟩ := vals1 r
  cases rx
  refine Calls.call_function_entry PyProof.Rows.kind_sorted PyProof.Rows.plain_sorted PyProof.Rows.entry_sorted (PyProof.Rows.args_sorted1 _) ?_
  unfold Builtin.«sorted»
  refine wpAny_bind (m := checkCount "sorted" 1 1 _) (wpAny_pure ?_)
  refine wpAny_bind (collect_seqK hc I hs fun us s1 I1 rv hz => ?_)
  obtain ⟨ds, q1, q2, q3, q4, q5⟩ := hf
  refine wpAny_bind (wpAny_newList ?_ (by rw [← rv.length]; exact hz))
  refine wpAny_bind (wpAny_holding (GXP.sort_new (A := X.A.in1) (by show X.A.units + 1 + 65 < _; omega) I1 rv q1 q2 q3 hz q4 fun s' p hI hp => ?_))
  subst hp
  exact wpAny_pure ⟨_, rfl, .ref s1.heap.objs.size, _, hI, rfl, q5 _ (I1.hok.fresh (Nat.le_refl _))⟩

/-- the items of a list, a tuple, a dict's keys -/
def itAny (μ : Sto) (d : D) : Option (List D) := match itL μ d with
  | some l => some l
  | none => match itT d with
    | some l => some l
    | none => match dctOf μ d with
      | some (false, l) => some (l.map Prod.fst)
      | _ => none
theorem keysK_rel {w : Wd} {m : Im} {H : Hp} : ∀ {kvs : List (Key × V)} {l : List (D × D)}, RKs w m H kvs l → RVs w m H (kvs.map fun kv => kV kv.1) (l.map Prod.fst)
  | _, _, .nil => .nil
  | _, _, .cons _ t => .cons (rv_kV _ _ _ _) (keysK_rel t)
theorem itAny_rd {w : Wd} {m : Im} {H : Hp} {lk : Lk} {μ : Sto} (rp : Rp w m H lk μ) {x : V} {d : D} {l : List D} (r : RV w m H x d) (h : itAny μ d = some l) : ∃ a vs, x = .ref a ∧ SeqK w.K H a vs ∧ RVs w m H vs l := by
  unfold itAny at h
  cases e1 : itL μ d with
  | some l' =>
    rw [e1] at h
    cases h
    obtain ⟨a, vs, rfl, h1, h2⟩ := itL_rd rp r e1
    exact ⟨a, vs, rfl, .inl h1, h2⟩
  | none =>
    rw [e1] at h
    cases e2 : itT d with
    | some l' =>
      rw [e2] at h
      cases h
      obtain ⟨a, vs, rfl, h1, h2⟩ := itT_rd r e2
      exact ⟨a, vs, rfl, .inr (.inl h1), h2⟩
    | none =>
      rw [e2] at h
      cases e3 : dctOf μ d with
      | none => rw [e3] at h; cases h
      | some q =>
        obtain ⟨t, l'⟩ := q
        rw [e3] at h
        cases t with
        | true => cases h
        | false =>
          cases h
          obtain ⟨a, rfl, kvs, h1, h2⟩ := dctOf_rd rp r e3
          exact ⟨a, _, rfl, .inr (.inr ⟨kvs, h1, rfl⟩), keysK_rel h2⟩

/-- sorted data -/
def alikeB (ps : List PyData) : Bool := ps.all fun p => ps.all fun q => PySem.W.alike p q
def tupNE : PyData → Bool
  | .tuple (_ :: _) => true
  | _ => false
def notTN : PyData → Bool
  | .none => false
  | .tuple _ => false
  | _ => true
def srtOk (ps : List PyData) : Bool := alikeB ps && (ps.all tupNE || ps.all notTN) && ps.all fun p => decide (p.depth < 64)
theorem srtOk_spec {ps : List PyData} (h : srtOk ps = true) : PySem.W.AllAlike ps ∧ PySem.W.Sortable ps ∧ ∀ d ∈ ps, d.depth < 64 := by
  unfold srtOk alikeB at h
  simp only [Bool.and_eq_true, Bool.or_eq_true, List.all_eq_true, decide_eq_true_eq] at h
  refine ⟨h.1.1, ?_, h.2⟩
  rcases h.1.2 with h | h
  · refine .inl fun d hd => ?_
    have := h d hd
    unfold tupNE at this
    split at this
    · exact ⟨_, _, rfl⟩
    · cases this
  · refine .inr fun d hd => ?_
    have := h d hd
    cases d <;> first | (simp only [notTN] at this; exact absurd this Bool.false_ne_true) | (refine ⟨by simp, ?_⟩; intro xs e; cases e)
def srtD (l : List D) (ps : List PyData) : List D := ((l.zip ps).mergeSort (PySem.W.dataLe false Prod.snd)).map Prod.fst
theorem zip3_sort {w : Wd} {m : Im} {H : Hp} {vs : List V} {ds : List D} {ps : List PyData} (r : RVs w m H vs ds) (hl : ps.length = ds.length) : RVs w m H (GXP.srtV vs ps) (srtD ds ps) := by
  have key : ∀ (T : List (V × D × PyData)), (∀ t ∈ T, RV w m H t.1 t.2.1) → RVs w m H (T.map fun t => t.1) (T.map fun t => t.2.1) := by
    intro T
    induction T with
    | nil => intro _; exact .nil
    | cons t r ih => intro h; exact .cons (h t List.mem_cons_self) (ih fun t' ht => h t' (List.mem_cons_of_mem _ ht))
  have mk : ∀ {vs : List V} {ds : List D}, RVs w m H vs ds → ∀ ps : List PyData, ps.length = ds.length → ∃ T : List (V × D × PyData), (∀ t ∈ T, RV w m H t.1 t.2.1) ∧ vs.zip ps = T.map (fun t => (t.1, t.2.2)) ∧ ds.zip ps = T.map fun t => (t.2.1, t.2.2) := by
    intro vs ds r
    induction vs generalizing ds with
    | nil => cases r; intro ps h; exact ⟨[], by simp, by simp, by simp⟩
    | cons v vs ih =>
      cases r with
      | cons r1 r2 =>
        intro ps h
        cases ps with
        | nil => cases h
        | cons p ps =>
          obtain ⟨T, h1, h2, h3⟩ := ih r2 ps (by simpa using h)
          refine ⟨(v, _, p) :: T, fun t ht => ?_, by rw [List.zip_cons_cons, h2]; rfl, by rw [List.zip_cons_cons, h3]; rfl⟩
          rcases List.mem_cons.mp ht with rfl | ht
          · exact r1
          · exact h1 t ht
  obtain ⟨T, h1, h2, h3⟩ := mk r ps hl
  have srt : ∀ (f : V × D × PyData → V × PyData), (∀ t, (f t).2 = t.2.2) → (T.map f).mergeSort (PySem.W.dataLe false Prod.snd) = (T.mergeSort (PySem.W.dataLe false fun t => t.2.2)).map f := fun f hf => (List.map_mergeSort fun a _ b _ => by unfold PySem.W.dataLe PySem.W.sortLe; simp only [hf]).symm
  have srt2 : ∀ (f : V × D × PyData → D × PyData), (∀ t, (f t).2 = t.2.2) → (T.map f).mergeSort (PySem.W.dataLe false Prod.snd) = (T.mergeSort (PySem.W.dataLe false fun t => t.2.2)).map f := fun f hf => (List.map_mergeSort fun a _ b _ => by unfold PySem.W.dataLe PySem.W.sortLe; simp only [hf]).symm
  unfold GXP.srtV srtD
  rw [h2, h3, srt _ fun _ => rfl, srt2 _ fun _ => rfl, List.map_map, List.map_map]
  exact key _ fun t ht => h1 t ((List.mergeSort_perm _ _).mem_iff.mp ht)
theorem mapO_len {α β : Type} {f : α → Option β} : ∀ {l : List α} {r : List β}, mapO f l = some r → r.length = l.length
  | [], _, h => by cases h; rfl
  | x :: l, _, h => by
    obtain ⟨y, ys, e1, e2, rfl⟩ := mapO_cons h
    simp [mapO_len e2]
def sortN : OpN := fun μ ds => match ds with
  | [d] => match itAny μ d with
    | some l => match mapO (snapD μ) l with
      | some ps => if srtOk ps then some (.lst (srtD l ps)) else none
      | none => none
    | none => none
  | _ => none
theorem rvs_one {w : Wd} {m : Im} {H : Hp} {xs : List V} {d : D} (r : RVs w m H xs [d]) : ∃ x, xs = [x] ∧ RV w m H x d := by
  cases r with
  | cons a b => cases b; exact ⟨_, rfl, a⟩
theorem rvs_two {w : Wd} {m : Im} {H : Hp} {xs : List V} {d e : D} (r : RVs w m H xs [d, e]) : ∃ x y, xs = [x, y] ∧ RV w m H x d ∧ RV w m H y e := by
  cases r with
  | cons a b =>
    obtain ⟨y, rfl, c⟩ := rvs_one b
    exact ⟨_, _, rfl, a, c⟩
theorem s_sort {w : Wd} : CalS w (rSrt w.K) sortN := by
  intro m H lk μ xs ds q Q rp rx hq k
  unfold sortN at hq
  split at hq
  · rename_i d
    obtain ⟨x, rfl, r⟩ := rvs_one rx
    split at hq
    · rename_i l e1
      split at hq
      · rename_i ps e2
        obtain ⟨ho, rfl⟩ := ite_some hq
        obtain ⟨a, vs, rfl, h1, h2⟩ := itAny_rd rp r e1
        obtain ⟨o1, o2, o3⟩ := srtOk_spec ho
        refine ⟨a, vs, rfl, h1, ps, snaps_of (fun r h => snap_of rp 12 r h) h2 e2, o1, o2, o3, fun p hp => ?_⟩
        obtain ⟨rp', ex⟩ := rp.newF (o := .lst (GXP.srtV vs ps)) hp
        exact k _ _ _ rp' ex (.lst (.inr rfl) upd_same ((zip3_sort h2 (mapO_len e2)).mono ex.wx))
      · cases hq
    · cases hq
  · cases hq

/-! ### len, abs, max, min, int, str, list, tuple -/
def lenN : OpN := fun μ ds => match ds with
  | [.str s] => if s.length ≤ 16777216 then some (.int s.length) else none
  | [d] => match itL μ d with
    | some l => some (.int l.length)
    | none => match itT d with
      | some l => some (.int l.length)
      | none => match dctOf μ d with
        | some (_, l) => some (.int l.length)
        | none => none
  | _ => none
def rLenD : List V → Hp → VK → Prop := fun xs H Q => ∃ a, xs = [V.ref a] ∧ ((∃ kvs, Rd H a (.dK kvs) ∧ Q (.int kvs.length) H) ∨ ∃ kvs, Rd H a (.dT kvs) ∧ Q (.int kvs.length) H)
theorem call_lenDD {X : Cx} : CallR X (.builtin "len") rLenD := by
  intro pins s σ H xs us Q I r h
  obtain ⟨a, rfl, h⟩ := h
  obtain ⟨u, rfl, ru⟩ := vals1 r
  cases ru
  rcases h with ⟨kvs, ha, q⟩ | ⟨kvs, ha, q⟩
  · exact d_len I ha fun t s' I' => ⟨.int kvs.length, H, I', ⟨t, rfl⟩, q⟩
  · obtain ⟨z, hd, ys, rel, dd⟩ := dt_rd I.hok ha
    have hl : kvs.length = ys.length := Paired.length rel
    refine call_len_dictH hd dd (by rw [← hl]; rw [sizeLine_eq] at z; omega) ?_
    rw [← hl]
    exact ⟨.int ((kvs.length : Nat) : Int), H, I.tok _, ⟨_, rfl⟩, q⟩
def rLenA (K : PySem.W.Frag) : List V → Hp → VK → Prop := fun xs H Q => (∃ x n, xs = [x] ∧ LenV K x H n ∧ Q (.int n) H) ∨ rLenD xs H Q
theorem call_lenA {X : Cx} : CallR X (.builtin "len") (rLenA X.K) := call_len.or call_lenDD
theorem s_len {w : Wd} : CalS w (rLenA w.K) lenN := by
  intro m H lk μ xs ds q Q rp rx hq k
  unfold lenN at hq
  split at hq
  · rename_i s
    obtain ⟨x, rfl, r⟩ := rvs_one rx
    obtain rfl := rv_str r
    split at hq
    · rename_i hl
      cases hq
      exact .inl ⟨_, s.length, rfl, ⟨by rw [sizeLine_eq]; simpa [Str.length] using hl, by simp [Str.length]⟩, k _ _ _ rp (Ext.refl _ _ _) (.int _)⟩
    · cases hq
  · rename_i d _
    obtain ⟨x, rfl, r⟩ := rvs_one rx
    cases e1 : itL μ d with
    | some l =>
      rw [e1] at hq
      cases hq
      obtain ⟨a, vs, rfl, h1, h2⟩ := itL_rd rp r e1
      exact .inl ⟨_, l.length, rfl, .inl ⟨vs, h1, h2.len.symm⟩, k _ _ _ rp (Ext.refl _ _ _) (.int _)⟩
    | none =>
      rw [e1] at hq
      cases e2 : itT d with
      | some l =>
        rw [e2] at hq
        cases hq
        obtain ⟨a, vs, rfl, h1, h2⟩ := itT_rd r e2
        exact .inl ⟨_, l.length, rfl, .inr ⟨vs, h1, h2.len.symm⟩, k _ _ _ rp (Ext.refl _ _ _) (.int _)⟩
      | none =>
        rw [e2] at hq
        cases e3 : dctOf μ d with
        | none => rw [e3] at hq; cases hq
        | some p =>
          obtain ⟨t, l⟩ := p
          rw [e3] at hq
          cases hq
          obtain ⟨a, rfl, hd⟩ := dctOf_rd rp r e3
          cases t with
          | false =>
            obtain ⟨kvs, h1, h2⟩ := hd
            exact .inr ⟨a, rfl, .inl ⟨kvs, h1, by rw [h2.len]; exact k _ _ _ rp (Ext.refl _ _ _) (.int _)⟩⟩
          | true =>
            obtain ⟨kvs, h1, h2⟩ := hd
            exact .inr ⟨a, rfl, .inr ⟨kvs, h1, by rw [h2.len]; exact k _ _ _ rp (Ext.refl _ _ _) (.int _)⟩⟩
  · cases hq
def absN : OpN := fun _ ds => match ds with
  | [.int i] => some (.int (if i < 0 then -i else i))
  | _ => none
def max2N : OpN := fun _ ds => match ds with
  | [.int i, .int j] => some (.int (if j > i then j else i))
  | _ => none
def min2N : OpN := fun _ ds => match ds with
  | [.int i, .int j] => some (.int (if j < i then j else i))
  | _ => none
def intN : OpN := fun _ ds => match ds with
  | [.int i] => some (.int i)
  | [.bl b] => some (.int (if b then 1 else 0))
  | _ => none
def strOfInt (i : Int) : List Nat := (toString i : String).toList.map Char.toNat
def strN : OpN := fun _ ds => match ds with
  | [.int i] => if i.natAbs.log2 < 1920 then some (.str (toString i : Str).cps.toList) else none
  | _ => none
def listN : OpN := fun μ ds => match ds with
  | [d] => match itAny μ d with
    | some l => some (.lst l)
    | none => none
  | _ => none
def tupN : OpN := fun μ ds => match ds with
  | [d] => match itT d with
    | some _ => some d
    | none => match itL μ d with
      | some l => some (.tup l)
      | none => none
  | _ => none
section
variable {w : Wd}
theorem s_abs : CalS w (fun xs H Q => ∃ i, xs = [.int i] ∧ Q (.int (if i < 0 then -i else i)) H) absN := by
  intro m H lk μ xs ds q Q rp rx hq k
  unfold absN at hq
  split at hq
  · cases hq
    obtain ⟨x, rfl, r⟩ := rvs_one rx
    obtain rfl := rv_int r
    exact ⟨_, rfl, k _ _ _ rp (Ext.refl _ _ _) (.int _)⟩
  · cases hq
theorem s_max2 : CalS w (fun xs H Q => ∃ i j, xs = [.int i, .int j] ∧ Q (.int (if j > i then j else i)) H) max2N := by
  intro m H lk μ xs ds q Q rp rx hq k
  unfold max2N at hq
  split at hq
  · cases hq
    obtain ⟨x, y, rfl, r, r2⟩ := rvs_two rx
    obtain rfl := rv_int r
    obtain rfl := rv_int r2
    exact ⟨_, _, rfl, k _ _ _ rp (Ext.refl _ _ _) (.int _)⟩
  · cases hq
theorem s_min2 : CalS w (fun xs H Q => ∃ i j, xs = [.int i, .int j] ∧ Q (.int (if j < i then j else i)) H) min2N := by
  intro m H lk μ xs ds q Q rp rx hq k
  unfold min2N at hq
  split at hq
  · cases hq
    obtain ⟨x, y, rfl, r, r2⟩ := rvs_two rx
    obtain rfl := rv_int r
    obtain rfl := rv_int r2
    exact ⟨_, _, rfl, k _ _ _ rp (Ext.refl _ _ _) (.int _)⟩
  · cases hq
theorem s_int : CalS w (fun xs H Q => (∃ i, xs = [.int i] ∧ Q (.int i) H) ∨ ∃ k, xs = [.bl k] ∧ Q (.int (if k then 1 else 0)) H) intN := by
  intro m H lk μ xs ds q Q rp rx hq k
  unfold intN at hq
  split at hq
  · cases hq
    obtain ⟨x, rfl, r⟩ := rvs_one rx
    obtain rfl := rv_int r
    exact .inl ⟨_, rfl, k _ _ _ rp (Ext.refl _ _ _) (.int _)⟩
  · cases hq
    obtain ⟨x, rfl, r⟩ := rvs_one rx
    obtain rfl := rv_bl r
    exact .inr ⟨_, rfl, k _ _ _ rp (Ext.refl _ _ _) (.int _)⟩
  · cases hq
theorem s_str : CalS w (fun xs H Q => ∃ i : Int, xs = [.int i] ∧ i.natAbs.log2 < 1920 ∧ Q (.str (toString i)) H) strN := by
  intro m H lk μ xs ds q Q rp rx hq k
  unfold strN at hq
  split at hq
  · split at hq
    · rename_i hl
      cases hq
      obtain ⟨x, rfl, r⟩ := rvs_one rx
      obtain rfl := rv_int r
      exact ⟨_, rfl, hl, k _ _ _ rp (Ext.refl _ _ _) (.str _)⟩
    · cases hq
  · cases hq
end
def rListK (K : PySem.W.Frag) : List V → Hp → VK → Prop := fun xs H Q => ∃ a ys, xs = [.ref a] ∧ SeqK K H a ys ∧ ∀ l, H l = none → Q (.ref l) (upd H l (.lst ys))
theorem call_listK {X : Cx} (hc : X.calm = true) : CallR X (.type "list") (rListK X.K) := by
  intro pins s σ H xs us Q I r h
  obtain ⟨a, ys, rfl, hs, q⟩ := h
  rcases hs with hs | hs | ⟨kvs, hs, rfl⟩
  · exact call_list_of pins s σ H _ us Q I r ⟨a, ys, rfl, .inl hs, q⟩
  · exact call_list_of pins s σ H _ us Q I r ⟨a, ys, rfl, .inr hs, q⟩
  · obtain ⟨u, rfl, rx⟩ := vals1 r
    cases rx
    obtain ⟨z, lo, vs, rk, hd⟩ := dk_rd I.hok hs
    obtain ⟨ep, hat⟩ := hd.dictAt
    have hl : kvs.length = vs.length := Paired.length rk
    refine PySem.W.kdl_call (PySem.W.kdl_dict (knd := mixKind X.prog X.w) (kvs := vs) (ep := ep) lo) (I.ok.hd hc) hat (by rw [← hl]; exact z) fun h' tk acc' c' hkeep hS hacc => ?_
    refine ⟨.ref s.heap.objs.size, upd H s.heap.objs.size (.lst (kvs.map fun kv => kV kv.1)), I.laid hkeep (Nat.le_refl _) (show ObjOk X.prog X.w _ _ _ (.lst (kvs.map fun kv => kV kv.1)) from ⟨?_, acc'.toList, c', ?_, ?_⟩), rfl, q _ (I.hok.fresh (Nat.le_refl _))⟩
    · rw [List.length_map]; exact z
    · refine vals_keys (K := Unit) (by rw [Array.length_toList, hacc.1, hl]) fun j v e => ?_
      obtain ⟨k, x, e1, e2⟩ := hacc.2 j v (by rw [← Array.getElem?_toList]; exact e)
      refine ⟨k, ?_, e2⟩
      rw [rk.keys, List.getElem?_map, e1]
      all_goals rfl
    · rw [Array.toArray_toList]; exact hS
section
variable {w : Wd}
theorem s_list : CalS w (rListK w.K) listN := by
  intro m H lk μ xs ds q Q rp rx hq k
  unfold listN at hq
  split at hq
  · rename_i d
    obtain ⟨x, rfl, r⟩ := rvs_one rx
    cases e1 : itAny μ d with
    | none => rw [e1] at hq; cases hq
    | some l =>
      rw [e1] at hq
      cases hq
      obtain ⟨a, vs, rfl, h1, h2⟩ := itAny_rd rp r e1
      refine ⟨a, vs, rfl, h1, fun p hp => ?_⟩
      obtain ⟨rp', ex⟩ := rp.newF (o := .lst vs) hp
      exact k _ _ _ rp' ex (.lst (.inr rfl) upd_same (h2.mono ex.wx))
  · cases hq
theorem s_tup : CalS w (fun xs H Q => ∃ p ys, xs = [.ref p] ∧ ((SqL w.K H p ys ∧ ∀ l, H l = none → Q (.ref l) (upd H l (.tup ys))) ∨ (SqT w.K H p ys ∧ Q (.ref p) H))) tupN := by
  intro m H lk μ xs ds q Q rp rx hq k
  unfold tupN at hq
  split at hq
  · rename_i d
    obtain ⟨x, rfl, r⟩ := rvs_one rx
    cases e1 : itT d with
    | some l =>
      rw [e1] at hq
      cases hq
      obtain ⟨a, vs, rfl, h1, h2⟩ := itT_rd r e1
      exact ⟨a, vs, rfl, .inr ⟨h1, k _ _ _ rp (Ext.refl _ _ _) r⟩⟩
    | none =>
      rw [e1] at hq
      cases e2 : itL μ d with
      | none => rw [e2] at hq; cases hq
      | some l =>
        rw [e2] at hq
        cases hq
        obtain ⟨a, vs, rfl, h1, h2⟩ := itL_rd rp r e2
        refine ⟨a, vs, rfl, .inl ⟨h1, fun p hp => ?_⟩⟩
        obtain ⟨rp', ex⟩ := rp.new (o := .tup vs) hp
        exact k _ _ _ rp' ex (.tup upd_same (h2.mono ex.wx))
  · cases hq
end
end MP

end
section
set_option Elab.async false
set_option linter.all false
set_option maxRecDepth 100000
set_option maxHeartbeats 2000000
/-! the mirror: attributes, subscripts, displays, calls -/
namespace MP
open PySem PyProof.Rows L2

/-! ### what the text looks like -/
def noStar : Expr → Bool
  | .Starred _ _ => false
  | _ => true
theorem star_cons {e : Expr} {es : List Expr} {env : Env} (h : noStar e = true) : starEach (e :: es) env = (false, eval e env) :: starEach es env := by
  cases e <;> first | rfl | cases h
theorem star_any {es : List Expr} {env : Env} {pos : Pos} (h : es.all noStar = true) : (backTo pos (starEach es env)).any (·.1) = false := by
  induction es with
  | nil => rfl
  | cons e es ih =>
    rw [List.all_cons, Bool.and_eq_true] at h
    rw [star_cons h.1]
    show (false || (backTo pos (starEach es env)).any (·.1)) = false
    rw [ih h.2]; rfl
theorem star_len {es : List Expr} {env : Env} : (starEach es env).length = es.length := by
  induction es with
  | nil => rfl
  | cons e es ih => cases e <;> simp [starEach, ih]
theorem star_all {es : List Expr} {env : Env} {pos : Pos} (h : es.all noStar = true) : (backTo pos (starEach es env)).all (fun x => !x.1) = true := by
  induction es with
  | nil => rfl
  | cons e es ih =>
    rw [List.all_cons, Bool.and_eq_true] at h
    rw [star_cons h.1]
    show (!false && (backTo pos (starEach es env)).all (fun x => !x.1)) = true
    rw [ih h.2]; rfl
/-- not super() -/
def notSup : Expr → Bool
  | .Call (.Name x _) [] [] _ => x != ("super" : Str)
  | _ => true
theorem att_base {o : Expr} {a : Str} {env : Env} (h : notSup o = true) : attributeBase o a env (eval o env) = eval o env := by
  unfold notSup at h
  split at h
  · exact abase_call h
  · rename_i hn
    unfold attributeBase
    split
    · exact absurd rfl (hn _ _ _)
    · rfl
def noSlice : Expr → Bool
  | .Slice _ _ _ _ => false
  | _ => true
theorem plain_ix {b : Expr} (h : noSlice b = true) : PlainIx b := by
  intro o i
  cases b <;> first | rfl | cases h
/-- an expression whose test is its value's truth -/
def plainT : Expr → Bool
  | .UnaryOp .Not _ _ => false
  | .BoolOp _ _ _ => false
  | .IfExp _ _ _ _ => false
  | .Compare _ _ _ _ => false
  | _ => true
theorem plain_true {e : Expr} {env : Env} (h : plainT e = true) : ∀ whole, isTrue e env whole = (do let v ← whole; standAt e.pos; holding [v] (truthy v)) := by
  intro whole
  cases e <;> first | rfl | (cases h; done) | skip
  rename_i op x p
  cases op <;> first | rfl | cases h
def notComp : Expr → Bool
  | .ListComp _ _ _ _ => false
  | .SetComp _ _ _ _ => false
  | .DictComp _ _ _ _ _ => false
  | _ => true
theorem no_swap {e : Expr} {t : Option Expr} {n : Nat} {env : Env} (h : notComp e = true) : swapsWith e t n env = pure false := by
  cases e <;> first | rfl | cases h
def noSet : Expr → Bool
  | .Set _ _ _ => false
  | _ => true
theorem no_mark {op : CmpOp} {b : Expr} (h : noSet b = true) : behindInMarks op b = false := by
  cases b <;> first | rfl | cases h
theorem last_mark {op op' : CmpOp} {b c : Expr} (h : noSet c = true) : lastMarks [op, op'] [b, c] = false := no_mark h

/-! ### attributes -/
def insC : Option C → Option (Nat × List (Nat × D))
  | some (.ins c fs) => some (c, fs)
  | _ => none
theorem insC_some {c : Option C} {k : Nat} {fs : List (Nat × D)} (h : insC c = some (k, fs)) : c = some (.ins k fs) := by
  unfold insC at h
  split at h
  · cases h; rfl
  · cases h
def insOf (μ : Sto) : D → Option (Nat × List (Nat × D))
  | .obj n => insC (μ.ce n)
  | _ => none
theorem insOf_rd {w : Wd} {m : Im} {H : Hp} {lk : Lk} {μ : Sto} (rp : Rp w m H lk μ) {x : V} {d : D} {c : Nat} {l : List (Nat × D)} (r : RV w m H x d) (h : insOf μ d = some (c, l)) : ∃ n a dx fs, d = .obj n ∧ x = .ref a ∧ m.io n = some a ∧ μ.ce n = some (.ins c l) ∧ H a = some (.ins (w.ca c) dx fs) ∧ RFs w m H fs l := by
  cases r <;> try (cases h; done)
  case obj n ha =>
    have e := insC_some h
    obtain ⟨a, u, h1, h2, h3⟩ := rp.cell n _ e
    rw [ha] at h1
    cases h1
    cases h2 with
    | ins t =>
      rcases h3 with h3 | ⟨_, h3, _⟩
      · exact ⟨n, _, _, _, rfl, rfl, ha, e, h3, t⟩
      · cases h3
def lookF : List (Nat × D) → Nat → Option D
  | [], _ => none
  | (k, v) :: r, i => if k = i then some v else lookF r i
def putFD : List (Nat × D) → Nat → D → List (Nat × D)
  | [], i, d => [(i, d)]
  | (k, v) :: r, i, d => if k = i then (k, d) :: r else (k, v) :: putFD r i d
structure Wok (w : Wd) : Prop where
  inj : ∀ i j, i < w.fm → j < w.fm → w.fn i = w.fn j → i = j
theorem lookF_rd {w : Wd} {m : Im} {H : Hp} (W : Wok w) {i : Nat} (hi : i < w.fm) : ∀ {fs : List (Str × V)} {l : List (Nat × D)} {d : D}, RFs w m H fs l → lookF l i = some d → ∃ v, fs.lookup (w.fn i) = some v ∧ RV w m H v d
  | _, _, _, .nil, h => by cases h
  | _, _, _, .cons (i := k) hk r t, h => by
    unfold lookF at h
    by_cases e : k = i
    · rw [if_pos e] at h
      cases h
      subst e
      exact ⟨_, by simp [List.lookup], r⟩
    · rw [if_neg e] at h
      obtain ⟨v, h1, h2⟩ := lookF_rd W hi t h
      refine ⟨v, ?_, h2⟩
      have : (w.fn i == w.fn k) = false := by
        rw [beq_eq_false_iff_ne]
        exact fun z => e (W.inj _ _ hi hk z).symm
      simp only [List.lookup, this]
      exact h1
theorem putF_rd {w : Wd} {m : Im} {H : Hp} (W : Wok w) {i : Nat} (hi : i < w.fm) {v : V} {d : D} (rv : RV w m H v d) : ∀ {fs : List (Str × V)} {l : List (Nat × D)}, RFs w m H fs l → RFs w m H (putF (w.fn i) v fs) (putFD l i d)
  | _, _, .nil => .cons hi rv .nil
  | _, _, .cons (i := k) hk r t => by
    unfold putF putFD
    by_cases e : k = i
    · subst e
      rw [if_pos rfl, if_pos rfl]
      exact .cons hk rv t
    · rw [if_neg (fun z => e (W.inj _ _ hk hi z)), if_neg e]
      exact .cons hk r (putF_rd W hi rv t)
theorem RFs.len {w : Wd} {m : Im} {H : Hp} : ∀ {fs : List (Str × V)} {l : List (Nat × D)}, RFs w m H fs l → fs.length = l.length
  | _, _, .nil => rfl
  | _, _, .cons _ _ t => by simp [t.len]
theorem RFs.nolook {w : Wd} {m : Im} {H : Hp} {x : Str} (hx : ∀ i, i < w.fm → w.fn i ≠ x) : ∀ {fs : List (Str × V)} {l : List (Nat × D)}, RFs w m H fs l → fs.lookup x = none
  | _, _, .nil => rfl
  | _, _, .cons (i := k) hk _ t => by
    have : (x == w.fn k) = false := by
      rw [beq_eq_false_iff_ne]
      exact fun z => hx k hk z.symm
    simp only [List.lookup, this]
    exact t.nolook hx
/-- the classes whose instances have the attribute -/
def FldOk (w : Wd) (cf : Nat → Bool) (i : Nat) : Prop := i < w.fm ∧ ∀ c, cf c = true → Cls w.K (w.ca c) ∧ NoAttr w.K (w.ca c) (w.fn i)
def fldD (cf : Nat → Bool) (i : Nat) : Op1 := fun μ d => match insOf μ d with
  | some (c, fs) => if cf c then lookF fs i else none
  | none => none
theorem fldD_inv {cf : Nat → Bool} {i : Nat} {μ : Sto} {d q : D} (h : fldD cf i μ d = some q) : ∃ c fs, insOf μ d = some (c, fs) ∧ cf c = true ∧ lookF fs i = some q := by
  unfold fldD at h
  split at h
  · rename_i c fs e
    split at h
    · rename_i hc
      exact ⟨c, fs, e, hc, h⟩
    · cases h
  · cases h
section
variable {X : Cx} {w : Wd} {E : XK} {pos : Pos} {a b : Expr} {ma mb : ME}
theorem r_fld {cf : Nat → Bool} {i : Nat} {f : Str} (W : Wok w) (hK : X.K = w.K) (hf : FldOk w cf i) (ef : w.fn i = f) (ha : PE X a (tE w E ma)) (hb : notSup a = true) : PE X (.Attribute a f pos) (tE w E (op1E (fldD cf i) ma)) := by
  subst ef
  refine pe_imp (pe_fld ha (att_base hb)) fun σ H Q h => op1_imp (r := fun x H1 Q => ∃ a C dx fs v, x = .ref a ∧ H1 a = some (.ins C dx fs) ∧ Cls X.K C ∧ NoAttr X.K C (w.fn i) ∧ fs.lookup (w.fn i) = some v ∧ Q v H1) (fun m H lk μ x d q Q rp rx hq k => ?_) h
  obtain ⟨c, l, e1, hc, e2⟩ := fldD_inv hq
  obtain ⟨n, p, dx, fs, rfl, rfl, h1, h2, h3, h4⟩ := insOf_rd rp rx e1
  obtain ⟨v, h5, h6⟩ := lookF_rd W hf.1 h4 e2
  exact ⟨p, _, dx, fs, v, rfl, h3, hK ▸ (hf.2 c hc).1, hK ▸ (hf.2 c hc).2, h5, k _ _ _ rp (Ext.refl _ _ _) h6⟩

/-! ### subscripts -/
theorem ix_imp {r : R2} {f : Op2} (hr : IxR X r) (hs : OpS w r f) (ha : PE X a (tE w E ma)) (hb : PE X b (tE w E mb)) (hp : noSlice b = true) : PE X (.Subscript a b pos) (tE w E (op2E f ma mb)) :=
  pe_imp (pe_ix hr ha hb (plain_ix hp)) fun _ _ _ h => tOp_of hs h
end
def ixA (l : List D) : D → Option D
  | .int i => atI l i
  | _ => none
def ixL : Op2 := fun μ d e => match itL μ d with
  | some l => ixA l e
  | none => none
def ixT : Op2 := fun _ d e => match itT d with
  | some l => ixA l e
  | none => none
def ixS : Op2 := fun _ d e => match d, e with
  | .str s, .int i => if s.length ≤ 16777216 then (match atI s i with
    | some c => some (.str [c])
    | none => none) else none
  | _, _ => none
def ixDc : Op2 := fun μ d e => match getD μ d e with
  | some (some v) => some v
  | _ => none
def rIxDc : R2 := fun x y H Q => ∃ a v, x = .ref a ∧ DGet H a y (some v) ∧ Q v H
theorem ix_dict {X : Cx} (hu : X.A.units + 1 < cLine) : IxR X rIxDc := by
  intro value slice pins s σ H x y v u Q I rx ry h hs
  obtain ⟨a, z, rfl, g, q⟩ := h
  obtain rfl : v = Value.ref a := rx
  have hT := dict_typeIs I g
  unfold subscriptTail
  refine wpAny_bind ?_
  rw [getitemInPython_of_ne hT.not_modules]
  refine wpAny_bind (wpAny_specialOf hT PySem.F.slot_dict_getitem.lookup ?_)
  have fin : wpAny (model X.prog X.w) X.A (subscripted slice false (.ref a) u) (fun r s₃ => wpAny (model X.prog X.w) X.A (letTemporaryGo value (.ref a) r >>= fun _ => pure r) (EP X pins σ Q) X.xe s₃) X.xe s := by
    rw [hs]
    exact wpAny_operating (d_getItem hu I g ry fun w' s3 I3 rw' => wpAny_bind (wpAny_letTemporaryGo (wpAny_pure ⟨z, H, I3, rw', q⟩)))
  first
    | exact wpAny_pure (wpAny_bind fin)
    | exact wpAny_bind (wpAny_pure (wpAny_bind fin))
    | exact wpAny_bind fin
section
variable {w : Wd} {m : Im} {H : Hp}
theorem atI_rd {vs : List V} {ds : List D} {i : Int} {d : D} (r : RVs w m H vs ds) (h : atI ds i = some d) : ∃ v, atI vs i = some v ∧ RV w m H v d := by
  unfold atI at *
  rw [r.len]
  cases e : ixN ds.length i with
  | none => rw [e] at h; cases h
  | some j =>
    rw [e] at h
    obtain ⟨v, h1, h2⟩ := r.get (i := j) (d := d) h
    exact ⟨v, h1, h2⟩
theorem ixA_inv {l : List D} {e d : D} (h : ixA l e = some d) : ∃ i, e = .int i ∧ atI l i = some d := by
  cases e <;> first | (cases h; done) | exact ⟨_, rfl, h⟩
theorem s_ixL : OpS w (rIxL w.K) ixL := by
  intro m H lk μ x y d e q Q rp rx ry hq k
  unfold ixL at hq
  split at hq
  · rename_i l e1
    obtain ⟨i, rfl, h⟩ := ixA_inv hq
    obtain ⟨a, vs, rfl, h1, h2⟩ := itL_rd rp rx e1
    obtain rfl := rv_int ry
    obtain ⟨v, h3, h4⟩ := atI_rd h2 h
    exact ⟨a, vs, i, v, rfl, rfl, h1, h3, k _ _ _ rp (Ext.refl _ _ _) h4⟩
  · cases hq
theorem s_ixT : OpS w (rIxT w.K) ixT := by
  intro m H lk μ x y d e q Q rp rx ry hq k
  unfold ixT at hq
  split at hq
  · rename_i l e1
    obtain ⟨i, rfl, h⟩ := ixA_inv hq
    obtain ⟨a, vs, rfl, h1, h2⟩ := itT_rd rx e1
    obtain rfl := rv_int ry
    obtain ⟨v, h3, h4⟩ := atI_rd h2 h
    exact ⟨a, vs, i, v, rfl, rfl, h1, h3, k _ _ _ rp (Ext.refl _ _ _) h4⟩
  · cases hq
theorem s_ixS : OpS w rIxS ixS := by
  intro m H lk μ x y d e q Q rp rx ry hq k
  unfold ixS at hq
  split at hq
  · rename_i s i
    split at hq
    · rename_i hl
      split at hq
      · rename_i c e1
        cases hq
        obtain rfl := rv_str rx
        obtain rfl := rv_int ry
        exact ⟨_, i, c, rfl, rfl, by rw [sizeLine_eq]; simpa [Str.length] using hl, e1, k _ _ _ rp (Ext.refl _ _ _) (rv_mkStr _ _ _ [c])⟩
      · cases hq
    · cases hq
  · cases hq
theorem s_ixDc : OpS w rIxDc ixDc := by
  intro m H lk μ x y d e q Q rp rx ry hq k
  unfold ixDc at hq
  split at hq
  · rename_i v e1
    cases hq
    obtain ⟨a, ov, rfl, g, r⟩ := getD_rd rp rx ry e1
    cases ov with
    | none => exact r.elim
    | some z => exact ⟨a, z, rfl, g, k _ _ _ rp (Ext.refl _ _ _) r⟩
  · cases hq
end
def ixD : Op2 := orOp (orOp ixL (orOp ixT ixS)) ixDc
section
variable {X : Cx} {w : Wd} {E : XK} {pos : Pos} {a b : Expr} {ma mb : ME}
theorem r_ix (hK : X.K = w.K) (hu : X.A.units + 70 < cLine) (ha : PE X a (tE w E ma)) (hb : PE X b (tE w E mb)) (hp : noSlice b = true) : PE X (.Subscript a b pos) (tE w E (op2E ixD ma mb)) :=
  ix_imp ((ix_list.or (ix_tup.or ix_str)).or (ix_dict (by omega))) (((hK ▸ s_ixL).or ((hK ▸ s_ixT).or s_ixS)).or s_ixDc) ha hb hp
end

/-! ### slices -/
def cutD (l : List D) (lo hi : Option Int) : List D := (l.drop (HT.sIx l.length 0 lo)).take (HT.sIx l.length l.length hi - HT.sIx l.length 0 lo)
def cutN (l : List Nat) (lo hi : Option Int) : List Nat := (l.drop (HT.sIx l.length 0 lo)).take (HT.sIx l.length l.length hi - HT.sIx l.length 0 lo)
def slD (μ : Sto) (d : D) (lo hi : Option Int) : Option D := match itL μ d with
  | some l => some (.lst (cutD l lo hi))
  | none => match itT d with
    | some l => some (if HT.sIx l.length 0 lo = 0 ∧ HT.sIx l.length l.length hi = l.length then d else .tup (cutD l lo hi))
    | none => match d with
      | .str s => if s.length ≤ 16777216 then some (.str (cutN s lo hi)) else none
      | _ => none
def partE (o : Option ME) (k : Option Int → ME) : ME := match o with
  | none => k none
  | some f => bindE f fun d => match d with
    | .int i => k (some i)
    | _ => fun _ _ _ => none
def slE (a : ME) (lo hi : Option ME) : ME := bindE a fun x => partE lo fun l => partE hi fun h => liftE fun μ => slD μ x l h
section
variable {X : Cx} {w : Wd} {E : XK} {pos p2 : Pos} {a b : Expr} {ma mb : ME}
theorem cut_rd {m : Im} {H : Hp} {vs : List V} {ds : List D} (r : RVs w m H vs ds) (lo hi : Option Int) : RVs w m H (cutV vs lo hi) (cutD ds lo hi) := by
  unfold cutV cutD
  rw [r.len]
  exact (r.drop _).take _
def rSlAll (K : PySem.W.Frag) : V → Option Int → Option Int → Hp → VK → Prop := fun x lo hi H Q => rSlL K x lo hi H Q ∨ rSlA K x lo hi H Q ∨ rSlS x lo hi H Q
theorem sl_all : SlR X (rSlAll X.K) := sl_list.or (sl_tupA.or sl_str)
theorem s_sl {m : Im} {H : Hp} {lk : Lk} {μ : Sto} {x : V} {d q : D} {lo hi : Option Int} {Q : VK} (rp : Rp w m H lk μ) (rx : RV w m H x d) (h : slD μ d lo hi = some q) (k : ∀ v m' H', Rp w m' H' lk μ → Ext m m' lk H H' → RV w m' H' v q → Q v H') : rSlAll w.K x lo hi H Q := by
  unfold slD at h
  cases e1 : itL μ d with
  | some l =>
    rw [e1] at h
    cases h
    obtain ⟨p, vs, rfl, h1, h2⟩ := itL_rd rp rx e1
    refine .inl ⟨p, vs, rfl, h1, fun p2 hp => ?_⟩
    obtain ⟨rp', ex⟩ := rp.newF (o := .lst (cutV vs lo hi)) hp
    exact k _ _ _ rp' ex (.lst (.inr rfl) upd_same ((cut_rd h2 lo hi).mono ex.wx))
  | none =>
    rw [e1] at h
    cases e2 : itT d with
    | some l =>
      rw [e2] at h
      cases h
      obtain ⟨p, vs, rfl, h1, h2⟩ := itT_rd rx e2
      refine .inr (.inl ⟨p, vs, rfl, h1, fun z => ?_, fun z p2 hp => ?_⟩)
      · rw [h2.len] at z
        rw [if_pos z] at k
        exact k _ _ _ rp (Ext.refl _ _ _) rx
      · rw [h2.len] at z
        rw [if_neg z] at k
        obtain ⟨rp', ex⟩ := rp.new (o := .tup (cutV vs lo hi)) hp
        exact k _ _ _ rp' ex (.tup upd_same ((cut_rd h2 lo hi).mono ex.wx))
    | none =>
      rw [e2] at h
      cases d with
      | str s =>
        have h : (if s.length ≤ 16777216 then some (D.str (cutN s lo hi)) else none) = some q := h
        split at h
        · rename_i hl
          cases h
          obtain rfl := rv_str rx
          refine .inr (.inr ⟨_, rfl, by rw [sizeLine_eq]; simpa [Str.length] using hl, k _ _ _ rp (Ext.refl _ _ _) ?_⟩)
          have : cutS ⟨s.toArray⟩ lo hi = ⟨(cutN s lo hi).toArray⟩ := by
            unfold cutS cutN
            simp [Str.length]
          rw [this]
          exact rv_mkStr _ _ _ _
        · cases h
      | _ => cases h
def tPo (w : Wd) (E : XK) (f : ME) : TO := tPart (tE w E f)
/-- the optional part of a slice -/
inductive PPart (X : Cx) (w : Wd) (E : XK) : Option Expr → Option ME → Prop
  | none : PPart X w E none none
  | some {e : Expr} {f : ME} : PE X e (tE w E f) → PPart X w E (some e) (some f)
def toOf (w : Wd) (E : XK) : Option ME → TO
  | none => tNoPart
  | some f => tPart (tE w E f)
theorem PPart.po {e : Option Expr} {f : Option ME} (h : PPart X w E e f) : PO X e (toOf w E f) := by
  cases h with
  | none => exact po_none
  | some h => exact po_some h
theorem part_imp {o : Option ME} {k : Option Int → ME} {m : Im} {ρ : Fr} {lk : Lk} {μ : Sto} {H : Hp} {σ : L2.St} {Q : VK} {Z : Option Int → Hp → Prop} (rp : Rp w m H lk μ) (fr : FrR w m H σ ρ) (h : tK w E (partE o k) m ρ lk μ H Q)
    (c : ∀ l m1 μ1 H1, Rp w m1 H1 lk μ1 → Ext m m1 lk H H1 → tK w E (k l) m1 ρ lk μ1 H1 Q → Z l H1) : toOf w E o σ H Z := by
  cases o with
  | none => exact c none m μ H rp (Ext.refl _ _ _) h
  | some f =>
    refine ⟨m, ρ, lk, μ, rp, fr, tK_mono (tK_bind h) ?_⟩
    rintro x H1 ⟨d, m1, μ1, rp1, ex1, rx, h1⟩
    cases d with
    | int i => exact ⟨i, rv_int rx, c (some i) m1 μ1 H1 rp1 ex1 h1⟩
    | _ =>
      obtain ⟨r, μ', e, _⟩ := h1
      cases e
theorem r_sl {lo hi : Option Expr} {ml mh : Option ME} (hK : X.K = w.K) (ha : PE X a (tE w E ma)) (hl : PPart X w E lo ml) (hh : PPart X w E hi mh) : PE X (.Subscript a (.Slice lo hi none p2) pos) (tE w E (slE ma ml mh)) := by
  refine pe_imp (pe_slice sl_all ha hl.po hh.po) fun σ H Q h => ?_
  obtain ⟨m, ρ, lk, μ, rp, fr, h⟩ := h
  refine ⟨m, ρ, lk, μ, rp, fr, tK_mono (tK_bind h) ?_⟩
  rintro x H1 ⟨d, m1, μ1, rp1, ex1, rx, h1⟩
  refine part_imp rp1 (fr.mono ex1.wx) h1 fun l m2 μ2 H2 rp2 ex2 h2 => ?_
  refine part_imp rp2 ((fr.mono ex1.wx).mono ex2.wx) h2 fun u m3 μ3 H3 rp3 ex3 h3 => ?_
  obtain ⟨q, hq, k⟩ := tK_lift h3
  rw [hK]
  exact s_sl rp3 ((rx.mono ex2.wx).mono ex3.wx) hq k
end

/-! ### displays -/
def tupE (a : MA) : ME := bindA a fun ds => liftE fun _ => if ds.length ≤ 16777216 then some (.tup ds) else none
def lstE (a : MA) : ME := bindA a fun ds => liftE fun _ => if ds.length ≤ 16777216 then some (.lst ds) else none
/-- a new object of the store -/
def newE (c : C) : ME := fun _ _ μ => some (.ok (.obj μ.nx), μ.add c)
def lstO (a : MA) : ME := bindA a fun ds => if ds.length ≤ 16777216 then newE (.lst ds) else fun _ _ _ => none
section
variable {X : Cx} {w : Wd} {E : XK} {pos : Pos} {es : List Expr} {ma : MA} {k0 : Nat}
theorem r_tup (ha : PA X es (tAr w E ma)) : PE X (.Tuple es k0 pos) (tE w E (tupE ma)) := by
  refine pe_imp (pe_tup ha) fun σ H Q h => ?_
  obtain ⟨m, ρ, lk, μ, rp, fr, h⟩ := h
  refine ⟨m, ρ, lk, μ, rp, fr, aK_mono (aK_bind h) ?_⟩
  rintro vs H1 ⟨ds, m1, μ1, rp1, ex1, rv, h1⟩
  obtain ⟨q, hq, k⟩ := tK_lift h1
  split at hq
  · rename_i hl
    cases hq
    refine ⟨by rw [rv.len, sizeLine_eq]; exact hl, fun p hp => ?_⟩
    obtain ⟨rp', ex⟩ := rp1.new (o := .tup vs) hp
    exact k _ _ _ rp' ex (.tup upd_same (rv.mono ex.wx))
  · cases hq
theorem r_lst (ha : PA X es (tAr w E ma)) : PE X (.List es pos) (tE w E (lstE ma)) := by
  refine pe_imp (pe_lst ha) fun σ H Q h => ?_
  obtain ⟨m, ρ, lk, μ, rp, fr, h⟩ := h
  refine ⟨m, ρ, lk, μ, rp, fr, aK_mono (aK_bind h) ?_⟩
  rintro vs H1 ⟨ds, m1, μ1, rp1, ex1, rv, h1⟩
  obtain ⟨q, hq, k⟩ := tK_lift h1
  split at hq
  · rename_i hl
    cases hq
    refine ⟨by rw [rv.len, sizeLine_eq]; exact hl, fun p hp => ?_⟩
    obtain ⟨rp', ex⟩ := rp1.newF (o := .lst vs) hp
    exact k _ _ _ rp' ex (.lst (.inr rfl) upd_same (rv.mono ex.wx))
  · cases hq
theorem new_imp {c : C} {m : Im} {ρ : Fr} {lk : Lk} {μ : Sto} {H : Hp} {Q : VK} {p : Addr} {o : HO} (rp : Rp w m H lk μ) (h : tK w E (newE c) m ρ lk μ H Q) (hp : H p = none) (hc : RC w (m.obj μ.nx p) (upd H p o) o c) : Q (.ref p) (upd H p o) := by
  obtain ⟨r, μ', e, q⟩ := h
  cases e
  obtain ⟨rp', ex⟩ := rp.newO hp hc
  exact q _ _ _ rp' ex (.obj (if_pos rfl))
theorem wx_objnew {m : Im} {H : Hp} {lk : Lk} {μ : Sto} {p : Addr} {o : HO} (rp : Rp w m H lk μ) (hp : H p = none) : Wx m (m.obj μ.nx p) H (upd H p o) := by
  obtain ⟨r1, e1⟩ := rp.new (o := o) hp
  have x : Wx m (m.obj μ.nx p) (upd H p o) (upd H p o) := wx_obj r1
  exact ⟨x.io, x.fz, fun a u f r => x.rd a u f (e1.wx.rd a u f r), fun a xs e => x.tp a xs (e1.wx.tp a xs e), fun a o u e z => (e1.wx.tf a o u e z).elim (fun q => by obtain ⟨xs, rfl⟩ := z; exact .inl (x.tp a xs q)) fun ⟨o', q⟩ => x.tf a o' u q z, fun a φ e => x.ex a φ (e1.wx.ex a φ e), fun a xs f e => x.ls a xs f (e1.wx.ls a xs f e), rfl⟩
theorem r_lstO (ha : PA X es (tAr w E ma)) : PE X (.List es pos) (tE w E (lstO ma)) := by
  refine pe_imp (pe_lst ha) fun σ H Q h => ?_
  obtain ⟨m, ρ, lk, μ, rp, fr, h⟩ := h
  refine ⟨m, ρ, lk, μ, rp, fr, aK_mono (aK_bind h) ?_⟩
  rintro vs H1 ⟨ds, m1, μ1, rp1, ex1, rv, h1⟩
  split at h1
  · rename_i hl
    refine ⟨by rw [rv.len, sizeLine_eq]; exact hl, fun p hp => ?_⟩
    exact new_imp rp1 h1 hp (.lst (rv.mono (wx_objnew rp1 hp)))
  · obtain ⟨r, μ', e, _⟩ := h1
    cases e
theorem r_dK : PE X (.Dict [] [] pos) (tE w E (newE (.dct false []))) := by
  refine pe_imp pe_dnewK fun σ H Q h p hp => ?_
  obtain ⟨m, ρ, lk, μ, rp, fr, h⟩ := h
  exact new_imp rp h hp (.dK .nil)
theorem r_dT : PE X (.Dict [] [] pos) (tE w E (newE (.dct true []))) := by
  refine pe_imp pe_dnewT fun σ H Q h p hp => ?_
  obtain ⟨m, ρ, lk, μ, rp, fr, h⟩ := h
  exact new_imp rp h hp (.dT .nil)
end

/-! ### calls -/
def callE (n : Nat) (f : MF) (a : MA) : ME := bindA a fun ds => if ds.length = n then fun _ lk μ => f ds lk μ else fun _ _ _ => none
def isC (c : Nat) (μ : Sto) (d : D) : Bool := match insOf μ d with
  | some (c', _) => c' == c
  | none => false
def methE (n c : Nat) (f : MF) (o : ME) (a : MA) : ME := bindE o fun d => fun ρ lk μ => if isC c μ d then bindA a (fun ds => if ds.length + 1 = n then fun _ lk μ => f (d :: ds) lk μ else fun _ _ _ => none) ρ lk μ else none
/-- the end of a making -/
def mkEnd (n : Nat) : Option (R × Sto) → Option (R × Sto)
  | some (.ok .non, μ) => some (.ok (.obj n), μ)
  | some (.ex c, μ) => some (.ex c, μ)
  | _ => none
def makeE (n c : Nat) (f : MF) (a : MA) : ME := bindA a fun ds => if ds.length + 1 = n then fun _ lk μ => mkEnd μ.nx (f (.obj μ.nx :: ds) lk (μ.add (.ins c []))) else fun _ _ _ => none
section
variable {X : Cx} {w : Wd} {E : XK} {pos p apos : Pos} {e o : Expr} {es : List Expr} {ma : MA} {mo : ME} {k n c : Nat} {f : Addr} {fd : FuncData} {ps : List Str} {g : MF} {x : Str}
theorem sp_of {m : Im} {ρ : Fr} {lk : Lk} {μ : Sto} {H : Hp} {Q : VK} {vs : List V} {ds : List D} (hn : ds.length = n) (rp : Rp w m H lk μ) (rv : RVs w m H vs ds) (h : tK w E (fun _ lk μ => g ds lk μ) m ρ lk μ H Q) : spM w n g vs H Q E := by
  obtain ⟨r, μ', e, q⟩ := h
  exact ⟨by rw [rv.len, hn], m, ds, lk, μ, r, μ', rp, rv, e, q⟩
theorem call_imp {σ : L2.St} {H : Hp} {Q : VK} (h : tE w E (callE n g ma) σ H Q) : tCall (spM w n g) [] E (tAr w E ma) σ H Q := by
  obtain ⟨m, ρ, lk, μ, rp, fr, h⟩ := h
  refine ⟨m, ρ, lk, μ, rp, fr, aK_mono (aK_bind h) ?_⟩
  rintro vs H1 ⟨ds, m1, μ1, rp1, ex1, rv, h1⟩
  rw [List.append_nil]
  split at h1
  · rename_i hl
    exact sp_of hl rp1 rv h1
  · obtain ⟨r, μ', e, _⟩ := h1
    cases e
theorem r_call (F : FnOk X.prog X.w X.K X.mg X.base (L2.CX X.prog X.w) k f fd ps (spM w n g)) (hr : Room k X.A) (hg : Gl X x) (hm : X.mg x = some (.ref f)) (hk : PySem.W.keepIn X.K (.ref f) = true) (hb : Binds X.K fd ps []) (hx : Passes (L2.CX X.prog X.w) X E)
    (ha : PA X (e :: es) (tAr w E ma)) (hdb : (x == ("__debug__" : Str)) = false) (hs : (e :: es).all noStar = true) : PE X (.Call (.Name x p) (e :: es) [] pos) (tE w E (callE n g ma)) := by
  rw [List.all_cons, Bool.and_eq_true] at hs
  exact pe_imp (pe_call F hr hg hm hk hb .nil hx ha hdb (star_cons hs.1) (star_any hs.2)) fun _ _ _ h => call_imp h
theorem r_call0 (F : FnOk X.prog X.w X.K X.mg X.base (L2.CX X.prog X.w) k f fd ps (spM w n g)) (hr : Room k X.A) (hg : Gl X x) (hm : X.mg x = some (.ref f)) (hk : PySem.W.keepIn X.K (.ref f) = true) (hb : Binds X.K fd ps []) (hx : Passes (L2.CX X.prog X.w) X E)
    (hdb : (x == ("__debug__" : Str)) = false) : PE X (.Call (.Name x p) [] [] pos) (tE w E (callE n g nilA)) :=
  pe_imp (pe_call0 F hr hg hm hk hb .nil hx hdb) fun σ H Q h => by
    obtain ⟨m, ρ, lk, μ, rp, fr, h⟩ := call_imp h
    obtain ⟨r, μ', e, q⟩ := h
    cases e
    exact q [] m H rp (Ext.refl _ _ _) .nil
theorem isC_rd {m : Im} {H : Hp} {lk : Lk} {μ : Sto} (rp : Rp w m H lk μ) {x : V} {d : D} (r : RV w m H x d) (h : isC c μ d = true) : ∃ a dx fs l, x = .ref a ∧ H a = some (.ins (w.ca c) dx fs) ∧ RFs w m H fs l := by
  unfold isC at h
  split at h
  · rename_i c' fs e
    have : c' = c := by simpa using h
    subst this
    obtain ⟨n, p, dx, fs', rfl, rfl, h1, h2, h3, h4⟩ := insOf_rd rp r e
    exact ⟨p, dx, fs', _, rfl, h3, h4⟩
  · cases h
theorem meth_imp {mn : Str} (hnm : ∀ i, i < w.fm → w.fn i ≠ mn) {σ : L2.St} {H : Hp} {Q : VK} (h : tE w E (methE n c g mo ma) σ H Q) : tMeth (w.ca c) mn (spM w n g) [] E (tE w E mo) (tAr w E ma) σ H Q := by
  obtain ⟨m, ρ, lk, μ, rp, fr, h⟩ := h
  refine ⟨m, ρ, lk, μ, rp, fr, tK_mono (tK_bind h) ?_⟩
  rintro x H1 ⟨d, m1, μ1, rp1, ex1, rx, r, μ', e, q⟩
  simp only at e
  split at e
  · rename_i hc
    obtain ⟨a, dx, fs, l, rfl, h1, h2⟩ := isC_rd rp1 rx hc
    refine ⟨a, dx, fs, rfl, h1, h2.nolook hnm, m1, ρ, lk, μ1, rp1, fr.mono ex1.wx, aK_mono (aK_bind ⟨r, μ', e, q⟩) ?_⟩
    rintro vs H2 ⟨ds, m2, μ2, rp2, ex2, rv, h3⟩
    rw [List.append_nil]
    split at h3
    · rename_i hl
      exact sp_of (by simpa using hl) rp2 (.cons (rx.mono ex2.wx) rv) h3
    · obtain ⟨r, μ', e, _⟩ := h3
      cases e
  · cases e
theorem meth_text {apos pos : Pos} {mn : Str} {es : List Expr} {env : Env} (ho : notSup o = true) (hs : es.all noStar = true) (hl : decide (es.length < 30) = true) (hline : (apos.endLine == pos.line) = true) : eval (.Call (.Attribute o mn apos) es [] pos) env = (do
      let ov ← eval o env
      standAt apos.atName
      let (f, first) ← holding [ov] (getMethod ov mn (do return (← importBound o env).getD true))
      callWith pos f first (backTo pos (starEach es env)) (backToKw pos (keywordEach [] env))) := by
  have hf : methodCallForm (es.length + 0) (backTo pos (starEach es env)) (backToKw pos (keywordEach [] env)) = true := by
    unfold methodCallForm
    rw [star_all hs]
    simpa [keywordEach, backToKw] using of_decide_eq_true hl
  show (attributeBase o mn env (eval o env) >>= fun ov => standAt apos.atName >>= fun _ => methodCall o mn apos pos env ov (es.length + 0) (backTo pos (starEach es env)) (backToKw pos (keywordEach [] env))) = _
  rw [att_base ho]
  unfold methodCall calleeOf methodCallPos
  simp only [hf, hline]
  rfl
theorem r_meth {mn : Str} (hnm : ∀ i, i < w.fm → w.fn i ≠ mn) (he : PE X o (tE w E mo)) (hc : Cls X.K (w.ca c)) (hm : Meth X.K (w.ca c) mn f) (F : FnOk X.prog X.w X.K X.mg X.base (L2.CX X.prog X.w) k f fd ps (spM w n g)) (hr : Room k X.A) (hb : Binds X.K fd ps []) (hx : Passes (L2.CX X.prog X.w) X E)
    (ha : PA X (e :: es) (tAr w E ma)) (ho : notSup o = true) (hs : (e :: es).all noStar = true) (hl : decide ((e :: es).length < 30) = true) (hline : (apos.endLine == pos.line) = true) : PE X (.Call (.Attribute o mn apos) (e :: es) [] pos) (tE w E (methE n c g mo ma)) := by
  have hs' := hs
  rw [List.all_cons, Bool.and_eq_true] at hs
  exact pe_imp (pe_meth he hc hm F hr hb .nil hx ha (star_cons hs.1) (star_any hs.2) (meth_text ho hs' hl hline)) fun _ _ _ h => meth_imp hnm h
theorem r_meth0 {mn : Str} (hnm : ∀ i, i < w.fm → w.fn i ≠ mn) (he : PE X o (tE w E mo)) (hc : Cls X.K (w.ca c)) (hm : Meth X.K (w.ca c) mn f) (F : FnOk X.prog X.w X.K X.mg X.base (L2.CX X.prog X.w) k f fd ps (spM w n g)) (hr : Room k X.A) (hb : Binds X.K fd ps []) (hx : Passes (L2.CX X.prog X.w) X E)
    (ho : notSup o = true) (hline : (apos.endLine == pos.line) = true) : PE X (.Call (.Attribute o mn apos) [] [] pos) (tE w E (methE n c g mo nilA)) := by
  refine pe_imp (pe_meth0 he hc hm F hr hb .nil hx (meth_text ho rfl rfl hline)) fun σ H Q h => ?_
  obtain ⟨m, ρ, lk, μ, rp, fr, h⟩ := meth_imp hnm h
  refine ⟨m, ρ, lk, μ, rp, fr, tK_mono h ?_⟩
  rintro x H1 ⟨a, dx, fs, e1, e2, e3, m1, ρ1, lk1, μ1, rp1, fr1, r, μ', e, q⟩
  cases e
  exact ⟨a, dx, fs, e1, e2, e3, q [] m1 H1 rp1 (Ext.refl _ _ _) .nil⟩
theorem make_imp {σ : L2.St} {H : Hp} {Q : VK} (h : tE w E (makeE n c g ma) σ H Q) : tMake (w.ca c) (spM w n g) [] E (tAr w E ma) σ H Q := by
  obtain ⟨m, ρ, lk, μ, rp, fr, h⟩ := h
  refine ⟨m, ρ, lk, μ, rp, fr, aK_mono (aK_bind h) ?_⟩
  rintro vs H1 ⟨ds, m1, μ1, rp1, ex1, rv, r, μ', e, q⟩ x dx hx hdx hne
  rw [List.append_nil]
  split at e
  · rename_i hl
    obtain ⟨rp2, ex2⟩ := rp1.new (o := .own x) hdx
    have hx2 : upd H1 dx (.own x) x = none := by rw [upd_ne (fun z => hne z.symm)]; exact hx
    obtain ⟨rp3, ex3⟩ := rp2.newO (o := .ins (w.ca c) dx []) (c := .ins c []) hx2 (.ins .nil)
    have rv3 : RVs w (m1.obj μ1.nx x) (upd (upd H1 dx (.own x)) x (.ins (w.ca c) dx [])) (.ref x :: vs) (.obj μ1.nx :: ds) := .cons (.obj (if_pos rfl)) ((rv.mono ex2.wx).mono ex3.wx)
    cases e1 : g (.obj μ1.nx :: ds) lk (μ1.add (.ins c [])) with
    | none => simp only [e1] at e; cases e
    | some pr =>
      obtain ⟨r1, μ2⟩ := pr
      simp only [e1] at e
      refine ⟨by simpa [rv.len] using hl, _, _, lk, _, r1, μ2, rp3, rv3, e1, ?_⟩
      cases r1 with
      | ex c' =>
        cases e
        exact fun m' H' a b => q m' H' a ((ex2.trans ex3).trans b)
      | ok d =>
        cases d with
        | non =>
          cases e
          exact fun v m' H' a b rv' => ⟨rv_non rv', q _ m' H' a ((ex2.trans ex3).trans b) (.obj (b.io _ _ (if_pos rfl)))⟩
        | _ => cases e
  · cases e
theorem r_make (M : Mk X.K (w.ca c) f) (F : FnOk X.prog X.w X.K X.mg X.base (L2.CX X.prog X.w) k f fd ps (spM w n g)) (hr : Room (k + 1) X.A) (hg : Gl X x) (hm : X.mg x = some (.ref (w.ca c))) (hb : Binds X.K fd ps []) (hx : Passes (L2.CX X.prog X.w) X E)
    (ha : PA X (e :: es) (tAr w E ma)) (hdb : (x == ("__debug__" : Str)) = false) (hs : (e :: es).all noStar = true) : PE X (.Call (.Name x p) (e :: es) [] pos) (tE w E (makeE n c g ma)) := by
  rw [List.all_cons, Bool.and_eq_true] at hs
  exact pe_imp (pe_make M F hr hg hm hb .nil hx ha hdb (star_cons hs.1) (star_any hs.2)) fun _ _ _ h => make_imp h
theorem r_make0 (M : Mk X.K (w.ca c) f) (F : FnOk X.prog X.w X.K X.mg X.base (L2.CX X.prog X.w) k f fd ps (spM w n g)) (hr : Room (k + 1) X.A) (hg : Gl X x) (hm : X.mg x = some (.ref (w.ca c))) (hb : Binds X.K fd ps []) (hx : Passes (L2.CX X.prog X.w) X E)
    (hdb : (x == ("__debug__" : Str)) = false) : PE X (.Call (.Name x p) [] [] pos) (tE w E (makeE n c g nilA)) :=
  pe_imp (pe_make0 M F hr hg hm hb .nil hx hdb) fun σ H Q h => by
    obtain ⟨m, ρ, lk, μ, rp, fr, h⟩ := make_imp h
    obtain ⟨r, μ', e, q⟩ := h
    cases e
    exact q [] m H rp (Ext.refl _ _ _) .nil
end
end MP

end
section
set_option Elab.async false
set_option linter.all false
set_option maxRecDepth 100000
set_option maxHeartbeats 2000000
/-! the mirror: statements -/
namespace MP
open PySem PyProof.Rows L2

theorem wx_up {w : Wd} {m : Im} {H : Hp} {lk : Lk} {μ : Sto} {n : Nat} {c : C} {a : Addr} {u u' : HO} (r : Rp w m H lk μ) (hl : lk n = false) (ha : m.io n = some a) (hn : μ.ce n = some c) (hu : H a = some u) (hcu : RC w m H u c) : Wx m m H (upd H a u') := by
  have nt : (∀ xs, u ≠ .tup xs) ∧ (∀ o v, u ≠ .frz o v) ∧ (∀ φ, u ≠ .ext φ) := by
    cases hcu <;> exact ⟨fun _ z => (by cases z), fun _ _ z => (by cases z), fun _ z => (by cases z)⟩
  have ne : ∀ b v, H b = some v → v ≠ u → b ≠ a := fun b v e d z => d (by rw [z, hu] at e; exact (Option.some.inj e).symm)
  have keep : ∀ b v, H b = some v → v ≠ u → upd H a u' b = some v := fun b v e d => by rw [upd_ne (ne b v e d)]; exact e
  have fza : ∀ b, m.fz b → b ≠ a := fun b f z => (r.fz b f).2 n (by rw [z]; exact ha)
  refine ⟨fun _ _ e => e, fun _ e => e, fun b v f rd => ?_, fun b xs e => keep b _ e fun z => nt.1 xs z.symm, fun b o v e _ => .inr ⟨o, keep b _ e fun z => nt.2.1 o v z.symm⟩, fun b φ e => keep b _ e fun z => nt.2.2 φ z.symm, fun b xs f e => by rw [upd_ne (fza b f)]; exact e, rfl⟩
  unfold Rd at *
  rw [upd_ne (fza b f)]
  exact rd

section
variable {w : Wd} {E : XK}
theorem sK_mono {f : MS} {m : Im} {ρ : Fr} {lk : Lk} {μ : Sto} {H : Hp} {D D' : Ends} (h : sK w E f m ρ lk μ H D) (k1 : ∀ σ H, D.nx σ H → D'.nx σ H) (k2 : ∀ v H, D.rt v H → D'.rt v H) (k3 : ∀ σ H, D.bk σ H → D'.bk σ H) (k4 : ∀ σ H, D.ct σ H → D'.ct σ H) : sK w E f m ρ lk μ H D' := by
  obtain ⟨r, ρ', μ', e, q⟩ := h
  refine ⟨r, ρ', μ', e, ?_⟩
  cases r with
  | nx => exact fun σ' m' H' a b c => k1 _ _ (q σ' m' H' a b c)
  | ret d => exact fun v m' H' a b c => k2 _ _ (q v m' H' a b c)
  | brk => exact fun σ' m' H' a b c => k3 _ _ (q σ' m' H' a b c)
  | cnt => exact fun σ' m' H' a b c => k4 _ _ (q σ' m' H' a b c)
  | ex c => exact q
/-! ### a row of statements -/
def nxS : MS := fun ρ _ μ => some (.nx, ρ, μ)
def seqS (f g : MS) : MS := fun ρ lk μ => match f ρ lk μ with
  | some (.nx, ρ', μ') => g ρ' lk μ'
  | r => r
def orS (f g : MS) : MS := fun ρ lk μ => match f ρ lk μ with
  | some r => some r
  | none => g ρ lk μ
theorem seq_imp {f g : MS} {D : Ends} {σ : L2.St} {H : Hp} (h : tS w E (seqS f g) D σ H) : tSeq (tS w E f) (tS w E g) D σ H := by
  obtain ⟨m, ρ, lk, μ, rp, fr, r, ρ', μ', e, q⟩ := h
  unfold seqS at e
  refine ⟨m, ρ, lk, μ, rp, fr, ?_⟩
  cases e1 : f ρ lk μ with
  | none => rw [e1] at e; cases e
  | some p =>
    obtain ⟨r1, ρ1, μ1⟩ := p
    rw [e1] at e
    refine ⟨r1, ρ1, μ1, e1, ?_⟩
    cases r1 with
    | nx =>
      refine fun σ1 m1 H1 rp1 ex1 fr1 => ⟨m1, ρ1, lk, μ1, rp1, fr1, r, ρ', μ', e, ?_⟩
      cases r with
      | nx => exact fun σ' m' H' a b c => q σ' m' H' a (ex1.trans b) c
      | ret d => exact fun v m' H' a b c => q v m' H' a (ex1.trans b) c
      | brk => exact fun σ' m' H' a b c => q σ' m' H' a (ex1.trans b) c
      | cnt => exact fun σ' m' H' a b c => q σ' m' H' a (ex1.trans b) c
      | ex c => exact fun m' H' a b => q m' H' a (ex1.trans b)
    | ret d => cases e; exact q
    | brk => cases e; exact q
    | cnt => cases e; exact q
    | ex c => cases e; exact q
section
variable {X : Cx} {st : Stmt} {rest : List Stmt} {f g : MS} {pos : Pos}
theorem z_nil : PSs X [] (tS w E nxS) := pss_imp pss_nil fun D σ H h => by
  obtain ⟨m, ρ, lk, μ, rp, fr, r, ρ', μ', e, q⟩ := h
  cases e
  exact q σ m H rp (Ext.refl _ _ _) fr
theorem z_cons (h1 : PS X st (tS w E f)) (h2 : PSs X rest (tS w E g)) : PSs X (st :: rest) (tS w E (seqS f g)) := pss_imp (pss_cons h1 h2) fun _ _ _ h => seq_imp h
theorem z_or (h1 : PS X st (tS w E f)) (h2 : PS X st (tS w E g)) : PS X st (tS w E (orS f g)) := ⟨fun pins s σ H D I h => by
  obtain ⟨m, ρ, lk, μ, rp, fr, r, ρ', μ', e, q⟩ := h
  unfold orS at e
  cases e1 : f ρ lk μ with
  | some p =>
    rw [e1] at e
    exact h1.run pins s σ H D I ⟨m, ρ, lk, μ, rp, fr, r, ρ', μ', by rw [e1]; exact e, q⟩
  | none =>
    rw [e1] at e
    exact h2.run pins s σ H D I ⟨m, ρ, lk, μ, rp, fr, r, ρ', μ', e, q⟩⟩
end

/-! ### an expression, then a step -/
/-- from an expression to a statement -/
def exprS (a : ME) (k : D → MS) : MS := fun ρ lk μ => match a ρ lk μ with
  | some (.ok d, μ1) => k d ρ lk μ1
  | some (.ex c, μ1) => some (.ex c, ρ, μ1)
  | none => none
theorem sK_expr {a : ME} {k : D → MS} {m : Im} {ρ : Fr} {lk : Lk} {μ : Sto} {H : Hp} {D : Ends} (h : sK w E (exprS a k) m ρ lk μ H D) :
    tK w E a m ρ lk μ H fun v H1 => ∃ d m1 μ1, Rp w m1 H1 lk μ1 ∧ Ext m m1 lk H H1 ∧ RV w m1 H1 v d ∧ sK w E (k d) m1 ρ lk μ1 H1 D := by
  obtain ⟨r, ρ', μ', e, q⟩ := h
  unfold exprS at e
  cases e1 : a ρ lk μ with
  | none => rw [e1] at e; cases e
  | some p =>
    obtain ⟨r1, μ1⟩ := p
    rw [e1] at e
    cases r1 with
    | ex c =>
      cases e
      exact ⟨.ex c, _, e1, q⟩
    | ok d =>
      refine ⟨.ok d, μ1, e1, fun v m1 H1 rp ex rv => ⟨d, m1, μ1, rp, ex, rv, r, ρ', μ', e, ?_⟩⟩
      cases r with
      | nx => exact fun σ' m' H' a b c => q σ' m' H' a (ex.trans b) c
      | ret d => exact fun v m' H' a b c => q v m' H' a (ex.trans b) c
      | brk => exact fun σ' m' H' a b c => q σ' m' H' a (ex.trans b) c
      | cnt => exact fun σ' m' H' a b c => q σ' m' H' a (ex.trans b) c
      | ex c => exact fun m' H' a b => q m' H' a (ex.trans b)
theorem expr_imp {a : ME} {k : D → MS} {D : Ends} {σ : L2.St} {H : Hp} (h : tS w E (exprS a k) D σ H) : tE w E a σ H fun v H1 => ∃ d m1 ρ lk μ1, Rp w m1 H1 lk μ1 ∧ FrR w m1 H1 σ ρ ∧ RV w m1 H1 v d ∧ sK w E (k d) m1 ρ lk μ1 H1 D := by
  obtain ⟨m, ρ, lk, μ, rp, fr, h⟩ := h
  refine ⟨m, ρ, lk, μ, rp, fr, tK_mono (sK_expr h) ?_⟩
  rintro v H1 ⟨d, m1, μ1, rp1, ex1, rv, h1⟩
  exact ⟨d, m1, ρ, lk, μ1, rp1, fr.mono ex1.wx, rv, h1⟩
def dropS (a : ME) : MS := exprS a fun _ => nxS
def retS (a : ME) : MS := exprS a fun d ρ _ μ => some (.ret d, ρ, μ)
def ifS (c : ME) (a b : MS) : MS := exprS c fun d => match d with
  | .bl true => a
  | .bl false => b
  | _ => fun _ _ _ => none
def setS (i : Nat) (a : ME) : MS := exprS a fun d ρ _ μ => some (.nx, ρ.set i (some d), μ)
def constS (r : Fl) : MS := fun ρ _ μ => some (r, ρ, μ)
section
variable {X : Cx} {e c : Expr} {a b : List Stmt} {me mc : ME} {ma mb : MS} {pos : Pos}
theorem z_drop (he : PE X e (tE w E me)) (hs : notComp e = true) : PS X (.Expr e pos) (tS w E (dropS me)) := ps_imp (ps_expr he (no_swap hs)) fun D σ H h => tE_mono (expr_imp h) fun v H1 ⟨d, m1, ρ, lk, μ1, rp, fr, rv, r, ρ', μ', e, q⟩ => by
  cases e
  exact q σ m1 H1 rp (Ext.refl _ _ _) fr
theorem z_doc {x : Str} {j : Nat} {p : Pos} : PS X (.Expr (.Constant (.str x) j p) pos) (tS w E nxS) := ps_imp ps_doc fun D σ H h => by
  obtain ⟨m, ρ, lk, μ, rp, fr, r, ρ', μ', e, q⟩ := h
  cases e
  exact q σ m H rp (Ext.refl _ _ _) fr
theorem z_pass : PS X (.Pass pos) (tS w E nxS) := ps_imp ps_pass fun D σ H h => by
  obtain ⟨m, ρ, lk, μ, rp, fr, r, ρ', μ', e, q⟩ := h
  cases e
  exact q σ m H rp (Ext.refl _ _ _) fr
theorem z_brk : PS X (.Break pos) (tS w E (constS .brk)) := ps_imp ps_break fun D σ H h => by
  obtain ⟨m, ρ, lk, μ, rp, fr, r, ρ', μ', e, q⟩ := h
  cases e
  exact q σ m H rp (Ext.refl _ _ _) fr
theorem z_cnt : PS X (.Continue pos) (tS w E (constS .cnt)) := ps_imp ps_continue fun D σ H h => by
  obtain ⟨m, ρ, lk, μ, rp, fr, r, ρ', μ', e, q⟩ := h
  cases e
  exact q σ m H rp (Ext.refl _ _ _) fr
theorem z_ret (he : PE X e (tE w E me)) : PS X (.Return (some e) pos) (tS w E (retS me)) := ps_imp (ps_ret he) fun D σ H h => tE_mono (expr_imp h) fun v H1 ⟨d, m1, ρ, lk, μ1, rp, fr, rv, r, ρ', μ', e, q⟩ => by
  cases e
  exact q v m1 H1 rp (Ext.refl _ _ _) rv
theorem z_retN : PS X (.Return none pos) (tS w E (constS (.ret .non))) := ps_imp ps_retN fun D σ H h => by
  obtain ⟨m, ρ, lk, μ, rp, fr, r, ρ', μ', e, q⟩ := h
  cases e
  exact q .non m H rp (Ext.refl _ _ _) .non
theorem z_if (hc : PT X c (tQ w E mc)) (ha : PSs X a (tS w E ma)) (hb : PSs X b (tS w E mb)) : PS X (.If c a b pos) (tS w E (ifS mc ma mb)) := ps_imp (ps_if hc ha hb) fun D σ H h => tE_mono (expr_imp h) fun v H1 ⟨d, m1, ρ, lk, μ1, rp, fr, rv, h1⟩ => by
  cases d with
  | bl t =>
    obtain rfl := rv_bl rv
    refine ⟨t, rfl, ?_⟩
    cases t with
    | true => exact ⟨m1, ρ, lk, μ1, rp, fr, h1⟩
    | false => exact ⟨m1, ρ, lk, μ1, rp, fr, h1⟩
  | _ =>
    obtain ⟨r, ρ', μ', e, _⟩ := h1
    cases e
theorem z_set {i : Nat} {x : Str} {p : Pos} (hN : X.N.Nodup) (hi : X.N[i]? = some x) (hx : Loc X.env.scope x) (hf : X.fn x = true ∨ X.env.scope.names.lookup x = some .local) (he : PE X e (tE w E me)) (hs : notComp e = true) : PS X (.Assign [.Name x p] e pos) (tS w E (setS i me)) :=
  ps_imp (ps_set hN hi hx he (no_swap hs) hf) fun D σ H h => tE_mono (expr_imp h) fun v H1 ⟨d, m1, ρ, lk, μ1, rp, fr, rv, r, ρ', μ', e, q⟩ => by
    cases e
    exact q _ m1 H1 rp (Ext.refl _ _ _) (fr.set i rv)
end

/-! ### targets by values -/
abbrev MG := D → MS
/-- a target's reading: the value is stored -/
def tGt (w : Wd) (E : XK) (f : MG) : TG := fun v σ H Q => ∃ d m ρ lk μ, Rp w m H lk μ ∧ FrR w m H σ ρ ∧ RV w m H v d ∧ ∃ ρ' μ', f d ρ lk μ = some (.nx, ρ', μ') ∧ ∀ σ' m' H', Rp w m' H' lk μ' → Ext m m' lk H H' → FrR w m' H' σ' ρ' → Q σ' H'
def nameG (i : Nat) : MG := fun d ρ _ μ => some (.nx, ρ.set i (some d), μ)
def fldG (cf : Nat → Bool) (i : Nat) (o : ME) : MG := fun d => exprS o fun x ρ lk μ => match x with
  | .obj n => match insC (μ.ce n) with
    | some (c, fs) => if cf c && !lk n && decide (fs.length < 1000) then some (.nx, ρ, μ.put n (.ins c (putFD fs i d))) else none
    | none => none
  | _ => none
/-- o[i] = d by values -/
def putSub (lk : Lk) (μ : Sto) (x y d : D) : Option Sto := match x with
  | .obj n => if lk n then none else match μ.ce n with
    | some (.lst l) => match y with
      | .int i => match ixN l.length i with
        | some j => some (μ.put n (.lst (l.set j d)))
        | none => none
      | _ => none
    | some (.dct t l) => if okKey t y && decide (l.length < 16777216) then some (μ.put n (.dct t (putD l y d))) else none
    | _ => none
  | _ => none
def subG (o i : ME) : MG := fun d => exprS o fun x => exprS i fun y => fun ρ lk μ => match putSub lk μ x y d with
  | some μ' => some (.nx, ρ, μ')
  | none => none
def rSetA : TSet := fun o i v H Q => rSetL o i v H Q ∨ rSetD o i v H Q
theorem set_any {X : Cx} (hu : X.A.units + 1 < cLine) : PSet X rSetA := by
  intro pins s σ H o i v ov iv u Q I ro ri rv h
  rcases h with h | h
  · exact set_list pins s σ H o i v ov iv u Q I ro ri rv h
  · exact set_dict hu pins s σ H o i v ov iv u Q I ro ri rv h
theorem putSub_rd {m : Im} {H : Hp} {lk : Lk} {μ μ' : Sto} {x y v : V} {dx dy d : D} {Q : Hp → Prop} (rp : Rp w m H lk μ) (rx : RV w m H x dx) (ry : RV w m H y dy) (rv : RV w m H v d) (h : putSub lk μ dx dy d = some μ')
    (k : ∀ H', Rp w m H' lk μ' → Ext m m lk H H' → Q H') : rSetA x y v H Q := by
  cases dx <;> try (cases h; done)
  rename_i n
  cases rx with
  | obj ha =>
    rename_i a
    unfold putSub at h
    simp only at h
    cases hl : lk n with
    | true => rw [hl] at h; cases h
    | false =>
      simp only [hl, Bool.false_eq_true, if_false] at h
      cases hc : μ.ce n with
      | none => rw [hc] at h; cases h
      | some c =>
        rw [hc] at h
        cases c with
        | ins c fs => cases h
        | lst l =>
          cases dy <;> try (cases h; done)
          rename_i i
          simp only at h
          cases hj : ixN l.length i with
          | none => rw [hj] at h; cases h
          | some j =>
            rw [hj] at h
            cases h
            obtain ⟨a', vs, h1, h2, h3⟩ := cell_lst rp hc
            rw [ha] at h1
            cases h1
            obtain rfl := rv_int ry
            refine .inl ⟨a, vs, i, j, rfl, rfl, h2, by rw [h3.len]; exact hj, ?_⟩
            obtain ⟨rp', ex⟩ := rp.write (u' := .lst (vs.set j v)) (c' := .lst (l.set j d)) hc hl ha h2 (.lst h3) (.lst (RVs.mono (wx_up rp hl ha hc h2 (.lst h3)) (RVs.set rv j h3)))
            exact k _ rp' ex
        | dct t l =>
          simp only at h
          split at h
          · rename_i hk
            cases h
            rw [Bool.and_eq_true, decide_eq_true_eq] at hk
            obtain ⟨a', h1, h2, h3⟩ := cell_dct rp hc
            rw [ha] at h1
            cases h1
            rcases h3 hl with ⟨kvs, rfl, e1, e2⟩ | ⟨kvs, rfl, e1, e2⟩
            · rcases okKey_cases ry hk.1 with ⟨_, q, rfl, rfl⟩ | ⟨z, _⟩
              · obtain ⟨rp', ex⟩ := rp.write (u' := .dK (putK kvs q v)) (c' := .dct false (putD l (keyD q) d)) hc hl ha e1 (.dK e2) (.dK (RKs.mono (wx_up rp hl ha hc e1 (.dK e2)) (putK_rel e2 rv)))
                exact .inr ⟨a, _, rfl, .inl ⟨kvs, q, e1, rfl, by rw [e2.len, sizeLine_eq]; exact hk.2, rfl⟩, k _ rp' ex⟩
              · cases z
            · rcases okKey_cases ry hk.1 with ⟨z, _⟩ | ⟨_, q, b, rfl, rfl, hb⟩
              · cases z
              · obtain ⟨rp', ex⟩ := rp.write (u' := .dT (putK kvs q v)) (c' := .dct true (putD l (keysD q) d)) hc hl ha e1 (.dT e2) (.dT (RTs.mono (wx_up rp hl ha hc e1 (.dT e2)) (putT_rel e2 rv)))
                exact .inr ⟨a, _, rfl, .inr ⟨kvs, q, b, e1, rfl, hb, by rw [e2.len, sizeLine_eq]; exact hk.2, rfl⟩, k _ rp' ex⟩
          · cases h
section
variable {X : Cx} {pos : Pos}
theorem pg_imp {tg : Expr} {t t' : TG} (h : PG X tg t) (k : ∀ v σ H Q, t' v σ H Q → t v σ H Q) : PG X tg t' := ⟨fun pins s σ H v u Q I r q => h.run pins s σ H v u Q I r (k _ _ _ _ q)⟩
theorem g_name {i : Nat} {x : Str} (hN : X.N.Nodup) (hi : X.N[i]? = some x) (hx : Loc X.env.scope x) (hf : X.fn x = true ∨ X.env.scope.names.lookup x = some .local) : PG X (.Name x pos) (tGt w E (nameG i)) :=
  pg_imp (pg_name hN hi hx hf) fun v σ H Q ⟨d, m, ρ, lk, μ, rp, fr, rv, ρ', μ', e, q⟩ => by
    cases e
    exact q _ m H rp (Ext.refl _ _ _) (fr.set i rv)
theorem pg_fld0 {o : Expr} {f : Str} {ta : TE} (ha : PE X o ta) : PG X (.Attribute o f pos) (fun v σ H Q => ta σ H fun x H2 => ∃ a C dx fs, x = .ref a ∧ H2 a = some (.ins C dx fs) ∧ Cls X.K C ∧ NoAttr X.K C f ∧ fs.length < 1000 ∧ Q σ (upd H2 a (.ins C dx (putF f v fs)))) := by
  refine ⟨fun pins s σ H v u Q I r h => ?_⟩
  show wpAny _ _ (holding [u] (eval o X.env) >>= fun ov => standAt pos.atName >>= fun _ => holding [u, ov] (setAttr ov f u) >>= fun _ => release [u, ov] []) _ _ s
  refine wpAny_bind (wpAny_holding (thn (ha.run pins s σ H _ I h) fun ov s1 ⟨x, H1, I1, r1, a, C, dx, fs, ex, ea, c, n, l, q⟩ => ?_))
  subst ex
  obtain rfl : ov = Value.ref a := r1
  refine wpAny_bind (wpAny_standAt (wpAny_bind (wpAny_holding (setattr_ok I1 ea c n l r fun s3 I3 => ?_))))
  exact wpAny_release ⟨σ, _, I3, q⟩
theorem wG {m : Im} {H : Hp} {σ : L2.St} {Q : L2.St → Hp → Prop} {f : MS} {ρ ρ' : Fr} {lk : Lk} {μ μ' : Sto} (rp : Rp w m H lk μ) (fr : FrR w m H σ ρ) (e : f ρ lk μ = some (.nx, ρ', μ')) (q : ∀ σ' m' H', Rp w m' H' lk μ' → Ext m m' lk H H' → FrR w m' H' σ' ρ' → Q σ' H') :
    tS w E f { nx := Q, rt := fun _ _ => False } σ H := ⟨m, ρ, lk, μ, rp, fr, .nx, ρ', μ', e, q⟩
theorem tE_run {a : ME} {k : D → MS} {m : Im} {H : Hp} {σ : L2.St} {Q : L2.St → Hp → Prop} {ρ ρ' : Fr} {lk : Lk} {μ μ' : Sto} (rp : Rp w m H lk μ) (fr : FrR w m H σ ρ) (e : exprS a k ρ lk μ = some (.nx, ρ', μ')) (q : ∀ σ' m' H', Rp w m' H' lk μ' → Ext m m' lk H H' → FrR w m' H' σ' ρ' → Q σ' H')
    {Z : VK} (z : ∀ v d m1 H1 μ1, Rp w m1 H1 lk μ1 → Ext m m1 lk H H1 → FrR w m1 H1 σ ρ → RV w m1 H1 v d → k d ρ lk μ1 = some (.nx, ρ', μ') → (∀ σ' m' H', Rp w m' H' lk μ' → Ext m1 m' lk H1 H' → FrR w m' H' σ' ρ' → Q σ' H') → Z v H1) : tE w E a σ H Z := by
  unfold exprS at e
  cases e1 : a ρ lk μ with
  | none => rw [e1] at e; cases e
  | some p =>
    obtain ⟨r1, μ1⟩ := p
    rw [e1] at e
    cases r1 with
    | ex c => cases e
    | ok d => exact ⟨m, ρ, lk, μ, rp, fr, .ok d, μ1, e1, fun v m1 H1 rp1 ex1 rv => z v d m1 H1 μ1 rp1 ex1 (fr.mono ex1.wx) rv e fun σ' m' H' a b c => q σ' m' H' a (ex1.trans b) c⟩
theorem g_fld {o : Expr} {mo : ME} {cf : Nat → Bool} {i : Nat} {f : Str} (W : Wok w) (hK : X.K = w.K) (hf : FldOk w cf i) (ef : w.fn i = f) (ho : PE X o (tE w E mo)) : PG X (.Attribute o f pos) (tGt w E (fldG cf i mo)) := by
  subst ef
  refine pg_imp (pg_fld0 ho) fun v σ H Q ⟨d, m, ρ, lk, μ, rp, fr, rv, ρ', μ', e, q⟩ => ?_
  refine tE_run rp fr e q fun x dx m1 H1 μ1 rp1 ex1 fr1 rx e1 q1 => ?_
  cases dx <;> try (cases e1; done)
  rename_i n
  simp only at e1
  cases hc : insC (μ1.ce n) with
  | none => rw [hc] at e1; cases e1
  | some p =>
    obtain ⟨c, fs⟩ := p
    rw [hc] at e1
    simp only at e1
    split at e1
    · rename_i hk
      cases e1
      simp only [Bool.and_eq_true, decide_eq_true_eq, Bool.not_eq_true'] at hk
      obtain ⟨n', a, dx, fs', e2, rfl, h1, h2, h3, h4⟩ := insOf_rd (d := .obj n) rp1 rx hc
      cases e2
      obtain ⟨rp', ex⟩ := rp1.write (u' := .ins (w.ca c) dx (putF (w.fn i) v fs')) (c' := .ins c (putFD fs i d)) h2 hk.1.2 h1 h3 (.ins h4) (.ins (RFs.mono (wx_up rp1 hk.1.2 h1 h2 h3 (.ins h4)) (putF_rd W hf.1 (rv.mono ex1.wx) h4)))
      exact ⟨a, _, dx, fs', rfl, h3, hK ▸ (hf.2 c hk.1.1).1, hK ▸ (hf.2 c hk.1.1).2, by rw [h4.len]; exact hk.2, q1 _ _ _ rp' ex (fr1.mono ex.wx)⟩
    · cases e1
theorem g_sub {o i : Expr} {mo mi : ME} (hu : X.A.units + 70 < cLine) (ho : PE X o (tE w E mo)) (hi : PE X i (tE w E mi)) (hsl : noSlice i = true) : PG X (.Subscript o i pos) (tGt w E (subG mo mi)) := by
  refine pg_imp (pg_sub ho hi (set_any (by omega)) (by intro v; cases i <;> first | rfl | cases hsl)) fun v σ H Q ⟨d, m, ρ, lk, μ, rp, fr, rv, ρ', μ', e, q⟩ => ?_
  refine tE_run rp fr e q fun x dx m1 H1 μ1 rp1 ex1 fr1 rx e1 q1 => ?_
  refine tE_run rp1 fr1 e1 q1 fun y dy m2 H2 μ2 rp2 ex2 fr2 ry e2 q2 => ?_
  cases hp : putSub lk μ2 dx dy d with
  | none => simp only [hp] at e2; cases e2
  | some μ3 =>
    simp only [hp] at e2
    cases e2
    exact putSub_rd rp2 (rx.mono ex2.wx) ry ((rv.mono ex1.wx).mono ex2.wx) hp fun H' rp' ex => q2 _ _ _ rp' ex (fr2.mono ex.wx)
/-- several targets -/
abbrev MGs := List D → MS
def nilG : MGs := fun ds => match ds with
  | [] => nxS
  | _ => fun _ _ _ => none
def consG (g : MG) (t : MGs) : MGs := fun ds => match ds with
  | d :: r => seqS (g d) (t r)
  | [] => fun _ _ _ => none
def tGst (w : Wd) (E : XK) (f : MGs) : TGs := fun vs σ H Q => ∃ ds m ρ lk μ, Rp w m H lk μ ∧ FrR w m H σ ρ ∧ RVs w m H vs ds ∧ ∃ ρ' μ', f ds ρ lk μ = some (.nx, ρ', μ') ∧ ∀ σ' m' H', Rp w m' H' lk μ' → Ext m m' lk H H' → FrR w m' H' σ' ρ' → Q σ' H'
theorem pgs_imp {tg : List Expr} {t t' : TGs} (h : PGs X tg t) (k : ∀ v σ H Q, t' v σ H Q → t v σ H Q) : PGs X tg t' := ⟨fun pins s σ H v u Q I r q => h.run pins s σ H v u Q I r (k _ _ _ _ q)⟩
theorem gs_nil : PGs X [] (tGst w E nilG) := pgs_imp pgs_nil fun v σ H Q ⟨ds, m, ρ, lk, μ, rp, fr, rv, ρ', μ', e, q⟩ => by
  cases ds with
  | nil =>
    cases rv
    cases e
    exact ⟨rfl, q _ m H rp (Ext.refl _ _ _) fr⟩
  | cons d r => cases e
theorem seq_nx {f g : MS} {ρ ρ' : Fr} {lk : Lk} {μ μ' : Sto} (h : seqS f g ρ lk μ = some (.nx, ρ', μ')) : ∃ ρ1 μ1, f ρ lk μ = some (.nx, ρ1, μ1) ∧ g ρ1 lk μ1 = some (.nx, ρ', μ') := by
  unfold seqS at h
  split at h
  · rename_i ρ1 μ1 e
    exact ⟨ρ1, μ1, e, h⟩
  · rename_i hn
    exact absurd h (hn ρ' μ')
theorem as_cons {e : Expr} {es : List Expr} {env : Env} (h : noStar e = true) : (assignEach (e :: es) env).map (·.2) = assign e env :: (assignEach es env).map (·.2) := by
  cases e <;> first | rfl | cases h
theorem as_len {es : List Expr} {env : Env} : (assignEach es env).length = es.length := by
  induction es with
  | nil => rfl
  | cons e es ih => cases e <;> simp [assignEach, ih]
theorem as_star {es : List Expr} {env : Env} (h : es.all noStar = true) : (assignEach es env).findIdx? (·.1) = none := by
  rw [List.findIdx?_eq_none_iff]
  intro x hx
  induction es with
  | nil => cases hx
  | cons e es ih =>
    rw [List.all_cons, Bool.and_eq_true] at h
    have : assignEach (e :: es) env = (false, assign e env) :: assignEach es env := by
      have := h.1
      cases e <;> first | rfl | cases this
    rw [this] at hx
    rcases List.mem_cons.mp hx with hx | hx
    · rw [hx]
    · exact ih h.2 hx
theorem gs_cons {e : Expr} {es : List Expr} {g : MG} {t : MGs} (h1 : PG X e (tGt w E g)) (h2 : PGs X es (tGst w E t)) (hs : noStar e = true) : PGs X (e :: es) (tGst w E (consG g t)) :=
  pgs_imp (pgs_cons h1 h2 (as_cons hs)) fun v σ H Q ⟨ds, m, ρ, lk, μ, rp, fr, rv, ρ', μ', e, q⟩ => by
    cases ds with
    | nil => cases e
    | cons d r =>
      obtain ⟨ρ1, μ1, e1, e2⟩ := seq_nx e
      cases rv with
      | cons rv1 rv2 =>
        exact ⟨_, _, rfl, d, m, ρ, lk, μ, rp, fr, rv1, ρ1, μ1, e1, fun σ1 m1 H1 rp1 ex1 fr1 => ⟨r, m1, ρ1, lk, μ1, rp1, fr1, rv2.mono ex1.wx, ρ', μ', e2, fun σ' m' H' a b c => q σ' m' H' a (ex1.trans b) c⟩⟩
def tupG (n : Nat) (t : MGs) : MG := fun d => match itT d with
  | some l => if l.length = n then t l else fun _ _ _ => none
  | none => fun _ _ _ => none
theorem g_tup {es : List Expr} {k : Nat} {t : MGs} {n : Nat} (hc : X.calm = true) (hK : X.K = w.K) (h : PGs X es (tGst w E t)) (hn : es.length = n) (hs : es.all noStar = true) : PG X (.Tuple es k pos) (tGt w E (tupG n t)) :=
  pg_imp (pg_tup (n := n) hc h (by rw [as_len]; exact hn) (as_star hs)) fun v σ H Q ⟨d, m, ρ, lk, μ, rp, fr, rv, ρ', μ', e, q⟩ => by
    unfold tupG at e
    cases e1 : itT d with
    | none => rw [e1] at e; cases e
    | some l =>
      simp only [e1] at e
      split at e
      · rename_i hl
        obtain ⟨a, vs, rfl, h1, h2⟩ := itT_rd rv e1
        exact ⟨a, vs, rfl, hK ▸ h1, by rw [h2.len, hl], l, m, ρ, lk, μ, rp, fr, h2, ρ', μ', e, q⟩
      · cases e
/-- target = value -/
def asgS (g : MG) (a : ME) : MS := exprS a g
/-- a store that runs through -/
def thruG (g : MG) : MG := fun d ρ lk μ => match g d ρ lk μ with
  | some (.nx, ρ', μ') => some (.nx, ρ', μ')
  | _ => none
theorem z_asg {tg e : Expr} {g : MG} {me : ME} (he : PE X e (tE w E me)) (hg : PG X tg (tGt w E g)) (hn : noStar tg = true) (hs : notComp e = true) (hw : swappedStores [tg] e X.env = pure none) : PS X (.Assign [tg] e pos) (tS w E (asgS (thruG g) me)) :=
  ps_imp (ps_asg he hg (no_swap hs) hw (as_cons hn)) fun D σ H h => tE_mono (expr_imp h) fun v H1 ⟨d, m1, ρ, lk, μ1, rp, fr, rv, r, ρ', μ', e, q⟩ => by
    unfold thruG at e
    split at e
    · rename_i ρ2 μ2 e2
      cases e
      exact ⟨d, m1, ρ, lk, μ1, rp, fr, rv, ρ', μ', e2, q⟩
    · cases e
end
end
end MP

end
section
set_option Elab.async false
set_option linter.all false
set_option maxRecDepth 100000
set_option maxHeartbeats 2000000
/-! the mirror: walks, locks, for -/
namespace MP
open PySem PyProof.Rows L2

/-! ### walks -/
def WalkOk (w : Wd) (m1 : Im) (lk : Lk) (H1 : Hp) (J : It) (ds : List D) : Prop := ∀ i m H μ, Rp w m H lk μ → Ext m1 m lk H1 H → (i = ds.length → J.stop i H) ∧ ∀ d, ds[i]? = some d → J.go i H ∧ ∀ x H', J.yld i H x H' → ∃ m', Rp w m' H' lk μ ∧ Ext m m' lk H H' ∧ RV w m' H' x d
/-- an iterable: z is the label of a dict that stands frozen -/
abbrev MI := Option Nat → MA
def ZOk (m : Im) (lk : Lk) (H : Hp) (z : Option Nat) : Prop := ∀ n, z = some n → lk n = true ∧ ∃ a o u, m.io n = some a ∧ H a = some (.frz o u)
def tIt (w : Wd) (E : XK) (f : MI) : TI := fun σ H R => ∃ z m ρ lk μ, Rp w m H lk μ ∧ FrR w m H σ ρ ∧ ZOk m lk H z ∧ ∃ r μ1, f z ρ lk μ = some (r, μ1) ∧ match r with
  | .inl ds => ∀ J m1 H1, Rp w m1 H1 lk μ1 → Ext m m1 lk H H1 → WalkOk w m1 lk H1 J ds → R J H1
  | .inr c => ∀ m1 H1, Rp w m1 H1 lk μ1 → Ext m m1 lk H H1 → E (.ref (w.ca c)) none H1
theorem ZOk.ext {m m' : Im} {lk : Lk} {H H' : Hp} {z : Option Nat} (h : ZOk m lk H z) (x : Ext m m' lk H H') : ZOk m' lk H' z := fun n e => by
  obtain ⟨h1, a, o, u, h2, h3⟩ := h n e
  exact ⟨h1, a, o, u, x.io _ _ h2, x.kZ _ _ _ h3⟩
/-- the items that a walk over a value yields -/
def walkV (z : Option Nat) (lk : Lk) (μ : Sto) (d : D) : Option (List D) := match itT d with
  | some l => some l
  | none => match d with
    | .lst l => some l
    | .kl l => some l
    | .str s => some (s.map fun c => .str [c])
    | .obj n => if lk n then (match μ.ce n with
      | some (.lst l) => some l
      | some (.dct _ l) => if z = some n then some (l.map Prod.fst) else none
      | _ => none) else none
    | _ => none
def itE (a : ME) : MI := fun z ρ lk μ => match a ρ lk μ with
  | some (.ok d, μ1) => match walkV z lk μ1 d with
    | some l => some (.inl l, μ1)
    | none => none
  | some (.ex c, μ1) => some (.inr c, μ1)
  | none => none
theorem pi_or {X : Cx} {tg e : Expr} {a b : TI} (h : PI X tg e a) (h' : PI X tg e b) : PI X tg e (fun σ H R => a σ H R ∨ b σ H R) := ⟨fun pins s σ H R I q => q.elim (h.run pins s σ H R I) (h'.run pins s σ H R I)⟩
theorem pi_imp {X : Cx} {tg e : Expr} {a b : TI} (h : PI X tg e a) (k : ∀ σ H R, b σ H R → a σ H R) : PI X tg e b := ⟨fun pins s σ H R I q => h.run pins s σ H R I (k _ _ _ q)⟩
section
variable {w : Wd} {m1 : Im} {lk : Lk} {H1 : Hp}
theorem sqL_fun {K : PySem.W.Frag} {H : Hp} {a : Addr} {xs : List V} {o : HO} (h : H a = some (.lst xs)) : ∀ {ys}, Rd H a (.lst ys) → ys = xs := fun {ys} r => by
  rcases r with r | ⟨_, r⟩ <;> rw [h] at r
  · cases r; rfl
  · cases r
/-- a list that stays -/
theorem walk_list {a : Addr} {vs : List V} {ds : List D} (rv : RVs w m1 H1 vs ds) (hs : ∀ m H, Ext m1 m lk H1 H → SqL w.K H a vs) (hu : ∀ H xs, SqL w.K H a vs → SqL w.K H a xs → xs = vs) : True := trivial
theorem rvs_at {m : Im} {H : Hp} {vs : List V} {ds : List D} (rv : RVs w m H vs ds) {i : Nat} {x : V} {d : D} (h : vs[i]? = some x) (h' : ds[i]? = some d) : RV w m H x d := by
  obtain ⟨v, e, r⟩ := rv.get h'
  rw [h] at e
  cases e
  exact r
theorem walk_l {a : Addr} {vs : List V} {ds : List D} (rv : RVs w m1 H1 vs ds) (hs : ∀ m H, Ext m1 m lk H1 H → SqL w.K H a vs) : WalkOk w m1 lk H1 (Itl w.K a) ds := by
  intro i m H μ rp ex
  have hq := hs m H ex
  refine ⟨fun e => ⟨vs, hq, by rw [rv.len, e]; exact Nat.le_refl _⟩, fun d hd => ?_⟩
  obtain ⟨v, e, r⟩ := rv.get hd
  refine ⟨⟨vs, v, hq, e⟩, fun x H' y => ?_⟩
  obtain ⟨rfl, y⟩ := y
  have hx := y vs hq
  rw [e] at hx
  cases hx
  exact ⟨m, rp, Ext.refl _ _ _, r.mono ex.wx⟩
theorem walk_t {a : Addr} {vs : List V} {ds : List D} (rv : RVs w m1 H1 vs ds) (hs : ∀ m H, Ext m1 m lk H1 H → SqT w.K H a vs) : WalkOk w m1 lk H1 (Itt w.K a) ds := by
  intro i m H μ rp ex
  have hq := hs m H ex
  refine ⟨fun e => ⟨vs, hq, by rw [rv.len, e]; exact Nat.le_refl _⟩, fun d hd => ?_⟩
  obtain ⟨v, e, r⟩ := rv.get hd
  refine ⟨⟨vs, v, hq, e⟩, fun x H' y => ?_⟩
  obtain ⟨rfl, y⟩ := y
  have hx := y vs hq
  rw [e] at hx
  cases hx
  exact ⟨m, rp, Ext.refl _ _ _, r.mono ex.wx⟩
theorem walk_s {s : List Nat} : WalkOk w m1 lk H1 (Its ⟨s.toArray⟩) (s.map fun c => .str [c]) := by
  intro i m H μ rp ex
  refine ⟨fun e => by show _ ≤ i; simp at e; simp [e], fun d hd => ?_⟩
  rw [List.getElem?_map] at hd
  cases q : s[i]? with
  | none => rw [q] at hd; cases hd
  | some c =>
    rw [q] at hd
    cases hd
    refine ⟨by show i < _; have := (List.getElem?_eq_some_iff.mp q).1; simpa using this, fun x H' y => ?_⟩
    obtain ⟨rfl, c', e, rfl⟩ := y
    have : c' = c := by
      have e : s.toArray[i]? = some c' := e
      rw [List.getElem?_toArray, q] at e
      exact (Option.some.inj e).symm
    subst this
    exact ⟨m, rp, Ext.refl _ _ _, rv_mkStr _ _ _ [c']⟩
theorem walk_k {a : Addr} {o : Obj} {kvs : List (Key × V)} {l : List (D × D)} (r : RKs w m1 H1 kvs l) (ha : H1 a = some (.frz o (.dK kvs))) : WalkOk w m1 lk H1 (Itk a o kvs) (l.map Prod.fst) := by
  intro i m H μ rp ex
  have hq := ex.kZ _ _ _ ha
  have hl := r.len
  refine ⟨fun e => ⟨hq, by rw [List.length_map] at e; omega⟩, fun d hd => ?_⟩
  have hlt : i < l.length := by
    have := (List.getElem?_eq_some_iff.mp hd).1
    simpa using this
  refine ⟨⟨hq, by omega⟩, fun x H' y => ?_⟩
  obtain ⟨rfl, k, v, e, rfl⟩ := y
  refine ⟨m, rp, Ext.refl _ _ _, ?_⟩
  obtain ⟨v2, e2, r2⟩ := (keysK_rel r).get hd
  rw [List.getElem?_map, e] at e2
  cases e2
  exact r2.mono ex.wx
theorem walk_kt {a : Addr} {o : Obj} {kvs : List (List Key × V)} {l : List (D × D)} (r : RTs w m1 H1 kvs l) (ha : H1 a = some (.frz o (.dT kvs))) : WalkOk w m1 lk H1 (Itkt a o kvs) (l.map Prod.fst) := by
  have keys : ∀ {kvs : List (List Key × V)} {l : List (D × D)}, RTs w m1 H1 kvs l → l.map Prod.fst = kvs.map fun p => keysD p.1 := by
    intro kvs
    induction kvs with
    | nil => intro l r; cases r; rfl
    | cons p t ih => intro l r; cases r with | cons r1 r2 => rw [List.map_cons, List.map_cons, ih r2]
  intro i m H μ rp ex
  have hq := ex.kZ _ _ _ ha
  have hl := r.len
  refine ⟨fun e => ⟨hq, by rw [List.length_map] at e; omega⟩, fun d hd => ?_⟩
  have hlt : i < l.length := by
    have := (List.getElem?_eq_some_iff.mp hd).1
    simpa using this
  refine ⟨⟨hq, by omega⟩, fun x H' y => ?_⟩
  obtain ⟨rfl, k, v, q, e, rfl, hqq⟩ := y
  refine ⟨m, rp, Ext.refl _ _ _, ?_⟩
  rw [keys r, List.getElem?_map, e] at hd
  cases hd
  refine .tup hqq ?_
  show RVs w m _ (k.map kV) (k.map keyD)
  clear e hqq
  induction k with
  | nil => exact .nil
  | cons z t ih => exact .cons (rv_kV _ _ _ z) ih
end
section
variable {X : Cx} {w : Wd} {E : XK} {tg e : Expr} {me : ME}
def wAny (K : PySem.W.Frag) (te : TE) : TI := fun σ H R => iList K te σ H R ∨ iTup K te σ H R ∨ iStr te σ H R ∨ iKeys te σ H R
theorem pi_any {te : TE} (h : PE X e te) : PI X tg e (wAny X.K te) := pi_or (pi_list h) (pi_or (pi_tup h) (pi_or (pi_str h) (pi_keys h)))
theorem lst_stay {m m1 : Im} {lk : Lk} {μ : Sto} {H H1 : Hp} {x : V} {l : List D} {vs : List V} {a : Addr} (f : m.fz a) (h : H a = some (.lst vs)) (ex : Ext m m1 lk H H1) : H1 a = some (.lst vs) := by rw [ex.kF a f]; exact h
theorem y_any (hK : X.K = w.K) (h : PE X e (tE w E me)) : PI X tg e (tIt w E (itE me)) := by
  refine pi_imp (pi_any h) fun σ H R ⟨z, m, ρ, lk, μ, rp, fr, zo, r, μ1, e1, q⟩ => ?_
  rw [hK]
  unfold itE at e1
  cases e2 : me ρ lk μ with
  | none => rw [e2] at e1; cases e1
  | some p =>
    obtain ⟨r1, μ2⟩ := p
    rw [e2] at e1
    cases r1 with
    | ex c =>
      cases e1
      exact .inl ⟨m, ρ, lk, μ, rp, fr, .ex c, _, e2, q⟩
    | ok d =>
      simp only at e1
      cases e3 : walkV z lk μ2 d with
      | none => rw [e3] at e1; cases e1
      | some l =>
        rw [e3] at e1
        cases e1
        unfold walkV at e3
        cases e4 : itT d with
        | some l' =>
          rw [e4] at e3
          cases e3
          refine .inr (.inl ⟨m, ρ, lk, μ, rp, fr, .ok d, _, e2, fun v m1 H1 rp1 ex1 rv => ?_⟩)
          obtain ⟨a, vs, rfl, h1, h2⟩ := itT_rd rv e4
          exact ⟨a, rfl, ⟨vs, h1⟩, q _ m1 H1 rp1 ex1 (walk_t h2 fun m H ex => ex.wx.sqt h1)⟩
        | none =>
          rw [e4] at e3
          cases d <;> try (cases e3; done)
          case lst l' =>
            cases e3
            refine .inl ⟨m, ρ, lk, μ, rp, fr, .ok _, _, e2, fun v m1 H1 rp1 ex1 rv => ?_⟩
            cases rv with
            | lst f h t =>
              exact ⟨_, rfl, ⟨_, .inl (.inl h)⟩, q _ m1 H1 rp1 ex1 (walk_l t fun m H ex => .inl (.inl (by rw [ex.kF _ f]; exact h)))⟩
          case kl l' =>
            cases e3
            refine .inl ⟨m, ρ, lk, μ, rp, fr, .ok _, _, e2, fun v m1 H1 rp1 ex1 rv => ?_⟩
            cases rv with
            | kl h f t =>
              refine ⟨_, rfl, ⟨_, h⟩, q _ m1 H1 rp1 ex1 (walk_l t fun m H ex => ?_)⟩
              exact f.elim (fun z => h.elim (fun y => .inl (ex.wx.rd _ _ z y)) .inr) fun z => z H
          case str s =>
            cases e3
            refine .inr (.inr (.inl ⟨m, ρ, lk, μ, rp, fr, .ok _, _, e2, fun v m1 H1 rp1 ex1 rv => ?_⟩))
            obtain rfl := rv_str rv
            exact ⟨_, rfl, q _ m1 H1 rp1 ex1 walk_s⟩
          case obj n =>
            simp only at e3
            split at e3
            · rename_i hl
              split at e3
              · rename_i l' hc
                cases e3
                refine .inl ⟨m, ρ, lk, μ, rp, fr, .ok _, _, e2, fun v m1 H1 rp1 ex1 rv => ?_⟩
                cases rv with
                | obj ha =>
                  obtain ⟨a, vs, h1, h2, h3⟩ := cell_lst rp1 hc
                  rw [ha] at h1
                  cases h1
                  exact ⟨_, rfl, ⟨_, .inl (.inl h2)⟩, q _ m1 H1 rp1 ex1 (walk_l h3 fun m H ex => .inl (.inl (by rw [ex.kL n _ hl ha]; exact h2)))⟩
              · rename_i t l' hc
                split at e3
                · rename_i hz
                  cases e3
                  refine .inr (.inr (.inr ⟨m, ρ, lk, μ, rp, fr, .ok _, _, e2, fun v m1 H1 rp1 ex1 rv => ?_⟩))
                  cases rv with
                  | obj ha =>
                    obtain ⟨a, h1, h2, _⟩ := cell_dct rp1 hc
                    rw [ha] at h1
                    cases h1
                    obtain ⟨_, a', o, u, h3, h4⟩ := (zo.ext ex1) n hz
                    rw [ha] at h3
                    cases h3
                    refine ⟨_, o, rfl, ?_⟩
                    cases t with
                    | false =>
                      obtain ⟨kvs, h5, h6⟩ := h2
                      rcases h5 with h5 | ⟨o', h5⟩
                      · rw [h5] at h4; cases h4
                      · rw [h5] at h4
                        cases h4
                        exact .inl ⟨kvs, h5, q _ m1 H1 rp1 ex1 (walk_k h6 h5)⟩
                    | true =>
                      obtain ⟨kvs, h5, h6⟩ := h2
                      rcases h5 with h5 | ⟨o', h5⟩
                      · rw [h5] at h4; cases h4
                      · rw [h5] at h4
                        cases h4
                        exact .inr ⟨kvs, h5, q _ m1 H1 rp1 ex1 (walk_kt h6 h5)⟩
                · cases e3
              · cases e3
            · cases e3
/-- range(n), range(a, b) -/
def upto (lo : Int) : Nat → List D
  | 0 => []
  | n + 1 => .int lo :: upto (lo + 1) n
theorem upto_len : ∀ (n : Nat) (lo : Int), (upto lo n).length = n
  | 0, _ => rfl
  | n + 1, lo => by simp [upto, upto_len n]
theorem upto_get : ∀ (n : Nat) (lo : Int) (i : Nat), i < n → (upto lo n)[i]? = some (.int (lo + i))
  | n + 1, lo, 0, _ => by simp [upto]
  | n + 1, lo, i + 1, h => by
    rw [upto, List.getElem?_cons_succ, upto_get n (lo + 1) i (by omega)]
    congr 2
    omega
def p62 : Int := 4611686018427387904
theorem p62_eq : p62 = 2 ^ 62 := by decide
def rng1E (a : MA) : MI := fun _ ρ lk μ => match a ρ lk μ with
  | some (.inl [.int j], μ1) => if decide (-p62 ≤ j) && decide (j < p62) then some (.inl (upto 0 j.toNat), μ1) else none
  | some (.inr c, μ1) => some (.inr c, μ1)
  | _ => none
def rng2E (a : MA) : MI := fun _ ρ lk μ => match a ρ lk μ with
  | some (.inl [.int i, .int j], μ1) => if decide (-p62 ≤ i) && decide (i < p62) && (decide (-p62 ≤ j) && decide (j < p62)) then some (.inl (upto i (j - i).toNat), μ1) else none
  | some (.inr c, μ1) => some (.inr c, μ1)
  | _ => none
theorem walk_r {m1 : Im} {lk : Lk} {H1 : Hp} {lo : Int} {n : Nat} : WalkOk w m1 lk H1 (Itr lo n) (upto lo n) := by
  intro i m H μ rp ex
  refine ⟨fun e => by rw [upto_len] at e; show n ≤ i; omega, fun d hd => ?_⟩
  have hlt : i < n := by
    have := (List.getElem?_eq_some_iff.mp hd).1
    rwa [upto_len] at this
  refine ⟨hlt, fun x H' y => ?_⟩
  obtain ⟨rfl, rfl⟩ := y
  rw [upto_get n lo i hlt] at hd
  cases hd
  exact ⟨m, rp, Ext.refl _ _ _, .int _⟩
theorem y_rng1 {a : Expr} {ma : MA} {p pos : Pos} (hg : Gl X "range") (hm : X.mg "range" = none) (ha : PA X [a] (tAr w E ma)) (hs : noStar a = true) : PI X tg (.Call (.Name "range" p) [a] [] pos) (tIt w E (rng1E ma)) := by
  refine pi_imp (pi_range1 hg hm ha (star_cons hs)) fun σ H R ⟨z, m, ρ, lk, μ, rp, fr, zo, r, μ1, e1, q⟩ => ?_
  refine ⟨m, ρ, lk, μ, rp, fr, ?_⟩
  unfold rng1E at e1
  split at e1
  · rename_i j μ2 e2
    split at e1
    · rename_i hj
      cases e1
      simp only [Bool.and_eq_true, decide_eq_true_eq, p62_eq] at hj
      refine ⟨_, _, e2, fun vs m1 H1 rp1 ex1 rv => ?_⟩
      obtain ⟨x, rfl, rx⟩ := rvs_one rv
      obtain rfl := rv_int rx
      exact ⟨j, rfl, hj.1, hj.2, q _ m1 H1 rp1 ex1 walk_r⟩
    · cases e1
  · rename_i c μ2 e2
    cases e1
    exact ⟨_, _, e2, q⟩
  · cases e1
theorem y_rng2 {a b : Expr} {ma : MA} {p pos : Pos} (hg : Gl X "range") (hm : X.mg "range" = none) (ha : PA X [a, b] (tAr w E ma)) (hs : noStar a = true) (hs2 : noStar b = true) : PI X tg (.Call (.Name "range" p) [a, b] [] pos) (tIt w E (rng2E ma)) := by
  refine pi_imp (pi_range2 hg hm ha (by rw [star_cons hs, star_cons hs2]; rfl) (star_cons hs2)) fun σ H R ⟨z, m, ρ, lk, μ, rp, fr, zo, r, μ1, e1, q⟩ => ?_
  refine ⟨m, ρ, lk, μ, rp, fr, ?_⟩
  unfold rng2E at e1
  split at e1
  · rename_i i j μ2 e2
    split at e1
    · rename_i hj
      cases e1
      simp only [Bool.and_eq_true, decide_eq_true_eq, p62_eq] at hj
      refine ⟨_, _, e2, fun vs m1 H1 rp1 ex1 rv => ?_⟩
      obtain ⟨x, y, rfl, rx, ry⟩ := rvs_two rv
      obtain rfl := rv_int rx
      obtain rfl := rv_int ry
      exact ⟨i, j, rfl, ⟨hj.1.1, hj.1.2, hj.2.1, hj.2.2⟩, q _ m1 H1 rp1 ex1 walk_r⟩
    · cases e1
  · rename_i c μ2 e2
    cases e1
    exact ⟨_, _, e2, q⟩
  · cases e1
end

/-! ### locks -/
def lkp (n : Nat) (lk : Lk) : Lk := fun k => decide (k = n) || lk k
theorem lkp_self {n : Nat} {lk : Lk} : lkp n lk n = true := by simp [lkp]
theorem lkp_old {n k : Nat} {lk : Lk} (h : lk k = true) : lkp n lk k = true := by simp [lkp, h]
theorem lkp_inv {n k : Nat} {lk : Lk} (h : lkp n lk k = true) (h' : lk k = false) : k = n := by
  simp [lkp, h'] at h
  exact h
section
variable {w : Wd} {m m' : Im} {lk : Lk} {μ μ' : Sto} {H H' : Hp} {n : Nat} {a : Addr} {u : HO} {od : Obj}
theorem mut_dc {u : HO} (hu : isDc u = true) : Mut (some u) := by
  cases u <;> first | trivial | cases hu
/-- more is locked, nothing else -/
theorem Rp.lockUp {lk' : Lk} (rp : Rp w m H lk μ) (h : ∀ n, lk n = true → lk' n = true) : Rp w m H lk' μ :=
  ⟨fun n c e => by
    obtain ⟨a, u, h1, h2, h3⟩ := rp.cell n c e
    exact ⟨a, u, h1, h2, h3.imp id fun z => ⟨h n z.1, z.2⟩⟩, rp.inj, rp.nx, rp.there, rp.fz, rp.tab, rp.tabq, rp.ioT, rp.fzT⟩
theorem Ext.lockDn {lk' : Lk} (x : Ext m m' lk' H H') (h : ∀ n, lk n = true → lk' n = true) : Ext m m' lk H H' :=
  ⟨x.io, x.fz, x.kF, x.kT, fun n a e => x.kL n a (h n e), x.kZ, x.kE, x.th, x.ioN, x.kU, x.fzN, x.cs⟩
/-- an object whose cell is no frozen dict -/
theorem Rp.lockDn (rp : Rp w m H (lkp n lk) μ) (h : ∀ a u o, m.io n = some a → H a = some (.frz o u) → lk n = true) : Rp w m H lk μ :=
  ⟨fun k c e => by
    obtain ⟨a, u, h1, h2, h3⟩ := rp.cell k c e
    refine ⟨a, u, h1, h2, h3.imp id fun z => ⟨?_, z.2⟩⟩
    cases q : lk k with
    | true => rfl
    | false =>
      have := lkp_inv z.1 q
      subst this
      obtain ⟨_, o, ho⟩ := z.2
      rw [h _ _ _ h1 ho] at q
      exact absurd q (by simp), rp.inj, rp.nx, rp.there, rp.fz, rp.tab, rp.tabq, rp.ioT, rp.fzT⟩
theorem wx_lock (rp : Rp w m H lk μ) (hn : m.io n = some a) (ha : H a = some u) (hu : isDc u = true) : Wx m m H (upd H a (.frz od u)) := by
  have ne : ∀ b v, H b = some v → isDc v = false → b ≠ a := fun b v e d z => by
    subst z
    rw [ha] at e
    cases e
    rw [hu] at d
    cases d
  have fza : ∀ b, m.fz b → b ≠ a := fun b f z => (rp.fz b f).2 n (by rw [z]; exact hn)
  exact ⟨fun _ _ e => e, fun _ e => e, fun b v f r => by unfold Rd at *; rw [upd_ne (fza b f)]; exact r, fun b xs e => by rw [upd_ne (ne b _ e rfl)]; exact e, fun b o v e _ => .inr ⟨o, by rw [upd_ne (ne b _ e rfl)]; exact e⟩, fun b φ e => by rw [upd_ne (ne b _ e rfl)]; exact e, fun b xs f e => by rw [upd_ne (fza b f)]; exact e, rfl⟩
theorem Rp.lock (rp : Rp w m H lk μ) (hn : m.io n = some a) (ha : H a = some u) (hu : isDc u = true) : Rp w m (upd H a (.frz od u)) (lkp n lk) μ := by
  have x := wx_lock (od := od) rp hn ha hu
  have ne : ∀ b v, H b = some v → isDc v = false → b ≠ a := fun b v e d z => by
    subst z
    rw [ha] at e
    cases e
    rw [hu] at d
    cases d
  have kt := rp.tabs_keep (H' := upd H a (.frz od u)) (fun b ps e => by rw [upd_ne (ne b _ e rfl)]; exact e) (fun b φ e => by rw [upd_ne (ne b _ e rfl)]; exact e)
  refine ⟨fun k c e => ?_, rp.inj, rp.nx, fun k b e => ?_, fun b f => ⟨?_, (rp.fz b f).2⟩, kt.1, kt.2, fun k b e ps => ?_, fun b f ps => by rw [upd_ne fun z => (rp.fz b f).2 n (by rw [z]; exact hn)]; exact rp.fzT b f ps⟩
  · obtain ⟨b, v, h1, h2, h3⟩ := rp.cell k c e
    by_cases hb : b = a
    · subst hb
      have : k = n := rp.inj k n b h1 hn
      subst this
      have hv : v = u := by
        rcases h3 with h3 | ⟨_, _, o, h3⟩
        · rw [h3] at ha; exact Option.some.inj ha
        · rw [h3] at ha
          cases ha
          cases hu
      subst hv
      exact ⟨b, v, h1, h2.mono x, .inr ⟨lkp_self, hu, od, upd_same⟩⟩
    · refine ⟨b, v, h1, h2.mono x, ?_⟩
      rw [upd_ne hb]
      exact h3.imp id fun z => ⟨lkp_old z.1, z.2⟩
  · by_cases hb : b = a
    · subst hb; rw [upd_same]; simp
    · rw [upd_ne hb]; exact rp.there k b e
  · rw [upd_ne fun z => (rp.fz b f).2 n (by rw [z]; exact hn)]
    exact (rp.fz b f).1
  · by_cases hb : b = a
    · subst hb; rw [upd_same]; simp
    · rw [upd_ne hb]; exact rp.ioT k b e ps
theorem wx_unlock (rp : Rp w m' H' (lkp n lk) μ') (hn : m'.io n = some a) (ha : H' a = some (.frz od u)) (hu : isDc u = true) : Wx m' m' H' (upd H' a u) := by
  have fza : ∀ b, m'.fz b → b ≠ a := fun b f z => (rp.fz b f).2 n (by rw [z]; exact hn)
  refine ⟨fun _ _ e => e, fun _ e => e, fun b v f r => by unfold Rd at *; rw [upd_ne (fza b f)]; exact r, fun b xs e => ?_, fun b o v e z => .inr ⟨o, ?_⟩, fun b φ e => by rw [upd_ne fun z => by subst z; rw [ha] at e; cases e]; exact e, fun b xs f e => by rw [upd_ne (fza b f)]; exact e, rfl⟩
  · rw [upd_ne fun z => by subst z; rw [ha] at e; cases e]; exact e
  · rw [upd_ne fun q => by
      subst q
      rw [ha] at e
      cases e
      obtain ⟨xs, rfl⟩ := z
      cases hu]
    exact e
theorem Rp.unlock (rp : Rp w m' H' (lkp n lk) μ') (hn : m'.io n = some a) (ha : H' a = some (.frz od u)) (hu : isDc u = true) : Rp w m' (upd H' a u) lk μ' := by
  have x := wx_unlock rp hn ha hu
  have ne : ∀ b v, H' b = some v → (∀ o w, v ≠ .frz o w) → b ≠ a := fun b v e d z => by
    subst z
    rw [ha] at e
    exact d _ _ (Option.some.inj e).symm
  have kt := rp.tabs_keep (H' := upd H' a u) (fun b ps e => by rw [upd_ne (ne b _ e fun _ _ z => by cases z)]; exact e) (fun b φ e => by rw [upd_ne (ne b _ e fun _ _ z => by cases z)]; exact e)
  refine ⟨fun k c e => ?_, rp.inj, rp.nx, fun k b e => ?_, fun b f => ⟨?_, (rp.fz b f).2⟩, kt.1, kt.2, fun k b e ps => ?_, fun b f ps => by rw [upd_ne fun z => (rp.fz b f).2 n (by rw [z]; exact hn)]; exact rp.fzT b f ps⟩
  · obtain ⟨b, v, h1, h2, h3⟩ := rp.cell k c e
    by_cases hb : b = a
    · subst hb
      have hv : v = u := by
        rcases h3 with h3 | ⟨_, _, o, h3⟩
        · rw [h3] at ha
          cases ha
          cases h2
        · rw [h3] at ha; cases ha; rfl
      subst hv
      exact ⟨b, v, h1, h2.mono x, .inl upd_same⟩
    · refine ⟨b, v, h1, h2.mono x, ?_⟩
      rw [upd_ne hb]
      refine h3.imp id fun z => ⟨?_, z.2⟩
      cases q : lk k with
      | true => rfl
      | false =>
        have := lkp_inv z.1 q
        subst this
        rw [hn] at h1
        cases h1
        exact absurd rfl hb
  · by_cases hb : b = a
    · subst hb; rw [upd_same]; simp
    · rw [upd_ne hb]; exact rp.there k b e
  · rw [upd_ne fun z => (rp.fz b f).2 n (by rw [z]; exact hn)]
    exact (rp.fz b f).1
  · by_cases hb : b = a
    · subst hb; rw [upd_same]; cases u <;> simp [isDc] at hu ⊢
    · rw [upd_ne hb]; exact rp.ioT k b e ps
/-- what is behind the whole, from what is behind the locked part -/
theorem Ext.unlock (hn : m.io n = some a) (ha : H a = some u) (hu : isDc u = true) (x : Ext m m' (lkp n lk) (upd H a (.frz od u)) H') : H' a = some (.frz od u) ∧ m'.io n = some a ∧ ((∀ b, m.fz b → b ≠ a) → Ext m m' lk H (upd H' a u)) := by
  have h1 : H' a = some (.frz od u) := x.kZ a od u upd_same
  refine ⟨h1, x.io _ _ hn, fun fza => ?_⟩
  have ne : ∀ b v, H b = some v → isDc v = false → b ≠ a := fun b v e d z => by
    subst z
    rw [ha] at e
    cases e
    rw [hu] at d
    cases d
  refine ⟨x.io, x.fz, fun b f => ?_, fun b xs e => ?_, fun k b hk hb => ?_, fun b o v e => ?_, fun b φ e => ?_, fun b h => ?_, fun k b e => ?_, fun b v e hb ht => ?_, fun b f => ?_, x.cs⟩
  · rw [upd_ne (fza b f), x.kF b f, upd_ne (fza b f)]
  · have hb := ne b _ e rfl
    rw [upd_ne hb]; exact x.kT b xs (by rw [upd_ne hb]; exact e)
  · by_cases q : b = a
    · subst q; rw [upd_same, ha]
    · rw [upd_ne q, x.kL k b (lkp_old hk) hb, upd_ne q]
  · have hb := ne b _ e rfl
    rw [upd_ne hb]; exact x.kZ b o v (by rw [upd_ne hb]; exact e)
  · have hb := ne b _ e rfl
    rw [upd_ne hb]; exact x.kE b φ (by rw [upd_ne hb]; exact e)
  · by_cases q : b = a
    · subst q; rw [upd_same]; simp
    · rw [upd_ne q]; exact x.th b (by rw [upd_ne q]; exact h)
  · refine (x.ioN k b e).imp id fun z => ?_
    by_cases q : b = a
    · subst q; rw [upd_same] at z; cases z
    · rwa [upd_ne q] at z
  · have q : b ≠ a := fun z => hb n (by rw [z]; exact hn)
    rw [upd_ne q]; exact x.kU b v (by rw [upd_ne q]; exact e) hb ht
  · refine (x.fzN b f).imp id fun z => ?_
    by_cases q : b = a
    · subst q; rw [upd_same] at z; cases z
    · rwa [upd_ne q] at z
end
/-- the label that a walk over f's value locks -/
def prb (f : ME) (ρ : Fr) (lk : Lk) (μ : Sto) : Option Nat := match f ρ lk μ with
  | some (.ok (.obj n), _) => if (μ.ce n).isSome then some n else none
  | _ => none
def noExS : Option (Fl × Fr × Sto) → Option (Fl × Fr × Sto)
  | some (.ex _, _, _) => none
  | r => r
/-- f's dict or list is locked while s runs -/
def lockS (f : ME) (s : Option Nat → MS) : MS := fun ρ lk μ => match prb f ρ lk μ with
  | none => s none ρ lk μ
  | some n => match μ.ce n with
    | some (.dct _ _) => noExS (s (some n) ρ (lkp n lk) μ)
    | _ => s none ρ (lkp n lk) μ
def noExE : Option (R × Sto) → Option (R × Sto)
  | some (.ex _, _) => none
  | r => r
def lockE (f : ME) (s : Option Nat → ME) : ME := fun ρ lk μ => match prb f ρ lk μ with
  | none => s none ρ lk μ
  | some n => match μ.ce n with
    | some (.dct _ _) => noExE (s (some n) ρ (lkp n lk) μ)
    | _ => s none ρ (lkp n lk) μ
/-- a reading with the fact about z -/
def tSz (w : Wd) (E : XK) (f : Option Nat → MS) : TS := fun D σ H => ∃ z m ρ lk μ, Rp w m H lk μ ∧ FrR w m H σ ρ ∧ ZOk m lk H z ∧ sK w E (f z) m ρ lk μ H D
def tEz (w : Wd) (E : XK) (f : Option Nat → ME) : TE := fun σ H Q => ∃ z m ρ lk μ, Rp w m H lk μ ∧ FrR w m H σ ρ ∧ ZOk m lk H z ∧ tK w E (f z) m ρ lk μ H Q
theorem prb_some {f : ME} {ρ : Fr} {lk : Lk} {μ : Sto} {n : Nat} (h : prb f ρ lk μ = some n) : ∃ c, μ.ce n = some c := by
  unfold prb at h
  split at h
  · split at h
    · rename_i hs
      cases h
      exact Option.isSome_iff_exists.mp hs
    · cases h
  · cases h
theorem cell_dc {w : Wd} {m : Im} {H : Hp} {lk : Lk} {μ : Sto} (rp : Rp w m H lk μ) {n : Nat} {t : Bool} {l : List (D × D)} (h : μ.ce n = some (.dct t l)) : ∃ a u, m.io n = some a ∧ isDc u = true ∧ (H a = some u ∨ ∃ o, H a = some (.frz o u) ∧ lk n = true) := by
  obtain ⟨a, u, h1, h2, h3⟩ := rp.cell n _ h
  refine ⟨a, u, h1, ?_, h3.imp id fun ⟨x, _, o, y⟩ => ⟨o, y, x⟩⟩
  cases h2 <;> rfl
theorem z_lock {X : Cx} {w : Wd} {E : XK} {st : Stmt} {f : ME} {s : Option Nat → MS} (h : PS X st (tSz w E s)) : PS X st (tS w E (lockS f s)) := by
  have hl := ps_lock h
  refine ⟨fun pins s0 σ H D I ⟨m, ρ, lk, μ, rp, fr, r, ρ', μ', e, q⟩ => ?_⟩
  unfold lockS at e
  cases e1 : prb f ρ lk μ with
  | none =>
    rw [e1] at e
    exact h.run pins s0 σ H D I ⟨none, m, ρ, lk, μ, rp, fr, (fun _ z => by cases z), r, ρ', μ', e, q⟩
  | some n =>
    simp only [e1] at e
    obtain ⟨c, hc⟩ := prb_some e1
    have dn : ∀ {c : C}, μ.ce n = some c → (∀ t l, c ≠ .dct t l) → ∃ a u, m.io n = some a ∧ H a = some u ∧ ∀ o v, u ≠ .frz o v := fun {c} hc hn => by
      obtain ⟨a, u, h1, h2, h3⟩ := rp.cell n _ hc
      refine ⟨a, u, h1, ?_, by cases h2 <;> (intro _ _ z; cases z)⟩
      rcases h3 with h3 | ⟨_, h3, _⟩
      · exact h3
      · cases h2 with
        | lst _ => cases h3
        | ins _ => cases h3
        | dK _ => exact absurd rfl (hn _ _)
        | dT _ => exact absurd rfl (hn _ _)
    have other : (∀ t l, c ≠ .dct t l) → s none ρ (lkp n lk) μ = some (r, ρ', μ') → wpAny (model X.prog X.w) X.A (exec st X.env) (SP X pins D) X.xe s0 := fun hn e => by
      obtain ⟨a, u, h1, h2, h3⟩ := dn hc hn
      have dn2 : ∀ {m' : Im} {H' : Hp}, Rp w m' H' (lkp n lk) μ' → Ext m m' (lkp n lk) H H' → Rp w m' H' lk μ' ∧ Ext m m' lk H H' := fun {m' H'} rp' ex' => by
        refine ⟨rp'.lockDn fun a' u' o ha' hz => ?_, ex'.lockDn fun _ => lkp_old⟩
        have h4 := ex'.io _ _ h1
        rw [ha'] at h4
        cases h4
        rw [ex'.kL n _ lkp_self h1, h2] at hz
        exact absurd (Option.some.inj hz) (h3 _ _)
      refine h.run pins s0 σ H D I ⟨none, m, ρ, lkp n lk, μ, rp.lockUp (fun _ => lkp_old), fr, (fun _ z => by cases z), r, ρ', μ', e, ?_⟩
      cases r with
      | nx => exact fun σ' m' H' a b c => q σ' m' H' (dn2 a b).1 (dn2 a b).2 c
      | ret d => exact fun v m' H' a b c => q v m' H' (dn2 a b).1 (dn2 a b).2 c
      | brk => exact fun σ' m' H' a b c => q σ' m' H' (dn2 a b).1 (dn2 a b).2 c
      | cnt => exact fun σ' m' H' a b c => q σ' m' H' (dn2 a b).1 (dn2 a b).2 c
      | ex c => exact fun m' H' a b => q m' H' (dn2 a b).1 (dn2 a b).2
    cases c with
    | lst l =>
      simp only [hc] at e
      exact other (fun _ _ z => by cases z) e
    | ins k fs =>
      simp only [hc] at e
      exact other (fun _ _ z => by cases z) e
    | dct t l =>
      simp only [hc] at e
      obtain ⟨a, u, h1, hu, h2⟩ := cell_dc rp hc
      cases e2 : s (some n) ρ (lkp n lk) μ with
      | none => rw [e2] at e; cases e
      | some pr =>
        obtain ⟨r2, ρ2, μ2⟩ := pr
        rw [e2] at e
        have nex : ∀ c, r2 ≠ .ex c := fun c z => by subst z; cases e
        have e3 : (r2, ρ2, μ2) = (r, ρ', μ') := by
          cases r2 <;> first | exact absurd rfl (nex _) | exact Option.some.inj e
        cases e3
        rcases h2 with h2 | ⟨o, h2, hlk⟩
        · refine hl.run pins s0 σ H D I ⟨a, u, h2, mut_dc hu, fun od => ?_⟩
          have fza : ∀ b, m.fz b → b ≠ a := fun b f z => (rp.fz b f).2 n (by rw [z]; exact h1)
          refine ⟨some n, m, ρ, lkp n lk, μ, rp.lock h1 h2 hu, fr.mono (wx_lock rp h1 h2 hu), fun k z => ?_, r, ρ', μ', e2, ?_⟩
          · cases z
            exact ⟨lkp_self, a, od, u, h1, upd_same⟩
          · cases r with
            | nx =>
              refine fun σ' m' H' rp' ex' fr' => ?_
              obtain ⟨x1, x2, x3⟩ := ex'.unlock h1 h2 hu
              exact ⟨x1, q σ' m' _ (rp'.unlock x2 x1 hu) (x3 fza) (fr'.mono (wx_unlock rp' x2 x1 hu))⟩
            | ret d =>
              refine fun v m' H' rp' ex' rv' => ?_
              obtain ⟨x1, x2, x3⟩ := ex'.unlock h1 h2 hu
              exact ⟨x1, q v m' _ (rp'.unlock x2 x1 hu) (x3 fza) (rv'.mono (wx_unlock rp' x2 x1 hu))⟩
            | brk =>
              refine fun σ' m' H' rp' ex' fr' => ?_
              obtain ⟨x1, x2, x3⟩ := ex'.unlock h1 h2 hu
              exact ⟨x1, q σ' m' _ (rp'.unlock x2 x1 hu) (x3 fza) (fr'.mono (wx_unlock rp' x2 x1 hu))⟩
            | cnt =>
              refine fun σ' m' H' rp' ex' fr' => ?_
              obtain ⟨x1, x2, x3⟩ := ex'.unlock h1 h2 hu
              exact ⟨x1, q σ' m' _ (rp'.unlock x2 x1 hu) (x3 fza) (fr'.mono (wx_unlock rp' x2 x1 hu))⟩
            | ex c => exact absurd rfl (nex c)
        · have dn2 : ∀ {m' : Im} {H' : Hp}, Rp w m' H' (lkp n lk) μ' → Ext m m' (lkp n lk) H H' → Rp w m' H' lk μ' ∧ Ext m m' lk H H' := fun {m' H'} rp' ex' => ⟨rp'.lockDn fun _ _ _ _ _ => hlk, ex'.lockDn fun _ => lkp_old⟩
          refine h.run pins s0 σ H D I ⟨some n, m, ρ, lkp n lk, μ, rp.lockUp (fun _ => lkp_old), fr, fun k z => ?_, r, ρ', μ', e2, ?_⟩
          · cases z
            exact ⟨lkp_self, a, o, u, h1, h2⟩
          · cases r with
            | nx => exact fun σ' m' H' a b c => q σ' m' H' (dn2 a b).1 (dn2 a b).2 c
            | ret d => exact fun v m' H' a b c => q v m' H' (dn2 a b).1 (dn2 a b).2 c
            | brk => exact fun σ' m' H' a b c => q σ' m' H' (dn2 a b).1 (dn2 a b).2 c
            | cnt => exact fun σ' m' H' a b c => q σ' m' H' (dn2 a b).1 (dn2 a b).2 c
            | ex c => exact fun m' H' a b => q m' H' (dn2 a b).1 (dn2 a b).2
theorem e_lock {X : Cx} {w : Wd} {E : XK} {x : Expr} {f : ME} {s : Option Nat → ME} (h : PE X x (tEz w E s)) : PE X x (tE w E (lockE f s)) := by
  have hl := pe_lock h
  refine ⟨fun pins s0 σ H Q I ⟨m, ρ, lk, μ, rp, fr, r, μ', e, q⟩ => ?_⟩
  unfold lockE at e
  cases e1 : prb f ρ lk μ with
  | none =>
    rw [e1] at e
    exact h.run pins s0 σ H Q I ⟨none, m, ρ, lk, μ, rp, fr, (fun _ z => by cases z), r, μ', e, q⟩
  | some n =>
    simp only [e1] at e
    obtain ⟨c, hc⟩ := prb_some e1
    have other : (∀ t l, c ≠ .dct t l) → s none ρ (lkp n lk) μ = some (r, μ') → wpAny (model X.prog X.w) X.A (eval x X.env) (EP X pins σ Q) X.xe s0 := fun hn e => by
      obtain ⟨a, u, h1, h2, h3⟩ : ∃ a u, m.io n = some a ∧ H a = some u ∧ ∀ o v, u ≠ .frz o v := by
        obtain ⟨a, u, h1, h2, h3⟩ := rp.cell n _ hc
        refine ⟨a, u, h1, ?_, by cases h2 <;> (intro _ _ z; cases z)⟩
        rcases h3 with h3 | ⟨_, h3, _⟩
        · exact h3
        · cases h2 with
          | lst _ => cases h3
          | ins _ => cases h3
          | dK _ => exact absurd rfl (hn _ _)
          | dT _ => exact absurd rfl (hn _ _)
      have dn2 : ∀ {m' : Im} {H' : Hp}, Rp w m' H' (lkp n lk) μ' → Ext m m' (lkp n lk) H H' → Rp w m' H' lk μ' ∧ Ext m m' lk H H' := fun {m' H'} rp' ex' => by
        refine ⟨rp'.lockDn fun a' u' o ha' hz => ?_, ex'.lockDn fun _ => lkp_old⟩
        have h4 := ex'.io _ _ h1
        rw [ha'] at h4
        cases h4
        rw [ex'.kL n _ lkp_self h1, h2] at hz
        exact absurd (Option.some.inj hz) (h3 _ _)
      refine h.run pins s0 σ H Q I ⟨none, m, ρ, lkp n lk, μ, rp.lockUp (fun _ => lkp_old), fr, (fun _ z => by cases z), r, μ', e, ?_⟩
      cases r with
      | ok d => exact fun v m' H' a b c => q v m' H' (dn2 a b).1 (dn2 a b).2 c
      | ex c => exact fun m' H' a b => q m' H' (dn2 a b).1 (dn2 a b).2
    cases c with
    | lst l =>
      simp only [hc] at e
      exact other (fun _ _ z => by cases z) e
    | ins k fs =>
      simp only [hc] at e
      exact other (fun _ _ z => by cases z) e
    | dct t l =>
      simp only [hc] at e
      obtain ⟨a, u, h1, hu, h2⟩ := cell_dc rp hc
      cases e2 : s (some n) ρ (lkp n lk) μ with
      | none => rw [e2] at e; cases e
      | some pr =>
        obtain ⟨r2, μ2⟩ := pr
        rw [e2] at e
        cases r2 with
        | ex c => cases e
        | ok d =>
          cases e
          rcases h2 with h2 | ⟨o, h2, hlk⟩
          · refine hl.run pins s0 σ H Q I ⟨a, u, h2, mut_dc hu, fun od => ?_⟩
            have fza : ∀ b, m.fz b → b ≠ a := fun b f z => (rp.fz b f).2 n (by rw [z]; exact h1)
            refine ⟨some n, m, ρ, lkp n lk, μ, rp.lock h1 h2 hu, fr.mono (wx_lock rp h1 h2 hu), fun k z => ?_, .ok d, _, e2, fun v m' H' rp' ex' rv' => ?_⟩
            · cases z
              exact ⟨lkp_self, a, od, u, h1, upd_same⟩
            · obtain ⟨x1, x2, x3⟩ := ex'.unlock h1 h2 hu
              exact ⟨x1, q v m' _ (rp'.unlock x2 x1 hu) (x3 fza) (rv'.mono (wx_unlock rp' x2 x1 hu))⟩
          · refine h.run pins s0 σ H Q I ⟨some n, m, ρ, lkp n lk, μ, rp.lockUp (fun _ => lkp_old), fr, fun k z => ?_, .ok d, _, e2, fun v m' H' rp' ex' rv' => ?_⟩
            · cases z
              exact ⟨lkp_self, a, o, u, h1, h2⟩
            · exact q v m' H' (rp'.lockDn fun _ _ _ _ _ => hlk) (ex'.lockDn fun _ => lkp_old) rv'
end MP

end
section
set_option Elab.async false
set_option linter.all false
set_option maxRecDepth 100000
set_option maxHeartbeats 2000000
/-! the mirror: for, comprehensions -/
namespace MP
open PySem PyProof.Rows L2

/-! ### for -/
def loopM (gb : D → MS) : List D → MS
  | [] => nxS
  | d :: r => fun ρ lk μ => match gb d ρ lk μ with
    | some (.nx, ρ', μ') => loopM gb r ρ' lk μ'
    | some (.cnt, ρ', μ') => loopM gb r ρ' lk μ'
    | some (.brk, ρ', μ') => some (.nx, ρ', μ')
    | q => q
def forS (fi : MI) (gb : D → MS) : Option Nat → MS := fun z ρ lk μ => match fi z ρ lk μ with
  | some (.inl ds, μ1) => loopM gb ds ρ lk μ1
  | some (.inr c, μ1) => some (.ex c, ρ, μ1)
  | none => none
def gbS (g : MG) (b : MS) : D → MS := fun d => seqS (thruG g d) b
theorem drop_at {α : Type} {l : List α} {i : Nat} (h : i < l.length) : l.drop i = l[i] :: l.drop (i + 1) := List.drop_eq_getElem_cons h
section
variable {X : Cx} {w : Wd} {E : XK} {tg iter : Expr} {body : List Stmt} {fi : MI} {g : MG} {b : MS} {pos : Pos}
theorem fold_ok {e : Expr} {env : Env} (h : noSet e = true) : ∀ x, foldedSetIterable e env x = pure x := by
  intro x
  cases e <;> first | rfl | cases h
theorem for_imp {D : Ends} {σ : L2.St} {H : Hp} (h : tSz w E (forS fi (gbS g b)) D σ H) : tFor (tIt w E fi) (tGt w E g) (tS w E b) D σ H := by
  obtain ⟨z, m, ρ, lk, μ, rp, fr, zo, r, ρ', μ', e, q⟩ := h
  refine ⟨z, m, ρ, lk, μ, rp, fr, zo, ?_⟩
  unfold forS at e
  cases e1 : fi z ρ lk μ with
  | none => rw [e1] at e; cases e
  | some p =>
    obtain ⟨ir, μ1⟩ := p
    rw [e1] at e
    cases ir with
    | inr c =>
      cases e
      exact ⟨.inr c, _, rfl, q⟩
    | inl ds =>
      refine ⟨.inl ds, μ1, rfl, fun J m1 H1 rp1 ex1 wk => ?_⟩
      -- the state ahead of the turn i
      let N : Nat → L2.St → Hp → Prop := fun i σ H => ∃ mi ρi μi, Rp w mi H lk μi ∧ Ext m1 mi lk H1 H ∧ FrR w mi H σ ρi ∧ loopM (gbS g b) (ds.drop i) ρi lk μi = some (r, ρ', μ')
      refine ⟨fun i k σ H => k = ds.length - i ∧ i ≤ ds.length ∧ N i σ H, ⟨ds.length, rfl, Nat.zero_le _, m1, ρ, μ1, rp1, Ext.refl _ _ _, fr.mono ex1.wx, e⟩, ?_⟩
      rintro i k σ2 H2 ⟨rfl, hi, mi, ρi, μi, rpi, exi, fri, ei⟩
      obtain ⟨w1, w2⟩ := wk i mi H2 μi rpi exi
      by_cases hlt : i < ds.length
      · obtain ⟨w3, w4⟩ := w2 ds[i] (List.getElem?_eq_getElem hlt)
        refine .inr ⟨w3, N (i + 1), fun σ' H' n => ⟨ds.length - (i + 1), by omega, rfl, hlt, n⟩, fun x H' y => ?_⟩
        obtain ⟨m2, rp2, ex2, rx⟩ := w4 x H' y
        rw [drop_at hlt] at ei
        unfold loopM at ei
        cases e2 : gbS g b ds[i] ρi lk μi with
        | none => simp only [e2] at ei; cases ei
        | some pr =>
          obtain ⟨r2, ρ2, μ2⟩ := pr
          simp only [e2] at ei
          unfold gbS seqS at e2
          cases e3 : thruG g ds[i] ρi lk μi with
          | none => rw [e3] at e2; cases e2
          | some pr3 =>
            obtain ⟨r3, ρ3, μ3⟩ := pr3
            have e4 : g ds[i] ρi lk μi = some (.nx, ρ3, μ3) ∧ r3 = .nx := by
              unfold thruG at e3
              split at e3
              · rename_i a c e5
                cases e3
                exact ⟨e5, rfl⟩
              · cases e3
            obtain ⟨e4, rfl⟩ := e4
            rw [e3] at e2
            refine ⟨ds[i], m2, ρi, lk, μi, rp2, fri.mono ex2.wx, rx, ρ3, μ3, e4, fun σ3 m3 H3 rp3 ex3 fr3 => ⟨m3, ρ3, lk, μ3, rp3, fr3, r2, ρ2, μ2, e2, ?_⟩⟩
            have exA : Ext m1 m3 lk H1 H3 := (exi.trans ex2).trans ex3
            cases r2 with
            | nx => exact fun σ4 m4 H4 rp4 ex4 fr4 => ⟨m4, ρ2, μ2, rp4, exA.trans ex4, fr4, ei⟩
            | cnt => exact fun σ4 m4 H4 rp4 ex4 fr4 => ⟨m4, ρ2, μ2, rp4, exA.trans ex4, fr4, ei⟩
            | brk => cases ei; exact fun σ4 m4 H4 rp4 ex4 fr4 => q σ4 m4 H4 rp4 (ex1.trans (exA.trans ex4)) fr4
            | ret d => cases ei; exact fun v m4 H4 rp4 ex4 rv4 => q v m4 H4 rp4 (ex1.trans (exA.trans ex4)) rv4
            | ex c => cases ei; exact fun m4 H4 rp4 ex4 => q m4 H4 rp4 (ex1.trans (exA.trans ex4))
      · have : i = ds.length := by omega
        rw [this, List.drop_length] at ei
        cases ei
        exact .inl ⟨w1 this, q σ2 mi H2 rpi (ex1.trans exi) fri⟩
theorem z_for (hp : PassesOwn (model X.prog X.w) X.A X.env X.xe) (hc : X.calm = true) (hi : PI X tg iter (tIt w E fi)) (hg : PG X tg (tGt w E g)) (hb : PSs X body (tS w E b)) (hs : noSet iter = true) : PS X (.For tg iter body [] pos) (tSz w E (forS fi (gbS g b))) :=
  ps_imp (ps_for hp hc hi hg hb (fold_ok hs)) fun _ _ _ h => for_imp h
end

/-! ### a comprehension's targets -/
def wipeF (ρ : Fr) : List Nat → Fr
  | [] => ρ
  | v :: vs => (wipeF ρ vs).set v none
theorem FrR.setN {w : Wd} {m : Im} {H : Hp} {σ : L2.St} {ρ : Fr} (f : FrR w m H σ ρ) (i : Nat) : FrR w m H (σ.set i none) (ρ.set i none) := by
  refine ⟨by rw [List.length_set, List.length_set, f.len], fun j d' e => ?_⟩
  by_cases hj : i = j
  · subst hj
    by_cases hl : i < ρ.length
    · rw [List.getElem?_set_self hl] at e
      cases e
    · rw [List.getElem?_eq_none (by rw [List.length_set]; omega)] at e
      cases e
  · rw [List.getElem?_set_ne hj] at e
    obtain ⟨v', h1, h2⟩ := f.get j d' e
    exact ⟨v', by rw [List.getElem?_set_ne hj]; exact h1, h2⟩
theorem FrR.wipe {w : Wd} {m : Im} {H : Hp} {σ : L2.St} {ρ : Fr} (f : FrR w m H σ ρ) : ∀ vs, FrR w m H (wipe σ vs) (wipeF ρ vs)
  | [] => f
  | v :: vs => (FrR.wipe f vs).setN v
theorem wipe_get (σ : L2.St) : ∀ (vs : List Nat) (j : Nat), (wipe σ vs)[j]? = if j ∈ vs then (σ[j]?.map fun _ => none) else σ[j]?
  | [], j => by simp [L2.wipe]
  | v :: vs, j => by
    unfold L2.wipe
    rw [List.getElem?_set, wipe_get σ vs j, wipe_length]
    by_cases h : v = j
    · subst h
      simp
      by_cases hl : v < σ.length
      · simp [hl]
      · simp [hl]
    · simp [h, Ne.symm h]
theorem wipe_set {σ : L2.St} {vs : List Nat} {i : Nat} {x : Option V} (h : i ∈ vs) : wipe (σ.set i x) vs = wipe σ vs := by
  apply List.ext_getElem?
  intro j
  rw [wipe_get, wipe_get]
  by_cases hj : i = j
  · subst hj
    rw [if_pos h, if_pos h, List.getElem?_set]
    by_cases hl : i < σ.length
    · simp [hl]
    · simp [hl]
  · rw [List.getElem?_set_ne hj]
theorem wipe_wipe (σ : L2.St) (vs : List Nat) : wipe (wipe σ vs) vs = wipe σ vs := by
  apply List.ext_getElem?
  intro j
  rw [wipe_get, wipe_get]
  by_cases h : j ∈ vs
  · simp only [if_pos h]
    cases σ[j]? <;> rfl
  · simp only [if_neg h]
abbrev CG := D → Fr → Option Fr
abbrev CGs := List D → Fr → Option Fr
def tGc (w : Wd) (vs : List Nat) (f : CG) : TG := fun v σ H Q => ∃ d m ρ lk μ ρ', Rp w m H lk μ ∧ FrR w m H σ ρ ∧ RV w m H v d ∧ f d ρ = some ρ' ∧ ∀ σ', wipe σ' vs = wipe σ vs → FrR w m H σ' ρ' → Q σ' H
def tGcs (w : Wd) (vs : List Nat) (f : CGs) : TGs := fun us σ H Q => ∃ ds m ρ lk μ ρ', Rp w m H lk μ ∧ FrR w m H σ ρ ∧ RVs w m H us ds ∧ f ds ρ = some ρ' ∧ ∀ σ', wipe σ' vs = wipe σ vs → FrR w m H σ' ρ' → Q σ' H
def cName (i : Nat) : CG := fun d ρ => some (ρ.set i (some d))
def cNil : CGs := fun ds ρ => match ds with
  | [] => some ρ
  | _ => none
def cCons (f : CG) (g : CGs) : CGs := fun ds ρ => match ds with
  | d :: r => match f d ρ with
    | some ρ' => g r ρ'
    | none => none
  | [] => none
def cTup (n : Nat) (f : CGs) : CG := fun d ρ => match itT d with
  | some l => if l.length = n then f l ρ else none
  | none => none
section
variable {X : Cx} {w : Wd} {pos : Pos} {vs : List Nat}
theorem c_name {i : Nat} {x : Str} (hN : X.N.Nodup) (hi : X.N[i]? = some x) (hx : Loc X.env.scope x) (hf : X.fn x = true ∨ X.env.scope.names.lookup x = some .local) (hv : i ∈ vs) : PG X (.Name x pos) (tGc w vs (cName i)) :=
  pg_imp (pg_name hN hi hx hf) fun v σ H Q ⟨d, m, ρ, lk, μ, ρ', rp, fr, rv, e, q⟩ => by
    cases e
    exact q _ (wipe_set hv) (fr.set i rv)
theorem c_nil : PGs X [] (tGcs w vs cNil) := pgs_imp pgs_nil fun v σ H Q ⟨ds, m, ρ, lk, μ, ρ', rp, fr, rv, e, q⟩ => by
  cases ds with
  | nil =>
    cases rv
    cases e
    exact ⟨rfl, q _ rfl fr⟩
  | cons d r => cases e
theorem c_cons {e : Expr} {es : List Expr} {f : CG} {g : CGs} (h1 : PG X e (tGc w vs f)) (h2 : PGs X es (tGcs w vs g)) (hs : noStar e = true) : PGs X (e :: es) (tGcs w vs (cCons f g)) :=
  pgs_imp (pgs_cons h1 h2 (as_cons hs)) fun v σ H Q ⟨ds, m, ρ, lk, μ, ρ', rp, fr, rv, e, q⟩ => by
    cases ds with
    | nil => cases e
    | cons d r =>
      cases rv with
      | cons rv1 rv2 =>
        unfold cCons at e
        cases e1 : f d ρ with
        | none => simp only [e1] at e; cases e
        | some ρ1 =>
          simp only [e1] at e
          exact ⟨_, _, rfl, d, m, ρ, lk, μ, ρ1, rp, fr, rv1, e1, fun σ1 hw1 fr1 => ⟨r, m, ρ1, lk, μ, ρ', rp, fr1, rv2, e, fun σ' hw' fr' => q σ' (hw'.trans hw1) fr'⟩⟩
theorem c_tup {es : List Expr} {k : Nat} {t : CGs} {n : Nat} (hc : X.calm = true) (hK : X.K = w.K) (h : PGs X es (tGcs w vs t)) (hn : es.length = n) (hs : es.all noStar = true) : PG X (.Tuple es k pos) (tGc w vs (cTup n t)) :=
  pg_imp (pg_tup (n := n) hc h (by rw [as_len]; exact hn) (as_star hs)) fun v σ H Q ⟨d, m, ρ, lk, μ, ρ', rp, fr, rv, e, q⟩ => by
    unfold cTup at e
    cases e1 : itT d with
    | none => rw [e1] at e; cases e
    | some l =>
      simp only [e1] at e
      split at e
      · rename_i hl
        obtain ⟨a, us, rfl, h1, h2⟩ := itT_rd rv e1
        exact ⟨a, us, rfl, hK ▸ h1, by rw [h2.len, hl], l, m, ρ, lk, μ, ρ', rp, fr, h2, e, q⟩
      · cases e
end

/-! ### list comprehensions -/
abbrev X0 : XK := fun _ _ _ => False
def lcL (tg : CG) (tt te : ME) : List D → Nat → Fr → Lk → Sto → Option (List D × Sto)
  | [], _, _, _, μ => some ([], μ)
  | d :: r, n, ρ, lk, μ => match tg d ρ with
    | none => none
    | some ρ2 => match tt ρ2 lk μ with
      | some (.ok (.bl true), μ1) => match te ρ2 lk μ1 with
        | some (.ok y, μ2) => if n < 16777216 then (match lcL tg tt te r (n + 1) ρ lk μ2 with
          | some (ys, μ3) => some (y :: ys, μ3)
          | none => none) else none
        | _ => none
      | some (.ok (.bl false), μ1) => lcL tg tt te r n ρ lk μ1
      | _ => none
/-- the new list: an object of the store, or a list that nobody changes -/
def lcEnd (ob : Bool) (ys : List D) (μ : Sto) : R × Sto := if ob then (.ok (.obj μ.nx), μ.add (.lst ys)) else (.ok (.lst ys), μ)
def lcE (ob : Bool) (vs : List Nat) (fi : MI) (tg : CG) (tt te : ME) : Option Nat → ME := fun z ρ lk μ => match fi z ρ lk μ with
  | some (.inl ds, μ1) => match lcL tg tt te ds 0 (wipeF ρ vs) lk μ1 with
    | some (ys, μ2) => some (lcEnd ob ys μ2)
    | none => none
  | some (.inr c, μ1) => some (.ex c, μ1)
  | none => none
/-- a thing of our own that nobody knows: a list, a dict under way -/
structure Own (m : Im) (H : Hp) (D : Addr) (o : HO) : Prop where
  at_ : H D = some o
  io : ∀ n, m.io n ≠ some D
  fz : ¬ m.fz D
def isBox : HO → Bool
  | .lst _ => true
  | .dK _ => true
  | _ => false
section
variable {w : Wd} {m m' m0 : Im} {lk : Lk} {μ : Sto} {H H' H0 : Hp} {D : Addr} {o o' : HO}
theorem Own.new (rp : Rp w m H lk μ) (h : H D = none) : Own m (upd H D o) D o := ⟨upd_same, fun n z => rp.there n D z h, fun z => (rp.fz D z).1 h⟩
theorem Own.ext (w0 : Own m H D o) (ho : isBox o = true) (x : Ext m m' lk H H') : Own m' H' D o := by
  have hn : H D ≠ none := by rw [w0.at_]; simp
  refine ⟨x.kU D o w0.at_ w0.io (by cases o <;> first | rfl | cases ho), fun n z => (x.ioN n D z).elim (w0.io n) hn, fun z => (x.fzN D z).elim w0.fz hn⟩
theorem Own.put (w0 : Own m H D o) : Own m (upd H D o') D o' := ⟨upd_same, w0.io, w0.fz⟩
theorem own_wx (w0 : Own m H D o) (ho : isBox o = true) : Wx m m H (upd H D o') := by
  have ne : ∀ b v, H b = some v → isBox v = false → b ≠ D := fun b v e d z => by
    subst z
    rw [w0.at_] at e
    cases e
    rw [ho] at d
    cases d
  have fza : ∀ b, m.fz b → b ≠ D := fun b f z => w0.fz (by rw [← z]; exact f)
  exact ⟨fun _ _ e => e, fun _ e => e, fun b v f r => by unfold Rd at *; rw [upd_ne (fza b f)]; exact r, fun b xs e => by rw [upd_ne (ne b _ e rfl)]; exact e, fun b o v e _ => .inr ⟨o, by rw [upd_ne (ne b _ e rfl)]; exact e⟩, fun b φ e => by rw [upd_ne (ne b _ e rfl)]; exact e, fun b xs f e => by rw [upd_ne (fza b f)]; exact e, rfl⟩
theorem Own.rp (w0 : Own m H D o) (ho : isBox o = true) (rp : Rp w m H lk μ) : Rp w m (upd H D o') lk μ := by
  have ne : ∀ b v, H b = some v → isBox v = false → b ≠ D := fun b v e d z => by
    subst z
    rw [w0.at_] at e
    cases e
    rw [ho] at d
    cases d
  have ioa : ∀ n b, m.io n = some b → b ≠ D := fun n b e z => w0.io n (by rw [← z]; exact e)
  refine rp.re (own_wx w0 ho) (fun _ _ e => e) (fun n b e => upd_ne (ioa n b e)) (fun b f => ⟨?_, (rp.fz b f).2⟩) (fun b f ps => by rw [upd_ne fun z => w0.fz (by rw [← z]; exact f)]; exact rp.fzT b f ps) (fun b ps e => by rw [upd_ne (ne b _ e rfl)]; exact e) (fun b φ e => by rw [upd_ne (ne b _ e rfl)]; exact e)
  rw [upd_ne fun z => w0.fz (by rw [← z]; exact f)]
  exact (rp.fz b f).1
/-- from a state where it was not there -/
theorem Ext.own (x : Ext m0 m lk H0 H) (hn : H0 D = none) (w0 : Own m H D o) : Ext m0 m lk H0 (upd H D o') := by
  have ne : ∀ b v, H0 b = some v → b ≠ D := fun b v e z => by rw [z, hn] at e; cases e
  have ne' : ∀ b, H0 b ≠ none → b ≠ D := fun b e z => e (by rw [z]; exact hn)
  refine ⟨x.io, x.fz, fun b f => ?_, fun b xs e => by rw [upd_ne (ne b _ e)]; exact x.kT b xs e, fun n b h e => ?_, fun b o u e => by rw [upd_ne (ne b _ e)]; exact x.kZ b o u e, fun b φ e => by rw [upd_ne (ne b _ e)]; exact x.kE b φ e, fun b e => by rw [upd_ne (ne' b e)]; exact x.th b e, x.ioN, fun b u e h1 h2 => by rw [upd_ne (ne b _ e)]; exact x.kU b u e h1 h2, x.fzN, x.cs⟩
  · rw [upd_ne fun z => w0.fz (by rw [← z]; exact x.fz b f)]; exact x.kF b f
  · rw [upd_ne fun z => w0.io n (by rw [← z]; exact x.io n b e)]; exact x.kL n b h e
/-- it becomes an object of the store -/
theorem Own.obj {c : C} (w0 : Own m H D o) (rp : Rp w m H lk μ) (x : Ext m0 m lk H0 H) (hn : H0 D = none) (hc : RC w (m.obj μ.nx D) H o c) : Rp w (m.obj μ.nx D) H lk (μ.add c) ∧ Ext m0 (m.obj μ.nx D) lk H0 H := by
  have y : Wx m (m.obj μ.nx D) H H := wx_obj rp
  have iocase : ∀ n a, (m.obj μ.nx D).io n = some a → (n = μ.nx ∧ a = D) ∨ (m.io n = some a ∧ n ≠ μ.nx) := fun n a h => by
    have h : (if n = μ.nx then some D else m.io n) = some a := h
    by_cases e : n = μ.nx
    · rw [if_pos e] at h
      exact .inl ⟨e, (Option.some.inj h).symm⟩
    · rw [if_neg e] at h
      exact .inr ⟨h, e⟩
  refine ⟨⟨fun n c' h => ?_, fun n n' a h1 h2 => ?_, fun n a h => ?_, fun n a h => ?_, fun a h => ⟨(rp.fz a h).1, fun n z => ?_⟩, rp.tab, rp.tabq, fun n a h ps => ?_, rp.fzT⟩, ⟨fun n a e => y.io n a (x.io n a e), x.fz, x.kF, x.kT, x.kL, x.kZ, x.kE, x.th, fun n a e => (iocase n a e).elim (fun z => .inr (by rw [z.2]; exact hn)) fun z => x.ioN n a z.1, x.kU, x.fzN, x.cs⟩⟩
  · have h : (if n = μ.nx then some c else μ.ce n) = some c' := h
    by_cases e : n = μ.nx
    · rw [if_pos e] at h
      cases h
      rw [e]
      exact ⟨D, o, if_pos rfl, hc, .inl w0.at_⟩
    · rw [if_neg e] at h
      obtain ⟨a, u, h1, h2, h3⟩ := rp.cell n c' h
      exact ⟨a, u, y.io _ _ h1, h2.mono y, h3⟩
  · rcases iocase _ _ h1 with ⟨a1, b1⟩ | ⟨a1, b1⟩ <;> rcases iocase _ _ h2 with ⟨a2, b2⟩ | ⟨a2, b2⟩
    · rw [a1, a2]
    · exact absurd (b1 ▸ a2) (w0.io _)
    · exact absurd (b2 ▸ a1) (w0.io _)
    · exact rp.inj _ _ _ a1 a2
  · rcases iocase _ _ h with ⟨a1, b1⟩ | ⟨a1, b1⟩
    · rw [a1]; exact Nat.lt_succ_self _
    · exact Nat.lt_succ_of_lt (rp.nx _ _ a1)
  · rcases iocase _ _ h with ⟨a1, b1⟩ | ⟨a1, b1⟩
    · rw [b1, w0.at_]; simp
    · exact rp.there _ _ a1
  · rcases iocase _ _ z with ⟨a1, b1⟩ | ⟨a1, b1⟩
    · exact w0.fz (b1 ▸ h)
    · exact (rp.fz a h).2 n a1
  · rcases iocase _ _ h with ⟨a1, b1⟩ | ⟨a1, b1⟩
    · rw [b1, w0.at_]
      intro z
      cases z
      cases hc
    · exact rp.ioT _ _ a1 ps
/-- it is given away, nobody changes it -/
theorem Own.give (w0 : Own m H D o) (ho : isBox o = true) (rp : Rp w m H lk μ) (x : Ext m0 m lk H0 H) (hn : H0 D = none) : Rp w (m.frz D) H lk μ ∧ Ext m0 (m.frz D) lk H0 H := by
  refine ⟨rp.re (wx_frz _ _ _) (fun _ _ e => e) (fun _ _ _ => rfl) (fun a h => ?_) (fun a h ps => ?_) (fun _ _ e => e) (fun _ _ e => e), ⟨x.io, fun a e => .inl (x.fz a e), x.kF, x.kT, x.kL, x.kZ, x.kE, x.th, x.ioN, x.kU, fun a e => e.elim (x.fzN a) fun z => .inr (by rw [z]; exact hn), x.cs⟩⟩
  rcases h with h | h
  · exact rp.fz a h
  · subst h
    exact ⟨by rw [w0.at_]; simp, w0.io⟩
  · rcases h with h | h
    · exact rp.fzT a h ps
    · subst h
      rw [w0.at_]
      intro z
      cases z
      cases ho
end
section
variable {X : Cx} {w : Wd} {E : XK} {tg iter elt : Expr} {ifs : List Expr} {scope : Scope} {own : List (Str × Nat)} {fi : MI} {g : CG} {mt me : ME} {pos : Pos} {vs : List Nat}
theorem lc_imp {ob : Bool} {σ : L2.St} {H : Hp} {Q : VK} (h : tEz w E (lcE ob vs fi g mt me) σ H Q) : tLc (tIt w E fi) (tGc w vs g) (tQ w X0 mt) (tE w X0 me) vs σ H Q := by
  obtain ⟨z, m, ρ, lk, μ, rp, fr, zo, r, μ', e, q⟩ := h
  refine ⟨z, m, ρ, lk, μ, rp, fr, zo, ?_⟩
  unfold lcE at e
  cases e1 : fi z ρ lk μ with
  | none => rw [e1] at e; cases e
  | some p =>
    obtain ⟨ir, μ1⟩ := p
    rw [e1] at e
    cases ir with
    | inr c =>
      cases e
      exact ⟨.inr c, _, rfl, q⟩
    | inl ds =>
      refine ⟨.inl ds, μ1, rfl, fun J m1 H1 rp1 ex1 wk D hD => ?_⟩
      simp only at e
      cases e2 : lcL g mt me ds 0 (wipeF ρ vs) lk μ1 with
      | none => rw [e2] at e; cases e
      | some p2 =>
        obtain ⟨ys, μ2⟩ := p2
        rw [e2] at e
        simp only at e
        obtain ⟨rpD, exD⟩ := rp1.new (o := .lst []) hD
        have frW : FrR w m1 H1 (wipe σ vs) (wipeF ρ vs) := (fr.mono ex1.wx).wipe vs
        let N : Nat → Hp → Prop := fun i H => ∃ mi acc ads μi zs, Rp w mi H lk μi ∧ Ext m1 mi lk H1 H ∧ Own mi H D (.lst acc) ∧ RVs w mi H acc ads ∧ lcL g mt me (ds.drop i) acc.length (wipeF ρ vs) lk μi = some (zs, μ2) ∧ ads ++ zs = ys
        refine ⟨fun i k H => k = ds.length - i ∧ i ≤ ds.length ∧ N i H, ⟨ds.length, rfl, Nat.zero_le _, m1, [], [], μ1, ys, rpD, exD, Own.new rp1 hD, .nil, e2, rfl⟩, ?_⟩
        rintro i k H2 ⟨rfl, hi, mi, acc, ads, μi, zs, rpi, exi, owi, rvi, ei, hz⟩
        obtain ⟨w1, w2⟩ := wk i mi H2 μi rpi exi
        by_cases hlt : i < ds.length
        · obtain ⟨w3, w4⟩ := w2 ds[i] (List.getElem?_eq_getElem hlt)
          refine .inr ⟨w3, N (i + 1), fun H' n => ⟨ds.length - (i + 1), by omega, rfl, hlt, n⟩, fun x H' y => ?_⟩
          obtain ⟨m2, rp2, ex2, rx⟩ := w4 x H' y
          rw [drop_at hlt] at ei
          unfold lcL at ei
          cases e3 : g ds[i] (wipeF ρ vs) with
          | none => rw [e3] at ei; cases ei
          | some ρ2 =>
            simp only [e3] at ei
            refine ⟨ds[i], m2, wipeF ρ vs, lk, μi, ρ2, rp2, frW.mono (exi.trans ex2).wx, rx, e3, fun σ3 hw3 fr3 => ⟨hw3.trans (wipe_wipe σ vs), m2, ρ2, lk, μi, rp2, fr3, ?_⟩⟩
            cases e4 : mt ρ2 lk μi with
            | none => rw [e4] at ei; cases ei
            | some p4 =>
              obtain ⟨r4, μ4⟩ := p4
              rw [e4] at ei
              cases r4 with
              | ex c => cases ei
              | ok d4 =>
                refine ⟨.ok d4, μ4, e4, fun v4 m4 H4 rp4 ex4 rv4 => ?_⟩
                cases d4 <;> try (cases ei; done)
                rename_i t
                obtain rfl := rv_bl rv4
                refine ⟨t, rfl, ?_⟩
                cases t with
                | false =>
                  exact ⟨m4, acc, ads, μ4, zs, rp4, (exi.trans ex2).trans ex4, owi.ext rfl (ex2.trans ex4), rvi.mono (ex2.trans ex4).wx, ei, hz⟩
                | true =>
                  simp only at ei
                  show tE w X0 me σ3 H4 _
                  refine ⟨m4, ρ2, lk, μ4, rp4, fr3.mono ex4.wx, ?_⟩
                  cases e5 : me ρ2 lk μ4 with
                  | none => rw [e5] at ei; cases ei
                  | some p5 =>
                    obtain ⟨r5, μ5⟩ := p5
                    rw [e5] at ei
                    cases r5 with
                    | ex c => cases ei
                    | ok d5 =>
                      refine ⟨.ok d5, μ5, e5, fun v5 m5 H5 rp5 ex5 rv5 => ?_⟩
                      simp only at ei
                      split at ei
                      · rename_i hn
                        have ex25 := (ex2.trans ex4).trans ex5
                        have ow5 := owi.ext rfl ex25
                        cases e6 : lcL g mt me (ds.drop (i + 1)) (acc.length + 1) (wipeF ρ vs) lk μ5 with
                        | none => rw [e6] at ei; cases ei
                        | some p6 =>
                          obtain ⟨zs2, μ6⟩ := p6
                          rw [e6] at ei
                          cases ei
                          refine ⟨acc, ow5.at_, by rw [sizeLine_eq]; exact hn, m5, acc ++ [v5], ads ++ [d5], μ5, zs2, ow5.rp rfl rp5, (exi.trans ex25).own hD ow5, ow5.put, ?_, ?_, ?_⟩
                          · exact ((rvi.mono ex25.wx).append (.cons rv5 .nil)).mono (own_wx ow5 rfl)
                          · rw [List.length_append, List.length_singleton]; exact e6
                          · rw [List.append_assoc]; exact hz
                      · cases ei
        · have : i = ds.length := by omega
          rw [this, List.drop_length] at ei
          cases ei
          refine .inl ⟨w1 this, ?_⟩
          rw [List.append_nil] at hz
          subst hz
          cases ob with
          | false =>
            cases e
            obtain ⟨rpG, exG⟩ := owi.give rfl rpi exi hD
            exact q _ _ _ rpG (ex1.trans exG) (.lst (.inr rfl) owi.at_ (rvi.mono (wx_frz _ _ _)))
          | true =>
            cases e
            obtain ⟨rpG, exG⟩ := owi.obj rpi exi hD (c := .lst ads) (.lst (rvi.mono (wx_obj rpi)))
            exact q _ _ _ rpG (ex1.trans exG) (.obj (if_pos rfl))
theorem z_tests0 {Y : Cx} : PTs Y [] (tQ w X0 (retE (.bl true))) := ⟨fun pins s σ H Q I h => pts_nil.run pins s σ H Q I (by obtain ⟨k, e, q⟩ := retb_imp h; cases e; exact q)⟩
theorem z_tests1 {Y : Cx} {c : Expr} {f : ME} (h : PT Y c (tQ w X0 f)) : PTs Y [c] (tQ w X0 f) := pts_one h
theorem r_lc {ob : Bool} (hc : X.calm = true) (hN : X.N.Nodup) (hi : PI X tg iter (tIt w E fi)) (ok : BlkOk X.N X.env.scope scope own)
    (hg : ∀ (s : Shared) (H : Hp) (C : Addr) (cl : List (Str × Addr)) (fp : List Addr), PG (X.blk s H scope (compEnvC scope cl C X.env) fp) tg (tGc w (own.map (·.2)) g)) (ht : ∀ (s : Shared) (H : Hp) (C : Addr) (cl : List (Str × Addr)) (fp : List Addr), PTs (X.blk s H scope (compEnvC scope cl C X.env) fp) ifs (tQ w X0 mt))
    (he : ∀ (s : Shared) (H : Hp) (C : Addr) (cl : List (Str × Addr)) (fp : List Addr), PE (X.blk s H scope (compEnvC scope cl C X.env) fp) elt (tE w X0 me)) (hs : noSet iter = true) :
    PE X (.ListComp elt [⟨tg, iter, ifs, 0⟩] scope pos) (tEz w E (lcE ob (own.map (·.2)) fi g mt me)) :=
  pe_imp (pe_lc hc hN hi ok hg ht he (fold_ok hs)) fun _ _ _ h => lc_imp h
/-- name = [..] on one line -/
def setEz (i : Nat) (f : Option Nat → ME) : Option Nat → MS := fun z => setS i (f z)
theorem z_setLc {ob : Bool} {i : Nat} {y : Str} {py spos : Pos} (hc : X.calm = true) (hN : X.N.Nodup) (hy : X.N[i]? = some y) (hyl : X.env.scope.names.lookup y = some .local)
    (hsw : swapsWith (.ListComp elt [⟨tg, iter, ifs, 0⟩] scope pos) (some (.Name y py)) spos.line X.env = pure true) (hi : PI X tg iter (tIt w E fi)) (ok : BlkOk X.N X.env.scope scope own)
    (hg : ∀ (s : Shared) (H : Hp) (C : Addr) (cl : List (Str × Addr)) (fp : List Addr), PG (X.blk s H scope (compEnvC scope cl C X.env) fp) tg (tGc w (own.map (·.2)) g)) (ht : ∀ (s : Shared) (H : Hp) (C : Addr) (cl : List (Str × Addr)) (fp : List Addr), PTs (X.blk s H scope (compEnvC scope cl C X.env) fp) ifs (tQ w X0 mt))
    (he : ∀ (s : Shared) (H : Hp) (C : Addr) (cl : List (Str × Addr)) (fp : List Addr), PE (X.blk s H scope (compEnvC scope cl C X.env) fp) elt (tE w X0 me)) (hs : noSet iter = true) :
    PS X (.Assign [.Name y py] (.ListComp elt [⟨tg, iter, ifs, 0⟩] scope pos) spos) (tSz w E (setEz i (lcE ob (own.map (·.2)) fi g mt me))) :=
  ps_imp (ps_setLc hc hN hy hyl hsw hi ok hg ht he (fold_ok hs)) fun D σ H h => by
    obtain ⟨z, m, ρ, lk, μ, rp, fr, zo, h⟩ := h
    refine lc_imp ⟨z, m, ρ, lk, μ, rp, fr, zo, tK_mono (sK_expr h) ?_⟩
    rintro v H1 ⟨d, m1, μ1, rp1, ex1, rv, r, ρ', μ', e, q⟩
    cases e
    exact q _ m1 H1 rp1 (Ext.refl _ _ _) ((fr.mono ex1.wx).set i rv)
end
end MP

end
section
set_option Elab.async false
set_option linter.all false
set_option maxRecDepth 100000
set_option maxHeartbeats 2000000
/-! the mirror: generator expressions, dict comprehensions, methods of lists and dicts, raise -/
namespace MP
open PySem PyProof.Rows L2 GXP

/-! ### generator expressions -/
theorem tab_step {w : Wd} {m : Im} {H H2 : Hp} {lk : Lk} {μ : Sto} {P : Addr} (rp : Rp w m H lk μ) (hP : P ∈ w.tb) (hq : ∀ q ∈ w.tq, q.1 ≠ P) (hb : Tabbed P H H2) : Rp w m H2 lk μ ∧ Ext m m lk H H2 := by
  obtain ⟨ps, hp, _⟩ := rp.tab P hP
  have ne : ∀ b v, H b = some v → isTbl v = false → b ≠ P := fun b v e d z => by
    subst z
    rw [hp] at e
    cases e
    cases d
  have same : ∀ b v, H b = some v → isTbl v = false → H2 b = some v := fun b v e d => by rw [hb.2 b (ne b v e d)]; exact e
  have ion : ∀ n a, m.io n = some a → a ≠ P := fun n a e z => rp.ioT n a e ps (by rw [z]; exact hp)
  have fzn : ∀ a, m.fz a → a ≠ P := fun a e z => rp.fzT a e ps (by rw [z]; exact hp)
  have x : Wx m m H H2 := ⟨fun _ _ e => e, fun _ e => e, fun a u f r => by unfold Rd at *; rw [hb.2 a (fzn a f)]; exact r, fun a xs e => same a _ e rfl, fun a o u e _ => .inr ⟨o, same a _ e rfl⟩, fun a φ e => same a _ e rfl, fun a xs f e => by rw [hb.2 a (fzn a f)]; exact e, rfl⟩
  obtain ⟨ps2, hp2, ht2⟩ := hb.1
  refine ⟨⟨fun n c h => ?_, rp.inj, rp.nx, fun n a h => ?_, fun a h => ⟨?_, (rp.fz a h).2⟩, fun P' hP' => ?_, fun q hq' => ?_, fun n a h ps' => ?_, fun a h ps' => ?_⟩, ⟨fun _ _ e => e, fun _ e => e, fun a f => hb.2 a (fzn a f), fun a xs e => same a _ e rfl, fun n a _ h => hb.2 a (ion n a h), fun a o u e => same a _ e rfl, fun a φ e => same a _ e rfl, fun a h => ?_, fun _ _ e => .inl e, fun b u e _ d => same b u e d, fun _ e => .inl e, rfl⟩⟩
  · obtain ⟨a, u, h1, h2, h3⟩ := rp.cell n c h
    refine ⟨a, u, h1, h2.mono x, ?_⟩
    rw [hb.2 a (ion n a h1)]
    exact h3
  · rw [hb.2 a (ion n a h)]; exact rp.there n a h
  · rw [hb.2 a (fzn a h)]; exact (rp.fz a h).1
  · by_cases e : P' = P
    · subst e; exact ⟨ps2, hp2, ht2⟩
    · obtain ⟨ps', h1, h2⟩ := rp.tab P' hP'
      exact ⟨ps', by rw [hb.2 P' e]; exact h1, h2⟩
  · exact tabS_keep (rp.tabq q hq') (fun ps' e => by rw [hb.2 _ (hq q hq')]; exact e) fun a φ e => same a _ e rfl
  · rw [hb.2 a (ion n a h)]; exact rp.ioT n a h ps'
  · rw [hb.2 a (fzn a h)]; exact rp.fzT a h ps'
  · by_cases e : a = P
    · rw [e, hp2]; simp
    · rw [hb.2 a e]; exact h
theorem WalkOk.later {w : Wd} {m1 m2 : Im} {lk : Lk} {H1 H2 : Hp} {J : It} {ds : List D} (h : WalkOk w m1 lk H1 J ds) (x : Ext m1 m2 lk H1 H2) : WalkOk w m2 lk H2 J ds := fun i m H μ rp ex => h i m H μ rp (x.trans ex)
def gxL {β γ : Type} (tg : CG) (tt te : ME) (st : Sto → β → D → Option (Sum β γ)) : List D → β → Fr → Lk → Sto → Option (Sum β γ × Sto)
  | [], b, _, _, μ => some (.inl b, μ)
  | d :: r, b, ρ, lk, μ => match tg d ρ with
    | none => none
    | some ρ2 => match tt ρ2 lk μ with
      | some (.ok (.bl true), μ1) => match te ρ2 lk μ1 with
        | some (.ok y, μ2) => match st μ2 b y with
          | some (.inl b') => gxL tg tt te st r b' ρ lk μ2
          | some (.inr c) => some (.inr c, μ2)
          | none => none
        | _ => none
      | some (.ok (.bl false), μ1) => gxL tg tt te st r b ρ lk μ1
      | _ => none
section
variable {w : Wd} {α β γ : Type} {g : CG} {mt me : ME} {st : Sto → β → D → Option (Sum β γ)} {vs : List Nat} {sz : α → Nat} {a0 : α} {b0 : β} {item : Itm α} {fin : α → Hp → Prop} {rel : Im → Hp → α → β → Prop}
theorem zw_imp {σ : L2.St} {ρ : Fr} {m1 : Im} {lk : Lk} {H1 : Hp} {μ1 μf : Sto} {J : It} {ds : List D} {res : Sum β γ} (rp1 : Rp w m1 H1 lk μ1) (fr : FrR w m1 H1 σ ρ) (wk : WalkOk w m1 lk H1 J ds) (e2 : gxL g mt me st ds b0 (wipeF ρ vs) lk μ1 = some (res, μf))
    (r0 : rel m1 H1 a0 b0) (hmono : ∀ {m m' H H' a b}, Wx m m' H H' → rel m H a b → rel m' H' a b)
    (hstep : ∀ m H μ a b x y b', Rp w m H lk μ → rel m H a b → RV w m H x y → st μ b y = some (.inl b') → sz a < sizeLine ∧ ∀ Nc : α → Prop, (∀ a', rel m H a' b' → Nc a') → item a x H Nc)
    (hstop : ∀ m H μ a b x y c, Rp w m H lk μ → Ext m1 m lk H1 H → rel m H a b → RV w m H x y → st μ b y = some (.inr c) → res = .inr c → μ = μf → sz a < sizeLine ∧ ∀ Nc : α → Prop, item a x H Nc)
    (hfin : ∀ m H a b, res = .inl b → Rp w m H lk μf → Ext m1 m lk H1 H → rel m H a b → fin a H) : ZW (tGc w vs g) (tQ w X0 mt) (tE w X0 me) vs σ sz a0 item fin J H1 := by
  have frW : FrR w m1 H1 (wipe σ vs) (wipeF ρ vs) := fr.wipe vs
  let N : Nat → α → Hp → Prop := fun i a H => ∃ mi b μi, Rp w mi H lk μi ∧ Ext m1 mi lk H1 H ∧ rel mi H a b ∧ gxL g mt me st (ds.drop i) b (wipeF ρ vs) lk μi = some (res, μf)
  refine ⟨fun i k a H => k = ds.length - i ∧ i ≤ ds.length ∧ N i a H, ⟨ds.length, rfl, Nat.zero_le _, m1, b0, μ1, rp1, Ext.refl _ _ _, r0, e2⟩, ?_⟩
  rintro i k a H2 ⟨rfl, hi, mi, b, μi, rpi, exi, ri, ei⟩
  obtain ⟨w1, w2⟩ := wk i mi H2 μi rpi exi
  by_cases hlt : i < ds.length
  · obtain ⟨w3, w4⟩ := w2 ds[i] (List.getElem?_eq_getElem hlt)
    refine .inr ⟨w3, N (i + 1), fun a' H' n => ⟨ds.length - (i + 1), by omega, rfl, hlt, n⟩, fun x H' y => ?_⟩
    obtain ⟨m2, rp2, ex2, rx⟩ := w4 x H' y
    rw [drop_at hlt] at ei
    unfold gxL at ei
    cases e3 : g ds[i] (wipeF ρ vs) with
    | none => rw [e3] at ei; cases ei
    | some ρ2 =>
      simp only [e3] at ei
      refine ⟨ds[i], m2, wipeF ρ vs, lk, μi, ρ2, rp2, frW.mono (exi.trans ex2).wx, rx, e3, fun σ3 hw3 fr3 => ⟨hw3.trans (wipe_wipe σ vs), m2, ρ2, lk, μi, rp2, fr3, ?_⟩⟩
      cases e4 : mt ρ2 lk μi with
      | none => rw [e4] at ei; cases ei
      | some p4 =>
        obtain ⟨r4, μ4⟩ := p4
        rw [e4] at ei
        cases r4 with
        | ex c => cases ei
        | ok d4 =>
          refine ⟨.ok d4, μ4, e4, fun v4 m4 H4 rp4 ex4 rv4 => ?_⟩
          cases d4 <;> try (cases ei; done)
          rename_i t
          obtain rfl := rv_bl rv4
          refine ⟨t, rfl, ?_⟩
          cases t with
          | false => exact ⟨m4, b, μ4, rp4, (exi.trans ex2).trans ex4, hmono (ex2.trans ex4).wx ri, ei⟩
          | true =>
            simp only at ei
            show tE w X0 me σ3 H4 _
            refine ⟨m4, ρ2, lk, μ4, rp4, fr3.mono ex4.wx, ?_⟩
            cases e5 : me ρ2 lk μ4 with
            | none => rw [e5] at ei; cases ei
            | some p5 =>
              obtain ⟨r5, μ5⟩ := p5
              rw [e5] at ei
              cases r5 with
              | ex c => cases ei
              | ok d5 =>
                refine ⟨.ok d5, μ5, e5, fun v5 m5 H5 rp5 ex5 rv5 => ?_⟩
                simp only at ei
                have ex25 := (ex2.trans ex4).trans ex5
                have r5 := hmono ex25.wx ri
                cases e6 : st μ5 b d5 with
                | none => rw [e6] at ei; cases ei
                | some q6 =>
                  rw [e6] at ei
                  cases q6 with
                  | inr c =>
                    cases ei
                    obtain ⟨s1, s2⟩ := hstop m5 H5 _ a b v5 d5 c rp5 (exi.trans ex25) r5 rv5 e6 rfl rfl
                    exact ⟨s1, s2 _⟩
                  | inl b' =>
                    obtain ⟨s1, s2⟩ := hstep m5 H5 μ5 a b v5 d5 b' rp5 r5 rv5 e6
                    exact ⟨s1, s2 _ fun a' ra => ⟨m5, b', μ5, rp5, exi.trans ex25, ra, ei⟩⟩
  · have : i = ds.length := by omega
    rw [this, List.drop_length] at ei
    cases ei
    exact .inl ⟨w1 this, hfin mi H2 a b rfl rpi exi ri⟩
end
/-- a generator expression eaten: fn gives the end -/
def gxE {β γ : Type} (vs : List Nat) (fi : MI) (tg : CG) (tt te : ME) (st : Sto → β → D → Option (Sum β γ)) (b0 : β) (fn : Sto → Sum β γ → Option D) : Option Nat → ME := fun z ρ lk μ => match fi z ρ lk μ with
  | some (.inl ds, μ1) => match gxL tg tt te st ds b0 (wipeF ρ vs) lk μ1 with
    | some (r, μ2) => match fn μ2 r with
      | some d => some (.ok d, μ2)
      | none => none
    | none => none
  | some (.inr c, μ1) => some (.ex c, μ1)
  | none => none
theorem gx_imp {w : Wd} {E : XK} {P : Addr} {fi : MI} {β γ α : Type} {g : CG} {mt me : ME} {st : Sto → β → D → Option (Sum β γ)} {b0 : β} {fn : Sto → Sum β γ → Option D} {vs : List Nat} {sz : α → Nat} {a0 : α} {item : VK → Itm α} {fin : VK → α → Hp → Prop} (hP : P ∈ w.tb) (hq : ∀ q ∈ w.tq, q.1 ≠ P) {rel : Im → Hp → α → β → Prop}
    (r0 : ∀ m H, rel m H a0 b0) (hmono : ∀ {m m' H H' a b}, Wx m m' H H' → rel m H a b → rel m' H' a b)
    (hstep : ∀ m H lk μ a b x y b' Q, Rp w m H lk μ → rel m H a b → RV w m H x y → st μ b y = some (.inl b') → sz a < sizeLine ∧ ∀ Nc : α → Prop, (∀ a', rel m H a' b' → Nc a') → item Q a x H Nc)
    (hstop : ∀ m H lk μ a b x y c d Q, Rp w m H lk μ → rel m H a b → RV w m H x y → st μ b y = some (.inr c) → fn μ (.inr c) = some d → (∀ v m' H', Rp w m' H' lk μ → Ext m m' lk H H' → RV w m' H' v d → Q v H') → sz a < sizeLine ∧ ∀ Nc : α → Prop, item Q a x H Nc)
    (hfin : ∀ m H lk μ a b d Q, Rp w m H lk μ → rel m H a b → fn μ (.inl b) = some d → (∀ v m' H', Rp w m' H' lk μ → Ext m m' lk H H' → RV w m' H' v d → Q v H') → fin Q a H)
    {σ : L2.St} {H : Hp} {Q : VK} (h : tEz w E (gxE vs fi g mt me st b0 fn) σ H Q) : tGx P (tIt w E fi) (ZW (tGc w vs g) (tQ w X0 mt) (tE w X0 me) vs σ sz a0 (item Q) (fin Q)) σ H := by
  obtain ⟨z, m, ρ, lk, μ, rp, fr, zo, r, μ', e, q⟩ := h
  refine ⟨z, m, ρ, lk, μ, rp, fr, zo, ?_⟩
  unfold gxE at e
  cases e1 : fi z ρ lk μ with
  | none => rw [e1] at e; cases e
  | some p =>
    obtain ⟨ir, μ1⟩ := p
    rw [e1] at e
    cases ir with
    | inr c =>
      cases e
      exact ⟨.inr c, _, rfl, q⟩
    | inl ds =>
      refine ⟨.inl ds, μ1, rfl, fun J m1 H1 rp1 ex1 wk => ⟨rp1.tab P hP, fun H2 hb => ?_⟩⟩
      obtain ⟨rp2, ex2⟩ := tab_step rp1 hP hq hb
      simp only at e
      cases e2 : gxL g mt me st ds b0 (wipeF ρ vs) lk μ1 with
      | none => rw [e2] at e; cases e
      | some p2 =>
        obtain ⟨res, μ2⟩ := p2
        rw [e2] at e
        simp only at e
        cases e3 : fn μ2 res with
        | none => rw [e3] at e; cases e
        | some d =>
          rw [e3] at e
          cases e
          have ex12 := ex1.trans ex2
          refine zw_imp rp2 (fr.mono ex12.wx) (wk.later ex2) e2 (r0 _ _) hmono (fun m H μ a b x y b' rp ra rx hs => hstep m H lk μ a b x y b' Q rp ra rx hs) (fun m H μ a b x y c rp ex ra rx hs hr hμ => ?_) fun m H a b hr rp ex ra => ?_
          · subst hr hμ
            exact hstop m H lk _ a b x y c d Q rp ra rx hs e3 fun v m' H' a' b' c' => q v m' H' a' (ex12.trans (ex.trans b')) c'
          · subst hr
            exact hfin m H lk _ a b d Q rp ra e3 fun v m' H' a' b' c' => q v m' H' a' (ex12.trans (ex.trans b')) c'
/-! the consumers -/
def stAny (stop : Bool) : Sto → Nat → D → Option (Sum Nat Unit) := fun _ n d => match d with
  | .bl b => if n < 16777216 then (if b = stop then some (.inr ()) else some (.inl (n + 1))) else none
  | _ => none
def fnAny (stop : Bool) : Sto → Sum Nat Unit → Option D := fun _ r => match r with
  | .inl _ => some (.bl (!stop))
  | .inr _ => some (.bl stop)
def stAll : Sto → List D → D → Option (Sum (List D) Unit) := fun _ l d => if l.length < 16777216 then some (.inl (l ++ [d])) else none
def fnTup : Sto → Sum (List D) Unit → Option D := fun _ r => match r with
  | .inl l => some (.tup l)
  | .inr _ => none
def fnSrt : Sto → Sum (List D) Unit → Option D := fun μ r => match r with
  | .inl l => match mapO (snapD μ) l with
    | some ps => if srtOk ps then some (.lst (srtD l ps)) else none
    | none => none
  | .inr _ => none
def p63 : Int := 9223372036854775808
theorem p63_eq : p63 = 2 ^ 63 := by decide
def stSum : Sto → Nat × Int → D → Option (Sum (Nat × Int) Unit) := fun _ a d => match d with
  | .int j => if a.1 < 16777216 && (decide (-p63 ≤ j) && decide (j < p63)) && (decide (-p63 ≤ a.2 + j) && decide (a.2 + j < p63)) then some (.inl (a.1 + 1, a.2 + j)) else none
  | _ => none
def fnSum : Sto → Sum (Nat × Int) Unit → Option D := fun _ r => match r with
  | .inl a => some (.int a.2)
  | .inr _ => none
def stMM (mx : Bool) : Sto → Nat × Option D → D → Option (Sum (Nat × Option D) Unit) := fun μ a d => if a.1 < 16777216 then (match a.2 with
  | none => some (.inl (a.1 + 1, some d))
  | some e => match snapD μ d, snapD μ e with
    | some p, some q => if PySem.W.alike p q && notTN' p && decide (p.depth < 64) then some (.inl (a.1 + 1, some (if (if mx then PySem.W.dataLt q p else PySem.W.dataLt p q) = true then d else e))) else none
    | _, _ => none) else none
where notTN' : PyData → Bool
  | .none => false
  | _ => true
def fnMM : Sto → Sum (Nat × Option D) Unit → Option D := fun _ r => match r with
  | .inl a => a.2
  | .inr _ => none
section
variable {w : Wd} {E : XK} {P : Addr} {fi : MI} {g : CG} {mt me : ME} {vs : List Nat} (hP : P ∈ w.tb) (hq : ∀ q ∈ w.tq, q.1 ≠ P)
include hP hq
theorem gAny_imp {σ : L2.St} {H : Hp} {Q : VK} (h : tEz w E (gxE vs fi g mt me (stAny true) 0 (fnAny true)) σ H Q) : tGAny P (tIt w E fi) (tGc w vs g) (tQ w X0 mt) (tE w X0 me) vs σ H Q := by
  refine gx_imp (item := fun Q => itBool true (Q (.bl true))) (fin := fun Q _ H' => Q (.bl false) H') hP hq (rel := fun _ _ a b => a = b) (fun _ _ => rfl) (fun _ e => e) (fun m H lk μ a b x y b' Q rp ra rx hs => ?_) (fun m H lk μ a b x y c d Q rp ra rx hs hf k => ?_) (fun m H lk μ a b d Q rp ra hf k => ?_) h
  · subst ra
    unfold stAny at hs
    split at hs
    · rename_i t
      obtain rfl := rv_bl rx
      split at hs
      · rename_i hn
        split at hs
        · cases hs
        · rename_i ht
          cases hs
          exact ⟨by rw [sizeLine_eq]; exact hn, fun Nc hc => ⟨t, rfl, fun z => absurd z ht, fun _ => hc _ rfl⟩⟩
      · cases hs
    · cases hs
  · subst ra
    unfold stAny at hs
    split at hs
    · rename_i t
      obtain rfl := rv_bl rx
      split at hs
      · rename_i hn
        split at hs
        · rename_i ht
          cases hf
          exact ⟨by rw [sizeLine_eq]; exact hn, fun Nc => ⟨t, rfl, fun _ => k _ _ _ rp (Ext.refl _ _ _) (.bl _), fun z => absurd ht z⟩⟩
        · cases hs
      · cases hs
    · cases hs
  · cases hf
    exact k _ _ _ rp (Ext.refl _ _ _) (.bl _)
theorem gAll_imp {σ : L2.St} {H : Hp} {Q : VK} (h : tEz w E (gxE vs fi g mt me (stAny false) 0 (fnAny false)) σ H Q) : tGAll P (tIt w E fi) (tGc w vs g) (tQ w X0 mt) (tE w X0 me) vs σ H Q := by
  refine gx_imp (item := fun Q => itBool false (Q (.bl false))) (fin := fun Q _ H' => Q (.bl true) H') hP hq (rel := fun _ _ a b => a = b) (fun _ _ => rfl) (fun _ e => e) (fun m H lk μ a b x y b' Q rp ra rx hs => ?_) (fun m H lk μ a b x y c d Q rp ra rx hs hf k => ?_) (fun m H lk μ a b d Q rp ra hf k => ?_) h
  · subst ra
    unfold stAny at hs
    split at hs
    · rename_i t
      obtain rfl := rv_bl rx
      split at hs
      · rename_i hn
        split at hs
        · cases hs
        · rename_i ht
          cases hs
          exact ⟨by rw [sizeLine_eq]; exact hn, fun Nc hc => ⟨t, rfl, fun z => absurd z ht, fun _ => hc _ rfl⟩⟩
      · cases hs
    · cases hs
  · subst ra
    unfold stAny at hs
    split at hs
    · rename_i t
      obtain rfl := rv_bl rx
      split at hs
      · rename_i hn
        split at hs
        · rename_i ht
          cases hf
          exact ⟨by rw [sizeLine_eq]; exact hn, fun Nc => ⟨t, rfl, fun _ => k _ _ _ rp (Ext.refl _ _ _) (.bl _), fun z => absurd ht z⟩⟩
        · cases hs
      · cases hs
    · cases hs
  · cases hf
    exact k _ _ _ rp (Ext.refl _ _ _) (.bl _)
theorem gTup_imp {σ : L2.St} {H : Hp} {Q : VK} (h : tEz w E (gxE vs fi g mt me stAll [] fnTup) σ H Q) : tGTup P (tIt w E fi) (tGc w vs g) (tQ w X0 mt) (tE w X0 me) vs σ H Q := by
  refine gx_imp (item := fun _ => itAll) (fin := fun Q out H' => ∀ p, H' p = none → Q (.ref p) (upd H' p (.tup out))) hP hq (rel := fun m H a b => RVs w m H a b) (fun _ _ => .nil) (fun x e => e.mono x) (fun m H lk μ a b x y b' Q rp ra rx hs => ?_) (fun m H lk μ a b x y c d Q rp ra rx hs hf k => ?_) (fun m H lk μ a b d Q rp ra hf k => ?_) h
  · unfold stAll at hs
    split at hs
    · rename_i hn
      cases hs
      exact ⟨by rw [sizeLine_eq, ra.len]; exact hn, fun Nc hc => hc _ (ra.append (.cons rx .nil))⟩
    · cases hs
  · unfold stAll at hs
    split at hs <;> cases hs
  · cases hf
    intro p hp
    obtain ⟨rp', ex⟩ := rp.new (o := .tup a) hp
    exact k _ _ _ rp' ex (.tup upd_same (ra.mono ex.wx))
theorem gSrt_imp {σ : L2.St} {H : Hp} {Q : VK} (h : tEz w E (gxE vs fi g mt me stAll [] fnSrt) σ H Q) : tGSrt w.K P (tIt w E fi) (tGc w vs g) (tQ w X0 mt) (tE w X0 me) vs σ H Q := by
  refine gx_imp (item := fun _ => itAll) (fin := fun Q => finSort w.K Q) hP hq (rel := fun m H a b => RVs w m H a b) (fun _ _ => .nil) (fun x e => e.mono x) (fun m H lk μ a b x y b' Q rp ra rx hs => ?_) (fun m H lk μ a b x y c d Q rp ra rx hs hf k => ?_) (fun m H lk μ a b d Q rp ra hf k => ?_) h
  · unfold stAll at hs
    split at hs
    · rename_i hn
      cases hs
      exact ⟨by rw [sizeLine_eq, ra.len]; exact hn, fun Nc hc => hc _ (ra.append (.cons rx .nil))⟩
    · cases hs
  · unfold stAll at hs
    split at hs <;> cases hs
  · unfold fnSrt at hf
    cases e2 : mapO (snapD μ) b with
    | none => simp only [e2] at hf; cases hf
    | some ps =>
      simp only [e2] at hf
      obtain ⟨ho, rfl⟩ := ite_some hf
      obtain ⟨o1, o2, o3⟩ := srtOk_spec ho
      refine ⟨ps, snaps_of (fun r h => snap_of rp 12 r h) ra e2, o1, o2, o3, fun p hp => ?_⟩
      obtain ⟨rp', ex⟩ := rp.newF (o := .lst (GXP.srtV a ps)) hp
      exact k _ _ _ rp' ex (.lst (.inr rfl) upd_same ((zip3_sort ra (mapO_len e2)).mono ex.wx))
theorem gSum_imp {σ : L2.St} {H : Hp} {Q : VK} (h : tEz w E (gxE vs fi g mt me stSum (0, 0) fnSum) σ H Q) : tGSum P (tIt w E fi) (tGc w vs g) (tQ w X0 mt) (tE w X0 me) vs σ H Q := by
  refine gx_imp (item := fun _ => itSum) (fin := fun Q acc H' => Q (.int acc.2) H') hP hq (rel := fun _ _ a b => a = b) (fun _ _ => rfl) (fun _ e => e) (fun m H lk μ a b x y b' Q rp ra rx hs => ?_) (fun m H lk μ a b x y c d Q rp ra rx hs hf k => ?_) (fun m H lk μ a b d Q rp ra hf k => ?_) h
  · subst ra
    unfold stSum at hs
    split at hs
    · rename_i j
      obtain rfl := rv_int rx
      split at hs
      · rename_i hn
        cases hs
        simp only [Bool.and_eq_true, decide_eq_true_eq, p63_eq] at hn
        exact ⟨by rw [sizeLine_eq]; exact hn.1.1, fun Nc hc => ⟨j, rfl, hn.1.2, hn.2, hc _ rfl⟩⟩
      · cases hs
    · cases hs
  · unfold stSum at hs
    split at hs
    · split at hs <;> cases hs
    · cases hs
  · subst ra
    cases hf
    exact k _ _ _ rp (Ext.refl _ _ _) (.int _)
def relMM (w : Wd) : Im → Hp → Nat × Option V → Nat × Option D → Prop := fun m H a b => a.1 = b.1 ∧ relO w m H a.2 b.2
theorem relO_mono {m m' : Im} {H H' : Hp} {o : Option V} {o' : Option D} (x : Wx m m' H H') (h : relO w m H o o') : relO w m' H' o o' := by
  cases o <;> cases o' <;> first | exact h.elim | trivial | exact RV.mono x h
theorem stMM_step {mx : Bool} {m : Im} {H : Hp} {lk : Lk} {μ : Sto} {a : Nat × Option V} {b b' : Nat × Option D} {x : V} {y : D} (rp : Rp w m H lk μ) (ra : relMM w m H a b) (rx : RV w m H x y) (hs : stMM mx μ b y = some (.inl b')) : a.1 < sizeLine ∧ ∀ Nc : Nat × Option V → Prop, (∀ a', relMM w m H a' b' → Nc a') → itMM w.K mx a x H Nc := by
  obtain ⟨an, ao⟩ := a
  obtain ⟨bn, bo⟩ := b
  obtain ⟨r1, r2⟩ := ra
  simp only at r1 r2
  subst r1
  unfold stMM at hs
  split at hs
  · rename_i hn
    refine ⟨by rw [sizeLine_eq]; exact hn, fun Nc hc => ?_⟩
    cases bo with
    | none =>
      cases ao with
      | some v => exact r2.elim
      | none =>
        cases hs
        exact hc _ ⟨rfl, rx⟩
    | some e =>
      cases ao with
      | none => exact r2.elim
      | some v =>
        simp only at hs
        split at hs
        · rename_i p q e1 e2
          split at hs
          · rename_i hk
            cases hs
            simp only [Bool.and_eq_true, decide_eq_true_eq] at hk
            refine ⟨p, q, snap_of rp 12 rx e1, snap_of rp 12 r2 e2, hk.1.1, fun z => ?_, hk.2, hc _ ⟨rfl, ?_⟩⟩
            · subst z
              exact absurd hk.1.2 (by simp [stMM.notTN'])
            · have key : ∀ t : Bool, RV w m H (if t = true then x else v) (if t = true then y else e) := fun t => by
                cases t
                · exact r2
                · exact rx
              exact key _
          · cases hs
        · cases hs
  · cases hs
theorem gMM_imp (mx : Bool) {σ : L2.St} {H : Hp} {Q : VK} (h : tEz w E (gxE vs fi g mt me (stMM mx) (0, none) fnMM) σ H Q) : tGx P (tIt w E fi) (ZW (tGc w vs g) (tQ w X0 mt) (tE w X0 me) vs σ Prod.fst (0, none) (itMM w.K mx) fun acc H' => ∃ x, acc.2 = some x ∧ Q x H') σ H := by
  refine gx_imp (a0 := ((0, none) : Nat × Option V)) (b0 := ((0, none) : Nat × Option D)) (item := fun _ => itMM w.K mx) (fin := fun Q acc H' => ∃ x, acc.2 = some x ∧ Q x H') hP hq (rel := relMM w) (fun _ _ => ⟨rfl, True.intro⟩) (fun x e => ⟨e.1, relO_mono hP hq x e.2⟩) (fun m H lk μ a b x y b' Q rp ra rx hs => stMM_step hP hq rp ra rx hs) (fun m H lk μ a b x y c d Q rp ra rx hs hf k => by cases hf) (fun m H lk μ a b d Q rp ra hf k => ?_) h
  obtain ⟨an, ao⟩ := a
  obtain ⟨bn, bo⟩ := b
  cases bo with
  | none => cases hf
  | some e =>
    cases hf
    cases ao with
    | none => exact ra.2.elim
    | some v => exact ⟨v, rfl, k _ _ _ rp (Ext.refl _ _ _) ra.2⟩
end
/-- what a generator expression's parts have shown -/
abbrev GD (X : Cx) (w : Wd) (E : XK) (k : Nat) (elt tg iter : Expr) (ifs : List Expr) (scope : Scope) (own : List (Str × Nat)) (P : Addr) (fi : MI) (g : CG) (mt me : ME) : Prop := GDer X k elt tg iter ifs scope own P (tIt w E fi) (tGc w (own.map (·.2)) g) (tQ w X0 mt) (tE w X0 me)
section
variable {X : Cx} {w : Wd} {E : XK} {k : Nat} {tg iter elt : Expr} {ifs : List Expr} {scope : Scope} {own : List (Str × Nat)} {P : Addr} {fi : MI} {g : CG} {mt me : ME} {p pos gpos : Pos}
theorem r_gany (D : GD X w E k elt tg iter ifs scope own P fi g mt me) (hP : P ∈ w.tb) (hq : ∀ q ∈ w.tq, q.1 ≠ P) (hr : Room (k + 4) X.A) (hg : Gl X "any") (hm : X.mg "any" = none) : PE X (.Call (.Name "any" p) [.GeneratorExp elt [⟨tg, iter, ifs, 0⟩] scope gpos] [] pos) (tEz w E (gxE (own.map (·.2)) fi g mt me (stAny true) 0 (fnAny true))) :=
  pe_imp (pe_gany D hr hg hm) fun _ _ _ h => gAny_imp hP hq h
theorem r_gall (D : GD X w E k elt tg iter ifs scope own P fi g mt me) (hP : P ∈ w.tb) (hq : ∀ q ∈ w.tq, q.1 ≠ P) (hr : Room (k + 4) X.A) (hg : Gl X "all") (hm : X.mg "all" = none) (hb : bootBuiltins "all" = some (.builtin "all")) : PE X (.Call (.Name "all" p) [.GeneratorExp elt [⟨tg, iter, ifs, 0⟩] scope gpos] [] pos) (tEz w E (gxE (own.map (·.2)) fi g mt me (stAny false) 0 (fnAny false))) :=
  pe_imp (pe_gall D hr hg hm hb) fun _ _ _ h => gAll_imp hP hq h
theorem r_gtup (D : GD X w E k elt tg iter ifs scope own P fi g mt me) (hP : P ∈ w.tb) (hq : ∀ q ∈ w.tq, q.1 ≠ P) (hr : Room (k + 5) X.A) (hg : Gl X "tuple") (hm : X.mg "tuple" = none) (hb : bootBuiltins "tuple" = some (.type "tuple")) : PE X (.Call (.Name "tuple" p) [.GeneratorExp elt [⟨tg, iter, ifs, 0⟩] scope gpos] [] pos) (tEz w E (gxE (own.map (·.2)) fi g mt me stAll [] fnTup)) :=
  pe_imp (pe_gtup D hr hg hm hb) fun _ _ _ h => gTup_imp hP hq h
theorem r_gsrt (hK : X.K = w.K) (D : GD X w E k elt tg iter ifs scope own P fi g mt me) (hP : P ∈ w.tb) (hq : ∀ q ∈ w.tq, q.1 ≠ P) (hr : Room (k + 5) X.A) (hg : Gl X "sorted") (hm : X.mg "sorted" = none) (hb : bootBuiltins "sorted" = some (.builtin "sorted")) : PE X (.Call (.Name "sorted" p) [.GeneratorExp elt [⟨tg, iter, ifs, 0⟩] scope gpos] [] pos) (tEz w E (gxE (own.map (·.2)) fi g mt me stAll [] fnSrt)) :=
  pe_imp (pe_gsorted D hr hg hm hb) fun _ _ _ h => by rw [hK]; exact gSrt_imp hP hq h
theorem r_gsum (D : GD X w E k elt tg iter ifs scope own P fi g mt me) (hP : P ∈ w.tb) (hq : ∀ q ∈ w.tq, q.1 ≠ P) (hr : Room (k + 4) X.A) (hg : Gl X "sum") (hm : X.mg "sum" = none) (hb : bootBuiltins "sum" = some (.builtin "sum")) : PE X (.Call (.Name "sum" p) [.GeneratorExp elt [⟨tg, iter, ifs, 0⟩] scope gpos] [] pos) (tEz w E (gxE (own.map (·.2)) fi g mt me stSum (0, 0) fnSum)) :=
  pe_imp (pe_gsum D hr hg hm hb) fun _ _ _ h => gSum_imp hP hq h
theorem r_gmin (hK : X.K = w.K) (D : GD X w E k elt tg iter ifs scope own P fi g mt me) (hP : P ∈ w.tb) (hq : ∀ q ∈ w.tq, q.1 ≠ P) (hr : Room (k + 5) X.A) (hg : Gl X "min") (hm : X.mg "min" = none) (hb : bootBuiltins "min" = some (.builtin "min")) : PE X (.Call (.Name "min" p) [.GeneratorExp elt [⟨tg, iter, ifs, 0⟩] scope gpos] [] pos) (tEz w E (gxE (own.map (·.2)) fi g mt me (stMM false) (0, none) fnMM)) :=
  pe_imp (pe_gmin D hr hg hm hb) fun _ _ _ h => by rw [hK]; exact gMM_imp hP hq false h
theorem r_gmax (hK : X.K = w.K) (D : GD X w E k elt tg iter ifs scope own P fi g mt me) (hP : P ∈ w.tb) (hq : ∀ q ∈ w.tq, q.1 ≠ P) (hr : Room (k + 5) X.A) (hg : Gl X "max") (hm : X.mg "max" = none) (hb : bootBuiltins "max" = some (.builtin "max")) : PE X (.Call (.Name "max" p) [.GeneratorExp elt [⟨tg, iter, ifs, 0⟩] scope gpos] [] pos) (tEz w E (gxE (own.map (·.2)) fi g mt me (stMM true) (0, none) fnMM)) :=
  pe_imp (pe_gmax D hr hg hm hb) fun _ _ _ h => by rw [hK]; exact gMM_imp hP hq true h
end
end MP

end
section
set_option Elab.async false
set_option linter.all false
set_option maxRecDepth 100000
set_option maxHeartbeats 2000000
/-! the mirror: methods of lists and dicts, augmented assignments, raise, pairs of names -/
namespace MP
open PySem PyProof.Rows L2

/-! ### methods of built-in values -/
abbrev OpM := Lk → Sto → D → List D → Option (D × Sto)
def BmS (w : Wd) (r : V → List V → Hp → VK → Prop) (f : OpM) : Prop := ∀ m H lk μ x d xs ds q μ' Q, Rp w m H lk μ → RV w m H x d → RVs w m H xs ds → f lk μ d ds = some (q, μ') → (∀ v m' H', Rp w m' H' lk μ' → Ext m m' lk H H' → RV w m' H' v q → Q v H') → r x xs H Q
/-- what the receiver's type is -/
def tyD (T : String) (μ : Sto) (d : D) : Bool := match T with
  | "list" => (itL μ d).isSome
  | "str" => (match d with | .str _ => true | _ => false)
  | _ => false
theorem tyD_ok {w : Wd} {m : Im} {H : Hp} {lk : Lk} {μ : Sto} (rp : Rp w m H lk μ) {T : String} {x : V} {d : D} (r : RV w m H x d) (h : tyD T μ d = true) : tyV w.K T x H := by
  unfold tyD at h
  split at h
  · obtain ⟨l, e⟩ := Option.isSome_iff_exists.mp h
    obtain ⟨a, vs, rfl, h1, _⟩ := itL_rd rp r e
    exact .inl ⟨rfl, vs, h1⟩
  · split at h
    · obtain rfl := rv_str r
      rfl
    · cases h
  · cases h
def bmE (T : String) (f : OpM) (o : ME) (a : MA) : ME := bindE o fun d => fun ρ lk μ => if tyD T μ d then bindA a (fun ds => fun _ lk μ => match f lk μ d ds with
  | some (q, μ') => some (.ok q, μ')
  | none => none) ρ lk μ else none
section
variable {X : Cx} {w : Wd} {E : XK} {T id : String} {name : Str} {o e : Expr} {es : List Expr} {mo : ME} {ma : MA} {apos cpos : Pos} {r : V → List V → Hp → VK → Prop} {f : OpM}
theorem bm_imp (hK : X.K = w.K) (hs : BmS w r f) {σ : L2.St} {H : Hp} {Q : VK} (h : tE w E (bmE T f mo ma) σ H Q) : tBM X.K T r (tE w E mo) (tAr w E ma) σ H Q := by
  obtain ⟨m, ρ, lk, μ, rp, fr, h⟩ := h
  refine ⟨m, ρ, lk, μ, rp, fr, tK_mono (tK_bind h) ?_⟩
  rintro x H1 ⟨d, m1, μ1, rp1, ex1, rx, r1, μ', e, q⟩
  simp only at e
  split at e
  · rename_i hT
    refine ⟨by rw [hK]; exact tyD_ok rp1 rx hT, m1, ρ, lk, μ1, rp1, fr.mono ex1.wx, aK_mono (aK_bind ⟨r1, μ', e, q⟩) ?_⟩
    rintro vs H2 ⟨ds, m2, μ2, rp2, ex2, rv, r2, μ3, e2, q2⟩
    cases e3 : f lk μ2 d ds with
    | none => simp only [e3] at e2; cases e2
    | some p =>
      obtain ⟨q3, μ4⟩ := p
      simp only [e3] at e2
      cases e2
      exact hs m2 H2 lk μ2 x d vs ds q3 _ Q rp2 (rx.mono ex2.wx) rv e3 q2
  · cases e
theorem kw_nil {env : Env} {pos : Pos} : (backToKw pos (keywordEach [] env)).all (fun x => x.1.isSome) = true := rfl
theorem r_bm (hK : X.K = w.K) (pa : PlainAttrs T) (slot : Slot T name id) (hty : typeOf (.builtin id) = pure (.type "method_descriptor")) (hm : MtR X id r) (hs : BmS w r f) (ho : PE X o (tE w E mo)) (ha : PA X (e :: es) (tAr w E ma)) (hsup : notSup o = true)
    (hst : (e :: es).all noStar = true) (hl : decide ((e :: es).length < 30) = true) (hline : (apos.endLine == cpos.line) = true) : PE X (.Call (.Attribute o name apos) (e :: es) [] cpos) (tE w E (bmE T f mo ma)) := by
  have hst' := hst
  rw [List.all_cons, Bool.and_eq_true] at hst
  refine pe_imp (pe_bm pa slot hty hm ho ha (att_base hsup) ?_ hline (star_cons hst.1) (star_any hst.2)) fun _ _ _ h => bm_imp hK hs h
  rw [star_all hst', kw_nil]
  simpa using of_decide_eq_true hl
end
/-! append -/
def appN : OpM := fun lk μ d ds => match d, ds with
  | .obj n, [y] => if lk n then none else match lstOf (μ.ce n) with
    | some l => if l.length < 16777216 then some (.non, μ.put n (.lst (l ++ [y]))) else none
    | none => none
  | _, _ => none
theorem s_append {w : Wd} : BmS w rAppend appN := by
  intro m H lk μ x d xs ds q μ' Q rp rx rxs hq k
  unfold appN at hq
  split at hq
  · rename_i n y
    split at hq
    · cases hq
    · rename_i hl
      split at hq
      · rename_i l e1
        split at hq
        · rename_i hn
          cases hq
          cases rx with
          | obj ha =>
            obtain ⟨a, vs, h1, h2, h3⟩ := cell_lst rp (lstOf_some e1)
            rw [ha] at h1
            cases h1
            obtain ⟨z, rfl, rz⟩ := rvs_one rxs
            have hl' : lk n = false := by simpa using hl
            refine ⟨_, vs, z, rfl, rfl, h2, by rw [h3.len, sizeLine_eq]; exact hn, ?_⟩
            obtain ⟨rp', ex⟩ := rp.write (u' := .lst (vs ++ [z])) (c' := .lst (l ++ [y])) (lstOf_some e1) hl' ha h2 (.lst h3) (.lst (RVs.mono (wx_up rp hl' ha (lstOf_some e1) h2 (.lst h3)) (h3.append (.cons rz .nil))))
            exact k _ _ _ rp' ex .non
        · cases hq
      · cases hq
  · cases hq
/-! count, of flat values -/
def rCntF (K : PySem.W.Frag) : V → List V → Hp → VK → Prop := fun x xs H Q => ∃ (p : Addr) (vs : List V) (y : V), x = .ref p ∧ xs = [y] ∧ SqL K H p vs ∧ flatV y = true ∧ vs.all flatV = true ∧ Q (.int (vs.countP fun z => eqV z y : Nat)) H
theorem cnt_eqU {x : V} : ∀ {xs : List V} {us : List Value}, Vals xs us → xs.all flatV = true → us.countP (eqU x) = xs.countP fun y => eqV y x
  | _, _, .nil, _ => rfl
  | y :: xs, u :: us, .cons r t, f => by
    rw [List.all_cons, Bool.and_eq_true] at f
    rw [List.countP_cons, List.countP_cons, eqU_of r f.1, cnt_eqU t f.2]
theorem mt_count {X : Cx} : MtR X "list.count" (rCntF X.K) := by
  intro pins s σ H x xs v us Q I rx rxs h
  obtain ⟨p, vs, y, rfl, rfl, hs, fy, fs, q⟩ := h
  cases rx
  obtain ⟨u, rfl, ru⟩ := rxs.one
  obtain ⟨its, rv, ⟨⟨cls, dd, data, sl⟩, n, ho, hc, hdn, hd⟩, hlen⟩ := I.list hs
  simp only at hc hd
  subst hc hd
  refine call_meets PySem.F.slot_list_count ⟨_, ho, rfl⟩ PySem.F.entry_list_count (PySem.F.args_list_count_2 _ _)
    (SeqAt.list_countAt p its.toArray n dd sl u (eqU y)) ⟨ho, fun z hz => mem_eqAt ru fy rv fs z (by simpa using hz), ?_⟩
  refine ⟨.int (vs.countP fun z => eqV z y : Nat), H, I.tok _, ⟨s.toks, ?_⟩, q⟩
  show Value.int ((its.toArray.toList.countP (eqU y) : Nat) : Int) s.toks = _
  rw [show its.toArray.toList = its by simp, cnt_eqU rv fs]
def cntN : OpM := fun _ μ d ds => match itL μ d, ds with
  | some l, [y] => if flatD y && l.all flatD then some (.int (l.countP fun z => eqF z y : Nat), μ) else none
  | _, _ => none
theorem cnt_V {w : Wd} {m : Im} {H : Hp} {y : V} {e : D} (ry : RV w m H y e) (h2 : flatD e = true) : ∀ {vs : List V} {ds : List D}, RVs w m H vs ds → ds.all flatD = true → (vs.countP fun z => eqV z y) = ds.countP fun z => eqF z e
  | _, _, .nil, _ => rfl
  | _, _, .cons r t, h => by
    rw [List.all_cons, Bool.and_eq_true] at h
    rw [List.countP_cons, List.countP_cons, eqF_V r ry h.1 h2, cnt_V ry h2 t h.2]
theorem s_count {w : Wd} : BmS w (rCntF w.K) cntN := by
  intro m H lk μ x d xs ds q μ' Q rp rx rxs hq k
  unfold cntN at hq
  split at hq
  · rename_i l y e1
    split at hq
    · rename_i hf
      cases hq
      rw [Bool.and_eq_true] at hf
      obtain ⟨a, vs, rfl, h1, h2⟩ := itL_rd rp rx e1
      obtain ⟨z, rfl, rz⟩ := rvs_one rxs
      refine ⟨a, vs, z, rfl, rfl, h1, flat_V rz hf.1, all_flat h2 hf.2, ?_⟩
      rw [cnt_V rz hf.1 h2 hf.2]
      exact k _ _ _ rp (Ext.refl _ _ _) (.int _)
    · cases hq
  · cases hq
/-! get -/
def isDct (μ : Sto) (d : D) : Bool := (dctOf μ d).isSome
def get2E (o a b : ME) : ME := bindE o fun d => fun ρ lk μ => if isDct μ d then bindE a (fun y => bindE b fun z => liftE fun μ => match getD μ d y with
  | some (some v) => some v
  | some none => some z
  | none => none) ρ lk μ else none
def get1E (o a : ME) : ME := bindE o fun d => fun ρ lk μ => if isDct μ d then bindE a (fun y => liftE fun μ => match getD μ d y with
  | some (some v) => some v
  | some none => some .non
  | none => none) ρ lk μ else none
theorem isDct_rd {w : Wd} {m : Im} {H : Hp} {lk : Lk} {μ : Sto} (rp : Rp w m H lk μ) {x : V} {d : D} (r : RV w m H x d) (h : isDct μ d = true) : ∃ a, x = .ref a ∧ IsD H a := by
  obtain ⟨q, e⟩ := Option.isSome_iff_exists.mp h
  obtain ⟨t, l⟩ := q
  obtain ⟨a, rfl, hd⟩ := dctOf_rd rp r e
  refine ⟨a, rfl, ?_⟩
  cases t with
  | false => obtain ⟨kvs, h1, _⟩ := hd; exact .inl ⟨kvs, h1⟩
  | true => obtain ⟨kvs, h1, _⟩ := hd; exact .inr ⟨kvs, h1⟩
section
variable {X : Cx} {w : Wd} {E : XK} {o a b : Expr} {mo ma mb : ME} {apos cpos : Pos}
theorem m1_of {m : Str} (ho : notSup o = true) (ha : noStar a = true) (hline : (apos.endLine == cpos.line) = true) : M1 X o m apos a cpos :=
  ⟨att_base ho, by rw [star_cons ha]; rfl, hline, by rw [star_cons ha]; rfl⟩
theorem m2_of {m : Str} (ho : notSup o = true) (ha : noStar a = true) (hb : noStar b = true) (hline : (apos.endLine == cpos.line) = true) : M2 X o m apos a b cpos :=
  ⟨att_base ho, by rw [star_cons ha, star_cons hb]; rfl, hline, by rw [star_cons ha, star_cons hb]; rfl⟩
theorem r_get2 (hu : X.A.units + 70 < cLine) (ho : PE X o (tE w E mo)) (ha : PE X a (tE w E ma)) (hb : PE X b (tE w E mb)) (hs : notSup o = true) (h1 : noStar a = true) (h2 : noStar b = true) (hline : (apos.endLine == cpos.line) = true) : PE X (.Call (.Attribute o "get" apos) [a, b] [] cpos) (tE w E (get2E mo ma mb)) :=
  pe_imp (pe_dget2 (by omega) ho ha hb (m2_of hs h1 h2 hline)) fun σ H Q ⟨m, ρ, lk, μ, rp, fr, h⟩ => by
    refine ⟨m, ρ, lk, μ, rp, fr, tK_mono (tK_bind h) ?_⟩
    rintro x H1 ⟨d, m1, μ1, rp1, ex1, rx, r1, μ', e, q⟩
    simp only at e
    split at e
    · rename_i hd
      obtain ⟨p, rfl, hp⟩ := isDct_rd rp1 rx hd
      refine ⟨p, rfl, hp, m1, ρ, lk, μ1, rp1, fr.mono ex1.wx, tK_mono (tK_bind ⟨r1, μ', e, q⟩) ?_⟩
      rintro y H2 ⟨dy, m2, μ2, rp2, ex2, ry, h2⟩
      refine ⟨m2, ρ, lk, μ2, rp2, (fr.mono ex1.wx).mono ex2.wx, tK_mono (tK_bind h2) ?_⟩
      rintro z H3 ⟨dz, m3, μ3, rp3, ex3, rz, h3⟩
      obtain ⟨v, hv, k⟩ := tK_lift h3
      cases e1 : getD μ3 d dy with
      | none => simp only [e1] at hv; cases hv
      | some ov =>
        simp only [e1] at hv
        obtain ⟨p', ov', e2, g, ro⟩ := getD_rd rp3 (rx.mono (ex2.trans ex3).wx) (ry.mono ex3.wx) e1
        cases e2
        refine ⟨ov', g, ?_⟩
        cases ov with
        | none =>
          cases hv
          cases ov' with
          | none => exact k _ _ _ rp3 (Ext.refl _ _ _) rz
          | some _ => exact ro.elim
        | some v1 =>
          cases hv
          cases ov' with
          | none => exact ro.elim
          | some v2 => exact k _ _ _ rp3 (Ext.refl _ _ _) ro
    · cases e
theorem r_get1 (hu : X.A.units + 70 < cLine) (ho : PE X o (tE w E mo)) (ha : PE X a (tE w E ma)) (hs : notSup o = true) (h1 : noStar a = true) (hline : (apos.endLine == cpos.line) = true) : PE X (.Call (.Attribute o "get" apos) [a] [] cpos) (tE w E (get1E mo ma)) :=
  pe_imp (pe_dget1 (by omega) ho ha (m1_of hs h1 hline)) fun σ H Q ⟨m, ρ, lk, μ, rp, fr, h⟩ => by
    refine ⟨m, ρ, lk, μ, rp, fr, tK_mono (tK_bind h) ?_⟩
    rintro x H1 ⟨d, m1, μ1, rp1, ex1, rx, r1, μ', e, q⟩
    simp only at e
    split at e
    · rename_i hd
      obtain ⟨p, rfl, hp⟩ := isDct_rd rp1 rx hd
      refine ⟨p, rfl, hp, m1, ρ, lk, μ1, rp1, fr.mono ex1.wx, tK_mono (tK_bind ⟨r1, μ', e, q⟩) ?_⟩
      rintro y H2 ⟨dy, m2, μ2, rp2, ex2, ry, h2⟩
      obtain ⟨v, hv, k⟩ := tK_lift h2
      cases e1 : getD μ2 d dy with
      | none => simp only [e1] at hv; cases hv
      | some ov =>
        simp only [e1] at hv
        obtain ⟨p', ov', e2, g, ro⟩ := getD_rd rp2 (rx.mono ex2.wx) ry e1
        cases e2
        refine ⟨ov', g, ?_⟩
        cases ov with
        | none =>
          cases hv
          cases ov' with
          | none => exact k _ _ _ rp2 (Ext.refl _ _ _) .non
          | some _ => exact ro.elim
        | some v1 =>
          cases hv
          cases ov' with
          | none => exact ro.elim
          | some v2 => exact k _ _ _ rp2 (Ext.refl _ _ _) ro
    · cases e
end

/-! ### raise -/
def exS (c : Nat) : MS := fun ρ _ μ => some (.ex c, ρ, μ)
theorem z_raise {X : Cx} {w : Wd} {E : XK} {e : Expr} {pos : Pos} {c : Nat} (hc : X.calm = true) (tk : Takes X fun cls d _ H => E cls d H) (he : PMk X e fun _ H Q => Q (.ref (w.ca c)) none H) : PS X (.Raise (some e) none pos) (tS w E (exS c)) :=
  ps_imp (ps_raise hc tk he) fun D σ H ⟨m, ρ, lk, μ, rp, fr, r, ρ', μ', e, q⟩ => by
    cases e
    exact q m H rp (Ext.refl _ _ _)

/-! ### two names at once -/
def parS (i j : Nat) (a : MA) : MS := fun ρ lk μ => match a ρ lk μ with
  | some (.inl [x, y], μ1) => some (.nx, (ρ.set i (some x)).set j (some y), μ1)
  | some (.inr c, μ1) => some (.ex c, ρ, μ1)
  | _ => none
theorem z_par {X : Cx} {w : Wd} {E : XK} {i j : Nat} {x y : Str} {a b : Expr} {ma : MA} {px py pt pos : Pos} {kt k2 pt2} (hc : X.calm = true) (hN : X.N.Nodup) (hi : X.N[i]? = some x) (hj : X.N[j]? = some y) (hij : i ≠ j)
    (hx : X.env.scope.names.lookup x = some .local) (hy : X.env.scope.names.lookup y = some .local) (ha : PA X [a, b] (tAr w E ma))
    (hw : swappedStores [.Tuple [.Name x px, .Name y py] kt pt] (.Tuple [a, b] k2 pt2) X.env = pure (some [x, y])) : PS X (.Assign [.Tuple [.Name x px, .Name y py] kt pt] (.Tuple [a, b] k2 pt2) pos) (tS w E (parS i j ma)) :=
  ps_imp (ps_par hc hN hi hj hij hx hy ha hw (by rfl)) fun D σ H ⟨m, ρ, lk, μ, rp, fr, r, ρ', μ', e, q⟩ => by
    refine ⟨m, ρ, lk, μ, rp, fr, ?_⟩
    unfold parS at e
    split at e
    · rename_i d1 d2 μ1 e1
      cases e
      refine ⟨_, _, e1, fun vs m1 H1 rp1 ex1 rv => ?_⟩
      obtain ⟨u, v, rfl, r1, r2⟩ := rvs_two rv
      exact ⟨u, v, rfl, q _ m1 H1 rp1 ex1 (((fr.mono ex1.wx).set i r1).set j r2)⟩
    · rename_i c μ1 e1
      cases e
      exact ⟨_, _, e1, q⟩
    · cases e

/-! ### augmented -/
def augOk : Operator → Option Op2
  | .Add => some (orOp iAdd sAdd)
  | .Sub => some iSub
  | .Mult => some iMul
  | _ => none
theorem aug_ok {X : Cx} {w : Wd} {op : Operator} {f : Op2} (h : augOk op = some f) : ∃ r, OpR X (inplaceOp op) r ∧ OpS w r f := by
  cases op <;> cases h
  · exact ⟨_, iop_add.or iop_add_str, s_iAdd.or s_sAdd⟩
  · exact ⟨_, iop_sub, s_iSub⟩
  · exact ⟨_, iop_mul, s_iMul⟩
/-- x op= e -/
def augS (i : Nat) (f : Op2) (a : ME) : MS := fun ρ lk μ => match getS ρ[i]? with
  | some d => exprS a (fun y => fun ρ lk μ => match f μ d y with
    | some z => some (.nx, ρ.set i (some z), μ)
    | none => none) ρ lk μ
  | none => none
theorem z_aug {X : Cx} {w : Wd} {E : XK} {i : Nat} {x : Str} {e : Expr} {me : ME} {op : Operator} {f : Op2} {p pos : Pos} (hN : X.N.Nodup) (hi : X.N[i]? = some x) (hx : Loc X.env.scope x) (he : PE X e (tE w E me)) (hf : X.fn x = true ∨ X.env.scope.names.lookup x = some .local) (ho : augOk op = some f) : PS X (.AugAssign (.Name x p) op e pos) (tS w E (augS i f me)) := by
  obtain ⟨r, hr, hs⟩ := aug_ok (X := X) (w := w) ho
  refine ps_imp (ps_aug hN hi hx he (ti := r) hr hf) fun D σ H ⟨m, ρ, lk, μ, rp, fr, r1, ρ', μ', e, q⟩ => ?_
  unfold augS at e
  cases e1 : getS ρ[i]? with
  | none => rw [e1] at e; cases e
  | some d =>
    rw [e1] at e
    obtain ⟨v, h1, h2⟩ := fr.get i d (getS_some e1)
    refine ⟨v, h1, m, ρ, lk, μ, rp, fr, tK_mono (sK_expr ⟨r1, ρ', μ', e, q⟩) ?_⟩
    rintro y H1 ⟨dy, m1, μ1, rp1, ex1, ry, r2, ρ2, μ2, e2, q2⟩
    cases e3 : f μ1 d dy with
    | none => simp only [e3] at e2; cases e2
    | some z =>
      simp only [e3] at e2
      cases e2
      exact hs m1 H1 lk μ1 v y d dy z _ rp1 (h2.mono ex1.wx) ry e3 fun u m2 H2 rp2 ex2 ru => q2 _ m2 H2 rp2 ex2 (((fr.mono ex1.wx).mono ex2.wx).set i ru)
/-- o.f op= e -/
def augF (cf : Nat → Bool) (i : Nat) (f : Op2) (o a : ME) : MS := exprS o fun x => fun ρ lk μ => match insOf μ x with
  | some (c, l) => if cf c then (match lookF l i with
    | some d => exprS a (fun y => fun ρ lk μ => match f μ d y with
      | some z => (match x with
        | .obj n => (match insC (μ.ce n) with
          | some (c2, fs) => if decide (c2 = c) && !lk n && decide (fs.length < 1000) then some (.nx, ρ, μ.put n (.ins c (putFD fs i z))) else none
          | none => none)
        | _ => none)
      | none => none) ρ lk μ
    | none => none) else none
  | none => none
theorem z_augF {X : Cx} {w : Wd} {E : XK} {cf : Nat → Bool} {i : Nat} {o e : Expr} {mo me : ME} {op : Operator} {f : Op2} {fn : Str} {p pos : Pos} (W : Wok w) (hK : X.K = w.K) (hf : FldOk w cf i) (ef : w.fn i = fn) (ho : PE X o (tE w E mo)) (he : PE X e (tE w E me)) (hop : augOk op = some f) : PS X (.AugAssign (.Attribute o fn p) op e pos) (tS w E (augF cf i f mo me)) := by
  subst ef
  obtain ⟨r, hr, hs⟩ := aug_ok (X := X) (w := w) hop
  refine ps_imp (ps_fldaug (rd := r) ho he (fun pins s σ H x y u v Q I rx ry h => hr pins s σ H x y u v Q I rx ry h)) fun D σ H h => tE_mono (expr_imp h) fun x H1 ⟨dx, m1, ρ, lk, μ1, rp1, fr1, rx, r1, ρ', μ', e, q⟩ => ?_
  cases e2 : insOf μ1 dx with
  | none => simp only [e2] at e; cases e
  | some pr0 =>
    obtain ⟨c, l⟩ := pr0
    simp only [e2] at e
    split at e
    · rename_i hc
      cases e3 : lookF l i with
      | none => simp only [e3] at e; cases e
      | some d =>
        simp only [e3] at e
        obtain ⟨n, a, dxx, fs, rfl, rfl, h1, h2, h3, h4⟩ := insOf_rd rp1 rx e2
        obtain ⟨v, h5, h6⟩ := lookF_rd W hf.1 h4 e3
        refine ⟨a, _, dxx, fs, v, rfl, h3, hK ▸ (hf.2 c hc).1, hK ▸ (hf.2 c hc).2, h5, m1, ρ, lk, μ1, rp1, fr1, tK_mono (sK_expr ⟨r1, ρ', μ', e, q⟩) ?_⟩
        rintro y H2 ⟨dy, m2, μ2, rp2, ex2, ry, r2, ρ2, μ3, e4, q2⟩
        cases e5 : f μ2 d dy with
        | none => simp only [e5] at e4; cases e4
        | some z =>
          simp only [e5] at e4
          refine hs m2 H2 lk μ2 v y d dy z _ rp2 (h6.mono ex2.wx) ry e5 fun u m3 H3 rp3 ex3 ru => ?_
          cases e6 : insC (μ2.ce n) with
          | none => simp only [e6] at e4; cases e4
          | some pr =>
            obtain ⟨c2, l2⟩ := pr
            simp only [e6] at e4
            split at e4
            · rename_i hk
              cases e4
              simp only [Bool.and_eq_true, decide_eq_true_eq, Bool.not_eq_true'] at hk
              obtain ⟨⟨rfl, hlk⟩, hlen⟩ := hk
              have hio := ex3.io _ _ (ex2.io _ _ h1)
              obtain ⟨n', a', dx', fs', e7, e8, g1, g2, g3, g4⟩ := insOf_rd (x := .ref a) (d := .obj n) rp3 (.obj hio) e6
              cases e7
              cases e8
              obtain ⟨rp', ex⟩ := rp3.write (u' := .ins (w.ca c2) dx' (putF (w.fn i) u fs')) (c' := .ins c2 (putFD l2 i z)) g2 hlk g1 g3 (.ins g4) (.ins (RFs.mono (wx_up rp3 hlk g1 g2 g3 (.ins g4)) (putF_rd W hf.1 ru g4)))
              exact ⟨dx', fs', g3, by rw [g4.len]; exact hlen, q2 _ _ _ rp' (ex3.trans ex) ((fr1.mono (ex2.trans ex3).wx).mono ex.wx)⟩
            · cases e4
    · cases e
/-! ### dict comprehensions -/
def dcL (tg : CG) (tt tk tv : ME) : List D → List (D × D) → Fr → Lk → Sto → Option (List (D × D) × Sto)
  | [], acc, _, _, μ => some (acc, μ)
  | d :: r, acc, ρ, lk, μ => match tg d ρ with
    | none => none
    | some ρ2 => match tt ρ2 lk μ with
      | some (.ok (.bl true), μ1) => match tk ρ2 lk μ1 with
        | some (.ok y, μ2) => match tv ρ2 lk μ2 with
          | some (.ok z, μ3) => if (toKey y).isSome && decide (acc.length < 16777216) then dcL tg tt tk tv r (putD acc y z) ρ lk μ3 else none
          | _ => none
        | _ => none
      | some (.ok (.bl false), μ1) => dcL tg tt tk tv r acc ρ lk μ1
      | _ => none
def dcEnd (ob : Bool) (l : List (D × D)) (μ : Sto) : R × Sto := if ob then (.ok (.obj μ.nx), μ.add (.dct false l)) else (.ok (.dct false l), μ)
def dcE (ob : Bool) (vs : List Nat) (fi : MI) (tg : CG) (tt tk tv : ME) : Option Nat → ME := fun z ρ lk μ => match fi z ρ lk μ with
  | some (.inl ds, μ1) => match dcL tg tt tk tv ds [] (wipeF ρ vs) lk μ1 with
    | some (l, μ2) => some (dcEnd ob l μ2)
    | none => none
  | some (.inr c, μ1) => some (.ex c, μ1)
  | none => none
section
variable {X : Cx} {w : Wd} {E : XK} {tg iter kx vx : Expr} {ifs : List Expr} {scope : Scope} {own : List (Str × Nat)} {fi : MI} {g : CG} {mt mk mv : ME} {pos : Pos} {vs : List Nat}
theorem dc_imp {ob : Bool} {σ : L2.St} {H : Hp} {Q : VK} (h : tEz w E (dcE ob vs fi g mt mk mv) σ H Q) : tDc (tIt w E fi) (tGc w vs g) (tQ w X0 mt) (tE w X0 mk) (tE w X0 mv) vs σ H Q := by
  obtain ⟨z, m, ρ, lk, μ, rp, fr, zo, r, μ', e, q⟩ := h
  refine ⟨z, m, ρ, lk, μ, rp, fr, zo, ?_⟩
  unfold dcE at e
  cases e1 : fi z ρ lk μ with
  | none => rw [e1] at e; cases e
  | some p =>
    obtain ⟨ir, μ1⟩ := p
    rw [e1] at e
    cases ir with
    | inr c =>
      cases e
      exact ⟨.inr c, _, rfl, q⟩
    | inl ds =>
      refine ⟨.inl ds, μ1, rfl, fun J m1 H1 rp1 ex1 wk D hD => ?_⟩
      simp only at e
      cases e2 : dcL g mt mk mv ds [] (wipeF ρ vs) lk μ1 with
      | none => rw [e2] at e; cases e
      | some p2 =>
        obtain ⟨ys, μ2⟩ := p2
        rw [e2] at e
        simp only at e
        obtain ⟨rpD, exD⟩ := rp1.new (o := .dK []) hD
        have frW : FrR w m1 H1 (wipe σ vs) (wipeF ρ vs) := (fr.mono ex1.wx).wipe vs
        let N : Nat → Hp → Prop := fun i H => ∃ mi acc ads μi, Rp w mi H lk μi ∧ Ext m1 mi lk H1 H ∧ Own mi H D (.dK acc) ∧ RKs w mi H acc ads ∧ dcL g mt mk mv (ds.drop i) ads (wipeF ρ vs) lk μi = some (ys, μ2)
        refine ⟨fun i k H => k = ds.length - i ∧ i ≤ ds.length ∧ N i H, ⟨ds.length, rfl, Nat.zero_le _, m1, [], [], μ1, rpD, exD, Own.new rp1 hD, .nil, e2⟩, ?_⟩
        rintro i k H2 ⟨rfl, hi, mi, acc, ads, μi, rpi, exi, owi, rvi, ei⟩
        obtain ⟨w1, w2⟩ := wk i mi H2 μi rpi exi
        by_cases hlt : i < ds.length
        · obtain ⟨w3, w4⟩ := w2 ds[i] (List.getElem?_eq_getElem hlt)
          refine .inr ⟨w3, N (i + 1), fun H' n => ⟨ds.length - (i + 1), by omega, rfl, hlt, n⟩, fun x H' y => ?_⟩
          obtain ⟨m2, rp2, ex2, rx⟩ := w4 x H' y
          rw [drop_at hlt] at ei
          unfold dcL at ei
          cases e3 : g ds[i] (wipeF ρ vs) with
          | none => rw [e3] at ei; cases ei
          | some ρ2 =>
            simp only [e3] at ei
            refine ⟨ds[i], m2, wipeF ρ vs, lk, μi, ρ2, rp2, frW.mono (exi.trans ex2).wx, rx, e3, fun σ3 hw3 fr3 => ⟨hw3.trans (wipe_wipe σ vs), m2, ρ2, lk, μi, rp2, fr3, ?_⟩⟩
            cases e4 : mt ρ2 lk μi with
            | none => rw [e4] at ei; cases ei
            | some p4 =>
              obtain ⟨r4, μ4⟩ := p4
              rw [e4] at ei
              cases r4 with
              | ex c => cases ei
              | ok d4 =>
                refine ⟨.ok d4, μ4, e4, fun v4 m4 H4 rp4 ex4 rv4 => ?_⟩
                cases d4 <;> try (cases ei; done)
                rename_i t
                obtain rfl := rv_bl rv4
                refine ⟨t, rfl, ?_⟩
                cases t with
                | false => exact ⟨m4, acc, ads, μ4, rp4, (exi.trans ex2).trans ex4, owi.ext rfl (ex2.trans ex4), rvi.mono (ex2.trans ex4).wx, ei⟩
                | true =>
                  simp only at ei
                  show tE w X0 mk σ3 H4 _
                  refine ⟨m4, ρ2, lk, μ4, rp4, fr3.mono ex4.wx, ?_⟩
                  cases e5 : mk ρ2 lk μ4 with
                  | none => rw [e5] at ei; cases ei
                  | some p5 =>
                    obtain ⟨r5, μ5⟩ := p5
                    rw [e5] at ei
                    cases r5 with
                    | ex c => cases ei
                    | ok d5 =>
                      refine ⟨.ok d5, μ5, e5, fun v5 m5 H5 rp5 ex5 rv5 => ⟨m5, ρ2, lk, μ5, rp5, (fr3.mono ex4.wx).mono ex5.wx, ?_⟩⟩
                      simp only at ei
                      cases e6 : mv ρ2 lk μ5 with
                      | none => rw [e6] at ei; cases ei
                      | some p6 =>
                        obtain ⟨r6, μ6⟩ := p6
                        rw [e6] at ei
                        cases r6 with
                        | ex c => cases ei
                        | ok d6 =>
                          refine ⟨.ok d6, μ6, e6, fun v6 m6 H6 rp6 ex6 rv6 => ?_⟩
                          simp only at ei
                          split at ei
                          · rename_i hn
                            rw [Bool.and_eq_true, decide_eq_true_eq] at hn
                            obtain ⟨kk, hkk⟩ := Option.isSome_iff_exists.mp hn.1
                            have := toKey_some hkk
                            subst this
                            have ex26 := ((ex2.trans ex4).trans ex5).trans ex6
                            have ow6 := owi.ext rfl ex26
                            refine ⟨acc, kk, rv_key rv5, ow6.at_, by rw [(rvi).len, sizeLine_eq]; exact hn.2, m6, putK acc kk v6, _, μ6, ow6.rp rfl rp6, (exi.trans ex26).own hD ow6, ow6.put, ?_, ei⟩
                            exact (putK_rel (rvi.mono ex26.wx) rv6).mono (own_wx ow6 rfl)
                          · cases ei
        · have : i = ds.length := by omega
          rw [this, List.drop_length] at ei
          cases ei
          refine .inl ⟨w1 this, ?_⟩
          cases ob with
          | false =>
            cases e
            obtain ⟨rpG, exG⟩ := owi.give rfl rpi exi hD
            exact q _ _ _ rpG (ex1.trans exG) (.dK (.inr rfl) (.inl owi.at_) (rvi.mono (wx_frz _ _ _)))
          | true =>
            cases e
            obtain ⟨rpG, exG⟩ := owi.obj rpi exi hD (c := .dct false _) (.dK (rvi.mono (wx_obj rpi)))
            exact q _ _ _ rpG (ex1.trans exG) (.obj (if_pos rfl))
theorem r_dc {ob : Bool} (hc : X.calm = true) (hN : X.N.Nodup) (hi : PI X tg iter (tIt w E fi)) (ok : BlkOk X.N X.env.scope scope own)
    (hg : ∀ (s : Shared) (H : Hp) (C : Addr) (cl : List (Str × Addr)) (fp : List Addr), PG (X.blk s H scope (compEnvC scope cl C X.env) fp) tg (tGc w (own.map (·.2)) g)) (ht : ∀ (s : Shared) (H : Hp) (C : Addr) (cl : List (Str × Addr)) (fp : List Addr), PTs (X.blk s H scope (compEnvC scope cl C X.env) fp) ifs (tQ w X0 mt))
    (hk : ∀ (s : Shared) (H : Hp) (C : Addr) (cl : List (Str × Addr)) (fp : List Addr), PE (X.blk s H scope (compEnvC scope cl C X.env) fp) kx (tE w X0 mk)) (hv : ∀ (s : Shared) (H : Hp) (C : Addr) (cl : List (Str × Addr)) (fp : List Addr), PE (X.blk s H scope (compEnvC scope cl C X.env) fp) vx (tE w X0 mv)) (hs : noSet iter = true) :
    PE X (.DictComp kx vx [⟨tg, iter, ifs, 0⟩] scope pos) (tEz w E (dcE ob (own.map (·.2)) fi g mt mk mv)) :=
  pe_imp (pe_dc hc hN hi ok hg ht hk hv (fold_ok hs)) fun _ _ _ h => dc_imp h
end
end MP

end
section
set_option Elab.async false
set_option linter.all false
set_option maxRecDepth 100000
set_option maxHeartbeats 2000000
/-! a lambda handed to a def that calls it: the other tables stay -/
namespace MP
open PySem PySem.Spec PyProof.Rows L2 LamX

/-- one table has grown -/
structure Grown (P : Addr) (q : Str) (H H1 : Hp) : Prop where
  tab : TabS H1 P q
  old : ∀ b u, b ≠ P → H b = some u → H1 b = some u
section
variable {X : Cx} {pins : List (Addr × Obj)} {σ : L2.St} {H : Hp} {s : Shared}
/-- a lambda is made -/
theorem lam_new {c P : Addr} {params : Arguments} {body : Expr} {scope : Scope} {pos : Pos} {E : Value → Shared → Prop} {Q : Value → Shared → Prop} (J : Inv X pins σ H s) (tb : LamX.TabB X.base X.mg c P) (hc : X.env.code = .ref c)
    (hT : TabS H P (X.env.qual ++ "<lambda>")) (hd : defaultsOf params X.env = ([], [])) (hfr : ∀ y ∈ scope.names, y.2 = .free → ∃ c, X.env.cells.lookup y.1 = some c)
    (k : ∀ (f c1 : Addr) (pm ctv : Value) (H1 : Hp) (s1 : Shared), Inv X pins σ H1 s1 → Grown P (X.env.qual ++ "<lambda>") H H1 →
      s1.heap.get? f = some (PySem.W.kla_obj "<lambda>" (X.env.qual ++ "<lambda>") params body scope (cloFrom X.env.cells scope.names []) pm c1 ctv) → H1 f = none → f ∉ frs X.stack → H1 c1 = some (CodeO c1 (X.env.qual ++ "<lambda>")) → s.heap.objs.size ≤ f → Q (.ref f) s1) :
    wpAny (model X.prog X.w) X.A (eval (.Lambda params body scope pos) X.env) Q E s := by
  obtain ⟨rows, hP, hok, hnm⟩ := hT
  have atP : s.heap.get? P = some { cls := .none, data := .fields rows } := J.hok P _ hP
  have young : ∀ f : Addr, s.heap.objs.size ≤ f → f ∉ frs X.stack := by
    intro f hf z
    cases List.mem_cons.mp (J.stkSub _ z) with
    | inl e => exact absurd (Nat.lt_of_lt_of_le (e ▸ J.lt) hf) (Nat.lt_irrefl _)
    | inr e => exact J.nofs hf e
  apply PySem.W.kla_eval hd
  cases hcd : codeAmong pos rows.toList with
  | some cv =>
    obtain ⟨c1, rfl, hco⟩ := hnm pos cv hcd
    refine PySem.W.kla_makeFunctionHit (mg := X.mg) (c := c) (P := P) (ps := rows) (closure_ok hfr) J.ok.glob (J.mod.glob.keeps J.bk) hc (tb.code.keeps J.bk) atP hok hcd (tb.bm.keeps J.bk) fun ctv h1 t1 hx hsz => ?_
    exact k h1.objs.size c1 _ ctv H _ (J.kept (t' := t1) fun b o e => Heap.get?_push_of_some _ (hx b o e)) ⟨⟨rows, hP, hok, hnm⟩, fun _ _ _ e => e⟩ (Heap.get?_push_size _ rfl) (J.hok.fresh hsz) (young _ hsz) hco hsz
  | none =>
    refine PySem.W.kla_makeFunction (mg := X.mg) (c := c) (P := P) (ps := rows) (closure_ok hfr) J.ok.glob (J.mod.glob.keeps J.bk) hc (tb.code.keeps J.bk) atP hok hcd tb.gP (tb.bm.keeps J.bk) fun c1 ctv h1 t1 hx hge hlt hrec hgr => ?_
    obtain ⟨c2, oc, vs, t, e2, hoc, hdt, hnme⟩ := hrec
    cases e2
    have hsz : s.heap.objs.size ≤ h1.objs.size := Nat.le_trans hge (Nat.le_of_lt hlt)
    have free1 : H c1 = none := J.hok.fresh hge
    have J1 := inv_table (t' := t1) (more := #[rawInt pos.line, rawInt pos.col, .ref c1]) (h' := h1.push (PySem.W.kla_obj "<lambda>" (X.env.qual ++ "<lambda>") params body scope (cloFrom X.env.cells scope.names []) ((X.mg "__name__").getD .none) c1 ctv)) J hP
      (fun b o nb e => Heap.get?_push_of_some _ (hx b o nb e)) (Heap.get?_push_of_some _ hgr) hge ⟨oc, vs, t, Heap.get?_push_of_some _ hoc, hdt, hnme⟩
    have old : ∀ b u, b ≠ P → H b = some u → upd (upd H P (.tbl (rows ++ #[rawInt pos.line, rawInt pos.col, .ref c1]))) c1 (CodeO c1 (X.env.qual ++ "<lambda>")) b = some u := fun b u nb e => by
      rw [upd_ne (ne_of_none e free1), upd_ne nb]; exact e
    have lst : (rows ++ #[rawInt pos.line, rawInt pos.col, .ref c1]).toList = rows.toList ++ [rawInt pos.line, rawInt pos.col, .ref c1] := by simp
    refine k h1.objs.size c1 _ ctv _ _ J1 ⟨⟨_, by rw [upd_ne (ne_of_none hP free1), upd_same], by rw [lst]; exact PySem.TriplesOk_snoc _ _ _ _ hok, fun p cv hcv => ?_⟩, old⟩ (Heap.get?_push_size _ rfl) ?_ (young _ hsz) upd_same hsz
    · rw [lst] at hcv
      cases among_app _ hok hcv with
      | inl z =>
        obtain ⟨c0, e1, e3⟩ := hnm p cv z
        exact ⟨c0, e1, old _ _ (fun z => by rw [z, hP] at e3; exact codeO_ne _ (Option.some.inj e3).symm) e3⟩
      | inr z => exact ⟨c1, z, upd_same⟩
    · rw [upd_ne (Nat.ne_of_gt hlt), upd_ne (Nat.ne_of_gt (Nat.lt_of_lt_of_le (Heap.lt_size atP) hsz))]
      exact J.hok.fresh hsz
/-- x(lambda: body): the reading -/
def tLmt (P : Addr) (q : Str) (TT : (XK → Hp → VK → Prop) → Hp → VK → Prop) (t : XK → TE) : TE := fun σ H Q => TabS H P q ∧ ∀ H1, Grown P q H H1 → TT (fun E H' Q' => t E σ H' Q') H1 Q
theorem pe_lmt {TT : (XK → Hp → VK → Prop) → Hp → VK → Prop} {x a : Str} {g c P : Addr} {k : Nat} {pg : Arguments} {bg : List Stmt} {sg : Scope} {dV kV doc pm cdv ct oc : Value} {an od : Option Addr} {osl : Array (Option Value)} {Ng : List Str}
    {params : Arguments} {body : Expr} {scope : Scope} {t : XK → TE} {p lpos pos : Pos} (hg : Gl X x) (hm : X.mg x = some (.ref g)) (hk : PySem.W.keepIn X.K (.ref g) = true)
    (lk : X.K.lookup g = some ⟨oc, od, .func (PySem.W.fnOf x x pg bg sg dV kV doc pm an cdv ct), osl⟩) (hcg : PySem.W.codeIn X.K cdv x = true) (hb : L2.Binds X.K (PySem.W.fnOf x x pg bg sg dV kV doc pm an cdv ct) [a] []) (Sg : FnScope Ng [a] sg) (hN0 : Ng[0]? = some a) (hva : Vis sg a)
    (hG : GivesTo X Ng x sg g cdv bg a (X.env.qual ++ "<lambda>") TT) (tb : LamX.TabB X.base X.mg c P) (hc : X.env.code = .ref c) (hr : Room (k + 2) X.A) (L : LamS X.env.scope scope) (hd : defaultsOf params X.env = ([], []))
    (hbind : ∀ (q : Str) (cl : List (Str × Addr)) (pm cv ctv : Value), bindArgs (PySem.W.kla_fn "<lambda>" q params body scope cl pm cv ctv) ⟨[], []⟩ = pure [])
    (hbody : ∀ (A : Around) (outer : List Env) (s : Shared) (H : Hp) (E : XK) (f c1 : Addr), Room k (A.deeper (lamEnv X scope s.heap.objs.size f c1)) → PE (lamCx X A outer s H E scope f c1) body (t E))
    (h1 : (x == ("__debug__" : Str)) = false) (h2 : (a == ("__debug__" : Str)) = false) (h3 : (a == ("__classdict__" : Str)) = false) :
    PE X (.Call (.Name x p) [.Lambda params body scope lpos] [] pos) (tLmt P (X.env.qual ++ "<lambda>") TT t) := by
  constructor
  intro pins s σ H Q J ⟨hT, hq⟩
  refine wpAny_Call_Name_kw (ld_glob J hg hm ?_ h1)
  refine PySem.W.callWith_K (h₀ := X.base) J.ok.mod.kin hk ?_ (by rfl) (by rfl)
  show wpAny _ _ (spliced ((false, eval (.Lambda params body scope lpos) X.env) :: backTo pos (starEach [] X.env))) _ _ s
  refine Calls.spliced_cons (lam_new J tb hc hT hd (L.has J.ok) fun f c1 pm1 ctv H1 s1 J1 gr hf hfn hfs hco _ => Calls.spliced_nil ⟨J1.kIn, ?_⟩)
  refine wpAny_call (codeAny_mono (run_ofS (CX := C8.CX0) (Q := Q) (E := C8.E0) (N := Ng) (ps := [a]) (us := [.ref f]) (vs := [.ref f]) lk hcg Sg hr J1.env0 (hb s1 [.ref f] J1.kIn rfl) (.cons rfl .nil) rfl fun hr1 => ?_) fun r s2 hz => ?_)
  · obtain ⟨u, hu, hz⟩ := hG f c1 s1 H1 Q (fun E H' Q' => t E σ H' Q') (fun W pn xe E p1 p2 tk hW => pe_act (i := 0) J1 L hf hfn hfs (hbind _ _ _ _ _) tk hW hr1 (fun A outer s H hr2 => hbody A outer s H E f c1 hr2) hN0 hva h2 h3) hco (hq H1 gr)
    exact ⟨u, hu.nox, hz⟩
  · cases r with
    | error e => exact (show False from hz).elim
    | ok fl => cases fl <;> first | exact J1.after hz | exact False.elim hz
end

/-! ### told: the mirror -/
def toldE (ret : List Nat) (cx : Nat → Bool) (b : ME) : ME := fun ρ lk μ => match b ρ lk μ with
  | some (.ok d, μ') => some (.ok d, μ')
  | some (.ex c, μ') => if cx c then some (.ok (.str ret), μ') else none
  | none => none
theorem grown_rp {w : Wd} {m : Im} {H H1 : Hp} {lk : Lk} {μ : Sto} {P : Addr} {q : Str} (rp : Rp w m H lk μ) (hT : TabS H P q) (hP : P ∉ w.tb) (hu : ∀ p ∈ w.tq, p.1 = P → p.2 = q) (gr : Grown P q H H1) : Rp w m H1 lk μ ∧ Ext m m lk H H1 := by
  obtain ⟨ps, hp, _⟩ := hT
  have ne : ∀ b v, H b = some v → isTbl v = false → b ≠ P := fun b v e d z => by
    subst z
    rw [hp] at e
    cases e
    cases d
  have same : ∀ b v, H b = some v → isTbl v = false → H1 b = some v := fun b v e d => gr.old b v (ne b v e d) e
  have some_of : ∀ b, H b ≠ none → ∃ v, H b = some v := fun b h => by
    cases e : H b with
    | none => exact absurd e h
    | some v => exact ⟨v, rfl⟩
  have ion : ∀ n a, m.io n = some a → H1 a = H a := fun n a e => by
    obtain ⟨v, hv⟩ := some_of a (rp.there n a e)
    rw [hv]
    exact same a v hv (by cases v <;> first | rfl | exact absurd hv (rp.ioT n a e _))
  have fzn : ∀ a, m.fz a → H1 a = H a := fun a e => by
    obtain ⟨v, hv⟩ := some_of a (rp.fz a e).1
    rw [hv]
    exact same a v hv (by cases v <;> first | rfl | exact absurd hv (rp.fzT a e _))
  have x : Wx m m H H1 := ⟨fun _ _ e => e, fun _ e => e, fun a u f r => by unfold Rd at *; rw [fzn a f]; exact r, fun a xs e => same a _ e rfl, fun a o u e _ => .inr ⟨o, same a _ e rfl⟩, fun a φ e => same a _ e rfl, fun a xs f e => by rw [fzn a f]; exact e, rfl⟩
  refine ⟨⟨fun n c h => ?_, rp.inj, rp.nx, fun n a h => ?_, fun a h => ⟨?_, (rp.fz a h).2⟩, fun P' hP' => ?_, fun q' hq' => ?_, fun n a h ps' => ?_, fun a h ps' => ?_⟩, ⟨fun _ _ e => e, fun _ e => e, fzn, fun a xs e => same a _ e rfl, fun n a _ h => ion n a h, fun a o u e => same a _ e rfl, fun a φ e => same a _ e rfl, fun a h => ?_, fun _ _ e => .inl e, fun b u e _ d => same b u e d, fun _ e => .inl e, rfl⟩⟩
  · obtain ⟨a, u, h1, h2, h3⟩ := rp.cell n c h
    refine ⟨a, u, h1, h2.mono x, ?_⟩
    rw [ion n a h1]
    exact h3
  · rw [ion n a h]; exact rp.there n a h
  · rw [fzn a h]; exact (rp.fz a h).1
  · obtain ⟨ps', h1, h2⟩ := rp.tab P' hP'
    exact ⟨ps', gr.old P' _ (fun z => hP (by rw [← z]; exact hP')) h1, h2⟩
  · by_cases e : q'.1 = P
    · rw [hu q' hq' e, e]; exact gr.tab
    · obtain ⟨ps', h1, h2, h3⟩ := rp.tabq q' hq'
      refine ⟨ps', gr.old _ _ e h1, h2, fun pos cv hc => ?_⟩
      obtain ⟨c, e1, e2⟩ := h3 pos cv hc
      exact ⟨c, e1, same _ _ e2 rfl⟩
  · rw [ion n a h]; exact rp.ioT n a h ps'
  · rw [fzn a h]; exact rp.fzT a h ps'
  · by_cases e : a = P
    · obtain ⟨ps2, h2, _⟩ := gr.tab
      rw [e, h2]; simp
    · obtain ⟨v, hv⟩ := some_of a h
      rw [gr.old a v e hv]; simp
theorem told_imp {w : Wd} {E : XK} {P CS : Addr} {q ret : Str} {cx : Nat → Bool} {b : ME} (hT : (P, q) ∈ w.tq) (hP : P ∉ w.tb) (hu : ∀ p ∈ w.tq, p.1 = P → p.2 = q) (hcx : ∀ c, cx c = true → PySem.W.exmOne w.K (.ref (w.ca c)) (.ref CS) = some true) {σ : L2.St} {H : Hp} {Q : VK} (h : tE w E (toldE ret.cps.toList cx b) σ H Q) :
    tLmt P q (TTold w.K CS ret) (fun E' => tE w E' b) σ H Q := by
  obtain ⟨m, ρ, lk, μ, rp, fr, r, μ', e, k⟩ := h
  refine ⟨rp.tabq _ hT, fun H1 gr => ?_⟩
  obtain ⟨rp1, ex1⟩ := grown_rp rp (rp.tabq _ hT) hP hu gr
  unfold toldE at e
  refine ⟨m, ρ, lk, μ, rp1, fr.mono ex1.wx, ?_⟩
  cases e1 : b ρ lk μ with
  | none => rw [e1] at e; cases e
  | some pr =>
    obtain ⟨r1, μ1⟩ := pr
    rw [e1] at e
    refine ⟨r1, μ1, e1, ?_⟩
    cases r1 with
    | ok d => cases e; exact fun v m' H' a b c => k v m' H' a (ex1.trans b) c
    | ex c =>
      simp only at e
      split at e
      · rename_i hc
        cases e
        intro m' H' rp' ex'
        exact ⟨true, hcx c hc, fun _ => k _ m' H' rp' (ex1.trans ex') (.str ret), fun z => by cases z⟩
      · cases e
end MP

end
section
set_option Elab.async false
set_option linter.all false
set_option maxRecDepth 100000
set_option maxHeartbeats 2000000
/-! a list comprehension whose tests may call lambdas of the def around it -/
namespace MP
open PySem PySem.Spec PyProof.Rows L2 LamX

/-- as L2.tLc; the test's reading knows the outer slots -/
def tLcI (wi : TI) (g : TG) (tt : L2.St → TT) (te : TE) (vs : List Nat) : TE := fun σ H Q => wi σ H fun J H1 => ∀ D, H1 D = none → ∃ W : Nat → Nat → Hp → Prop, (∃ m, W 0 m (upd H1 D (.lst []))) ∧ ∀ i m H, W i m H →
  (J.stop i H ∧ Q (.ref D) H) ∨ (J.go i H ∧ ∃ Nx : Hp → Prop, (∀ H', Nx H' → ∃ m', m' < m ∧ W (i + 1) m' H') ∧ ∀ x H', J.yld i H x H' → g x (wipe σ vs) H' fun σ2 H2 => wipe σ2 vs = wipe σ vs ∧ tt σ σ2 H2 fun b H3 =>
    if b = true then te σ2 H3 fun y H4 => ∃ acc, H4 D = some (.lst acc) ∧ acc.length < sizeLine ∧ Nx (upd H4 D (.lst (acc ++ [y]))) else Nx H3)
theorem pe_lcI {X : Cx} {elt tg iter : Expr} {ifs : List Expr} {scope : Scope} {own : List (Str × Nat)} {pos : Pos} {wi : TI} {g : TG} {tt : L2.St → TT} {te : TE} (hc : X.calm = true) (hN : X.N.Nodup) (hi : PI X tg iter wi) (ok : BlkOk X.N X.env.scope scope own)
    (hg : ∀ (s : Shared) (H : Hp) (C : Addr) (cl : List (Str × Addr)) (fp : List Addr), PG (X.blk s H scope (compEnvC scope cl C X.env) fp) tg g)
    (ht : ∀ (pins : List (Addr × Obj)) (σ : L2.St) (s : Shared) (H : Hp) (C : Addr) (cl : List (Str × Addr)) (fp : List Addr), Inv X pins σ H s → (∀ b ∈ fp, FpOk X pins H b) → PTs (X.blk s H scope (compEnvC scope cl C X.env) fp) ifs (tt σ))
    (he : ∀ (s : Shared) (H : Hp) (C : Addr) (cl : List (Str × Addr)) (fp : List Addr), PE (X.blk s H scope (compEnvC scope cl C X.env) fp) elt te) (hs : ∀ x, foldedSetIterable iter X.env x = pure x) :
    PE X (.ListComp elt [⟨tg, iter, ifs, 0⟩] scope pos) (tLcI wi g tt te (own.map (·.2))) := by
  constructor
  intro pins σ0 σ H Q I h
  revert h
  revert I
  revert Q H σ σ0
  intro s σ H Q I h
  rw [eval_ListComp]
  have closes : ∀ y ∈ scope.names, y.2 = .free → ∃ c, X.env.cells.lookup y.1 = some c := by
    intro y hy e
    cases ok.free y hy e with
    | inl k => exact I.ok.has _ (.inl k)
    | inr k => exact I.ok.has _ (.inr k)
  apply wpAny_comprehension_free (use := none) rfl hs (closure_ok closes) ok.kind (fun y hy e => by rw [ok.uniq y hy, e])
  refine thn (hi.run pins s σ H _ I h) fun xv s1 hx => thn hx fun itv s2 hz => ?_
  obtain ⟨it, fp, tn, J, H2, rfl, I2, T, st2, f2, q⟩ := hz
  refine wpAny_newObj_type (newEnv_comp ?_) (by show 0 ≤ sizeLine; decide)
  obtain ⟨W, ⟨k0, start0⟩, turn⟩ := q s2.heap.objs.size (I2.hok.fresh (Nat.le_refl _))
  -- the list to be filled
  let sL : Shared := { s2 with heap := s2.heap.push { cls := .type "list", data := .seq ([] : List Value).toArray } }
  let HL : Hp := upd H2 s2.heap.objs.size (.lst [])
  have IL : Inv X pins σ HL sL := I2.laid (t' := s2.toks) (fun b o e => Heap.get?_push_of_some _ e) (Nat.le_refl _) ⟨Nat.zero_le _, [], 0, .nil, Heap.get?_push_size _ rfl⟩
  have fL : ∀ b ∈ fp, FpOk X pins HL b ∧ b < sL.heap.objs.size := by
    intro b hb
    obtain ⟨o, e, _⟩ := T.obj _ _ st2 b hb
    have hlt := Heap.lt_size e
    refine ⟨⟨(upd_ne (Nat.ne_of_lt hlt)).trans (f2 b hb).1, (f2 b hb).2⟩, ?_⟩
    show b < (s2.heap.push _).objs.size
    rw [Heap.size_push]
    exact Nat.lt_succ_of_lt hlt
  have stL : tn 0 sL.heap := T.keep _ _ _ st2 fun b _ o e => Heap.get?_push_of_some _ e
  have IB := block_start IL ok hN fL
  have bg := hg sL HL sL.heap.objs.size (cellsFrom (sL.heap.objs.size + 1) scope.names (cloFrom X.env.cells scope.names [])) fp
  have bt := ht pins σ sL HL sL.heap.objs.size (cellsFrom (sL.heap.objs.size + 1) scope.names (cloFrom X.env.cells scope.names [])) fp IL fun b hb => (fL b hb).1
  have be := he sL HL sL.heap.objs.size (cellsFrom (sL.heap.objs.size + 1) scope.names (cloFrom X.env.cells scope.names [])) fp
  have noneAt : ∀ b ∈ fp, HL b = none := fun b hb => (fL b hb).1.1
  show codeAny _ _ (.compStart (.ListComp elt [⟨tg, iter, ifs, 0⟩] scope pos) 0 (.ref it) (.ref s2.heap.objs.size) (compEnvC scope (cellsFrom (sL.heap.objs.size + 1) scope.names (cloFrom X.env.cells scope.names [])) sL.heap.objs.size X.env)) (compPost (model X.prog X.w) X.A X.xe none (EP X pins σ Q) (.ref s2.heap.objs.size) sL.heap.objs.size) { sL with heap := pushCells (sL.heap.push { cls := .type "dict", data := .dict #[] }) scope.names }
  generalize hce : compEnvC scope (cellsFrom (sL.heap.objs.size + 1) scope.names (cloFrom X.env.cells scope.names [])) sL.heap.objs.size X.env = ce at IB bg bt be ⊢
  have place : ce.locals = sL.heap.objs.size := by subst hce; rfl
  have stB : tn 0 ({ sL with heap := pushCells (sL.heap.push { cls := .type "dict", data := .dict #[] }) scope.names } : Shared).heap := T.keep _ _ _ stL fun b _ o e => pushCells_keeps _ _ _ _ (Heap.get?_push_of_some _ e)
  have fpB : ∀ {τ : L2.St} {H' : Hp} {s' : Shared}, Inv (X.blk sL HL scope ce fp) [] τ H' s' → (∀ b ∈ fp, H' b = none) → ∀ b ∈ fp, FpOk (X.blk sL HL scope ce fp) [] H' b := by
    intro τ H' s' I' hn b hb
    exact ⟨hn b hb, (I'.ok.exf b hb).1, I'.ok.exfs b hb, .inl hb, fun x c e => (I'.ok.exf b hb).2 x c e, fun p hp => absurd (show p ∈ ([] : List (Addr × Obj)) ++ [] from hp) (by simp)⟩
  refine codeAny_compStart_list (?_ : codeAny (model X.prog X.w) X.A (.compLoop (.ListComp elt [⟨tg, iter, ifs, 0⟩] scope pos) 0 (.ref it) (.ref s2.heap.objs.size) ce) (compPost (model X.prog X.w) X.A X.xe none (EP X pins σ Q) (.ref s2.heap.objs.size) sL.heap.objs.size) _) (T.self X.A 0 _ _ _ stB ?_)
  all_goals
    refine compLoop_any (fun n s' => ∃ i H', Inv (X.blk sL HL scope ce fp) [] (wipe σ (own.map (·.2))) H' s' ∧ tn i s'.heap ∧ (∀ b ∈ fp, H' b = none) ∧ W i n H') ?_ k0 ⟨0, HL, IB, stB, noneAt, start0⟩
    rintro n s5 ⟨i, H5, I5, st5, n5, w5⟩
    cases turn i n H5 w5 with
    | inl z =>
      obtain ⟨stop, qq⟩ := z
      refine thnF (T.done (X.blk sL HL scope ce fp) rfl rfl rfl hc i [] s5 _ H5 (fun _ _ => False) I5 (fpB I5 n5) st5 stop) fun r s6 ⟨hr, I6⟩ => ?_
      subst hr
      have I7 : Inv X pins σ H5 s6 := IL.call' (ch := fp) I6.os I6.base I6.hok I6.bare fun b hb => ⟨(fL b hb).1.2.2.2.1, (fL b hb).1.2.1, (fL b hb).1.2.2.2.2.1, (fL b hb).1.2.2.2.2.2⟩
      have free7 : H5 sL.heap.objs.size = none := by
        rw [← place]; exact I6.free
      obtain ⟨m, hn, _⟩ := I6.loc
      have hn : s6.heap.Ns sL.heap.objs.size m := by
        rw [← place]; exact hn
      have f7 := IL.fpOk (H' := H5) (b := sL.heap.objs.size) (Nat.le_refl _) free7
      refine ⟨m, hn, fun h'' sb => ?_⟩
      obtain ⟨f0, f1, f3, f4, f5, f6⟩ := f7
      exact ⟨.ref s2.heap.objs.size, H5, I7.turned (t' := s6.toks) (fun b o hb e => (sb.2 b hb).trans e) f0 f1 f4 f5 f6, rfl, qq⟩
    | inr z =>
      obtain ⟨go, Nx, hNx, step⟩ := z
      refine thnF (T.item (X.blk sL HL scope ce fp) rfl rfl rfl hc i [] s5 _ H5 (fun _ _ => False) I5 (fpB I5 n5) st5 go) fun r s6 ⟨u, hr, h6⟩ => ?_
      subst hr
      refine thnF h6 fun _ s7 ⟨x, H7, I7, r7, y7, st7, n7⟩ => ?_
      have I7' := I7.pinned (fpB I7 n7) (T.obj _ _ st7)
      refine thnF (bg.run _ s7 _ H7 x u _ I7' r7 (step x H7 y7)) fun _ s8 ⟨τ, H8, I8, hw8, q8⟩ => ?_
      have back : ∀ {s' : Shared} {H' : Hp}, Inv (X.blk sL HL scope ce fp) ([] ++ pinsAt fp s7.heap) τ H' s' → Nx H' → ∃ m, m < n ∧ ∃ i H', Inv (X.blk sL HL scope ce fp) [] (wipe σ (own.map (·.2))) H' s' ∧ tn i s'.heap ∧ (∀ b ∈ fp, H' b = none) ∧ W i m H' := by
        intro s' H' I' nx
        obtain ⟨m1, hm, w1⟩ := hNx H' nx
        have kept : ∀ b ∈ fp, ∀ o, s7.heap.get? b = some o → s'.heap.get? b = some o ∧ H' b = none := fun b hb o e =>
          ⟨(I'.pin (b, o) (List.mem_append_right _ (List.mem_append_right _ (mem_pinsAt hb e)))).1, (I'.pin (b, o) (List.mem_append_right _ (List.mem_append_right _ (mem_pinsAt hb e)))).2.1⟩
        refine ⟨m1, hm, i + 1, H', (I'.unpinned (pins := [])).weak (by rw [← wipe_length τ (own.map (·.2)), hw8]) (fun j v e => ?_), T.keep _ _ _ st7 fun b hb o e => (kept b hb o e).1, fun b hb => ?_, w1⟩
        · rw [← hw8] at e
          exact (wipe_some e).1
        · obtain ⟨o, e, _⟩ := T.obj _ _ st7 b hb
          exact (kept b hb o e).2
      refine thnF (bt.run _ s8 τ H8 _ I8 q8) fun b s9 ⟨H9, I9, q9⟩ => ?_
      cases b with
      | false => exact back I9 q9
      | true =>
        refine thnF (be.run _ s9 τ H9 _ I9 q9) fun zv s10 ⟨yv, H10, I10, r10, acc, hD10, hz10, nx⟩ => ?_
        exact app_ok (X := X.blk sL HL scope ce fp) I10 hD10 hz10 r10 fun s11 I11 => back I11 nx
end MP

end
section
set_option Elab.async false
set_option linter.all false
set_option maxRecDepth 100000
set_option maxHeartbeats 2000000
/-! lambdas as values: made, kept in a list, called by a def from a comprehension -/
namespace MP
open PySem PySem.Spec PyProof.Rows L2 LamX

/-- an object that stands untold is told from now on -/
theorem track {X : Cx} {pins : List (Addr × Obj)} {σ : L2.St} {H : Hp} {s : Shared} {f : Addr} {u : HO} (J : Inv X pins σ H s) (hn : H f = none) (h0 : X.s_0.heap.objs.size ≤ f) (hl : X.env.locals ≠ f) (hc : ∀ x c, X.env.cells.lookup x = some c → c ≠ f) (hp : ∀ p ∈ X.pn ++ pins, p.1 ≠ f)
    (ok : ObjOk X.prog X.w (upd H f u) s.heap f u) : Inv X pins σ (upd H f u) s := by
  have keep : ∀ b v, H b = some v → upd H f u b = some v := fun b v e => by rw [upd_ne (ne_of_none e hn)]; exact e
  refine ⟨J.ok, J.os, J.bare, ⟨J.base.keep, J.base.slot, fun b o e n x => ?_, J.base.there, fun b xs e => keep b _ (J.base.tups b xs e), fun b o v e => keep b _ (J.base.frzs b o v e), fun b ps e => ?_⟩, J.loc, J.cell, ?_, fun x c e => ?_, fun p hp' => ?_, fun b v e => ?_, J.len⟩
  · rw [upd_ne (Nat.ne_of_lt (Nat.lt_of_lt_of_le (Heap.lt_size e) h0))]
    exact J.base.free b o e n x
  · obtain ⟨more, e'⟩ := J.base.tbls b ps e
    exact ⟨more, keep b _ e'⟩
  · rw [upd_ne hl]; exact J.free
  · rw [upd_ne (hc x c e)]; exact J.freeC x c e
  · obtain ⟨e, n, r⟩ := J.pin p hp'
    exact ⟨e, by rw [upd_ne (hp p hp')]; exact n, r⟩
  · by_cases hb : b = f
    · subst hb; rw [upd_same] at e; cases e; exact ok
    · rw [upd_ne hb] at e
      exact (J.hok b v e).stay (fun c o _ q => q) (fun c q => keep c _ q) fun c xs q => keep c _ q
/-- the lambda's object -/
def LamIs (q : Str) (params : Arguments) (body : Expr) (scope : Scope) (cells : List (Str × Addr)) (a c1 : Addr) : Heap → Prop := fun h => ∃ pm ctv, h.get? a = some (PySem.W.kla_obj "<lambda>" q params body scope (cloFrom cells scope.names []) pm c1 ctv)
def CodeIs (q : Str) (c : Addr) : Heap → Prop := fun h => ∃ (oc : Obj) (vs : Array Value) (t : Tok), h.get? c = some oc ∧ oc.data = .fields vs ∧ vs[1]? = some (.str q t)
theorem codeIs_eq (c : Addr) (q : Str) : CodeO c q = .ext (CodeIs q c) := rfl
theorem r_lam {X : Cx} {w : Wd} {E : XK} {c P : Addr} {j : Nat} {params : Arguments} {body : Expr} {scope : Scope} {pos : Pos} (tb : LamX.TabB X.base X.mg c P) (hc : X.env.code = .ref c) (hT : (P, X.env.qual ++ "<lambda>") ∈ w.tq) (hP : P ∉ w.tb) (hu : ∀ p ∈ w.tq, p.1 = P → p.2 = X.env.qual ++ "<lambda>")
    (hd : defaultsOf params X.env = ([], [])) (L : LamS X.env.scope scope) (hlm : ∀ cs a c1, w.lm j cs a c1 = LamIs (X.env.qual ++ "<lambda>") params body scope X.env.cells a c1) (hco : ∀ a, w.co a = CodeIs (X.env.qual ++ "<lambda>") a) :
    PE X (.Lambda params body scope pos) (tE w E (retE (.lam j))) := by
  constructor
  intro pins s σ H Q J ⟨m, ρ, lk, μ, rp, fr, r, μ', e, k⟩
  cases e
  refine lam_new J tb hc (rp.tabq _ hT) hd (L.has J.ok) fun f c1 pm ctv H1 s1 J1 gr hf hfn hfs hcc hsz => ?_
  obtain ⟨rp1, ex1⟩ := grown_rp rp (rp.tabq _ hT) hP hu gr
  have lt : ∀ b o, s.heap.get? b = some o → b ≠ f := fun b o e => Nat.ne_of_lt (Nat.lt_of_lt_of_le (Heap.lt_size e) hsz)
  have J2 : Inv X pins σ (upd H1 f (.ext (LamIs (X.env.qual ++ "<lambda>") params body scope X.env.cells f c1))) s1 := by
    refine track J1 hfn (Nat.le_trans J.sz hsz) (Nat.ne_of_lt (Nat.lt_of_lt_of_le J.lt hsz)) (fun x c' e => ?_) (fun p hp => ?_) ⟨⟨pm, ctv, hf⟩, ⟨_, hf⟩, fun h1 h2 ⟨pm', ctv', e⟩ st => ⟨pm', ctv', st _ e⟩⟩
    · obtain ⟨v, o, ho, _⟩ := J.cell x c' e
      exact lt c' o ho
    · exact lt p.1 p.2 (J.pin p hp).1
  obtain ⟨rp2, ex2⟩ := rp1.new (o := .ext (LamIs (X.env.qual ++ "<lambda>") params body scope X.env.cells f c1)) hfn
  refine ⟨.ref f, _, J2, rfl, k (.ref f) m _ rp2 (ex1.trans ex2) (.lam (c := c1) ?_ ?_)⟩
  · rw [upd_same, hlm]
  · rw [upd_ne (ne_of_none hcc hfn), hcc, codeIs_eq, hco]
section
variable {X : Cx} {pins : List (Addr × Obj)} {σ : L2.St} {H : Hp} {s : Shared}
/-- it is called by the def that got it -/
theorem pe_act2 {CXg : CXT} {Eg : XK} {Ng : List Str} {qg : Str} {sg : Scope} {g f c1 : Addr} {cdg : Value} {params : Arguments} {body : Expr} {scope : Scope} {k i : Nat} {a : Str} {pn : List (Addr × Obj)} {xe : Value → Shared → Prop} {W : WX} {E : XK} {tb : TE} {p1 p2 : Pos}
    (I : Inv X pins σ H s) (L : LamS X.env.scope scope) (hbind : ∀ (q : Str) (cl : List (Str × Addr)) (pm cv ctv : Value), bindArgs (PySem.W.kla_fn "<lambda>" q params body scope cl pm cv ctv) ⟨[], []⟩ = pure [])
    (tk : Takes ((cxOf CXg X.prog X.w X.K X.mg X.base Ng qg sg g cdg X.A X.stack s H Eg).tr pn xe) W) (hW : ∀ cls d σ' H', E cls d H' → W cls d σ' H') (hr : Room (k + 1) (X.A.deeper (envOfC qg sg s.heap.objs.size g cdg)))
    (hbody : ∀ (A : Around) (outer : List Env) (s : Shared) (H : Hp), Room k (A.deeper (lamEnv X scope s.heap.objs.size f c1)) → PE (lamCx X A outer s H E scope f c1) body tb)
    (hN : Ng[i]? = some a) (hv : Vis sg a) (hd : (a == ("__debug__" : Str)) = false) (hcd : (a == ("__classdict__" : Str)) = false) :
    PE ((cxOf CXg X.prog X.w X.K X.mg X.base Ng qg sg g cdg X.A X.stack s H Eg).tr pn xe) (.Call (.Name a p1) [] [] p2)
      (fun σZ HZ Q => σZ[i]? = some (some (.ref f)) ∧ HZ c1 = some (CodeO c1 (X.env.qual ++ "<lambda>")) ∧ HZ f = some (.ext (LamIs (X.env.qual ++ "<lambda>") params body scope X.env.cells f c1)) ∧ tb σ HZ Q) := by
  constructor
  intro pinsZ sZ σZ HZ Q IZ ⟨hs, hc, hf, ht⟩
  refine wpAny_Call_Name_kw (thn ((pe_var (pos := p1) (i := i) hN hv hd hcd).run pinsZ sZ σZ HZ (fun v H1 => v = .ref f ∧ H1 = HZ) IZ ⟨.ref f, hs, rfl, rfl⟩) fun uv s1 hh => ?_)
  obtain ⟨v, H1, I1, r1, ev, eH⟩ := hh
  rw [ev] at r1
  rw [eH] at I1
  have r1 : uv = Value.ref f := r1
  rw [r1]
  obtain ⟨⟨pm, ctv, of1⟩, _, _⟩ := I1.hok f _ hf
  obtain ⟨⟨oc, vs, t, hoc, hdc, hvc⟩, _, _⟩ := I1.hok c1 _ hc
  refine PySem.W.callWith_F0 ⟨_, _, _, _, of1⟩ ?_
  have un : Un (frs X.stack) [] H HZ s.heap s1.heap := I1.base
  have rc : codeAny (model X.prog X.w) (X.A.deeper (envOfC qg sg s.heap.objs.size g cdg)) (.call (.ref f) ⟨[], []⟩) (CR (L2.CX X.prog X.w) (envOfC qg sg s.heap.objs.size g cdg :: X.stack) X.prog X.w HZ s1 Q E) s1 := by
    refine PySem.W.kla_callFunE hr.depth of1 rfl L.co L.gen rfl ⟨c1, oc, vs, t, rfl, hoc, hdc, hvc⟩ ?_
    rw [hbind]
    refine wpAny_pure (wpAny_newFunctionEnv (fun y hy => (L.own y hy).2) (fun y hy => absurd hy (by simp)) (fun h₁ hns hsb => ⟨I1.nolimit.fresh _ hsb, ?_⟩) L.kind)
    show codeAny _ _ (.expr body (lamEnv X scope s1.heap.objs.size f c1)) _ _
    have J := lam_start2 (E := E) (f := f) (c' := c1) (tk := s1.toks + ([] : List (Str × Value)).length) I L I1.env0 hr.hd un hns fun b o e => hsb.extBut b o (Nat.ne_of_lt (Heap.lt_size e)) (Heap.get?_push_of_some _ e)
    refine PySem.W.kla_codeExpr (wpAny_mono ((hbody _ _ s1 HZ (hr.deeper _)).run [] _ _ HZ Q J ht) (fun v s' hq => ?_) fun e s' hq => hq)
    obtain ⟨w', H', J', rv, q⟩ := hq
    exact ⟨w', H', J'.os, J'.bare, J'.base, J'.hok, rv, q⟩
  have hx : Passes (L2.CX X.prog X.w) ((cxOf CXg X.prog X.w X.K X.mg X.base Ng qg sg g cdg X.A X.stack s H Eg).tr pn xe) E := passes_call tk hW
  refine wpAny_call (codeAny_mono rc fun r s' hq => ?_)
  cases r with
  | error e => exact hx pinsZ σZ HZ s1 e s' I1 hq
  | ok fl => cases fl <;> first | exact I1.after hq | exact False.elim hq
/-- x(y) in a comprehension's block, y a lambda of the def around -/
theorem pe_tolf {TT : (XK → Hp → VK → Prop) → Hp → VK → Prop} {x y a : Str} {g : Addr} {k i : Nat} {pg : Arguments} {bg : List Stmt} {sg bsc : Scope} {dV kV doc pm cdv ct oc : Value} {an od : Option Addr} {osl : Array (Option Value)} {Ng : List Str} {cenv : Env} {fp : List Addr}
    {t : Nat → Addr → Addr → XK → TE} {p py pos : Pos} {Lm : Nat → Prop} (IL : Inv X pins σ H s) (hfp : ∀ b ∈ fp, FpOk X pins H b) (hg : Gl (X.blk s H bsc cenv fp) x) (hm : X.mg x = some (.ref g)) (hk : PySem.W.keepIn X.K (.ref g) = true)
    (lk : X.K.lookup g = some ⟨oc, od, .func (PySem.W.fnOf x x pg bg sg dV kV doc pm an cdv ct), osl⟩) (hcg : PySem.W.codeIn X.K cdv x = true) (hb : L2.Binds X.K (PySem.W.fnOf x x pg bg sg dV kV doc pm an cdv ct) [a] []) (Sg : FnScope Ng [a] sg) (hN0 : Ng[0]? = some a) (hva : Vis sg a)
    (hG : GivesTo X Ng x sg g cdv bg a (X.env.qual ++ "<lambda>") TT) (hr : Room (k + 2) X.A) (hNy : X.N[i]? = some y) (hvy : Vis cenv.scope y)
    (hact : ∀ (j : Nat) (f c1 : Addr), Lm j → ∃ (params : Arguments) (body : Expr) (scope : Scope) (tb : XK → TE), LamS X.env.scope scope ∧ (∀ (q : Str) (cl : List (Str × Addr)) (pm cv ctv : Value), bindArgs (PySem.W.kla_fn "<lambda>" q params body scope cl pm cv ctv) ⟨[], []⟩ = pure []) ∧
      (∀ (A : Around) (outer : List Env) (s : Shared) (H : Hp) (E : XK), Room k (A.deeper (lamEnv X scope s.heap.objs.size f c1)) → PE (lamCx X A outer s H E scope f c1) body (tb E)) ∧
      ∀ E H' Q', t j f c1 E σ H' Q' → H' f = some (.ext (LamIs (X.env.qual ++ "<lambda>") params body scope X.env.cells f c1)) ∧ tb E σ H' Q')
    (h1 : (x == ("__debug__" : Str)) = false) (h2 : (a == ("__debug__" : Str)) = false) (h3 : (a == ("__classdict__" : Str)) = false) (h4 : (y == ("__debug__" : Str)) = false) (h5 : (y == ("__classdict__" : Str)) = false) :
    PE (X.blk s H bsc cenv fp) (.Call (.Name x p) [.Name y py] [] pos) (fun τ H' Q => ∃ j f c1, τ[i]? = some (some (.ref f)) ∧ Lm j ∧ H' c1 = some (CodeO c1 (X.env.qual ++ "<lambda>")) ∧ TT (fun E H' Q' => t j f c1 E σ H' Q') H' Q) := by
  constructor
  intro pb s1 τ H1 Q J ⟨j, f, c1, hf, hl, hco, hq⟩
  refine wpAny_Call_Name_kw (ld_glob J hg hm ?_ h1)
  have ha : PA (X.blk s H bsc cenv fp) [.Name y py] (tCons (tVar i) tNil) := pa_cons (pe_var hNy hvy h4 h5) pa_nil
  refine PySem.W.callWith_K (h₀ := X.base) J.ok.mod.kin hk (thn (ha.run pos pb s1 τ H1 (fun vs H2 => vs = [V.ref f] ∧ H1 = H2) J ⟨.ref f, hf, rfl, rfl⟩) fun us s2 ⟨vs, H2, J2, r2, ev, eH⟩ => ?_)
  subst ev
  subst eH
  refine ⟨J2.kIn, ?_⟩
  obtain ⟨uu, eu, ru⟩ := r2.one
  have ru : uu = Value.ref f := ru
  rw [eu, ru]
  have IX : Inv X pins σ H1 s2 := IL.call' (ch := fp) J2.os J2.base J2.hok J2.bare fun b hb => ⟨(hfp b hb).2.2.2.1, (hfp b hb).2.1, (hfp b hb).2.2.2.2.1, (hfp b hb).2.2.2.2.2⟩
  obtain ⟨params, body, scope, tb, L, hbind, hbody, himp⟩ := hact j f c1 hl
  show wpAny _ _ (call (.ref g) [.ref f]) _ _ _
  refine wpAny_call (codeAny_mono (run_ofS (CX := C8.CX0) (Q := Q) (E := C8.E0) (N := Ng) (ps := [a]) (us := [.ref f]) (vs := [.ref f]) lk hcg Sg hr IX.env0 (hb s2 [.ref f] IX.kIn rfl) (.cons rfl .nil) rfl fun hr1 => ?_) fun r s3 hz => ?_)
  · obtain ⟨u, hu, hz⟩ := hG f c1 s2 H1 Q (fun E H' Q' => t j f c1 E σ H' Q') (by
      intro W pn xe E p1 p2 tk hW
      have pa := pe_act2 (i := 0) (p1 := p1) (p2 := p2) (tb := tb E) (f := f) (c1 := c1) IX L hbind tk hW hr1 (fun A outer s H hr2 => hbody A outer s H E hr2) hN0 hva h2 h3
      exact ⟨fun pins s σ H Q I ⟨q1, q2, q3⟩ => pa.run pins s σ H Q I ⟨q1, q2, himp E H Q q3⟩⟩) hco hq
    exact ⟨u, hu.nox, hz⟩
  · cases r with
    | error e => exact (show False from hz).elim
    | ok fl => cases fl <;> first | exact J2.after hz | exact False.elim hz
end
end MP

end
section
set_option Elab.async false
set_option linter.all false
set_option maxRecDepth 100000
set_option maxHeartbeats 2000000
/-! [1 for f in bad if told(f) != text]: the mirror -/
namespace MP
open PySem PySem.Spec PyProof.Rows L2 LamX

theorem wipeF_get (ρ : Fr) : ∀ (vs : List Nat) (j : Nat), (wipeF ρ vs)[j]? = if j ∈ vs then (ρ[j]?.map fun _ => none) else ρ[j]?
  | [], j => by simp [wipeF]
  | v :: vs, j => by
    have hl : ∀ vs : List Nat, (wipeF ρ vs).length = ρ.length := fun vs => by
      induction vs with
      | nil => rfl
      | cons v vs ih => unfold wipeF; rw [List.length_set, ih]
    unfold wipeF
    rw [List.getElem?_set, wipeF_get ρ vs j, hl]
    by_cases h : v = j
    · subst h
      by_cases hv : v < ρ.length <;> simp [hv]
    · simp [h, Ne.symm h]
/-- the outer slots, read off the block's -/
theorem FrR.unwipe {w : Wd} {m : Im} {H : Hp} {σ τ : L2.St} {ρ : Fr} {vs : List Nat} (f : FrR w m H τ ρ) (h : L2.wipe τ vs = L2.wipe σ vs) : FrR w m H σ (wipeF ρ vs) := by
  have hlen : σ.length = τ.length := by rw [← L2.wipe_length σ vs, ← h, L2.wipe_length]
  have hw : ∀ vs : List Nat, (wipeF ρ vs).length = ρ.length := fun vs => by
    induction vs with
    | nil => rfl
    | cons v vs ih => unfold wipeF; rw [List.length_set, ih]
  refine ⟨by rw [hw, f.len, hlen], fun i d e => ?_⟩
  rw [wipeF_get] at e
  by_cases hi : i ∈ vs
  · rw [if_pos hi] at e
    cases q : ρ[i]? <;> rw [q] at e <;> cases e
  · rw [if_neg hi] at e
    obtain ⟨v, h1, h2⟩ := f.get i d e
    refine ⟨v, ?_, h2⟩
    have z := congrArg (fun l => l[i]?) h
    simp only [MP.wipe_get, if_neg hi] at z
    rw [← z]
    exact h1
/-- told(f), f the slot i, in a block whose own slots are vs -/
def toldF (vs : List Nat) (i : Nat) (ret : List Nat) (cx : Nat → Bool) (bm : Nat → ME) : ME := fun ρ lk μ => match getS ρ[i]? with
  | some (.lam j) => toldE ret cx (bm j) (wipeF ρ vs) lk μ
  | _ => none
/-- what is known of the def that tells -/
structure TolIs (w : Wd) (X : Cx) (x : Str) (ret : Str) (cx : Nat → Bool) (k : Nat) : Prop where
  ex : ∃ (g CS : Addr) (a e : Str) (sg : Scope) (pg : Arguments) (dV kV doc pm cdv ct oc : Value) (an od : Option Addr) (osl : Array (Option Value)) (Ng : List Str) (j : Nat) (p1 p2 p3 p4 p5 p6 p7 p8 : Pos),
    X.mg x = some (.ref g) ∧ PySem.W.keepIn X.K (.ref g) = true ∧
    X.K.lookup g = some ⟨oc, od, .func (PySem.W.fnOf x x pg [.Try [.Return (some (.Call (.Name a p1) [] [] p2)) p3] [.ExceptHandler (some (.Name e p4)) none [.Return (some (.Constant (.str ret) j p5)) p6] p7] [] [] p8] sg dV kV doc pm an cdv ct), osl⟩ ∧
    PySem.W.codeIn X.K cdv x = true ∧ L2.Binds X.K (PySem.W.fnOf x x pg [.Try [.Return (some (.Call (.Name a p1) [] [] p2)) p3] [.ExceptHandler (some (.Name e p4)) none [.Return (some (.Constant (.str ret) j p5)) p6] p7] [] [] p8] sg dV kV doc pm an cdv ct) [a] [] ∧ FnScope Ng [a] sg ∧ Ng[0]? = some a ∧ Vis sg a ∧ sg.names.lookup e = some .globalImplicit ∧ X.mg e = some (.ref CS) ∧
    (∀ c, cx c = true → PySem.W.exmOne w.K (.ref (w.ca c)) (.ref CS) = some true) ∧ (x == ("__debug__" : Str)) = false ∧ (a == ("__debug__" : Str)) = false ∧ (a == ("__classdict__" : Str)) = false ∧ (e == ("__debug__" : Str)) = false
/-- what is known of the lambdas: j stands for params, body, scope -/
structure LamJ (w : Wd) (X : Cx) (k : Nat) (bm : Nat → ME) (j : Nat) : Prop where
  ex : ∃ (params : Arguments) (body : Expr) (scope : Scope), (∀ cs a c1, w.lm j cs a c1 = LamIs (X.env.qual ++ "<lambda>") params body scope X.env.cells a c1) ∧ LamS X.env.scope scope ∧
    (∀ (q : Str) (cl : List (Str × Addr)) (pm cv ctv : Value), bindArgs (PySem.W.kla_fn "<lambda>" q params body scope cl pm cv ctv) ⟨[], []⟩ = pure []) ∧
    ∀ (A : Around) (outer : List Env) (s : Shared) (H : Hp) (E : XK) (f c1 : Addr), Room k (A.deeper (lamEnv X scope s.heap.objs.size f c1)) → PE (lamCx X A outer s H E scope f c1) body (tE w E (bm j))
section
variable {X : Cx} {pins : List (Addr × Obj)} {σ : L2.St} {H : Hp} {s : Shared} {w : Wd} {E : XK} {x y : Str} {ret : Str} {cx : Nat → Bool} {k i : Nat} {bm : Nat → ME} {bsc : Scope} {cenv : Env} {fp : List Addr} {p py pos : Pos} {vs : List Nat}
theorem r_tolf (hK : X.K = w.K) (IL : Inv X pins σ H s) (hfp : ∀ b ∈ fp, FpOk X pins H b) (T : TolIs w X x ret cx k) (hg : Gl (X.blk s H bsc cenv fp) x) (hr : Room (k + 2) X.A) (hNy : X.N[i]? = some y) (hvy : Vis cenv.scope y) (hl : ∀ j, LamJ w X k bm j ∨ bm j = fun _ _ _ => none) (hco : ∀ a, w.co a = CodeIs (X.env.qual ++ "<lambda>") a)
    (h4 : (y == ("__debug__" : Str)) = false) (h5 : (y == ("__classdict__" : Str)) = false) :
    PE (X.blk s H bsc cenv fp) (.Call (.Name x p) [.Name y py] [] pos) (fun τ H' Q => L2.wipe τ vs = L2.wipe σ vs ∧ tE w X0 (toldF vs i ret.cps.toList cx bm) τ H' Q) := by
  obtain ⟨g, CS, a, e, sg, pg, dV, kV, doc, pm, cdv, ct, oc, an, od, osl, Ng, jj, p1, p2, p3, p4, p5, p6, p7, p8, q1, q2, q3, q4, q5, q6, q7, q8, q9, q10, q11, q12, q13, q14, q15⟩ := T.ex
  have hG := told_gives (X := X) (Ng := Ng) (x := x) (a := a) (q := X.env.qual ++ "<lambda>") (ret := ret) (g := g) (cdg := cdv) (j := jj) (p1 := p1) (p2 := p2) (p3 := p3) (p4 := p4) (p5 := p5) (p6 := p6) (p7 := p7) (p8 := p8) q9 q10 q15 fun f => by
    have : 0 < Ng.length := by
      cases Ng with
      | nil => cases q7
      | cons _ _ => exact Nat.succ_pos _
    rfl
  refine pe_imp (pe_tolf (t := fun j f c1 E τ H' Q' => (∃ params body scope, (∀ cs a c1, w.lm j cs a c1 = LamIs (X.env.qual ++ "<lambda>") params body scope X.env.cells a c1) ∧ H' f = some (.ext (w.lm j [] f c1))) ∧ tE w E (bm j) τ H' Q') (Lm := fun j => LamJ w X k bm j) IL hfp hg q1 q2 q3 q4 q5 q6 q7 q8 hG hr hNy hvy (fun j f c1 hj => ?_) q12 q13 q14 h4 h5) fun τ H' Q hq => ?_
  · obtain ⟨params, body, scope, r1, r2, r3, r4⟩ := hj.ex
    exact ⟨params, body, scope, fun E => tE w E (bm j), r2, r3, fun A outer s H E hr2 => r4 A outer s H E f c1 hr2, fun E H' Q' ⟨⟨_, _, _, z1, z2⟩, z3⟩ => ⟨by rw [r1] at z2; exact z2, z3⟩⟩
  · obtain ⟨hw, m, ρ, lk, μ, rp, fr, r, μ', e, kq⟩ := hq
    unfold toldF at e
    cases e1 : getS ρ[i]? with
    | none => rw [e1] at e; cases e
    | some d =>
      rw [e1] at e
      cases d <;> try (cases e; done)
      rename_i j
      simp only at e
      obtain ⟨v, hv, rv⟩ := fr.get i _ (getS_some e1)
      have hj : LamJ w X k bm j := by
        rcases hl j with h | h
        · exact h
        · unfold toldE at e
          rw [h] at e
          cases e
      obtain ⟨params, body, scope, r1, r2, r3, r4⟩ := hj.ex
      cases rv with
      | lam ha hc =>
        rename_i f c1
        refine ⟨j, f, c1, hv, hj, by rw [hc, codeIs_eq, hco], ?_⟩
        refine ⟨⟨params, body, scope, r1, by rw [ha, r1, r1]⟩, m, wipeF ρ vs, lk, μ, rp, fr.unwipe hw, ?_⟩
        unfold toldE at e
        cases e2 : bm j (wipeF ρ vs) lk μ with
        | none => rw [e2] at e; cases e
        | some pr =>
          obtain ⟨r1', μ1⟩ := pr
          rw [e2] at e
          refine ⟨r1', μ1, e2, ?_⟩
          cases r1' with
          | ok d => cases e; exact fun v m' H' a b c => kq v m' H' a b c
          | ex c =>
            simp only at e
            split at e
            · rename_i hc'
              cases e
              exact fun m' H' a b => ⟨true, hK ▸ q11 c hc', fun _ => kq _ m' H' a b (.str ret), fun z => by cases z⟩
            · cases e
end
end MP

end
section
set_option Elab.async false
set_option linter.all false
set_option maxRecDepth 100000
set_option maxHeartbeats 2000000
/-! [1 for f in bad if told(f) != text] -/
namespace MP
open PySem PySem.Spec PyProof.Rows L2 LamX

section
variable {X : Cx} {w : Wd} {E : XK} {tg iter elt : Expr} {ifs : List Expr} {scope : Scope} {own : List (Str × Nat)} {fi : MI} {g : CG} {mt me : ME} {pos : Pos} {vs : List Nat}
theorem lc_impI {ob : Bool} {σ : L2.St} {H : Hp} {Q : VK} (h : tEz w E (lcE ob vs fi g mt me) σ H Q) : tLcI (tIt w E fi) (tGc w vs g) (fun σ σ2 H Q => L2.wipe σ2 vs = L2.wipe σ vs ∧ tQ w X0 mt σ2 H Q) (tE w X0 me) vs σ H Q := by
  obtain ⟨z, m, ρ, lk, μ, rp, fr, zo, r, μ', e, q⟩ := h
  refine ⟨z, m, ρ, lk, μ, rp, fr, zo, ?_⟩
  unfold lcE at e
  cases e1 : fi z ρ lk μ with
  | none => rw [e1] at e; cases e
  | some p =>
    obtain ⟨ir, μ1⟩ := p
    rw [e1] at e
    cases ir with
    | inr c =>
      cases e
      exact ⟨.inr c, _, rfl, q⟩
    | inl ds =>
      refine ⟨.inl ds, μ1, rfl, fun J m1 H1 rp1 ex1 wk D hD => ?_⟩
      simp only at e
      cases e2 : lcL g mt me ds 0 (wipeF ρ vs) lk μ1 with
      | none => rw [e2] at e; cases e
      | some p2 =>
        obtain ⟨ys, μ2⟩ := p2
        rw [e2] at e
        simp only at e
        obtain ⟨rpD, exD⟩ := rp1.new (o := .lst []) hD
        have frW : FrR w m1 H1 (wipe σ vs) (wipeF ρ vs) := (fr.mono ex1.wx).wipe vs
        let N : Nat → Hp → Prop := fun i H => ∃ mi acc ads μi zs, Rp w mi H lk μi ∧ Ext m1 mi lk H1 H ∧ Own mi H D (.lst acc) ∧ RVs w mi H acc ads ∧ lcL g mt me (ds.drop i) acc.length (wipeF ρ vs) lk μi = some (zs, μ2) ∧ ads ++ zs = ys
        refine ⟨fun i k H => k = ds.length - i ∧ i ≤ ds.length ∧ N i H, ⟨ds.length, rfl, Nat.zero_le _, m1, [], [], μ1, ys, rpD, exD, Own.new rp1 hD, .nil, e2, rfl⟩, ?_⟩
        rintro i k H2 ⟨rfl, hi, mi, acc, ads, μi, zs, rpi, exi, owi, rvi, ei, hz⟩
        obtain ⟨w1, w2⟩ := wk i mi H2 μi rpi exi
        by_cases hlt : i < ds.length
        · obtain ⟨w3, w4⟩ := w2 ds[i] (List.getElem?_eq_getElem hlt)
          refine .inr ⟨w3, N (i + 1), fun H' n => ⟨ds.length - (i + 1), by omega, rfl, hlt, n⟩, fun x H' y => ?_⟩
          obtain ⟨m2, rp2, ex2, rx⟩ := w4 x H' y
          rw [drop_at hlt] at ei
          unfold lcL at ei
          cases e3 : g ds[i] (wipeF ρ vs) with
          | none => rw [e3] at ei; cases ei
          | some ρ2 =>
            simp only [e3] at ei
            refine ⟨ds[i], m2, wipeF ρ vs, lk, μi, ρ2, rp2, frW.mono (exi.trans ex2).wx, rx, e3, fun σ3 hw3 fr3 => ⟨hw3.trans (wipe_wipe σ vs), hw3.trans (wipe_wipe σ vs), m2, ρ2, lk, μi, rp2, fr3, ?_⟩⟩
            cases e4 : mt ρ2 lk μi with
            | none => rw [e4] at ei; cases ei
            | some p4 =>
              obtain ⟨r4, μ4⟩ := p4
              rw [e4] at ei
              cases r4 with
              | ex c => cases ei
              | ok d4 =>
                refine ⟨.ok d4, μ4, e4, fun v4 m4 H4 rp4 ex4 rv4 => ?_⟩
                cases d4 <;> try (cases ei; done)
                rename_i t
                obtain rfl := rv_bl rv4
                refine ⟨t, rfl, ?_⟩
                cases t with
                | false =>
                  exact ⟨m4, acc, ads, μ4, zs, rp4, (exi.trans ex2).trans ex4, owi.ext rfl (ex2.trans ex4), rvi.mono (ex2.trans ex4).wx, ei, hz⟩
                | true =>
                  simp only at ei
                  show tE w X0 me σ3 H4 _
                  refine ⟨m4, ρ2, lk, μ4, rp4, fr3.mono ex4.wx, ?_⟩
                  cases e5 : me ρ2 lk μ4 with
                  | none => rw [e5] at ei; cases ei
                  | some p5 =>
                    obtain ⟨r5, μ5⟩ := p5
                    rw [e5] at ei
                    cases r5 with
                    | ex c => cases ei
                    | ok d5 =>
                      refine ⟨.ok d5, μ5, e5, fun v5 m5 H5 rp5 ex5 rv5 => ?_⟩
                      simp only at ei
                      split at ei
                      · rename_i hn
                        have ex25 := (ex2.trans ex4).trans ex5
                        have ow5 := owi.ext rfl ex25
                        cases e6 : lcL g mt me (ds.drop (i + 1)) (acc.length + 1) (wipeF ρ vs) lk μ5 with
                        | none => rw [e6] at ei; cases ei
                        | some p6 =>
                          obtain ⟨zs2, μ6⟩ := p6
                          rw [e6] at ei
                          cases ei
                          refine ⟨acc, ow5.at_, by rw [sizeLine_eq]; exact hn, m5, acc ++ [v5], ads ++ [d5], μ5, zs2, ow5.rp rfl rp5, (exi.trans ex25).own hD ow5, ow5.put, ?_, ?_, ?_⟩
                          · exact ((rvi.mono ex25.wx).append (.cons rv5 .nil)).mono (own_wx ow5 rfl)
                          · rw [List.length_append, List.length_singleton]; exact e6
                          · rw [List.append_assoc]; exact hz
                      · cases ei
        · have : i = ds.length := by omega
          rw [this, List.drop_length] at ei
          cases ei
          refine .inl ⟨w1 this, ?_⟩
          rw [List.append_nil] at hz
          subst hz
          cases ob with
          | false =>
            cases e
            obtain ⟨rpG, exG⟩ := owi.give rfl rpi exi hD
            exact q _ _ _ rpG (ex1.trans exG) (.lst (.inr rfl) owi.at_ (rvi.mono (wx_frz _ _ _)))
          | true =>
            cases e
            obtain ⟨rpG, exG⟩ := owi.obj rpi exi hD (c := .lst ads) (.lst (rvi.mono (wx_obj rpi)))
            exact q _ _ _ rpG (ex1.trans exG) (.obj (if_pos rfl))

theorem z_bad {x y : Str} {ret : Str} {cx : Nat → Bool} {k i j : Nat} {bm : Nat → ME} {p py pos2 pos3 pos4 : Pos} {ex : Str} (hc : X.calm = true) (hN : X.N.Nodup) (hK : X.K = w.K) (hu : X.A.units + 70 < cLine) (hi : PI X tg iter (tIt w E fi)) (ok : BlkOk X.N X.env.scope scope own)
    (hg : ∀ (s : Shared) (H : Hp) (C : Addr) (cl : List (Str × Addr)) (fp : List Addr), PG (X.blk s H scope (compEnvC scope cl C X.env) fp) tg (tGc w (own.map (·.2)) g))
    (he : ∀ (s : Shared) (H : Hp) (C : Addr) (cl : List (Str × Addr)) (fp : List Addr), PE (X.blk s H scope (compEnvC scope cl C X.env) fp) elt (tE w X0 me)) (hs : noSet iter = true)
    (T : TolIs w X x ret cx k) (hgl : ∀ (s : Shared) (H : Hp) (C : Addr) (cl : List (Str × Addr)) (fp : List Addr), Gl (X.blk s H scope (compEnvC scope cl C X.env) fp) x) (hr : Room (k + 2) X.A) (hNy : X.N[i]? = some y) (hvy : ∀ (C : Addr) (cl : List (Str × Addr)), Vis (compEnvC scope cl C X.env).scope y)
    (hl : ∀ j, LamJ w X k bm j ∨ bm j = fun _ _ _ => none) (hco : ∀ a, w.co a = CodeIs (X.env.qual ++ "<lambda>") a) (h4 : (y == ("__debug__" : Str)) = false) (h5 : (y == ("__classdict__" : Str)) = false) :
    PE X (.ListComp elt [⟨tg, iter, [.Compare (.Call (.Name x p) [.Name y py] [] pos2) [.NotEq] [.Constant (.str ex) j pos3] pos4], 0⟩] scope pos) (tEz w E (lcE false (own.map (·.2)) fi g (op2E neD (toldF (own.map (·.2)) i ret.cps.toList cx bm) (retE (.str ex.cps.toList))) me)) := by
  refine pe_imp (pe_lcI (tt := fun σ σ2 H Q => L2.wipe σ2 (own.map (·.2)) = L2.wipe σ (own.map (·.2)) ∧ tQ w X0 (op2E neD (toldF (own.map (·.2)) i ret.cps.toList cx bm) (retE (.str ex.cps.toList))) σ2 H Q) hc hN hi ok hg (fun pins σ s H C cl fp I hfp => ?_) he (fold_ok hs)) fun _ _ _ h => lc_impI h
  have hf : cmpD .NotEq = some neD := rfl
  obtain ⟨r, ho, hs2⟩ := cmp_ok (X := X.blk s H scope (compEnvC scope cl C X.env) fp) (w := w) hK hu hf
  exact pts_one (pt_imp (pt_cmpR ho (r_tolf (vs := own.map (·.2)) hK I hfp T (hgl s H C cl fp) hr hNy (hvy C cl) hl hco h4 h5) (r_str (E := X0) (w := w)) rfl) fun σ2 H2 Q hh => by
    have z : tTest (tOp r (tE w X0 (toldF (own.map (·.2)) i ret.cps.toList cx bm)) (tE w X0 (retE (.str ex.cps.toList)))) σ2 H2 Q := tOp_of hs2 hh.2
    exact ⟨hh.1, z⟩)
end
end MP

end
section
set_option Elab.async false
set_option linter.all false
set_option maxRecDepth 100000
set_option maxHeartbeats 4000000
/-! generator expressions whose element may let an exception out: any -/
namespace GXP
open PySem PySem.Spec PyProof.Rows L2 GenW

/-- kept, into the ground; ch: what was walked -/
structure UBx (ch fs : List Addr) (H H' : Hp) (h B h' : Heap) : Prop where
  keep : ∀ b o, h.get? b = some o → H b = none → b ∉ fs → b ∉ ch → B.get? b = some o
  slot : ∀ b o, h.get? b = some o → b ∈ fs → b ∉ ch → ∃ sl, h'.get? b = some { o with slots := sl }
  free : ∀ b o, h.get? b = some o → H b = none → b ∉ ch → H' b = none
  there : ∀ b o, h.get? b = some o → b ∉ fs → b ∉ ch → ∃ o', B.get? b = some o'
  tups : ∀ b xs, H b = some (.tup xs) → H' b = some (.tup xs)
  frzs : ∀ b o xs, H b = some (.frz o xs) → H' b = some (.frz o xs)
  tbls : ∀ b ps, H b = some (.tbl ps) → ∃ more, H' b = some (.tbl (ps ++ more))
/-- an exception that leaves the generator -/
def CXx (ch : List Addr) (P : Program) (w : World) (outer : List Env) (H : Hp) (s : Shared) (E : XK) (u : Value) (s' : Shared) : Prop :=
  ∃ (a : Addr) (B : Heap) (H' : Hp) (cls : Value) (d : Option Addr), u = .ref a ∧ HandSPX.FlyingZ B outer a (Zc cls d) s'.heap ∧ HOk P w H' B ∧ UBx ch (frs outer) H H' s.heap B s'.heap ∧ H' a = none ∧ s'.os = s.os ∧ AllBare s'.gens ∧ E cls d H'

theorem leaveX {X : Cx} {W : WX} {E : XK} {s' : Shared} (hs : X.stack = X.env :: X.outer) (hf : X.env.frame = some X.env.locals) {E₁ : Value → Shared → Prop} (hW : ∀ cls d σ H, W cls d σ H → E cls d H) {u : Value} (x : XE X W u s') :
    wpAny (model X.prog X.w) X.A (leaving X.env u) (fun _ s'' => CXx X.ex X.prog X.w X.outer X.H_0 X.s_0 E u s'' ∧ ∀ p ∈ X.pn, s''.heap.get? p.1 = some p.2) E₁ s' := by
  obtain ⟨a, B, sI, pins, σ, H, cls, d, rfl, I, nb, up, sky, na, os, ag, w⟩ := x
  have hfr : X.A.frames = some (X.env :: X.outer) := by rw [I.ok.frames, hs]
  have nst : ∀ b o, X.s_0.heap.get? b = some o → b ∉ X.fs → b ∉ frs X.stack := fun b o e hb hm => by
    rcases List.mem_cons.mp (I.stkSub b hm) with z | z
    · have h1 := Heap.lt_size e
      have h2 := I.ok.above
      rw [z] at h1
      exact absurd (Nat.lt_of_lt_of_le h1 h2) (Nat.lt_irrefl _)
    · exact hb z
  have hokB := I.inGround nb
  have pinB : ∀ p ∈ X.pn, B.get? p.1 = some p.2 := fun p hp => by
    obtain ⟨h1, _, h3, h4, _⟩ := I.pin p (List.mem_append_left _ hp)
    refine nb p.1 p.2 h1 fun hm => ?_
    rcases List.mem_cons.mp (I.stkSub p.1 hm) with z | z
    · exact h3 z
    · exact h4 z
  have fin : ∀ h', HandSPX.FlyingZ B X.outer a (Zc cls d) h' → s'.heap.UpToSlots h' → (CXx X.ex X.prog X.w X.outer X.H_0 X.s_0 E (.ref a) { s' with heap := h' } ∧ ∀ p ∈ X.pn, ({ s' with heap := h' } : Shared).heap.get? p.1 = some p.2) := fun h' fl up' => by
    refine ⟨⟨a, B, H, cls, d, rfl, fl, hokB, ⟨fun b o e n hb hc => nb b o (I.base.keep b o e n hb hc) (nst b o e hb), fun b o e hb hc => ?_, fun b o e n hc => I.base.free b o e n hc, fun b o e hb hc => ?_, I.base.tups, fun b o xs e => I.base.frzs b o xs e, I.base.tbls⟩,
      na, os.trans I.os, ag, hW _ _ _ _ w⟩, fun p hp => fl.1 p.1 p.2 (pinB p hp)⟩
    · obtain ⟨_, o₀, e₀, hnf⟩ := I.ok.funs.mem hb
      rw [e] at e₀; cases e₀
      obtain ⟨sl, e1⟩ := I.base.slot b o e (I.ok.frf b hb) hb hc
      obtain ⟨sl2, e2⟩ := up b _ e1 hnf
      obtain ⟨sl3, e3⟩ := up' b _ e2 hnf
      exact ⟨sl3, e3⟩
    · obtain ⟨o', e1⟩ := I.base.there b o e hc
      exact ⟨o', nb b o' e1 (nst b o e hb)⟩
  rw [hs] at sky
  rcases sky with ⟨hB, hn, hl, oe, vs, he, hz, hd, h1⟩ | fl | hd
  · exact HandSPX.leaving_firstZ Zc.steady hfr hl hf he hB hn hd h1 hz fin
  · exact HandSPX.leaves_onZ Zc.steady hfr hf fl fin
  · exact HandSPX.leaves_heldZ hf hd fin

/-- in the def around -/
theorem of_callX {X : Cx} {pins : List (Addr × Obj)} {σ : L2.St} {H : Hp} {s s' : Shared} {E : XK} {W : WX} {ch : List Addr} (I : Inv X pins σ H s)
    (hch : ∀ b ∈ ch, (b ∈ X.ex ∨ X.s_0.heap.objs.size ≤ b) ∧ b ≠ X.env.locals ∧ (∀ x c, X.env.cells.lookup x = some c → c ≠ b) ∧ ∀ p ∈ X.pn ++ pins, p.1 ≠ b)
    (hW : ∀ cls d H', E cls d H' → W cls d σ H') {u : Value} (c : CXx ch X.prog X.w X.stack H s E u s') : XE X W u s' ∧ X.K.In s'.heap := by
  obtain ⟨a, B, H', cls, d, rfl, fl, hok, ub, na, os, ag, hE⟩ := c
  obtain ⟨G, g1, g2⟩ := restrict s'.heap fun b => (B.get? b).isSome || decide (b ∈ frs X.stack)
  have st : B.StaysIn s'.heap := fl.1
  have gB : ∀ b o, B.get? b = some o → G.get? b = some o := fun b o e => by
    rw [g1 b (by simp [e])]
    exact st b o e
  have gF : ∀ b, b ∈ frs X.stack → G.get? b = s'.heap.get? b := fun b hb => g1 b (by simp [hb])
  have og : ∀ b o, G.get? b = some o → s'.heap.get? b = some o ∧ ((B.get? b).isSome = true ∨ b ∈ frs X.stack) := fun b o e => by
    cases q : ((B.get? b).isSome || decide (b ∈ frs X.stack)) with
    | false => rw [g2 b q] at e; cases e
    | true =>
      rw [g1 b q] at e
      exact ⟨e, by simpa [Bool.or_eq_true] using q⟩
  have J : Inv X pins σ H' { s with heap := G, gens := s'.gens, drawn := s'.drawn, toks := s'.toks } := by
    refine I.call (ch := ch) ⟨fun b o e n hb hc => gB b o (ub.keep b o e n hb hc), fun b o e n hb hc => ?_, fun b o e n hc => ub.free b o e n hc, fun b o e hc => ?_, ub.tups, fun b o u e => ub.frzs b o u e, ub.tbls⟩ (hok.kept gB) ag hch
    · obtain ⟨sl, q⟩ := ub.slot b o e hb hc
      exact ⟨sl, by rw [gF b hb]; exact q⟩
    · by_cases hb : b ∈ frs X.stack
      · obtain ⟨sl, q⟩ := ub.slot b o e hb hc
        exact ⟨_, by rw [gF b hb]; exact q⟩
      · obtain ⟨o', q⟩ := ub.there b o e hb hc
        exact ⟨o', gB b o' q⟩
  refine ⟨⟨a, B, { s with heap := G, gens := s'.gens, drawn := s'.drawn, toks := s'.toks }, pins, σ, H', cls, d, rfl, J, fun b o e hb => ?_, Heap.UpToSlots.of_keeps fun b o e => (og b o e).1, .inr (.inl fl), na, os, ag, hW _ _ _ hE⟩, J.kIn.keeps fun b o e => (og b o e).1⟩
  obtain ⟨e', h⟩ := og b o e
  rcases h with h | h
  · obtain ⟨o', q⟩ := Option.isSome_iff_exists.mp h
    have z := st b o' q
    rw [e'] at z; cases z
    exact q
  · exact absurd h hb
theorem CXx.gens {ch : List Addr} {P : Program} {w : World} {outer : List Env} {H : Hp} {s s' : Shared} {E : XK} {u : Value} {g : Nat} {x : GenState} (c : CXx ch P w outer H s E u s') (hx : x.bare = true) : CXx ch P w outer H s E u (s'.setGen g x) := by
  obtain ⟨a, B, H', cls, d, z1, fl, z2, ub, z3, z4, z5, z6⟩ := c
  exact ⟨a, B, H', cls, d, z1, fl, z2, ub, z3, z4, allBare_setGen z5 hx, z6⟩
theorem notStop_x {P : Program} {w : World} {K : PySem.W.Frag} {ch : List Addr} {outer : List Env} {H : Hp} {s s' : Shared} {E : XK} {e : Value} (hE : NoStop K E) (kin : K.In s'.heap) (c : CXx ch P w outer H s E e s') : NotStop (model P w) e s'.heap := by
  obtain ⟨a, B, H', cls, d, rfl, fl, _, _, _, _, _, hW⟩ := c
  obtain ⟨oe, vs, he, hz, hd⟩ := fl.there
  have L := PySem.W.looks_subIn (M := model P w) kin (hE cls d H' hW)
  intro A Q E' s2 hs hq
  simp only [isInstance]
  refine wpAny_bind (wpAny_typeOf_ref (o := oe) (by rw [hs]; exact he) ?_)
  rw [hz.1]
  exact L A Q E' s2 (fun b o z => by rw [hs]; exact z) hq

/-- the generator's frame, with what it may let out -/
def gxE (E : XK) (X : Cx) (A : Around) (s : Shared) (H : Hp) (cenv : Env) (fp : List Addr) (pn : List (Addr × Obj)) : Cx :=
  { gxCx X A s H cenv fp pn with
    xe := fun e s' => wpAny (model X.prog X.w) (A.deeper cenv) (leaving cenv e) (fun _ s'' => CXx fp X.prog X.w X.stack H s E e s'' ∧ ∀ p ∈ pn, s''.heap.get? p.1 = some p.2) (fun _ _ => False) s' }
theorem inv_gxE {E : XK} {X : Cx} {A : Around} {s : Shared} {H : Hp} {cenv : Env} {fp : List Addr} {pn pp : List (Addr × Obj)} {σ : L2.St} {H1 : Hp} {s1 : Shared} (I : Inv (gxCx X A s H cenv fp pn) pp σ H1 s1) : Inv (gxE E X A s H cenv fp pn) pp σ H1 s1 := by
  obtain ⟨⟨⟩⟩ := I
  constructor <;> first | assumption | (constructor <;> assumption)
end GXP

end
section
set_option Elab.async false
set_option linter.all false
set_option maxRecDepth 100000
set_option maxHeartbeats 4000000
/-! generator expressions whose element may let an exception out: the loop, any -/
namespace GXP
open PySem PySem.Spec PyProof.Rows L2 GenW
def RE {α : Type} (Er : Value → Shared → Prop) (sz : α → Nat) (G : Cx) (SA : List Addr) (CS : CSt α) (fin : α → Hp → Prop) : GenEnd := fun n s₀ r s1 =>
  ((r = .ok (.ret .none) ∨ r = .ok .next) ∧ FX sz G SA CS fin n s₀ s1) ∨ ∃ e, r = .error e ∧ Er e s1
section
variable {G : Cx} {A : Around} {elt tg iter : Expr} {ifs : List Expr} {scope : Scope} {pos : Pos} {it : Addr} {SA : List Addr} {α : Type} {sz : α → Nat} {CS : CSt α} {item : Itm α} {fin : α → Hp → Prop} {Er : Value → Shared → Prop}
/-- THE LOOP -/
theorem seg_gxE {fp : List Addr} {tn : Nat → Heap → Prop} {J : It} {g : TG} {tt : TT} {te : TE} {vs : List Nat} {σ : L2.St} (hA : G.A = A.deeper G.env) (hc : G.calm = true) (hcal : A.handled = none) (hex : G.ex = fp) (ap : ApX G SA) (hxe : G.xe = fun e s' => wpAny (model G.prog G.w) G.A (leaving G.env e) (fun _ s'' => Er e s'') (fun _ _ => False) s') (hco : G.env.scope.isCoroutine = false)
    (T : Turn G.prog G.w G.K tg J fp it tn) (pg : PG G tg g) (pt : PTs G ifs tt) (pe : PE G elt te)
    (W : Nat → Nat → α → Hp → Prop)
    (turn : ∀ i m out H, W i m out H → (J.stop i H ∧ fin out H) ∨ (J.go i H ∧ ∃ Nx : α → Hp → Prop, (∀ out' H', Nx out' H' → ∃ m', m' < m ∧ W (i + 1) m' out' H') ∧ ∀ x H', J.yld i H x H' → g x (wipe σ vs) H' fun σ2 H2 => wipe σ2 vs = wipe σ vs ∧
      tt σ2 H2 fun b H3 => if b = true then te σ2 H3 fun y H4 => sz out < sizeLine ∧ item out y H4 fun out' => Nx out' H4 else Nx out H3)) :
    ∀ (m n i : Nat) (out : α) (s₀ s : Shared) (H : Hp) (cp : List (Addr × Obj)), n + sz out = sizeLine → W i m out H → Inv G cp (wipe σ vs) H s → cp.map (·.1) = SA → CS out cp → (∀ p ∈ cp, s₀.heap.get? p.1 = some p.2) → tn i s.heap → (∀ b ∈ fp, H b = none) →
      Seg (model G.prog G.w) A (RE Er sz G SA CS fin) (YX sz G SA CS item) n s₀ (.compLoop (.GeneratorExp elt [⟨tg, iter, ifs, 0⟩] scope pos) 0 (.ref it) .none G.env)
        ((model G.prog G.w).den (.compLoop (.GeneratorExp elt [⟨tg, iter, ifs, 0⟩] scope pos) 0 (.ref it) .none G.env)) [] s := by
  have ov : A.over (.compLoop (.GeneratorExp elt [⟨tg, iter, ifs, 0⟩] scope pos) 0 (.ref it) .none G.env) [] = G.A := over_gx.trans hA.symm
  have stat : ∀ {σ' : L2.St} {H' : Hp} {s' : Shared} {cp : List (Addr × Obj)}, cp.map (·.1) = SA → Inv G cp σ' H' s' → (∀ b ∈ fp, H' b = none) → ∀ b ∈ fp, FpOk G cp H' b := fun {σ' H' s' cp} hcp I' hn b hb => by
    have hb' : b ∈ G.ex := by rw [hex]; exact hb
    refine ⟨hn b hb, (I'.ok.exf b hb').1, I'.ok.exfs b hb', .inl hb', fun x c e => (I'.ok.exf b hb').2 x c e, fun p hp e => ?_⟩
    rcases List.mem_append.mp hp with z | z
    · exact (ap.pn p z).2 (e ▸ hb')
    · have hS : p.1 ∈ SA := by rw [← hcp]; exact List.mem_map.mpr ⟨p, z, rfl⟩
      exact (ap.young _ hS).2.2.2 (e ▸ hb')
  intro m
  induction m using Nat.strongRecOn with
  | ind m ih =>
    intro n i out s₀ s H cp hn w I hcp hcs h0 st nfp
    show Seg _ A _ _ _ s₀ _ ((compTurn (.GeneratorExp elt [⟨tg, iter, ifs, 0⟩] scope pos) 0 (.ref it) .none G.env).onRaise (leaving G.env)) [] s
    rw [compTurn_gen, Sem.onRaise_eq_wrap]
    refine seg_bind_wrap (wpAny_standAt ?_)
    rcases turn i m out H w with ⟨stop, qq⟩ | ⟨go, Nx, hNx, step⟩
    · refine seg_bind_wrap ?_
      rw [ov]
      refine wpAny_mono (T.done G rfl rfl rfl hc i cp s _ H (fun _ _ => False) I (stat hcp I nfp) st stop) (fun r s6 ⟨hr, I6⟩ => ?_) fun _ _ z => z.elim
      subst hr
      exact seg_end (.ok .next) (.inl ⟨.inr rfl, out, H, _, [], cp, hn, by rw [List.append_nil]; exact I6, hcp, hcs, h0, qq⟩)
    · refine seg_bind_wrap ?_
      rw [ov]
      refine wpAny_mono (T.item G rfl rfl rfl hc i cp s _ H (fun _ _ => False) I (stat hcp I nfp) st go) (fun r s6 ⟨u, hr, h6⟩ => ?_) fun _ _ z => z.elim
      subst hr
      refine seg_bind_wrap ?_
      rw [ov]
      refine wpAny_mono h6 (fun _ s7 ⟨x, H7, I7, r7, y7, st7, n7⟩ => ?_) fun _ _ z => z.elim
      have I7' := I7.pinned (stat hcp I7 n7) (T.obj _ _ st7)
      refine seg_bind_wrap ?_
      rw [ov]
      refine wpAny_mono (pg.run _ s7 _ H7 x u _ I7' r7 (step x H7 y7)) (fun _ s8 ⟨σ8, H8, I8, hw8, q8⟩ => ?_) (fun e s' z => by rw [hxe] at z; show Seg _ _ _ _ _ _ _ (leaving G.env e >>= fun _ => Sem.raise e) [] s'; refine seg_bind ?_; rw [ov]; exact wpAny_mono z (fun _ s'' q => seg_end (.error e) (.inr ⟨e, rfl, q⟩)) fun _ _ q => q.elim)
      refine seg_bind_wrap ?_
      rw [ov]
      refine wpAny_mono (pt.run _ s8 σ8 H8 _ I8 q8) (fun b s9 ⟨H9, I9, q9⟩ => ?_) (fun e s' z => by rw [hxe] at z; show Seg _ _ _ _ _ _ _ (leaving G.env e >>= fun _ => Sem.raise e) [] s'; refine seg_bind ?_; rw [ov]; exact wpAny_mono z (fun _ s'' q => seg_end (.error e) (.inr ⟨e, rfl, q⟩)) fun _ _ q => q.elim)
      have hl : (wipe σ vs).length = σ8.length := by rw [← hw8, wipe_length]
      have pinF : ∀ {s' : Shared} {H' : Hp} {pl : List (Addr × Obj)}, Inv G (cp ++ pinsAt fp s7.heap) σ8 H' s' → ∀ b ∈ fp, ∀ o, s7.heap.get? b = some o → s'.heap.get? b = some o ∧ H' b = none := fun {s' H' pl} I' b hb o e =>
        let z := I'.pin (b, o) (List.mem_append_right _ (List.mem_append_right _ (mem_pinsAt hb e)))
        ⟨z.1, z.2.1⟩
      have nF : ∀ {s' : Shared} {H' : Hp}, Inv G (cp ++ pinsAt fp s7.heap) σ8 H' s' → ∀ b ∈ fp, H' b = none := fun {s' H'} I' b hb => by
        obtain ⟨o, e, _⟩ := T.obj _ _ st7 b hb
        exact (pinF (pl := []) I' b hb o e).2
      have back : ∀ {s' : Shared} {H' : Hp} {pl : List (Addr × Obj)}, Inv G pl σ8 H' s' → Inv G pl (wipe σ vs) H' s' := fun {s' H' pl} I' => I'.weak hl fun j v e => by
        rw [← hw8] at e
        exact (wipe_some e).1
      cases b with
      | false =>
        simp only [Bool.false_eq_true, if_false] at q9 ⊢
        obtain ⟨m', hm, w'⟩ := hNx out H9 q9
        exact seg_again rfl (ih m' hm n (i + 1) out s₀ s9 H9 cp hn w' (back I9.unpinned) hcp hcs h0 (T.keep _ _ _ st7 fun b hb o e => (pinF (pl := []) I9 b hb o e).1) (nF I9))
      | true =>
        simp only [if_true] at q9 ⊢
        have hy : ∀ v, yieldOut G.env v = yieldValue v := fun v => by simp only [yieldOut, hco, Bool.false_eq_true, if_false]
        simp only [hy]
        rw [Sem.bind_eq_wrap', Sem.bind_eq_wrap', Sem.wrap_wrap, Sem.wrap_wrap]
        refine seg_wrap ?_
        rw [ov]
        refine wpAny_mono (pe.run _ s9 σ8 H9 _ I9 q9) (fun z s10 ⟨yv, H10, I10, r10, hlt, hit⟩ => ?_) (fun e s' z => by rw [hxe] at z; show Seg _ _ _ _ _ _ _ (leaving G.env e >>= fun _ => Sem.raise e) [] s'; refine seg_bind ?_; rw [ov]; exact wpAny_mono z (fun _ s'' q => seg_end (.error e) (.inr ⟨e, rfl, q⟩)) fun _ _ q => q.elim)
        obtain ⟨k, rfl⟩ : ∃ k, n = k + 1 := ⟨n - 1, by omega⟩
        refine seg_at (seg_yield rfl rfl rfl ⟨out, yv, H10, σ8, pinsAt fp s7.heap, cp, _, hn, r10, I10, hcp, hcs, h0, hit, fun out' hsz nx s'' hsl => ?_⟩)
        obtain ⟨m', hm, w'⟩ := hNx out' H10 nx
        obtain ⟨cp', c1, c2, c3, c4⟩ := woken ap hcp I10 hsl
        refine seg_again rfl (ih m' hm k (i + 1) out' s'' s'' H10 cp' (by omega) w' (back c3) c1 c2 (fun p hp => (c3.pin p (List.mem_append_right _ hp)).1) (T.keep _ _ _ st7 fun b hb o e => c4 b o ?_ (pinF (pl := []) I10 b hb o e).1) (nF I10))
        exact fun hS => (ap.young b hS).2.2.2 (by rw [hex]; exact hb)

/-- from the start of the generator -/
theorem seg_gx0E {n : Nat} {s₀ s : Shared} (hA : G.A = A.deeper G.env) (hself : ∀ (A : Around) (Q : Value → Shared → Prop) (E : Value → Shared → Prop), Q (.ref it) s → wpAny (model G.prog G.w) A (pyIter (.ref it)) Q E s)
    (loop : Seg (model G.prog G.w) A (RE Er sz G SA CS fin) (YX sz G SA CS item) n s₀ (.compLoop (.GeneratorExp elt [⟨tg, iter, ifs, 0⟩] scope pos) 0 (.ref it) .none G.env)
        ((model G.prog G.w).den (.compLoop (.GeneratorExp elt [⟨tg, iter, ifs, 0⟩] scope pos) 0 (.ref it) .none G.env)) [] s) :
    Seg (model G.prog G.w) A (RE Er sz G SA CS fin) (YX sz G SA CS item) n s₀ (.compStart (.GeneratorExp elt [⟨tg, iter, ifs, 0⟩] scope pos) 0 (.ref it) .none G.env)
        ((model G.prog G.w).den (.compStart (.GeneratorExp elt [⟨tg, iter, ifs, 0⟩] scope pos) 0 (.ref it) .none G.env)) [] s := by
  show Seg _ A _ _ _ s₀ _ ((compStart (.GeneratorExp elt [⟨tg, iter, ifs, 0⟩] scope pos) 0 (.ref it) .none G.env).onRaise (leaving G.env)) [] s
  unfold compStart
  rw [Sem.onRaise_eq_wrap]
  show Seg _ A _ _ _ s₀ _ ((ask >>= _).wrap _ _ _ _) [] s
  refine seg_bind_wrap (wpAny_askSetting ?_)
  split
  · exact seg_again rfl loop
  · first
      | exact seg_bind_wrap (wpAny_rule (seg_bind_wrap (wpAny_standAt (seg_bind_wrap (hself _ _ _ (seg_again rfl loop))))))
      | (refine seg_bind_wrap (wpAny_rule ?_); show Seg _ A _ _ _ s₀ _ ((standAt iter.pos >>= _).wrap _ _ _ _) [] s; exact seg_bind_wrap (wpAny_standAt (seg_bind_wrap (hself _ _ _ (seg_again rfl loop)))))
end
/-- the generator at a sleeps, ready -/
def GPE {α : Type} (Er : Value → Shared → Prop) (sz : α → Nat) (G : Cx) (A : Around) (SA : List Addr) (CS : CSt α) (item : Itm α) (fin : α → Hp → Prop) (a : Addr) (g : Nat) (n : Nat) (s : Shared) : Prop :=
  s.heap.IsGen a g ∧ s.heap.NoLimit ∧ ∃ gs, s.gens[g]? = some gs ∧ gs.Goes (model G.prog G.w) A (RE Er sz G SA CS fin) (YX sz G SA CS item) n (.send .none) (s.setGen g .running)

theorem gx_nextE {G : Cx} {A : Around} {SA : List Addr} {α : Type} {sz : α → Nat} {CS : CSt α} {item : Itm α} {fin : α → Hp → Prop} {Er : Value → Shared → Prop} {a : Addr} {g n : Nat} {s : Shared} {Q : Option Value → Shared → Prop} {E : Value → Shared → Prop}
    (hh : A.handled = none) (hroom : A.depth < recursionLimit) (haS : a ∉ SA) (hcS : cStatics ∉ SA) (hap : ∃ go, (a, go) ∈ G.pn ∧ ∀ h : Heap, h.get? a = some go → h.IsGen a g) (h : GPE Er sz G A.in1 SA CS item fin a g n s)
    (herr : ∀ e s1, Er e s1 → s1.heap.IsGen a g ∧ NotStop (model G.prog G.w) e s1.heap ∧ E e (s1.setGen g .finished))
    (hnone : ∀ s1 s0 out H' σ' pn' cp, n + sz out = sizeLine → Inv G (cp ++ pn') σ' H' s0 → cp.map (·.1) = SA → CS out cp → (∀ p ∈ cp, s.heap.get? p.1 = some p.2) → fin out H' → s1.os = s0.os → AllBare s1.gens → (∀ b o, s0.heap.get? b = some o → s1.heap.get? b = some o) → Q none s1)
    (hsome : ∀ v s1 out x H' σ' pn' cp Nc, sz out < sizeLine → RelV x v → Inv G (cp ++ pn') σ' H' s1 → cp.map (·.1) = SA → CS out cp → (∀ p ∈ cp, s.heap.get? p.1 = some p.2) → item out x H' Nc →
      (∀ out', sz out' = sz out + 1 → Nc out' → ∀ s', s'.gens = s1.gens → SlX SA CS out' s1 s' → 0 < n ∧ GPE Er sz G A.in1 SA CS item fin a g (n - 1) s') → Q (some v) s1) :
    wpAny (model G.prog G.w) A (pyNext (.ref a)) Q E s := by
  obtain ⟨hg, hl, gs, hgs, hgo⟩ := h
  have hgl : g < s.gens.size := (Array.getElem?_eq_some_iff.mp hgs).1
  refine wpAny_gsz (n := g + 1) hgl (next_genG (F := FX sz G SA CS fin) (Er := Er) hh hl hroom hg hgs hgo (fun v s₁ gs' hb hv => ?_) (fun s₁ hp h' hk => ?_) fun e s₁ he => ⟨(herr e s₁ he).1, (herr e s₁ he).2.1, fun _ => (herr e s₁ he).2.2⟩)
  · intro hsz
    obtain ⟨out, x, H', σ', pn', cp, Nc, hn, rx, I, hcp, hcs, h0, hit, hk⟩ := hv
    have hsz1 : g < s₁.gens.size := by
      have q : (s₁.setGen g gs').gens.size = s₁.gens.size := setGen_size _ _ _
      have hsz' : g + 1 ≤ (s₁.setGen g gs').gens.size := hsz
      omega
    have hg1 : s₁.heap.IsGen a g := by
      obtain ⟨go, hpn, hgo'⟩ := hap
      exact hgo' _ (I.pin (a, go) (List.mem_append_left _ hpn)).1
    refine hsome v _ out x H' σ' pn' cp Nc (by omega) rx (inv_gens I hb) hcp hcs h0 hit fun out' hsz' nc s' hgens hsl => ?_
    obtain ⟨y1, y2, y3, y4⟩ := hsl
    have hs'' : SlX SA CS out' s₁ (s'.setGen g .running) := ⟨y1, allBare_setGen y2 rfl, fun b o hb e => y3 b o hb e, y4⟩
    have kk := hk out' hsz' nc _ hs''
    cases n with
    | zero => exact False.elim kk
    | succ m =>
      refine ⟨Nat.succ_pos _, ?_, ?_, gs', by rw [hgens]; exact setGen_at hsz1, kk⟩
      · obtain ⟨o, nm, qn, ho, r⟩ := hg1
        exact ⟨o, nm, qn, y3 a o haS ho, r⟩
      · obtain ⟨mc, hns, hnn⟩ := I.nolimit
        exact ⟨mc, hns.at' fun o e => y3 _ o hcS e, hnn⟩
  · intro _
    obtain ⟨out, H', σ', pn', cp, hn, I, hcp, hcs, h0, hf⟩ := hp
    exact hnone _ s₁ out H' σ' pn' cp hn I hcp hcs h0 hf rfl (allBare_setGen I.bare rfl) hk

section
variable {X : Cx} {pins : List (Addr × Obj)} {σ : L2.St} {H : Hp} {s : Shared} {E : XK}
/-- woken for the first time by a consumer whose objects stand at SA -/
theorem gx_wakeE (hNd : X.N.Nodup) {elt tg iter : Expr} {ifs : List Expr} {gpos : Pos} {scope : Scope} {own : List (Str × Nat)} {s5 s6 : Shared} {a g : Nat} {go : Obj} {s4 : Shared} {H2 : Hp} {fp : List Addr} {tn : Nat → Heap → Prop} {J : It} {it : Addr} {code : Value}
    {A : Around} {SA : List Addr} {α : Type} {sz : α → Nat} {CS : CSt α} {item : Itm α} {fin : α → Hp → Prop} {a0 : α} {gt : TG} {tt : TT} {te : TE} {k : Nat} (M : GMk X pins σ elt tg iter ifs scope gpos s5 a g go s4 H2 fp tn J it code) (ok : GOk X.N X.env.scope scope own)
    (hr : Room (k + 1) A) (hfr : A.frames = some X.stack)
    (hg : ∀ A s H C cd fp pn, PG (gxE E X A s H (genEnv scope (cloFrom X.env.cells scope.names []) C cd builtinsNs X.env) fp pn) tg gt)
    (ht : ∀ A s H C cd fp pn, Room k (A.deeper (genEnv scope (cloFrom X.env.cells scope.names []) C cd builtinsNs X.env)) → PTs (gxE E X A s H (genEnv scope (cloFrom X.env.cells scope.names []) C cd builtinsNs X.env) fp pn) ifs tt)
    (he : ∀ A s H C cd fp pn, Room k (A.deeper (genEnv scope (cloFrom X.env.cells scope.names []) C cd builtinsNs X.env)) → PE (gxE E X A s H (genEnv scope (cloFrom X.env.cells scope.names []) C cd builtinsNs X.env) fp pn) elt te)
    (kp : ∀ b o, s5.heap.get? b = some o → s6.heap.get? b = some o) (hos : s6.os = s5.os) (hgn : s6.gens = s5.gens) (hSA : ∀ b ∈ SA, s5.heap.objs.size ≤ b)
    (hcp : ∃ cp : List (Addr × Obj), cp.map (·.1) = SA ∧ CS a0 cp ∧ ∀ p ∈ cp, s6.heap.get? p.1 = some p.2 ∧ ∀ v, p.2.data ≠ .cell v)
    (ha0 : sz a0 = 0) (hW : ∃ W : Nat → Nat → α → Hp → Prop, (∃ m, W 0 m a0 H2) ∧ ∀ i m out H, W i m out H → (J.stop i H ∧ fin out H) ∨ (J.go i H ∧ ∃ Nx : α → Hp → Prop, (∀ out' H', Nx out' H' → ∃ m', m' < m ∧ W (i + 1) m' out' H') ∧ ∀ x H', J.yld i H x H' → gt x (wipe σ (own.map (·.2))) H' fun σ2 H2 => wipe σ2 (own.map (·.2)) = wipe σ (own.map (·.2)) ∧
      tt σ2 H2 fun b H3 => if b = true then te σ2 H3 fun y H4 => sz out < sizeLine ∧ item out y H4 fun out' => Nx out' H4 else Nx out H3)) :
    let G := gxE E X A s4 H2 (genEnv scope (cloFrom X.env.cells scope.names []) s4.heap.objs.size code builtinsNs X.env) fp [(a, go)]
    GPE (fun e s'' => CXx fp X.prog X.w X.stack H2 s4 E e s'' ∧ ∀ p ∈ [(a, go)], s''.heap.get? p.1 = some p.2) sz G A SA CS item fin a g sizeLine s6 ∧ a ∉ SA ∧ cStatics ∉ SA ∧ (∃ go, (a, go) ∈ G.pn ∧ ∀ h : Heap, h.get? a = some go → h.IsGen a g) := by
  intro G
  obtain ⟨cp, c1, c2, c3⟩ := hcp
  obtain ⟨W, ⟨m0, w0⟩, turn⟩ := hW
  have alt : a < s5.heap.objs.size := Heap.lt_size M.at_
  have aS : a ∉ SA := fun z => absurd (Nat.lt_of_lt_of_le alt (hSA a z)) (Nat.lt_irrefl _)
  have lim5 : s5.heap.NoLimit := M.inv.nolimit.keeps M.kp
  have lim6 : s6.heap.NoLimit := lim5.keeps kp
  have cS : cStatics ∉ SA := fun z => by
    have : cStatics < s5.heap.objs.size := let ⟨_, hn, _⟩ := lim5; hn.lt
    exact absurd (Nat.lt_of_lt_of_le this (hSA _ z)) (Nat.lt_irrefl _)
  have hpn : ∀ p ∈ [(a, go)] ++ cp, s6.heap.get? p.1 = some p.2 ∧ s4.heap.objs.size < p.1 ∧ ∀ v, p.2.data ≠ .cell v := fun p hp => by
    rcases List.mem_append.mp hp with z | z
    · rw [List.mem_singleton.mp z]
      exact ⟨kp _ _ M.at_, M.lt, M.nc⟩
    · have hS : p.1 ∈ SA := by rw [← c1]; exact List.mem_map.mpr ⟨p, z, rfl⟩
      exact ⟨(c3 p z).1, Nat.lt_trans M.lt (Nat.lt_of_lt_of_le alt (hSA _ hS)), (c3 p z).2⟩
  have I6 : Inv G cp (wipe σ (own.map (·.2))) H2 (s6.setGen g .running) :=
    inv_gxE <| gx_start hNd (pp := cp) M.inv ok M.fpk hr.hd hfr (M.ns.keeps kp) (fun b o e => kp b o (M.kp b o e)) (hos.trans M.os) (allBare_setGen (by rw [hgn]; exact M.bare) rfl) hpn
  have ap : ApX G SA := by
    refine ⟨fun b hb => ?_, fun p hp => ?_⟩
    · have h1 : s4.heap.objs.size < b := Nat.lt_trans M.lt (Nat.lt_of_lt_of_le alt (hSA b hb))
      refine ⟨Nat.le_of_lt h1, Nat.ne_of_gt h1, fun x c e z => ?_, fun z => ?_⟩
      · obtain ⟨v, o, ho, _⟩ := I6.cell x c e
        have e : (cloFrom X.env.cells scope.names []).lookup x = some c := e
        rcases cloFrom_mem (PySem.mem_of_lookup e) with hm | ⟨q1, q2⟩
        · cases hm
        · have q3 : ∃ c, X.env.cells.lookup x = some c := by
            rcases ok.blk.free _ q1 rfl with k | k
            · exact M.inv.ok.has _ (.inl k)
            · exact M.inv.ok.has _ (.inr k)
          obtain ⟨c1, q3⟩ := q3
          obtain ⟨v1, q4⟩ := M.inv.cell x c1 q3
          have q5 : c = c1 := by rw [q2, q3] <;> rfl
          have := q4.lt
          rw [← q5, z] at this
          exact absurd (Nat.lt_trans this h1) (Nat.lt_irrefl _)
      · exact absurd (Nat.lt_trans (M.fpk b z).2 h1) (Nat.lt_irrefl _)
    · rw [List.mem_singleton.mp (show p ∈ [(a, go)] from hp)]
      exact ⟨aS, fun z => absurd (Nat.lt_trans (M.fpk a z).2 M.lt) (Nat.lt_irrefl _)⟩
  have hgs := M.gs
  rw [← hgn] at hgs
  refine ⟨⟨(M.gen _ (kp _ _ M.at_)), lim6, _, hgs, rfl, ?_⟩, aS, cS, go, List.mem_singleton.mpr rfl, M.gen⟩
  have st6 : tn 0 (s6.setGen g .running).heap := M.turn.keep _ _ _ M.tn0 fun b _ o e => kp b o (M.kp b o e)
  refine seg_gx0E (G := G) rfl (fun A' Q E hq => M.turn.self A' 0 _ _ _ st6 hq) ?_
  exact seg_gxE (G := G) (vs := own.map (·.2)) (σ := σ) rfl rfl hr.hd rfl ap rfl ok.co M.turn (hg A s4 H2 _ code fp _) (ht A s4 H2 _ code fp _ (hr.deeper _)) (he A s4 H2 _ code fp _ (hr.deeper _)) W turn m0 sizeLine 0 a0 _ _ H2 cp (by rw [ha0]; rfl) w0 I6 c1 c2 (fun p hp => (c3 p hp).1) st6 fun b hb => (M.fpk b hb).1.1

/-- back in the def's context -/
theorem gx_backE {elt tg iter : Expr} {ifs : List Expr} {gpos : Pos} {scope : Scope} {s5 : Shared} {a g : Nat} {go : Obj} {s4 : Shared} {H2 : Hp} {fp : List Addr} {tn : Nat → Heap → Prop} {J : It} {it : Addr} {code : Value} {A : Around} {cenv : Env} {pn pp : List (Addr × Obj)}
    (M : GMk X pins σ elt tg iter ifs scope gpos s5 a g go s4 H2 fp tn J it code) {σ' : L2.St} {H' : Hp} {s0 s' : Shared} (I : Inv (gxE E X A s4 H2 cenv fp pn) pp σ' H' s0) (hos : s'.os = s0.os) (hba : AllBare s'.gens) (kp : ∀ b o, s0.heap.get? b = some o → s'.heap.get? b = some o) : Inv X pins σ H' s' :=
  M.inv.call' (ch := fp) (hos.trans I.os) ((I.base).trans (Un.kept kp)) (I.hok.kept kp) hba fun b hb => ⟨(M.fpk b hb).1.2.2.2.1, (M.fpk b hb).1.2.1, (M.fpk b hb).1.2.2.2.2.1, (M.fpk b hb).1.2.2.2.2.2⟩
end
section
variable {G : Cx} {A : Around} {a g : Nat} {T : Hp → Prop} {fin : Nat → Hp → Prop} {R : Result → Shared → Prop} {Er : Value → Shared → Prop}
theorem any_loopE (hh : A.handled = none) (hroom : A.depth < recursionLimit) (hap : ∃ go, (a, go) ∈ G.pn ∧ ∀ h : Heap, h.get? a = some go → h.IsGen a g)
    (hE : ∀ e s1, Er e s1 → s1.heap.IsGen a g ∧ NotStop (model G.prog G.w) e s1.heap ∧ R (.error e) (s1.setGen g .finished))
    (hT : ∀ s1 s0 H' σ' pp, Inv G pp σ' H' s0 → s1.os = s0.os → AllBare s1.gens → (∀ b o, s0.heap.get? b = some o → s1.heap.get? b = some o) → T H' → R (.ok (.ret (.bool true))) s1)
    (hF : ∀ s1 s0 H' σ' pp out, Inv G pp σ' H' s0 → s1.os = s0.os → AllBare s1.gens → (∀ b o, s0.heap.get? b = some o → s1.heap.get? b = some o) → fin out H' → R (.ok (.ret (.bool false))) s1) :
    ∀ (n : Nat) (s : Shared), GPE Er id G A.in1.in1 [] (fun _ cp => cp = []) (itBool true T) fin a g n s → codeAny (model G.prog G.w) A (.builtin "any.loop" ⟨[.ref a], []⟩) R s := by
  intro n
  induction n using Nat.strongRecOn with
  | ind n ih =>
    intro s h
    refine codeAny_builtin F.entry_any_loop ?_
    rw [Around.under_plainId F.plain_any_loop _]
    show wpAny _ A.in1 (pyNext (.ref a) >>= _) _ _ s
    refine wpAny_bind (gx_nextE (A := A.in1) hh hroom (by simp) (by simp) hap h (fun e s1 z => hE e s1 z) (fun s1 s0 out H' σ' pn' cp _ I _ _ _ hf h1 h2 h3 => ?_) fun v s1 out x H' σ' pn' cp Nc hlt rx I hcp hcs h0 hit hk => ?_)
    · exact wpAny_bind (wpAny_rule (wpAny_pure (hF s1 s0 H' σ' _ out I h1 h2 h3 hf)))
    · obtain ⟨b, rfl, hb1, hb2⟩ := hit
      obtain rfl : v = Value.bool b := rx
      refine wpAny_bind (wpAny_holding (wpAny_truthy_bool ?_))
      refine wpAny_bind (wpAny_letGo ?_)
      cases b with
      | false =>
        simp only [Bool.false_eq_true, if_false]
        obtain ⟨h1, h2⟩ := hk (out + 1) rfl (hb2 (by decide)) s1 rfl ⟨rfl, I.bare, fun _ _ _ e => e, [], rfl, rfl, fun _ z => absurd z (by simp)⟩
        exact wpAny_pure ⟨plainId_quiet F.plain_any_loop _, ih (n - 1) (by omega) s1 h2⟩
      | true =>
        simp only [if_true]
        exact wpAny_bind (wpAny_rule (wpAny_pure (hT s1 s1 H' σ' _ I rfl I.bare (fun _ _ e => e) (hb1 rfl))))
end
/-- the parts of a generator expression in X -/
structure GDE (E : XK) (X : Cx) (k : Nat) (elt tg iter : Expr) (ifs : List Expr) (scope : Scope) (own : List (Str × Nat)) (P : Addr) (wi : TI) (gt : TG) (tt : TT) (te : TE) : Prop where
  nd : X.N.Nodup
  tab : ∃ c, TabB X.base X.mg c P ∧ X.env.code = .ref c
  ok : GOk X.N X.env.scope scope own
  it : PI X tg iter wi
  fold : ∀ v, genFold iter X.env v = pure v
  tgt : ∀ A s H C cd fp pn, PG (gxE E X A s H (genEnv scope (cloFrom X.env.cells scope.names []) C cd builtinsNs X.env) fp pn) tg gt
  tst : ∀ A s H C cd fp pn, Room k (A.deeper (genEnv scope (cloFrom X.env.cells scope.names []) C cd builtinsNs X.env)) → PTs (gxE E X A s H (genEnv scope (cloFrom X.env.cells scope.names []) C cd builtinsNs X.env) fp pn) ifs tt
  elt : ∀ A s H C cd fp pn, Room k (A.deeper (genEnv scope (cloFrom X.env.cells scope.names []) C cd builtinsNs X.env)) → PE (gxE E X A s H (genEnv scope (cloFrom X.env.cells scope.names []) C cd builtinsNs X.env) fp pn) elt te

section
variable {X : Cx} {E : XK} {k : Nat} {elt tg iter : Expr} {ifs : List Expr} {scope : Scope} {own : List (Str × Nat)} {P : Addr} {wi : TI} {gt : TG} {tt : TT} {te : TE} {p pos gpos : Pos}
theorem pe_ganyE (hx : Takes X fun cls d _ H => E cls d H) (hns : NoStop X.K E) (D : GDE E X k elt tg iter ifs scope own P wi gt tt te) (hr : Room (k + 4) X.A) (hg : Gl X "any") (hm : X.mg "any" = none)
    (he : starEach [.GeneratorExp elt [⟨tg, iter, ifs, 0⟩] scope gpos] X.env = (false, eval (.GeneratorExp elt [⟨tg, iter, ifs, 0⟩] scope gpos) X.env) :: starEach [] X.env := by rfl) :
    PE X (.Call (.Name "any" p) [.GeneratorExp elt [⟨tg, iter, ifs, 0⟩] scope gpos] [] pos) (tGAny P wi gt tt te (own.map (·.2))) := by
  refine ⟨fun pins s σ H Q I h => ?_⟩
  obtain ⟨c, TB, hcode⟩ := D.tab
  refine wpAny_Call_Name_kw (ld_blt I hg hm boot_any ?_)
  refine PyProof.Rows.callWith_builtin1 ?_ he (by rfl)
  rw [he]
  show wpAny _ _ (spliced ((false, eval (.GeneratorExp elt [⟨tg, iter, ifs, 0⟩] scope gpos) X.env) :: backTo pos (starEach [] X.env))) _ _ s
  refine Calls.spliced_cons (gx_make (k := k + 4) hr TB hcode D.ok D.it D.fold I h fun s5 a g go s4 H2 fp tn J it code M hZ => ?_)
  refine Calls.spliced_nil ?_
  refine call_function_tree F.kind_any F.plain_any F.entry_any (F.args_any1 _) ?_
  unfold Builtin.«any»
  refine wpAny_bind (m := oneArg "any" _) (wpAny_pure ?_)
  refine wpAny_bind (wpAny_pyIter_gen (M.gen _ M.at_) ?_)
  obtain ⟨w1, w2, w3, w4⟩ := gx_wakeE (E := E) (α := Nat) (sz := id) (a0 := 0) D.nd (s6 := s5) (A := X.A.in1.in1) (SA := []) (CS := fun _ cp => cp = []) (k := k) M D.ok ((hr.mono (by omega : k + 1 + 2 ≤ k + 4)).in1.in1) I.ok.frames D.tgt D.tst D.elt (fun _ _ e => e) rfl rfl (by simp) ⟨[], rfl, rfl, fun _ z => absurd z (by simp)⟩ rfl hZ
  refine wpAny_pure ⟨plainId_quiet F.plain_any_loop _, any_loopE (A := X.A) hr.hd (by have := hr.dp; show X.A.depth < _; omega) w4 (fun e s1 z => ?_) (fun s1 s0 H' σ' pp J' h1 h2 h3 hq => ?_) (fun s1 s0 H' σ' pp out J' h1 h2 h3 hq => ?_) sizeLine s5 w1⟩
  · obtain ⟨hc, hp⟩ := z
    obtain ⟨x1, kin⟩ := of_callX (W := fun cls d _ H => E cls d H) M.inv (fun b hb => ⟨(M.fpk b hb).1.2.2.2.1, (M.fpk b hb).1.2.1, (M.fpk b hb).1.2.2.2.2.1, (M.fpk b hb).1.2.2.2.2.2⟩) (fun _ _ _ h => h) (hc.gens (g := g) (x := .finished) rfl)
    exact ⟨M.gen _ (hp (a, go) (List.mem_singleton.mpr rfl)), notStop_x hns kin hc, hx e _ x1⟩
  · exact ⟨.bl true, H', gx_backE (E := E) M J' h1 h2 h3, rfl, hq⟩
  · exact ⟨.bl false, H', gx_backE (E := E) M J' h1 h2 h3, rfl, hq⟩
end
end GXP

end
section
set_option Elab.async false
set_option linter.all false
set_option maxRecDepth 100000
set_option maxHeartbeats 2000000
/-! the mirror: any over a generator expression whose element may let an exception out -/
namespace MP
open PySem PyProof.Rows L2 GXP

/-- the exceptions that may pass a generator -/
def exN (w : Wd) (E : XK) : XK := fun cls d H => E cls d H ∧ PySem.W.subIn w.K cls (.type "StopIteration") = some false
def anyL (ns : List Nat) (tg : CG) (tt te : ME) : List D → Nat → Fr → Lk → Sto → Option (Sum Bool Nat × Sto)
  | [], _, _, _, μ => some (.inl false, μ)
  | d :: r, n, ρ, lk, μ => match tg d ρ with
    | none => none
    | some ρ2 => match tt ρ2 lk μ with
      | some (.ok (.bl true), μ1) => match te ρ2 lk μ1 with
        | some (.ok (.bl b), μ2) => if n < 16777216 then (if b then some (.inl true, μ2) else anyL ns tg tt te r (n + 1) ρ lk μ2) else none
        | some (.ex c, μ2) => if c ∈ ns then some (.inr c, μ2) else none
        | _ => none
      | some (.ok (.bl false), μ1) => anyL ns tg tt te r n ρ lk μ1
      | _ => none
def anyE (ns : List Nat) (vs : List Nat) (fi : MI) (tg : CG) (tt te : ME) : Option Nat → ME := fun z ρ lk μ => match fi z ρ lk μ with
  | some (.inl ds, μ1) => match anyL ns tg tt te ds 0 (wipeF ρ vs) lk μ1 with
    | some (.inl b, μ2) => some (.ok (.bl b), μ2)
    | some (.inr c, μ2) => some (.ex c, μ2)
    | none => none
  | some (.inr c, μ1) => some (.ex c, μ1)
  | none => none
theorem anyE_imp {w : Wd} {E : XK} {P : Addr} {fi : MI} {g : CG} {mt me : ME} {vs ns : List Nat} (hP : P ∈ w.tb) (hq : ∀ q ∈ w.tq, q.1 ≠ P) (hn : ∀ i ∈ ns, PySem.W.subIn w.K (.ref (w.ca i)) (.type "StopIteration") = some false)
    {σ : L2.St} {H : Hp} {Q : VK} (h : tEz w E (anyE ns vs fi g mt me) σ H Q) : tGAny P (tIt w E fi) (tGc w vs g) (tQ w (exN w E) mt) (tE w (exN w E) me) vs σ H Q := by
  obtain ⟨z, m, ρ, lk, μ, rp, fr, zo, r, μ', e, q⟩ := h
  refine ⟨z, m, ρ, lk, μ, rp, fr, zo, ?_⟩
  unfold anyE at e
  cases e1 : fi z ρ lk μ with
  | none => rw [e1] at e; cases e
  | some p =>
    obtain ⟨ir, μ1⟩ := p
    rw [e1] at e
    cases ir with
    | inr c =>
      cases e
      exact ⟨.inr c, _, rfl, q⟩
    | inl ds =>
      refine ⟨.inl ds, μ1, rfl, fun J m1 H1 rp1 ex1 wk => ⟨rp1.tab P hP, fun H2 hb => ?_⟩⟩
      obtain ⟨rp2, ex2⟩ := tab_step rp1 hP hq hb
      simp only at e
      cases e2 : anyL ns g mt me ds 0 (wipeF ρ vs) lk μ1 with
      | none => rw [e2] at e; cases e
      | some p2 =>
        obtain ⟨res, μf⟩ := p2
        rw [e2] at e
        have ex12 := ex1.trans ex2
        have wk := wk.later ex2
        have frW : FrR w m1 H2 (wipe σ vs) (wipeF ρ vs) := (fr.mono ex12.wx).wipe vs
        let N : Nat → Nat → Hp → Prop := fun i b H => ∃ mi μi, Rp w mi H lk μi ∧ Ext m1 mi lk H2 H ∧ anyL ns g mt me (ds.drop i) b (wipeF ρ vs) lk μi = some (res, μf)
        refine ⟨fun i k a H => k = ds.length - i ∧ i ≤ ds.length ∧ N i a H, ⟨ds.length, rfl, Nat.zero_le _, m1, μ1, rp2, Ext.refl _ _ _, e2⟩, ?_⟩
        rintro i k a H3 ⟨rfl, hi, mi, μi, rpi, exi, ei⟩
        obtain ⟨w1, w2⟩ := wk i mi H3 μi rpi exi
        by_cases hlt : i < ds.length
        · obtain ⟨w3, w4⟩ := w2 ds[i] (List.getElem?_eq_getElem hlt)
          refine .inr ⟨w3, N (i + 1), fun a' H' n => ⟨ds.length - (i + 1), by omega, rfl, hlt, n⟩, fun x H' y => ?_⟩
          obtain ⟨m2, rp2', ex2', rx⟩ := w4 x H' y
          rw [drop_at hlt] at ei
          unfold anyL at ei
          cases e3 : g ds[i] (wipeF ρ vs) with
          | none => rw [e3] at ei; cases ei
          | some ρ2 =>
            simp only [e3] at ei
            refine ⟨ds[i], m2, wipeF ρ vs, lk, μi, ρ2, rp2', frW.mono (exi.trans ex2').wx, rx, e3, fun σ3 hw3 fr3 => ⟨hw3.trans (wipe_wipe σ vs), m2, ρ2, lk, μi, rp2', fr3, ?_⟩⟩
            cases e4 : mt ρ2 lk μi with
            | none => rw [e4] at ei; cases ei
            | some p4 =>
              obtain ⟨r4, μ4⟩ := p4
              rw [e4] at ei
              cases r4 with
              | ex c => cases ei
              | ok d4 =>
                refine ⟨.ok d4, μ4, e4, fun v4 m4 H4 rp4 ex4 rv4 => ?_⟩
                cases d4 <;> try (cases ei; done)
                rename_i t
                obtain rfl := rv_bl rv4
                refine ⟨t, rfl, ?_⟩
                cases t with
                | false => exact ⟨m4, μ4, rp4, (exi.trans ex2').trans ex4, ei⟩
                | true =>
                  simp only at ei
                  show tE w (exN w E) me σ3 H4 _
                  refine ⟨m4, ρ2, lk, μ4, rp4, fr3.mono ex4.wx, ?_⟩
                  cases e5 : me ρ2 lk μ4 with
                  | none => rw [e5] at ei; cases ei
                  | some p5 =>
                    obtain ⟨r5, μ5⟩ := p5
                    rw [e5] at ei
                    cases r5 with
                    | ex c =>
                      simp only at ei
                      split at ei
                      · rename_i hc
                        cases ei
                        cases e
                        exact ⟨.ex c, _, e5, fun m5 H5 rp5 ex5 => ⟨q m5 H5 rp5 (ex12.trans (exi.trans ((ex2'.trans ex4).trans ex5))), hn c hc⟩⟩
                      · cases ei
                    | ok d5 =>
                      refine ⟨.ok d5, μ5, e5, fun v5 m5 H5 rp5 ex5 rv5 => ?_⟩
                      cases d5 <;> try (cases ei; done)
                      rename_i b
                      obtain rfl := rv_bl rv5
                      simp only at ei
                      have exx := exi.trans ((ex2'.trans ex4).trans ex5)
                      split at ei
                      · rename_i hl
                        refine ⟨by rw [sizeLine_eq]; exact hl, b, rfl, fun hb1 => ?_, fun hb1 => ?_⟩
                        · subst hb1
                          rw [if_pos rfl] at ei
                          cases ei
                          cases e
                          exact q _ _ _ rp5 (ex12.trans exx) (.bl true)
                        · have hb2 : b = false := by cases b with | false => rfl | true => exact absurd rfl hb1
                          subst hb2
                          rw [if_neg Bool.false_ne_true] at ei
                          exact ⟨m5, μ5, rp5, exx, ei⟩
                      · cases ei
        · have hl : i = ds.length := by omega
          rw [hl, List.drop_length] at ei
          cases ei
          cases e
          exact .inl ⟨w1 hl, q _ _ _ rpi (ex12.trans exi) (.bl false)⟩
section
variable {X : Cx} {w : Wd} {E : XK} {k : Nat} {tg iter elt : Expr} {ifs : List Expr} {scope : Scope} {own : List (Str × Nat)} {P : Addr} {fi : MI} {g : CG} {mt me : ME} {p pos gpos : Pos} {ns : List Nat}
theorem r_ganyE (hK : X.K = w.K) (hx : Takes X fun cls d _ H => E cls d H) (D : GDE (exN w E) X k elt tg iter ifs scope own P (tIt w E fi) (tGc w (own.map (·.2)) g) (tQ w (exN w E) mt) (tE w (exN w E) me)) (hP : P ∈ w.tb) (hq : ∀ q ∈ w.tq, q.1 ≠ P)
    (hn : ∀ i ∈ ns, PySem.W.subIn w.K (.ref (w.ca i)) (.type "StopIteration") = some false) (hr : Room (k + 4) X.A) (hg : Gl X "any") (hm : X.mg "any" = none) : PE X (.Call (.Name "any" p) [.GeneratorExp elt [⟨tg, iter, ifs, 0⟩] scope gpos] [] pos) (tEz w E (anyE ns (own.map (·.2)) fi g mt me)) :=
  pe_imp (pe_ganyE (hx.imp fun _ _ _ _ h => h.1) (fun cls d H h => by rw [hK]; exact h.2) D hr hg hm) fun _ _ _ h => anyE_imp hP hq hn h
theorem takes_gxE {X : Cx} {A : Around} {s : Shared} {H : Hp} {scope : Scope} {cl : List (Str × Addr)} {C : Addr} {cd : Value} {fp : List Addr} {pn : List (Addr × Obj)} : Takes (GXP.gxE E X A s H (genEnv scope cl C cd builtinsNs X.env) fp pn) (fun cls d _ H' => E cls d H') := fun u s' x =>
  leaveX (X := GXP.gxE E X A s H (genEnv scope cl C cd builtinsNs X.env) fp pn) (W := fun cls d _ H' => E cls d H') (E := E) rfl rfl (fun _ _ _ _ h => h) x
theorem owns_gxE {X : Cx} {A : Around} {s : Shared} {H : Hp} {cenv : Env} {fp : List Addr} {pn : List (Addr × Obj)} : PassesOwn (model X.prog X.w) (GXP.gxE E X A s H cenv fp pn).A (GXP.gxE E X A s H cenv fp pn).env (GXP.gxE E X A s H cenv fp pn).xe :=
  passes_of (X := GXP.gxE E X A s H cenv fp pn) (K := fun e s'' => CXx fp X.prog X.w X.stack H s E e s'' ∧ ∀ p ∈ pn, s''.heap.get? p.1 = some p.2) (E₁ := fun _ _ => False) rfl
end
end MP

end
section
set_option Elab.async false
set_option linter.all false
set_option maxRecDepth 100000
set_option maxHeartbeats 2000000
/-! the mirror of a text, by a function: expressions -/
namespace MP
open PySem PyProof.Rows L2 GXP

/-- what a global name means -/
inductive Gn where
  | val (d : D)
  | fn (n k : Nat) (f : MF)
  | cls (c n k : Nat) (f : MF)
  | blt
  | exc (c : Nat)
  | told (ret : Str) (cx : Nat → Bool) (k : Nat)
structure Me where
  nm : Str
  c : Nat
  n : Nat
  k : Nat
  f : MF
structure Fd where
  nm : Str
  i : Nat
  cf : Nat → Bool
/-- what the translation knows of the place -/
structure Cc where
  N : List Str
  sc : Scope
  gl : List (Str × Gn)
  me : List Me
  fl : List Fd
  mu : List (Nat × Nat)
  tk : List (Nat × Nat)
  gx : Bool
  rs : Bool
  cs : Bool
  k : Nat
  lt : Bool := false
  lams : List (Expr × Scope) := []
def posOf (p : Pos) : Nat × Nat := (p.line, p.col)
section
variable (w : Wd) (prog : Program) (wo : World) (K : PySem.W.Frag) (mg : Str → Option Value) (base : Heap)
def FnIs (n k : Nat) (g : MF) (f : Addr) : Prop := ∃ fd ps, PySem.W.keepIn K (.ref f) = true ∧ Binds K fd ps [] ∧ FnOk prog wo K mg base (L2.CX prog wo) k f fd ps (spM w n g)
def Means (x : Str) : Gn → Prop
  | .val d => ∃ v u, mg x = some u ∧ RelV v u ∧ ∀ m H, RV w m H v d
  | .fn n k g => ∃ f, mg x = some (.ref f) ∧ FnIs w prog wo K mg base n k g f
  | .cls c n k g => mg x = some (.ref (w.ca c)) ∧ ∃ f, Mk K (w.ca c) f ∧ FnIs w prog wo K mg base n k g f
  | .blt => mg x = none
  | .exc c => mg x = some (.ref (w.ca c)) ∧ PySem.W.keepIn K (.ref (w.ca c)) = true ∧ (∀ X : Cx, X.K = K → Raises X (.ref (w.ca c))) ∧ (∃ B nw ni bm, ExcBaseFacts B nw ni bm ∧ PySem.W.excIn K (w.ca c) bm nw = true) ∧ PySem.W.subIn K (.ref (w.ca c)) (.type "StopIteration") = some false
  | .told ret cx k => ∀ X : Cx, X.K = K → X.mg = mg → TolIs w X x ret cx k
def MeIs (m : Me) : Prop := (∀ i, i < w.fm → w.fn i ≠ m.nm) ∧ Cls K (w.ca m.c) ∧ ∃ f, Meth K (w.ca m.c) m.nm f ∧ FnIs w prog wo K mg base m.n m.k m.f f
end
/-- the text's names mean what the place says -/
structure Env1 (w : Wd) (X : Cx) (gl : List (Str × Gn)) (me : List Me) (fl : List Fd) : Prop where
  W : Wok w
  K : X.K = w.K
  gl : ∀ p ∈ gl, Means w X.prog X.w X.K X.mg X.base p.1 p.2
  me : ∀ m ∈ me, MeIs w X.prog X.w X.K X.mg X.base m
  fl : ∀ f ∈ fl, FldOk w f.cf f.i ∧ w.fn f.i = f.nm
def noArgs : Arguments := ⟨[], [], none, [], [], none, []⟩
/-- the def's code has a table for its lambdas; the listed ones are known by number -/
def LamF (w : Wd) (X : Cx) (lams : List (Expr × Scope)) : Prop := ∃ C P, LamX.TabB X.base X.mg C P ∧ X.env.code = .ref C ∧ (P, X.env.qual ++ "<lambda>") ∈ w.tq ∧ P ∉ w.tb ∧ (∀ p ∈ w.tq, p.1 = P → p.2 = X.env.qual ++ "<lambda>") ∧
  (∀ a, w.co a = CodeIs (X.env.qual ++ "<lambda>") a) ∧ ∀ (j : Nat) (b : Expr) (sc : Scope), lams[j]? = some (b, sc) → ∀ cs a c1, w.lm j cs a c1 = LamIs (X.env.qual ++ "<lambda>") noArgs b sc X.env.cells a c1
structure Fit (w : Wd) (E : XK) (X : Cx) (c : Cc) : Prop where
  env : Env1 w X c.gl c.me c.fl
  N : X.N = c.N
  nd : X.N.Nodup
  sc : X.env.scope = c.sc
  kind : X.env.scope.kind = .function
  fn : c.cs = true → ∀ x, X.fn x = true
  calm : X.calm = true
  own : PassesOwn (model X.prog X.w) X.A X.env X.xe
  pass : Passes (L2.CX X.prog X.w) X E
  take : c.rs = true → Takes X fun cls d _ H => E cls d H
  room : Room c.k X.A
  tab : c.gx = true → ∃ P, P ∈ w.tb ∧ (∀ q ∈ w.tq, q.1 ≠ P) ∧ ∃ q, TabB X.base X.mg q P ∧ X.env.code = .ref q
  lam : c.lt = true → LamF w X c.lams
theorem Fit.K {w : Wd} {E : XK} {X : Cx} {c : Cc} (h : Fit w E X c) : X.K = w.K := h.env.K
theorem Fit.un {w : Wd} {E : XK} {X : Cx} {c : Cc} (h : Fit w E X c) : X.A.units + 70 < cLine := by have := h.room.un; omega

/-! ### names -/
def idx (x : Str) : List Str → Option Nat
  | [] => none
  | y :: r => if x = y then some 0 else (idx x r).map (· + 1)
theorem idx_get {x : Str} : ∀ {l : List Str} {i : Nat}, idx x l = some i → l[i]? = some x
  | [], _, h => by cases h
  | y :: r, i, h => by
    unfold idx at h
    split at h
    · rename_i e; cases h; subst e; rfl
    · cases e : idx x r with
      | none => rw [e] at h; cases h
      | some j =>
        rw [e] at h
        cases h
        show (y :: r)[j + 1]? = some x
        rw [List.getElem?_cons_succ]
        exact idx_get e
def visB (sc : Scope) (x : Str) : Bool := match sc.names.lookup x with
  | some .local => true
  | some .cell => true
  | some .free => true
  | _ => false
def locB (sc : Scope) (x : Str) : Bool := match sc.names.lookup x with
  | some .local => true
  | some .cell => true
  | _ => false
def glbB (sc : Scope) (x : Str) : Bool := match sc.names.lookup x with
  | some .globalImplicit => true
  | _ => false
theorem visB_ok {sc : Scope} {x : Str} (h : visB sc x = true) : Vis sc x := by
  unfold visB at h
  split at h <;> first | cases h | skip
  · rename_i e; exact .inl e
  · rename_i e; exact .inr (.inl e)
  · rename_i e; exact .inr (.inr e)
theorem locB_ok {sc : Scope} {x : Str} (h : locB sc x = true) : Loc sc x := by
  unfold locB at h
  split at h <;> first | cases h | skip
  · rename_i e; exact .inl e
  · rename_i e; exact .inr e
theorem glbB_ok {X : Cx} {c : Cc} {x : Str} (e : X.env.scope = c.sc) (h : glbB c.sc x = true) : Gl X x := by
  unfold glbB at h
  split at h
  · rename_i q
    show X.env.scope.names.lookup x = _
    rw [e]; exact q
  · cases h
def lookN {α : Type} (x : Str) : List (Str × α) → Option α
  | [] => none
  | p :: r => if x = p.1 then some p.2 else lookN x r
theorem lookN_mem {α : Type} {x : Str} {a : α} : ∀ {l : List (Str × α)}, lookN x l = some a → (x, a) ∈ l
  | [], h => by cases h
  | p :: r, h => by
    unfold lookN at h
    split at h
    · rename_i e; cases h; subst e; exact List.mem_cons_self
    · exact List.mem_cons_of_mem _ (lookN_mem h)
def lookFd (x : Str) : List Fd → Option Fd
  | [] => none
  | p :: r => if x = p.nm then some p else lookFd x r
theorem lookFd_mem {x : Str} {f : Fd} : ∀ {l : List Fd}, lookFd x l = some f → f ∈ l ∧ f.nm = x
  | [], h => by cases h
  | p :: r, h => by
    unfold lookFd at h
    split at h
    · rename_i e; cases h; exact ⟨List.mem_cons_self, e.symm⟩
    · have := lookFd_mem h; exact ⟨List.mem_cons_of_mem _ this.1, this.2⟩
/-- no name of the compiler's own -/
def plainN (x : Str) : Bool := !(x == ("__debug__" : Str)) && !(x == ("__classdict__" : Str)) && !(x == ("__name__" : Str))
theorem plainN_ok {x : Str} (h : plainN x = true) : (x == ("__debug__" : Str)) = false ∧ (x == ("__classdict__" : Str)) = false ∧ x ≠ "__name__" := by
  unfold plainN at h
  simp only [Bool.and_eq_true, Bool.not_eq_true'] at h
  exact ⟨h.1.1, h.1.2, fun z => by rw [z] at h; simp at h⟩

abbrev TrE := Cc → Expr → Option ME
structure Tr where
  e : TrE
  t : TrE
def SE (w : Wd) (f : TrE) : Prop := ∀ X E c x m, Fit w E X c → f c x = some m → PE X x (tE w E m)
def ST (w : Wd) (f : TrE) : Prop := ∀ X E c x m, Fit w E X c → f c x = some m → PT X x (tQ w E m)

/-- a name that may be stored here -/
def stoB (c : Cc) (x : Str) : Bool := match c.sc.names.lookup x with
  | some .local => true
  | some .cell => c.cs
  | _ => false
/-- what the targets ask of the place -/
structure FitT (w : Wd) (X : Cx) (c : Cc) : Prop where
  K : X.K = w.K
  N : X.N = c.N
  nd : X.N.Nodup
  sc : X.env.scope = c.sc
  fn : c.cs = true → ∀ x, X.fn x = true
  calm : X.calm = true
theorem Fit.tg {w : Wd} {E : XK} {X : Cx} {c : Cc} (F : Fit w E X c) : FitT w X c := ⟨F.K, F.N, F.nd, F.sc, F.fn, F.calm⟩
theorem stoB_ok {w : Wd} {X : Cx} {c : Cc} (F : FitT w X c) {x : Str} (h : stoB c x = true) : Loc X.env.scope x ∧ (X.fn x = true ∨ X.env.scope.names.lookup x = some .local) := by
  unfold stoB at h
  rw [F.sc]
  split at h <;> first | cases h | skip
  · rename_i e; exact ⟨.inl e, .inr e⟩
  · rename_i e; exact ⟨.inr e, .inl (F.fn h x)⟩

/-! ### constants, names -/
def constE : PySem.Const → Option ME
  | .int i => some (retE (.int i))
  | .bool b => some (retE (.bl b))
  | .none => some (retE .non)
  | .str x => some (retE (.str x.cps.toList))
  | _ => none
def nameE (c : Cc) (x : Str) : Option ME := if plainN x then (if visB c.sc x then (match idx x c.N with
  | some i => some (varE i)
  | none => none) else if glbB c.sc x then (match lookN x c.gl with
  | some (.val d) => some (retE d)
  | _ => none) else none) else none
section
variable {w : Wd} {E : XK} {X : Cx} {c : Cc} {pos : Pos}
theorem const_ok {k : PySem.Const} {j : Nat} {m : ME} (h : constE k = some m) : PE X (.Constant k j pos) (tE w E m) := by
  cases k <;> cases h
  · exact r_non
  · exact r_bl
  · exact r_int
  · exact r_str
theorem name_ok {x : Str} {m : ME} (F : Fit w E X c) (h : nameE c x = some m) : PE X (.Name x pos) (tE w E m) := by
  unfold nameE at h
  split at h
  · rename_i hp
    obtain ⟨p1, p2, p3⟩ := plainN_ok hp
    split at h
    · rename_i hv
      split at h
      · rename_i i e
        cases h
        exact r_var (by rw [F.N]; exact idx_get e) (by rw [F.sc]; exact visB_ok hv) p1 p2
      · cases h
    · split at h
      · rename_i hg
        split at h
        · rename_i d e
          cases h
          obtain ⟨v, u, h1, h2, h3⟩ := F.env.gl _ (lookN_mem e)
          exact r_glob (glbB_ok F.sc hg) h1 h2 h3 p1
        · cases h
      · cases h
  · cases h
end

/-! ### operators -/
def map1 (f : ME → ME) : Option ME → Option ME
  | some a => some (f a)
  | none => none
def map2 (f : ME → ME → ME) : Option ME → Option ME → Option ME
  | some a, some b => some (f a b)
  | _, _ => none
theorem map1_some {f : ME → ME} {a : Option ME} {m : ME} (h : map1 f a = some m) : ∃ x, a = some x ∧ m = f x := by
  cases a with
  | none => cases h
  | some x => cases h; exact ⟨x, rfl, rfl⟩
theorem map2_some {f : ME → ME → ME} {a b : Option ME} {m : ME} (h : map2 f a b = some m) : ∃ x y, a = some x ∧ b = some y ∧ m = f x y := by
  cases a with
  | none => cases h
  | some x =>
    cases b with
    | none => cases h
    | some y => cases h; exact ⟨x, y, rfl, rfl, rfl⟩
def binE : Operator → Option ME → Option ME → Option ME
  | .Add, a, b => map2 (op2E addD) a b
  | .Sub, a, b => map2 (op2E subD) a b
  | .Mult, a, b => map2 (op2E iMul) a b
  | .FloorDiv, a, b => map2 (op2E divD) a b
  | .Mod, a, b => map2 (op2E iMod) a b
  | .Pow, a, b => map2 (op2E iPow) a b
  | _, _, _ => none
def unE : UnaryOp → Option ME → Option ME
  | .USub, a => map1 (op1E negD) a
  | .Not, a => map1 (fun m => notE (truE m)) a
  | _, _ => none
def trB (f : TrE) (c : Cc) (op : BoolOp) : List Expr → Option ME
  | [] => none
  | [a] => f c a
  | a :: b :: r => match op with
    | .And => map2 andE (f c a) (trB f c op (b :: r))
    | .Or => map2 orV (f c a) (trB f c op (b :: r))
def trBT (f : TrE) (c : Cc) (op : BoolOp) : List Expr → Option ME
  | [] => none
  | [a] => f c a
  | a :: b :: r => match op with
    | .And => map2 andQ (f c a) (trBT f c op (b :: r))
    | .Or => map2 orQ (f c a) (trBT f c op (b :: r))
def cmpE (f : TrE) (c : Cc) (a : Expr) : List CmpOp → List Expr → Option ME
  | [op], [b] => if noSet b then (match cmpD op with
    | some g => map2 (op2E g) (f c a) (f c b)
    | none => none) else none
  | [op, op'], [b, d] => if noSet d then (match cmpD op, cmpD op', f c d with
    | some g, some g', some md => map2 (fun ma mb => chE g g' ma mb md) (f c a) (f c b)
    | _, _, _ => none) else none
  | _, _ => none
section
variable {w : Wd} {E : XK} {X : Cx} {c : Cc} {pos : Pos} {f g : TrE}
theorem bin_ok (hf : SE w f) (F : Fit w E X c) {op : Operator} {a b : Expr} {m : ME} (h : binE op (f c a) (f c b) = some m) : PE X (.BinOp a op b pos) (tE w E m) := by
  cases op <;> first | (cases h; done) | skip
  all_goals
    obtain ⟨ma, mb, h1, h2, rfl⟩ := map2_some h
    have pa := hf X E c a ma F h1
    have pb := hf X E c b mb F h2
  · exact r_add F.K pa pb
  · exact r_sub pa pb
  · exact r_mul pa pb
  · exact r_mod pa pb
  · exact r_pow pa pb
  · exact r_div pa pb
theorem un_ok (hf : SE w f) (F : Fit w E X c) {op : UnaryOp} {a : Expr} {m : ME} (h : unE op (f c a) = some m) : PE X (.UnaryOp op a pos) (tE w E m) := by
  cases op <;> first | (cases h; done) | skip
  all_goals
    obtain ⟨ma, h1, rfl⟩ := map1_some h
    have pa := hf X E c a ma F h1
  · exact r_not F.K pa
  · exact r_neg pa
theorem b_ok (hf : SE w f) (F : Fit w E X c) {op : BoolOp} : ∀ {es : List Expr} {m : ME}, trB f c op es = some m → PE X (.BoolOp op es pos) (tE w E m)
  | [], _, h => by cases h
  | [a], m, h => pe_one (hf X E c a m F h)
  | a :: b :: r, m, h => by
    unfold trB at h
    cases op with
    | And =>
      obtain ⟨ma, mb, h1, h2, rfl⟩ := map2_some h
      exact r_and F.K (hf X E c a ma F h1) (b_ok hf F h2)
    | Or =>
      obtain ⟨ma, mb, h1, h2, rfl⟩ := map2_some h
      exact r_orV F.K (hf X E c a ma F h1) (b_ok hf F h2)
theorem bt_ok (hf : ST w f) (F : Fit w E X c) {op : BoolOp} : ∀ {es : List Expr} {m : ME}, trBT f c op es = some m → PW X (.BoolOp op es pos) (tQ w E m)
  | [], _, h => by cases h
  | [a], m, h => by
    cases op with
    | And => exact qw_and1 (hf X E c a m F h)
    | Or => exact qw_or1 (hf X E c a m F h)
  | a :: b :: r, m, h => by
    unfold trBT at h
    cases op with
    | And =>
      obtain ⟨ma, mb, h1, h2, rfl⟩ := map2_some h
      exact qw_and (hf X E c a ma F h1) (bt_ok hf F h2)
    | Or =>
      obtain ⟨ma, mb, h1, h2, rfl⟩ := map2_some h
      exact qw_or (hf X E c a ma F h1) (bt_ok hf F h2)
theorem cmp2_ok (hf : SE w f) (F : Fit w E X c) {a : Expr} {ops : List CmpOp} {cs : List Expr} {m : ME} (h : cmpE f c a ops cs = some m) : PE X (.Compare a ops cs pos) (tE w E m) ∧ PT X (.Compare a ops cs pos) (tQ w E m) := by
  unfold cmpE at h
  split at h
  · rename_i op b
    split at h
    · rename_i hs
      split at h
      · rename_i g e
        obtain ⟨ma, mb, h1, h2, rfl⟩ := map2_some h
        have pa := hf X E c a ma F h1
        have pb := hf X E c b mb F h2
        exact ⟨r_cmpo F.K F.un e pa pb (no_mark hs), q_cmp F.K F.un e pa pb (no_mark hs)⟩
      · cases h
    · cases h
  · rename_i op op' b d
    split at h
    · rename_i hs
      split at h
      · rename_i g g' md e1 e2 e3
        obtain ⟨ma, mb, h1, h2, rfl⟩ := map2_some h
        have pa := hf X E c a ma F h1
        have pb := hf X E c b mb F h2
        have pd := hf X E c d md F e3
        exact ⟨r_chain F.K F.un e1 e2 pa pb pd (last_mark hs), q_chain F.K F.un e1 e2 pa pb pd (last_mark hs)⟩
      · cases h
    · cases h
  · cases h
end

/-! ### arguments, attributes, subscripts, displays -/
def trA (f : TrE) (c : Cc) : List Expr → Option MA
  | [] => some nilA
  | e :: es => if noStar e then (match f c e, trA f c es with
    | some a, some t => some (consA a t)
    | _, _ => none) else none
def attE (c : Cc) (x : Str) (o : Expr) (mo : Option ME) : Option ME := if notSup o then (match lookFd x c.fl with
  | some fd => map1 (op1E (fldD fd.cf fd.i)) mo
  | none => none) else none
def partX (f : TrE) (c : Cc) : Option Expr → Option (Option ME)
  | none => some none
  | some e => match f c e with
    | some m => some (some m)
    | none => none
def subE (f : TrE) (c : Cc) (a : Expr) : Expr → Option ME
  | .Slice lo hi none _ => match f c a, partX f c lo, partX f c hi with
    | some ma, some ml, some mh => some (slE ma ml mh)
    | _, _, _ => none
  | i => if noSlice i then map2 (op2E ixD) (f c a) (f c i) else none
def mapA (f : MA → ME) : Option MA → Option ME
  | some a => some (f a)
  | none => none
theorem mapA_some {f : MA → ME} {a : Option MA} {m : ME} (h : mapA f a = some m) : ∃ x, a = some x ∧ m = f x := by
  cases a with
  | none => cases h
  | some x => cases h; exact ⟨x, rfl, rfl⟩
section
variable {w : Wd} {E : XK} {X : Cx} {c : Cc} {pos : Pos} {f g : TrE}
theorem a_ok (hf : SE w f) (F : Fit w E X c) : ∀ {es : List Expr} {m : MA}, trA f c es = some m → PA X es (tAr w E m) ∧ es.all noStar = true
  | [], _, h => by cases h; exact ⟨a_nil, rfl⟩
  | e :: es, m, h => by
    unfold trA at h
    split at h
    · rename_i hs
      split at h
      · rename_i a t h1 h2
        cases h
        obtain ⟨p1, p2⟩ := a_ok hf F h2
        exact ⟨a_cons (hf X E c e a F h1) p1 (star_cons hs), by rw [List.all_cons, hs, p2]; rfl⟩
      · cases h
    · cases h
theorem att_ok (hf : SE w f) (F : Fit w E X c) {x : Str} {o : Expr} {m : ME} (h : attE c x o (f c o) = some m) : PE X (.Attribute o x pos) (tE w E m) := by
  unfold attE at h
  split at h
  · rename_i hs
    split at h
    · rename_i fd e
      obtain ⟨mo, h1, rfl⟩ := map1_some h
      obtain ⟨h2, h3⟩ := lookFd_mem e
      obtain ⟨h4, h5⟩ := F.env.fl fd h2
      exact r_fld F.env.W F.K h4 (h5.trans h3) (hf X E c o mo F h1) hs
    · cases h
  · cases h
theorem part_ok (hf : SE w f) (F : Fit w E X c) {o : Option Expr} {m : Option ME} (h : partX f c o = some m) : PPart X w E o m := by
  unfold partX at h
  split at h
  · cases h; exact .none
  · split at h
    · rename_i m' e
      cases h
      exact .some (hf X E c _ m' F e)
    · cases h
theorem sub_ok (hf : SE w f) (F : Fit w E X c) {a i : Expr} {m : ME} (h : subE f c a i = some m) : PE X (.Subscript a i pos) (tE w E m) := by
  unfold subE at h
  split at h
  · split at h
    · rename_i ma ml mh h1 h2 h3
      cases h
      exact r_sl F.K (hf X E c a ma F h1) (part_ok hf F h2) (part_ok hf F h3)
    · cases h
  · split at h
    · rename_i hs
      obtain ⟨ma, mb, h1, h2, rfl⟩ := map2_some h
      exact r_ix F.K F.un (hf X E c a ma F h1) (hf X E c i mb F h2) hs
    · cases h
end
end MP

end
section
set_option Elab.async false
set_option linter.all false
set_option maxRecDepth 100000
set_option maxHeartbeats 2000000
/-! the mirror of a text, by a function: min and max of lists, calls -/
namespace MP
open PySem PyProof.Rows L2 GXP

/-! ### min, max of a list of data -/
def pyGo : List PyData → Option (List D)
  | [] => some []
  | p :: r => match p, pyGo r with
    | .none, some l => some (.non :: l)
    | .bool b, some l => some (.bl b :: l)
    | .int i, some l => some (.int i :: l)
    | .str s, some l => some (.str s.cps.toList :: l)
    | _, _ => none
def ofPy : PyData → Option D
  | .none => some .non
  | .bool b => some (.bl b)
  | .int i => some (.int i)
  | .str s => some (.str s.cps.toList)
  | .tuple l => match pyGo l with
    | some ds => some (.tup ds)
    | none => none
  | _ => none
def flatTup : D → Bool
  | .tup l => l.all flatD
  | d => flatD d
theorem go_snap {μ : Sto} {n : Nat} : ∀ {l : List D} {ps : List PyData}, l.all flatD = true → mapO (snap (n + 1) μ) l = some ps → pyGo ps = some l
  | [], _, _, h => by cases h; rfl
  | d :: r, _, hf, h => by
    rw [List.all_cons, Bool.and_eq_true] at hf
    obtain ⟨p, ps, e1, e2, rfl⟩ := mapO_cons h
    have ih := go_snap hf.2 e2
    have hf1 := hf.1
    unfold pyGo
    cases d with
    | non => cases e1; rw [ih]
    | bl b => cases e1; rw [ih]
    | int i => cases e1; rw [ih]
    | str s => cases e1; rw [ih]
    | _ => cases hf1
theorem ofPy_snap {μ : Sto} {d : D} {p : PyData} (hf : flatTup d = true) (h : snapD μ d = some p) : ofPy p = some d := by
  cases d with
  | non => cases h; rfl
  | bl b => cases h; rfl
  | int i => cases h; rfl
  | str s => cases h; rfl
  | tup l =>
    obtain ⟨ps, e, rfl⟩ := optL_some h
    show (match pyGo ps with
      | some ds => some (D.tup ds)
      | none => none) = _
    rw [go_snap (n := 10) hf e]
  | _ => cases hf
def rMMD (K : PySem.W.Frag) (best : PyData → List PyData → PyData) : List V → Hp → VK → Prop := fun xs H Q => ∃ (a : Addr) (vs : List V) (p0 : PyData) (pr : List PyData), xs = [.ref a] ∧ SqL K H a vs ∧ DpAll K H vs (p0 :: pr) ∧ PySem.W.AlikeAll (p0 :: pr) ∧ (∀ d ∈ p0 :: pr, d.depth < 64) ∧ ∀ (i : Nat) (v : V), vs[i]? = some v → (p0 :: pr)[i]? = some (best p0 pr) → Q v H
theorem dpAll_get {K : PySem.W.Frag} {H : Hp} : ∀ {vs : List V} {ps : List PyData}, DpAll K H vs ps → ∀ {i : Nat} {v : V}, vs[i]? = some v → ∃ p, ps[i]? = some p ∧ Dp K H v p
  | _, _, .nil, _, _, h => by simp at h
  | _, _, .cons a t, 0, _, h => by simp at h; subst h; exact ⟨_, rfl, a⟩
  | _, _, .cons _ t, i + 1, _, h => by simpa using dpAll_get t (i := i) (by simpa using h)
theorem depthAll_lt {n : Nat} : ∀ {ps : List PyData}, (∀ d ∈ ps, d.depth < n) → PyData.depthAll ps ≤ n
  | [], _ => Nat.zero_le _
  | p :: r, h => by
    have h1 := h p List.mem_cons_self
    have h2 := depthAll_lt fun d hd => h d (List.mem_cons_of_mem _ hd)
    show max p.depth (PyData.depthAll r) ≤ n
    omega
theorem vals_back {xs : List V} {us : List Value} (r : Vals xs us) {i : Nat} {u : Value} (h : us[i]? = some u) : ∃ x, xs[i]? = some x ∧ RelV x u := by
  have hi : i < xs.length := by rw [r.length]; exact (List.getElem?_eq_some_iff.mp h).1
  obtain ⟨u', e, r'⟩ := r.get (List.getElem?_eq_getElem hi)
  rw [h] at e
  cases e
  exact ⟨_, List.getElem?_eq_getElem hi, r'⟩
theorem call_minD {X : Cx} (hc : X.calm = true) (hu : X.A.units + 70 < cLine) : CallR X (.builtin "min") (rMMD X.K PySem.W.minD) := by
  intro pins s σ H xs us Q I r h
  obtain ⟨a, vs, p0, pr, rfl, hs, hd, ha, hdp, q⟩ := h
  obtain ⟨u, rfl, rx⟩ := vals1 r
  cases rx
  obtain ⟨its, rv, pl, hz⟩ := I.list hs
  obtain ⟨as, hr⟩ := Dp.readsAll I _ _ _ hd rv
  have hdl := depthAll_lt hdp
  refine PySem.W.min_list_data (I.ok.hd hc) pl.isList hr ha (by omega) fun i v h' tk bs hv hb hk => ?_
  obtain ⟨x, e1, r1⟩ := vals_back rv (by simpa using hv)
  obtain ⟨p, e2, dp⟩ := dpAll_get hd e1
  obtain ⟨cs, hcs⟩ := Dp.reads I p x v dp r1
  have : p = _ := (PySem.Reads.unique (PyProof.Rows.Reads.keeps hk hcs) _ _ hb).1
  subst this
  exact ⟨x, H, I.kept hk, r1, q i x e1 e2⟩
theorem call_maxD {X : Cx} (hc : X.calm = true) (hu : X.A.units + 70 < cLine) : CallR X (.builtin "max") (rMMD X.K PySem.W.maxD) := by
  intro pins s σ H xs us Q I r h
  obtain ⟨a, vs, p0, pr, rfl, hs, hd, ha, hdp, q⟩ := h
  obtain ⟨u, rfl, rx⟩ := vals1 r
  cases rx
  obtain ⟨its, rv, pl, hz⟩ := I.list hs
  obtain ⟨as, hr⟩ := Dp.readsAll I _ _ _ hd rv
  have hdl := depthAll_lt hdp
  refine PySem.W.max_list_data (I.ok.hd hc) pl.isList hr ha (by omega) fun i v h' tk bs hv hb hk => ?_
  obtain ⟨x, e1, r1⟩ := vals_back rv (by simpa using hv)
  obtain ⟨p, e2, dp⟩ := dpAll_get hd e1
  obtain ⟨cs, hcs⟩ := Dp.reads I p x v dp r1
  have : p = _ := (PySem.Reads.unique (PyProof.Rows.Reads.keeps hk hcs) _ _ hb).1
  subst this
  exact ⟨x, H, I.kept hk, r1, q i x e1 e2⟩
def mmOk (ps : List PyData) : Bool := alikeB ps && (ps.all stMM.notTN') && ps.all fun p => decide (p.depth < 64)
theorem mmOk_spec {ps : List PyData} (h : mmOk ps = true) : PySem.W.AlikeAll ps ∧ ∀ d ∈ ps, d.depth < 64 := by
  unfold mmOk alikeB at h
  simp only [Bool.and_eq_true, List.all_eq_true, decide_eq_true_eq] at h
  refine ⟨⟨h.1.1, fun x hx z => ?_⟩, h.2⟩
  have := h.1.2 x hx
  rw [z] at this
  simp [stMM.notTN'] at this
def mmN (best : PyData → List PyData → PyData) : OpN := fun μ ds => match ds with
  | [d] => match itL μ d with
    | some l => match mapO (snapD μ) l with
      | some (p0 :: pr) => if mmOk (p0 :: pr) && l.all flatTup then ofPy (best p0 pr) else none
      | _ => none
    | none => none
  | _ => none
theorem mapO_get {α β : Type} {f : α → Option β} : ∀ {l : List α} {r : List β}, mapO f l = some r → ∀ {i : Nat} {x : α}, l[i]? = some x → ∃ y, r[i]? = some y ∧ f x = some y
  | [], _, h, _, _, e => by simp at e
  | x :: l, _, h, i, z, e => by
    obtain ⟨y, ys, e1, e2, rfl⟩ := mapO_cons h
    cases i with
    | zero => simp at e; subst e; exact ⟨y, rfl, e1⟩
    | succ i => simpa using mapO_get e2 (i := i) (by simpa using e)
theorem s_mm {w : Wd} {best : PyData → List PyData → PyData} : CalS w (rMMD w.K best) (mmN best) := by
  intro m H lk μ xs ds q Q rp rx hq k
  unfold mmN at hq
  split at hq
  · rename_i d
    obtain ⟨x, rfl, r⟩ := rvs_one rx
    split at hq
    · rename_i l e1
      split at hq
      · rename_i p0 pr e2
        split at hq
        · rename_i ho
          rw [Bool.and_eq_true] at ho
          obtain ⟨a, vs, rfl, h1, h2⟩ := itL_rd rp r e1
          obtain ⟨o1, o2⟩ := mmOk_spec ho.1
          refine ⟨a, vs, p0, pr, rfl, h1, snaps_of (fun r h => snap_of rp 12 r h) h2 e2, o1, o2, fun i v hv hp => ?_⟩
          obtain ⟨dv, e3, r3⟩ := h2.get' hv
          obtain ⟨p, e4, e5⟩ := mapO_get e2 e3
          rw [hp] at e4
          cases e4
          have hfl : flatTup dv = true := List.all_eq_true.mp ho.2 dv (List.mem_of_getElem? e3)
          rw [ofPy_snap hfl e5] at hq
          cases hq
          exact k _ _ _ rp (Ext.refl _ _ _) r3
        · cases hq
      · cases hq
    · cases hq
  · cases hq

/-! ### built-in functions by name -/
def bltN (x : Str) : Option OpN :=
  if x = "len" then some lenN else if x = "abs" then some absN else if x = "max" then some (orN max2N (mmN PySem.W.maxD)) else if x = "min" then some (orN min2N (mmN PySem.W.minD))
  else if x = "int" then some intN else if x = "str" then some strN else if x = "list" then some listN else if x = "tuple" then some tupN else if x = "sorted" then some sortN else none
section
variable {w : Wd} {E : XK} {X : Cx} {c : Cc} {p pos : Pos} {f : TrE}
theorem blt_ok (F : Fit w E X c) {x : Str} {g : OpN} {e : Expr} {es : List Expr} {ma : MA} (hg : Gl X x) (hm : X.mg x = none) (hp : plainN x = true) (h : bltN x = some g) (ha : PA X (e :: es) (tAr w E ma)) (hs : (e :: es).all noStar = true) : PE X (.Call (.Name x p) (e :: es) [] pos) (tE w E (calE g ma)) := by
  rw [List.all_cons, Bool.and_eq_true] at hs
  obtain ⟨p1, p2, p3⟩ := plainN_ok hp
  have hK := F.K
  have hu := F.un
  unfold bltN at h
  split at h
  · rename_i e; subst e; cases h
    exact pe_imp (pe_callB call_lenA hg hm boot_len ha p3 p1 (star_cons hs.1) (star_any hs.2)) fun _ _ _ h => by rw [hK]; exact cal_imp s_len h
  split at h
  · rename_i e; subst e; cases h
    exact pe_imp (pe_callB call_abs hg hm boot_abs ha p3 p1 (star_cons hs.1) (star_any hs.2)) fun _ _ _ h => cal_imp s_abs h
  split at h
  · rename_i e; subst e; cases h
    exact pe_imp (pe_callB ((call_max2 F.calm).or (call_maxD F.calm hu)) hg hm boot_max ha p3 p1 (star_cons hs.1) (star_any hs.2)) fun _ _ _ h => by rw [hK]; exact cal_imp (s_max2.or s_mm) h
  split at h
  · rename_i e; subst e; cases h
    exact pe_imp (pe_callB ((call_min2 F.calm).or (call_minD F.calm hu)) hg hm boot_min ha p3 p1 (star_cons hs.1) (star_any hs.2)) fun _ _ _ h => by rw [hK]; exact cal_imp (s_min2.or s_mm) h
  split at h
  · rename_i e; subst e; cases h
    exact pe_imp (pe_callTy call_int1 hg hm boot_int ha p3 p1 (star_cons hs.1) (star_any hs.2)) fun _ _ _ h => cal_imp s_int h
  split at h
  · rename_i e; subst e; cases h
    exact pe_imp (pe_callTy call_str_int hg hm boot_str ha p3 p1 (star_cons hs.1) (star_any hs.2)) fun _ _ _ h => cal_imp s_str h
  split at h
  · rename_i e; subst e; cases h
    exact pe_imp (pe_callTy (call_listK F.calm) hg hm boot_list ha p3 p1 (star_cons hs.1) (star_any hs.2)) fun _ _ _ h => by rw [hK]; exact cal_imp s_list h
  split at h
  · rename_i e; subst e; cases h
    exact pe_imp (pe_callTy call_tuple_of hg hm boot_tuple ha p3 p1 (star_cons hs.1) (star_any hs.2)) fun _ _ _ h => by rw [hK]; exact cal_imp s_tup h
  split at h
  · rename_i e; subst e; cases h
    exact pe_imp (pe_callB (call_srt F.calm hu) hg hm PyProof.Rows.boot_sorted ha p3 p1 (star_cons hs.1) (star_any hs.2)) fun _ _ _ h => by rw [hK]; exact cal_imp s_sort h
  cases h
/-- a call of a name -/
def callN (c : Cc) (x : Str) (args : List Expr) (ma : Option MA) : Option ME := if glbB c.sc x && plainN x then (match lookN x c.gl, ma with
  | some (.fn n k f), some a => if decide (k ≤ c.k) then some (callE n f a) else none
  | some (.cls ci n k f), some a => if decide (k + 1 ≤ c.k) then some (makeE n ci f a) else none
  | some .blt, some a => if args.isEmpty then none else (match bltN x with
    | some g => some (calE g a)
    | none => none)
  | _, _ => none) else none
theorem callN_ok (hf : SE w f) (F : Fit w E X c) {x : Str} {args : List Expr} {m : ME} (h : callN c x args (trA f c args) = some m) : PE X (.Call (.Name x p) args [] pos) (tE w E m) := by
  unfold callN at h
  split at h
  · rename_i hg
    rw [Bool.and_eq_true] at hg
    have hgl := glbB_ok (X := X) F.sc hg.1
    obtain ⟨p1, p2, p3⟩ := plainN_ok hg.2
    split at h
    · rename_i n k g a e1 e2
      split at h
      · rename_i hk
        cases h
        rw [decide_eq_true_eq] at hk
        obtain ⟨fa, h1, fd, ps, h2, h3, h4⟩ := F.env.gl _ (lookN_mem e1)
        obtain ⟨pa, hs⟩ := a_ok hf F e2
        cases args with
        | nil => cases e2; exact r_call0 h4 (F.room.mono hk) hgl h1 h2 h3 F.pass p1
        | cons e es => exact r_call h4 (F.room.mono hk) hgl h1 h2 h3 F.pass pa p1 hs
      · cases h
    · rename_i ci n k g a e1 e2
      split at h
      · rename_i hk
        cases h
        rw [decide_eq_true_eq] at hk
        obtain ⟨h1, fa, hM, fd, ps, h2, h3, h4⟩ := F.env.gl _ (lookN_mem e1)
        obtain ⟨pa, hs⟩ := a_ok hf F e2
        cases args with
        | nil => cases e2; exact r_make0 hM h4 (F.room.mono hk) hgl h1 h3 F.pass p1
        | cons e es => exact r_make hM h4 (F.room.mono hk) hgl h1 h3 F.pass pa p1 hs
      · cases h
    · rename_i a e1 e2
      split at h
      · cases h
      · rename_i hne
        split at h
        · rename_i g e3
          cases h
          obtain ⟨pa, hs⟩ := a_ok hf F e2
          cases args with
          | nil => exact absurd rfl hne
          | cons e es => exact blt_ok F hgl (F.env.gl _ (lookN_mem e1)) hg.2 e3 pa hs
        · cases h
    · cases h
  · cases h
/-- the ways a method's name may go -/
def meths (c : Cc) (x : Str) (nargs : Nat) (mo : ME) (ma : MA) : List Me → ME
  | [] => fun _ _ _ => none
  | m :: r => if m.nm = x then (if decide (m.k ≤ c.k) then orE (methE m.n m.c m.f mo ma) (meths c x nargs mo ma r) else fun _ _ _ => none) else meths c x nargs mo ma r
theorem r_none {e : Expr} : PE X e (tE w E fun _ _ _ => none) := ⟨fun pins s σ H Q I ⟨m, ρ, lk, μ, rp, fr, r, μ', e, q⟩ => by cases e⟩
theorem meths_ok (F : Fit w E X c) {o : Expr} {mo : ME} {x : Str} {args : List Expr} {ma : MA} {apos : Pos} (ho : PE X o (tE w E mo)) (ha : PA X args (tAr w E ma)) (hn : args = [] → ma = nilA) (hs : args.all noStar = true) (hsup : notSup o = true) (hl : decide (args.length < 30) = true) (hline : (apos.endLine == pos.line) = true) :
    ∀ {ms : List Me}, (∀ m ∈ ms, m ∈ c.me) → PE X (.Call (.Attribute o x apos) args [] pos) (tE w E (meths c x args.length mo ma ms))
  | [], _ => r_none
  | m :: r, hm => by
    have ih := meths_ok (x := x) F ho ha hn hs hsup hl hline (ms := r) fun m' h' => hm m' (List.mem_cons_of_mem _ h')
    unfold meths
    split
    · rename_i e
      split
      · rename_i hk
        rw [decide_eq_true_eq] at hk
        refine r_or ?_ ih
        obtain ⟨h1, h2, fa, h3, fd, ps, h4, h5, h6⟩ := F.env.me m (hm m List.mem_cons_self)
        subst e
        cases args with
        | nil =>
          rw [hn rfl]
          exact r_meth0 h1 ho h2 h3 h6 (F.room.mono hk) h5 F.pass hsup hline
        | cons e es => exact r_meth h1 ho h2 h3 h6 (F.room.mono hk) h5 F.pass ha hsup hs hl hline
      · exact r_none
    · exact ih
/-- methods of built-in values -/
def bmM (f : TrE) (c : Cc) (x : Str) (o : Expr) (args : List Expr) : ME :=
  match f c o, args with
  | some mo, [a] => (match f c a with
    | some ma => if x = "append" then bmE "list" appN mo (consA ma nilA) else if x = "count" then bmE "list" cntN mo (consA ma nilA) else if x = "get" then get1E mo ma else fun _ _ _ => none
    | none => fun _ _ _ => none)
  | some mo, [a, b] => (match f c a, f c b with
    | some ma, some mb => if x = "get" then get2E mo ma mb else fun _ _ _ => none
    | _, _ => fun _ _ _ => none)
  | _, _ => fun _ _ _ => none
theorem bmM_ok (hf : SE w f) (F : Fit w E X c) {o : Expr} {x : Str} {args : List Expr} {apos : Pos} (hs : args.all noStar = true) (hsup : notSup o = true) (hline : (apos.endLine == pos.line) = true) :
    PE X (.Call (.Attribute o x apos) args [] pos) (tE w E (bmM f c x o args)) := by
  unfold bmM
  split
  · rename_i mo a e
    have po := hf X E c o mo F e
    have ha : noStar a = true := by simpa using hs
    split
    · rename_i ma e2
      have pa := hf X E c a ma F e2
      have pl : PA X [a] (tAr w E (consA ma nilA)) := a_cons pa a_nil (star_cons ha)
      split
      · rename_i ex; subst ex
        exact r_bm F.K PySem.F.plainAttrs_list PySem.F.slot_list_append PySem.F.type_list_append mt_append s_append po pl hsup hs rfl hline
      split
      · rename_i ex; subst ex
        exact r_bm F.K PySem.F.plainAttrs_list PySem.F.slot_list_count PySem.F.type_list_count mt_count (by rw [F.K]; exact s_count) po pl hsup hs rfl hline
      split
      · rename_i ex; subst ex
        exact r_get1 F.un po pa hsup ha hline
      · exact r_none
    · exact r_none
  · rename_i mo a b e
    have po := hf X E c o mo F e
    have hab : noStar a = true ∧ noStar b = true := by simpa using hs
    split
    · rename_i ma mb e2 e3
      split
      · rename_i ex; subst ex
        exact r_get2 F.un po (hf X E c a ma F e2) (hf X E c b mb F e3) hsup hab.1 hab.2 hline
      · exact r_none
    · exact r_none
  · exact r_none
/-- a call of a method -/
def callM (f : TrE) (c : Cc) (o : Expr) (x : Str) (apos : Pos) (args : List Expr) (pos : Pos) : Option ME := if notSup o && args.all noStar && decide (args.length < 30) && (apos.endLine == pos.line) then (match f c o, trA f c args with
  | some mo, some ma => some (orE (meths c x args.length mo ma c.me) (bmM f c x o args))
  | _, _ => none) else none
theorem callM_ok (hf : SE w f) (F : Fit w E X c) {o : Expr} {x : Str} {args : List Expr} {apos : Pos} {m : ME} (h : callM f c o x apos args pos = some m) : PE X (.Call (.Attribute o x apos) args [] pos) (tE w E m) := by
  unfold callM at h
  split at h
  · rename_i hc
    simp only [Bool.and_eq_true] at hc
    obtain ⟨⟨⟨h1, h2⟩, h3⟩, h4⟩ := hc
    split at h
    · rename_i mo ma e1 e2
      cases h
      refine r_or (meths_ok F (hf X E c o mo F e1) (a_ok hf F e2).1 (fun z => ?_) h2 h1 h3 h4 fun _ h => h) (bmM_ok hf F h2 h1 h4)
      subst z
      cases e2
      rfl
    · cases h
  · cases h
end
end MP

end
section
set_option Elab.async false
set_option linter.all false
set_option maxRecDepth 100000
set_option maxHeartbeats 2000000
/-! the mirror of a text, by a function: comprehensions, generator expressions; the whole of expressions -/
namespace MP
open PySem PyProof.Rows L2 GXP

/-! ### blocks -/
def relS (scope sc : Scope) : Scope := { scope with names := scope.names.map fun (n, k) => if (k == NameKind.free && sc.kind == .function && sc.names.lookup n == some .cell) then (n, NameKind.cell) else (n, k) }
theorem rel_eq (scope : Scope) (env : Env) : relabel scope env = relS scope env.scope := rfl
def Cc.blk (c : Cc) (scope : Scope) : Cc := { c with sc := relS scope c.sc, gx := false, rs := false, cs := false, lt := false }
def Cc.gen (c : Cc) (scope : Scope) (k : Nat) : Cc := { c with sc := scope, gx := false, rs := false, cs := false, k := k, lt := false }
def ownOf (N : List Str) (scope : Scope) : List (Str × Nat) := scope.names.filterMap fun (n, k) => match k with
  | .local => (idx n N).map fun i => (n, i)
  | .cell => (idx n N).map fun i => (n, i)
  | _ => none
def gokB (N : List Str) (sc scope : Scope) (own : List (Str × Nat)) : Bool := blkC N sc scope own && !scope.isCoroutine && (scope.names.all fun y => match y.2 with
  | .cell => false
  | _ => true) && (match scope.names.lookup (".0" : Str) with
  | some .local => true
  | _ => false)
theorem gokB_ok {N : List Str} {sc scope : Scope} {own : List (Str × Nat)} (h : gokB N sc scope own = true) : GOk N sc scope own := by
  unfold gokB at h
  simp only [Bool.and_eq_true, Bool.not_eq_true', List.all_eq_true] at h
  obtain ⟨⟨⟨h1, h2⟩, h3⟩, h4⟩ := h
  refine ⟨blkOk_by h1, h2, fun y hy e => ?_, ?_⟩
  · have := h3 y hy
    rw [e] at this
    cases this
  · split at h4
    · assumption
    · cases h4
section
variable {w : Wd} {E : XK} {X : Cx} {c : Cc}
theorem fit_blk (F : Fit w E X c) {scope : Scope} (hk : scope.kind = .function) (s : Shared) (H : Hp) (C : Addr) (cl : List (Str × Addr)) (fp : List Addr) : Fit w X0 (X.blk s H scope (compEnvC scope cl C X.env) fp) (c.blk scope) where
  env := ⟨F.env.W, F.env.K, F.env.gl, F.env.me, F.env.fl⟩
  N := F.N
  nd := F.nd
  sc := by
    show relabel scope X.env = relS scope c.sc
    rw [rel_eq, F.sc]
  kind := hk
  fn := fun z => by cases z
  calm := F.calm
  own := PassesOwn.never
  pass := passL
  take := fun z => by cases z
  room := F.room
  tab := fun z => by cases z
  lam := fun z => by cases z
theorem fit_gen (F : Fit w E X c) {scope : Scope} (hk : scope.kind = .function) {k : Nat} (A : Around) (s : Shared) (H : Hp) (C : Addr) (cd : Value) (fp : List Addr) (pn : List (Addr × Obj)) (hr : Room k (A.deeper (genEnv scope (cloFrom X.env.cells scope.names []) C cd builtinsNs X.env))) :
    Fit w X0 (gxCx X A s H (genEnv scope (cloFrom X.env.cells scope.names []) C cd builtinsNs X.env) fp pn) (c.gen scope k) where
  env := ⟨F.env.W, F.env.K, F.env.gl, F.env.me, F.env.fl⟩
  N := F.N
  nd := F.nd
  sc := rfl
  kind := hk
  fn := fun z => by cases z
  calm := rfl
  own := PassesOwn.never
  pass := passL
  take := fun z => by cases z
  room := hr
  tab := fun z => by cases z
  lam := fun z => by cases z
end

/-- the exceptions of the def's names -/
def nsOf (gl : List (Str × Gn)) : List Nat := gl.filterMap fun p => match p.2 with
  | .exc i => some i
  | _ => none
section
variable {w : Wd} {E : XK} {X : Cx} {c : Cc}
theorem ns_ok (F : Fit w E X c) : ∀ i ∈ nsOf c.gl, PySem.W.subIn w.K (.ref (w.ca i)) (.type "StopIteration") = some false := fun i hi => by
  obtain ⟨p, hp, e⟩ := List.mem_filterMap.mp hi
  split at e
  · rename_i k e1
    cases e
    have z := F.env.gl p hp
    rw [e1, F.env.K] at z
    exact z.2.2.2.2
  · cases e
theorem fit_genE (F : Fit w E X c) (E' : XK) {scope : Scope} (hk : scope.kind = .function) {k : Nat} (A : Around) (s : Shared) (H : Hp) (C : Addr) (cd : Value) (fp : List Addr) (pn : List (Addr × Obj)) (hr : Room k (A.deeper (genEnv scope (cloFrom X.env.cells scope.names []) C cd builtinsNs X.env))) :
    Fit w E' (GXP.gxE E' X A s H (genEnv scope (cloFrom X.env.cells scope.names []) C cd builtinsNs X.env) fp pn) (c.gen scope k) where
  env := ⟨F.env.W, F.env.K, F.env.gl, F.env.me, F.env.fl⟩
  N := F.N
  nd := F.nd
  sc := rfl
  kind := hk
  fn := fun z => by cases z
  calm := rfl
  own := owns_gxE
  pass := passes_call (W := fun cls d _ H => E' cls d H) takes_gxE fun _ _ _ _ h => h
  take := fun z => by cases z
  room := hr
  tab := fun z => by cases z
  lam := fun z => by cases z
end

/-! ### targets of comprehensions -/
def trCs (f : Expr → Option CG) : List Expr → Option CGs
  | [] => some cNil
  | e :: es => if noStar e then (match f e, trCs f es with
    | some a, some b => some (cCons a b)
    | _, _ => none) else none
def trC (c : Cc) (vs : List Nat) : Nat → Expr → Option CG
  | 0, _ => none
  | n + 1, e => match e with
    | .Name x _ => if stoB c x then (match idx x c.N with
      | some i => if decide (i ∈ vs) then some (cName i) else none
      | none => none) else none
    | .Tuple es _ _ => if es.all noStar then (match trCs (trC c vs n) es with
      | some g => some (cTup es.length g)
      | none => none) else none
    | _ => none
section
variable {w : Wd} {E : XK} {X : Cx} {c : Cc}
theorem tc_ok (F : FitT w X c) (hN : X.N.Nodup) {vs : List Nat} : ∀ (n : Nat) {e : Expr} {g : CG}, trC c vs n e = some g → PG X e (tGc w vs g)
  | 0, _, _, h => by cases h
  | n + 1, e, g, h => by
    unfold trC at h
    split at h
    · rename_i x p
      split at h
      · rename_i hs
        obtain ⟨h1, h2⟩ := stoB_ok F hs
        split at h
        · rename_i i e1
          split at h
          · rename_i hm
            cases h
            exact c_name hN (by rw [F.N]; exact idx_get e1) h1 h2 (of_decide_eq_true hm)
          · cases h
        · cases h
      · cases h
    · rename_i es k p
      split at h
      · rename_i hs
        split at h
        · rename_i g' e1
          cases h
          have all : ∀ {es : List Expr} {g : CGs}, trCs (trC c vs n) es = some g → PGs X es (tGcs w vs g) := by
            intro es
            induction es with
            | nil => intro g h; cases h; exact c_nil
            | cons e es ih =>
              intro g h
              unfold trCs at h
              split at h
              · rename_i hs
                split at h
                · rename_i a b h1 h2
                  cases h
                  exact c_cons (tc_ok F hN n h1) (ih h2) hs
                · cases h
              · cases h
          exact c_tup F.calm F.K (all e1) rfl hs
        · cases h
      · cases h
    · cases h
end

/-! ### iterables -/
def noP : ME := fun _ _ _ => none
def trI0 (f : TrE) (c : Cc) (e : Expr) : Option (ME × MI) := match f c e with
  | some m => some (m, itE m)
  | none => none
def isRange (c : Cc) (x : Str) : Bool := decide (x = "range") && glbB c.sc x && (match lookN x c.gl with
  | some .blt => true
  | _ => false)
def trI (f : TrE) (c : Cc) : Expr → Option (ME × MI)
  | .Call (.Name x p) args [] pos => if isRange c x then (match args with
    | [a] => (match trA f c [a] with
      | some m => some (noP, rng1E m)
      | none => none)
    | [a, b] => (match trA f c [a, b] with
      | some m => some (noP, rng2E m)
      | none => none)
    | _ => none) else trI0 f c (.Call (.Name x p) args [] pos)
  | e => trI0 f c e
section
variable {w : Wd} {E : XK} {X : Cx} {c : Cc} {f : TrE} {tg : Expr}
theorem i0_ok (hf : SE w f) (F : Fit w E X c) {e : Expr} {r : ME × MI} (h : trI0 f c e = some r) : PI X tg e (tIt w E r.2) := by
  unfold trI0 at h
  split at h
  · rename_i m e1
    cases h
    exact y_any F.K (hf X E c e m F e1)
  · cases h
theorem range_ok (F : Fit w E X c) {x : Str} (h : isRange c x = true) : x = "range" ∧ Gl X x ∧ X.mg x = none := by
  unfold isRange at h
  simp only [Bool.and_eq_true, decide_eq_true_eq] at h
  refine ⟨h.1.1, glbB_ok F.sc h.1.2, ?_⟩
  have h2 := h.2
  split at h2
  · rename_i e
    exact F.env.gl _ (lookN_mem e)
  · cases h2
theorem i_ok (hf : SE w f) (F : Fit w E X c) {e : Expr} {r : ME × MI} (h : trI f c e = some r) : PI X tg e (tIt w E r.2) := by
  unfold trI at h
  split at h
  · rename_i x p args pos
    split at h
    · rename_i hr
      obtain ⟨rfl, hg, hm⟩ := range_ok F hr
      split at h
      · rename_i a
        split at h
        · rename_i m e1
          cases h
          obtain ⟨pa, hs⟩ := a_ok hf F e1
          exact y_rng1 hg hm pa (by simpa using hs)
        · cases h
      · rename_i a b
        split at h
        · rename_i m e1
          cases h
          obtain ⟨pa, hs⟩ := a_ok hf F e1
          have hs : noStar a = true ∧ noStar b = true := by simpa using hs
          exact y_rng2 hg hm pa hs.1 hs.2
        · cases h
      · cases h
    · exact i0_ok hf F h
  · exact i0_ok hf F h
end

/-! ### comprehensions -/
def trIfs (t : TrE) (c : Cc) : List Expr → Option ME
  | [] => some (retE (.bl true))
  | [e] => t c e
  | _ => none
def memP (p : Pos) (l : List (Nat × Nat)) : Bool := l.any fun q => q.1 == p.line && q.2 == p.col
structure LcParts where
  pb : ME
  fi : MI
  g : CG
  mt : ME
def lcParts (r : Tr) (c c' : Cc) (vs : List Nat) (tg iter : Expr) (ifs : List Expr) : Option LcParts := match trI r.e c iter, trC c' vs 4 tg, trIfs r.t c' ifs with
  | some (pb, fi), some g, some mt => some ⟨pb, fi, g, mt⟩
  | _, _, _ => none
/-- a list comprehension: the walked thing, the mirror by what is frozen -/
def lcX (r : Tr) (c : Cc) (elt : Expr) (gens : List Comprehension) (scope : Scope) (pos : Pos) : Option (ME × (Option Nat → ME)) := match gens with
  | [⟨tg, iter, ifs, a⟩] => if decide (a = 0) && blkC c.N c.sc scope (ownOf c.N scope) && noSet iter then
      (match lcParts r c (c.blk scope) ((ownOf c.N scope).map (·.2)) tg iter ifs, r.e (c.blk scope) elt with
      | some P, some me => some (P.pb, lcE (memP pos c.mu) ((ownOf c.N scope).map (·.2)) P.fi P.g P.mt me)
      | _, _ => none) else none
  | _ => none
def dcX (r : Tr) (c : Cc) (kx vx : Expr) (gens : List Comprehension) (scope : Scope) (pos : Pos) : Option ME := match gens with
  | [⟨tg, iter, ifs, a⟩] => if decide (a = 0) && blkC c.N c.sc scope (ownOf c.N scope) && noSet iter then
      (match lcParts r c (c.blk scope) ((ownOf c.N scope).map (·.2)) tg iter ifs, r.e (c.blk scope) kx, r.e (c.blk scope) vx with
      | some P, some mk, some mv => some (lockE P.pb (dcE (memP pos c.mu) ((ownOf c.N scope).map (·.2)) P.fi P.g P.mt mk mv))
      | _, _, _ => none) else none
  | _ => none
section
variable {w : Wd} {E : XK} {X : Cx} {c : Cc} {r : Tr} {pos : Pos}
theorem ifs_ok (ht : ST w r.t) {Y : Cx} {c' : Cc} (F : Fit w X0 Y c') {ifs : List Expr} {m : ME} (h : trIfs r.t c' ifs = some m) : PTs Y ifs (tQ w X0 m) := by
  unfold trIfs at h
  split at h
  · cases h; exact z_tests0
  · exact z_tests1 (ht Y X0 c' _ m F h)
  · cases h
theorem ifs_okE (ht : ST w r.t) {E' : XK} {Y : Cx} {c' : Cc} (F : Fit w E' Y c') {ifs : List Expr} {m : ME} (h : trIfs r.t c' ifs = some m) : PTs Y ifs (tQ w E' m) := by
  unfold trIfs at h
  split at h
  · cases h; exact ⟨fun pins s σ H Q I h => pts_nil.run pins s σ H Q I (by obtain ⟨k, e, q⟩ := retb_imp h; cases e; exact q)⟩
  · exact pts_one (ht Y E' c' _ m F h)
  · cases h
theorem blk_ok (F : Fit w E X c) {scope : Scope} (h : blkC c.N c.sc scope (ownOf c.N scope) = true) : BlkOk X.N X.env.scope scope (ownOf c.N scope) := by
  rw [F.N, F.sc]; exact blkOk_by h
theorem parts_some {c' : Cc} {vs : List Nat} {tg iter : Expr} {ifs : List Expr} {P : LcParts} (h : lcParts r c c' vs tg iter ifs = some P) : trI r.e c iter = some (P.pb, P.fi) ∧ trC c' vs 4 tg = some P.g ∧ trIfs r.t c' ifs = some P.mt := by
  unfold lcParts at h
  split at h
  · rename_i pb fi g mt h1 h2 h3
    cases h
    exact ⟨h1, h2, h3⟩
  · cases h
theorem lc_ok (he : SE w r.e) (ht : ST w r.t) (F : Fit w E X c) {elt : Expr} {gens : List Comprehension} {scope : Scope} {m : ME × (Option Nat → ME)} (h : lcX r c elt gens scope pos = some m) : PE X (.ListComp elt gens scope pos) (tEz w E m.2) := by
  unfold lcX at h
  split at h
  · rename_i tg iter ifs a
    split at h
    · rename_i hb
      simp only [Bool.and_eq_true, decide_eq_true_eq] at hb
      obtain ⟨⟨rfl, hb⟩, hs⟩ := hb
      split at h
      · rename_i P me e1 e2
        cases h
        obtain ⟨h1, h2, h3⟩ := parts_some e1
        have bo := blk_ok F hb
        have fb := fun s H C cl fp => fit_blk F (scope := scope) bo.kind s H C cl fp
        exact r_lc F.calm F.nd (i_ok he F h1) bo (fun s H C cl fp => tc_ok (fb s H C cl fp).tg F.nd 4 h2) (fun s H C cl fp => ifs_ok ht (fb s H C cl fp) h3) (fun s H C cl fp => he _ _ _ _ _ (fb s H C cl fp) e2) hs
      · cases h
    · cases h
  · cases h
theorem dc_ok (he : SE w r.e) (ht : ST w r.t) (F : Fit w E X c) {kx vx : Expr} {gens : List Comprehension} {scope : Scope} {m : ME} (h : dcX r c kx vx gens scope pos = some m) : PE X (.DictComp kx vx gens scope pos) (tE w E m) := by
  unfold dcX at h
  split at h
  · rename_i tg iter ifs a
    split at h
    · rename_i hb
      simp only [Bool.and_eq_true, decide_eq_true_eq] at hb
      obtain ⟨⟨rfl, hb⟩, hs⟩ := hb
      split at h
      · rename_i P mk mv e1 e2 e3
        cases h
        obtain ⟨h1, h2, h3⟩ := parts_some e1
        have bo := blk_ok F hb
        have fb := fun s H C cl fp => fit_blk F (scope := scope) bo.kind s H C cl fp
        exact e_lock (r_dc F.calm F.nd (i_ok he F h1) bo (fun s H C cl fp => tc_ok (fb s H C cl fp).tg F.nd 4 h2) (fun s H C cl fp => ifs_ok ht (fb s H C cl fp) h3) (fun s H C cl fp => he _ _ _ _ _ (fb s H C cl fp) e2) (fun s H C cl fp => he _ _ _ _ _ (fb s H C cl fp) e3) hs)
      · cases h
    · cases h
  · cases h
def isBlt (c : Cc) (x : Str) : Bool := match lookN x c.gl with
  | some .blt => true
  | _ => false
theorem isBlt_ok {w : Wd} {E : XK} {X : Cx} {c : Cc} (F : Fit w E X c) {x : Str} (h : isBlt c x = true) : X.mg x = none := by
  unfold isBlt at h
  split at h
  · rename_i e
    exact F.env.gl _ (lookN_mem e)
  · cases h
def noDisp : Expr → Bool
  | .Set _ _ _ => false
  | .List _ _ => false
  | _ => true
/-- a generator expression handed to a built-in function -/
def gxX (r : Tr) (c : Cc) (x : Str) (elt : Expr) (gens : List Comprehension) (scope : Scope) : Option ME := match gens with
  | [⟨tg, iter, ifs, a⟩] => if decide (a = 0) && gokB c.N c.sc scope (ownOf c.N scope) && noDisp iter && c.gx && decide (5 ≤ c.k) && glbB c.sc x && isBlt c x then
      (match lcParts r c (c.gen scope (c.k - 5)) ((ownOf c.N scope).map (·.2)) tg iter ifs, r.e (c.gen scope (c.k - 5)) elt with
      | some P, some me =>
        if x = "any" then some (lockE P.pb (if c.rs && !(nsOf c.gl).isEmpty then anyE (nsOf c.gl) ((ownOf c.N scope).map (·.2)) P.fi P.g P.mt me else gxE ((ownOf c.N scope).map (·.2)) P.fi P.g P.mt me (stAny true) 0 (fnAny true)))
        else if x = "all" then some (lockE P.pb (gxE ((ownOf c.N scope).map (·.2)) P.fi P.g P.mt me (stAny false) 0 (fnAny false)))
        else if x = "tuple" then some (lockE P.pb (gxE ((ownOf c.N scope).map (·.2)) P.fi P.g P.mt me stAll [] fnTup))
        else if x = "sorted" then some (lockE P.pb (gxE ((ownOf c.N scope).map (·.2)) P.fi P.g P.mt me stAll [] fnSrt))
        else if x = "sum" then some (lockE P.pb (gxE ((ownOf c.N scope).map (·.2)) P.fi P.g P.mt me stSum (0, 0) fnSum))
        else if x = "min" then some (lockE P.pb (gxE ((ownOf c.N scope).map (·.2)) P.fi P.g P.mt me (stMM false) (0, none) fnMM))
        else if x = "max" then some (lockE P.pb (gxE ((ownOf c.N scope).map (·.2)) P.fi P.g P.mt me (stMM true) (0, none) fnMM))
        else none
      | _, _ => none) else none
  | _ => none
theorem fold0 {e : Expr} {env : Env} (h : noDisp e = true) : ∀ v, genFold e env v = pure v := by
  intro v
  cases e <;> first | rfl | cases h
theorem gx_ok (he : SE w r.e) (ht : ST w r.t) (F : Fit w E X c) {x : Str} {elt : Expr} {gens : List Comprehension} {scope : Scope} {p gpos : Pos} {m : ME} (h : gxX r c x elt gens scope = some m) : PE X (.Call (.Name x p) [.GeneratorExp elt gens scope gpos] [] pos) (tE w E m) := by
  unfold gxX at h
  split at h
  · rename_i tg iter ifs a
    split at h
    · rename_i hb
      simp only [Bool.and_eq_true, decide_eq_true_eq] at hb
      obtain ⟨⟨⟨⟨⟨⟨rfl, hb⟩, hs⟩, hgx⟩, h5⟩, hgl⟩, hbl⟩ := hb
      have hmg : X.mg x = none := isBlt_ok F hbl
      have hg := glbB_ok (X := X) F.sc hgl
      obtain ⟨P0, hP, hq, q, hT, hcode⟩ := F.tab hgx
      have hr : Room (c.k - 5 + 5) X.A := F.room.mono (by omega)
      split at h
      · rename_i P me e1 e2
        obtain ⟨h1, h2, h3⟩ := parts_some e1
        have go : GOk X.N X.env.scope scope (ownOf c.N scope) := by rw [F.N, F.sc]; exact gokB_ok hb
        have gd : GD X w E (c.k - 5) elt tg iter ifs scope (ownOf c.N scope) P0 P.fi P.g P.mt me := {
          nd := F.nd
          tab := ⟨q, hT, hcode⟩
          ok := go
          it := i_ok he F h1
          fold := fold0 hs
          tgt := fun A s H C cd fp pn => tc_ok (X := gxCx X A s H (genEnv scope (cloFrom X.env.cells scope.names []) C cd builtinsNs X.env) fp pn) (c := c.gen scope (c.k - 5)) ⟨F.K, F.N, F.nd, rfl, fun z => (by cases z), rfl⟩ F.nd 4 h2
          tst := fun A s H C cd fp pn hr => ifs_ok ht (fit_gen F go.blk.kind A s H C cd fp pn hr) h3
          elt := fun A s H C cd fp pn hr => he _ _ _ _ _ (fit_gen F go.blk.kind A s H C cd fp pn hr) e2 }
        split at h
        · rename_i ex; subst ex; cases h
          by_cases hx : (c.rs && !(nsOf c.gl).isEmpty) = true
          · simp only [hx, if_true]
            have hrs : c.rs = true := by
              rw [Bool.and_eq_true] at hx
              exact hx.1
            exact e_lock (r_ganyE F.env.K (F.take hrs) {
              nd := F.nd
              tab := ⟨q, hT, hcode⟩
              ok := go
              it := i_ok he F h1
              fold := fold0 hs
              tgt := fun A s H C cd fp pn => tc_ok (X := GXP.gxE (exN w E) X A s H (genEnv scope (cloFrom X.env.cells scope.names []) C cd builtinsNs X.env) fp pn) (c := c.gen scope (c.k - 5)) ⟨F.K, F.N, F.nd, rfl, fun z => (by cases z), rfl⟩ F.nd 4 h2
              tst := fun A s H C cd fp pn hr => ifs_okE ht (fit_genE F (exN w E) go.blk.kind A s H C cd fp pn hr) h3
              elt := fun A s H C cd fp pn hr => he _ _ _ _ _ (fit_genE F (exN w E) go.blk.kind A s H C cd fp pn hr) e2 } hP hq (ns_ok F) (hr.mono (by omega)) hg hmg)
          · simp only [hx, if_false, Bool.false_eq_true]
            exact e_lock (r_gany gd hP hq (hr.mono (by omega)) hg hmg)
        split at h
        · rename_i ex; subst ex; cases h; exact e_lock (r_gall gd hP hq (hr.mono (by omega)) hg hmg boot_all)
        split at h
        · rename_i ex; subst ex; cases h; exact e_lock (r_gtup gd hP hq hr hg hmg boot_tuple)
        split at h
        · rename_i ex; subst ex; cases h; exact e_lock (r_gsrt F.K gd hP hq hr hg hmg PyProof.Rows.boot_sorted)
        split at h
        · rename_i ex; subst ex; cases h; exact e_lock (r_gsum gd hP hq (hr.mono (by omega)) hg hmg boot_sum)
        split at h
        · rename_i ex; subst ex; cases h; exact e_lock (r_gmin F.K gd hP hq hr hg hmg boot_min)
        split at h
        · rename_i ex; subst ex; cases h; exact e_lock (r_gmax F.K gd hP hq hr hg hmg boot_max)
        cases h
      · cases h
    · cases h
  · cases h
end
end MP

end
section
set_option Elab.async false
set_option linter.all false
set_option maxRecDepth 100000
set_option maxHeartbeats 2000000
/-! the mirror of a text: lambdas -/
namespace MP
open PySem PySem.Spec PyProof.Rows L2 LamX

/-! ### equal texts -/
def eqEs (f : Expr → Expr → Bool) : List Expr → List Expr → Bool
  | [], [] => true
  | a :: as, b :: bs => f a b && eqEs f as bs
  | _, _ => false
def eqE : Nat → Expr → Expr → Bool
  | 0, _, _ => false
  | n + 1, .Name x p, .Name y q => decide (x = y) && decide (p = q)
  | n + 1, .Constant v k p, .Constant u l q => decide (v = u) && decide (k = l) && decide (p = q)
  | n + 1, .Attribute a x p, .Attribute b y q => eqE n a b && decide (x = y) && decide (p = q)
  | n + 1, .Call a as [] p, .Call b bs [] q => eqE n a b && eqEs (eqE n) as bs && decide (p = q)
  | n + 1, .List as p, .List bs q => eqEs (eqE n) as bs && decide (p = q)
  | n + 1, .Tuple as k p, .Tuple bs l q => eqEs (eqE n) as bs && decide (k = l) && decide (p = q)
  | n + 1, .UnaryOp o a p, .UnaryOp o' b q => eqE n a b && decide (o = o') && decide (p = q)
  | n + 1, .BinOp a o c p, .BinOp b o' d q => eqE n a b && eqE n c d && decide (o = o') && decide (p = q)
  | _, _, _ => false
theorem eqEs_ok {f : Expr → Expr → Bool} (hf : ∀ a b, f a b = true → a = b) : ∀ {as bs : List Expr}, eqEs f as bs = true → as = bs
  | [], [], _ => rfl
  | a :: as, b :: bs, h => by
    unfold eqEs at h
    rw [Bool.and_eq_true] at h
    rw [hf a b h.1, eqEs_ok hf h.2]
  | [], _ :: _, h => by cases h
  | _ :: _, [], h => by cases h
theorem eqE_ok : ∀ (n : Nat) (a b : Expr), eqE n a b = true → a = b
  | 0, _, _, h => by cases h
  | n + 1, a, b, h => by
    unfold eqE at h
    split at h <;> (try simp only [Bool.and_eq_true, decide_eq_true_eq] at h)
    · cases h
    · obtain ⟨rfl, rfl⟩ := h; rfl
    · obtain ⟨⟨rfl, rfl⟩, rfl⟩ := h; rfl
    · obtain ⟨⟨h1, rfl⟩, rfl⟩ := h; rw [eqE_ok _ _ _ h1]
    · obtain ⟨⟨h1, h2⟩, rfl⟩ := h; rw [eqE_ok _ _ _ h1, eqEs_ok (eqE_ok _) h2]
    · obtain ⟨h2, rfl⟩ := h; rw [eqEs_ok (eqE_ok _) h2]
    · obtain ⟨⟨h2, rfl⟩, rfl⟩ := h; rw [eqEs_ok (eqE_ok _) h2]
    · obtain ⟨⟨h1, rfl⟩, rfl⟩ := h; rw [eqE_ok _ _ _ h1]
    · obtain ⟨⟨⟨h1, h2⟩, rfl⟩, rfl⟩ := h; rw [eqE_ok _ _ _ h1, eqE_ok _ _ _ h2]
    · cases h
def findL : List (Expr × Scope) → Expr → Scope → Option Nat
  | [], _, _ => none
  | p :: ps, b, sc => if eqE 20 p.1 b && decide (p.2 = sc) then some 0 else (findL ps b sc).map (· + 1)
theorem findL_ok : ∀ {l : List (Expr × Scope)} {b : Expr} {sc : Scope} {j : Nat}, findL l b sc = some j → l[j]? = some (b, sc)
  | [], _, _, _, h => by cases h
  | p :: ps, b, sc, j, h => by
    unfold findL at h
    split at h
    · rename_i e
      cases h
      rw [Bool.and_eq_true, decide_eq_true_eq] at e
      rw [List.getElem?_cons_zero, ← eqE_ok _ _ _ e.1, ← e.2]
    · cases e : findL ps b sc with
      | none => rw [e] at h; cases h
      | some i =>
        rw [e] at h
        cases h
        show (p :: ps)[i + 1]? = _
        rw [List.getElem?_cons_succ]
        exact findL_ok e
/-- the lambdas of a statement  name = [lambda .., ..] -/
def lamsOf : Stmt → List (Expr × Scope)
  | .Assign _ (.List es _) _ => es.filterMap fun e => match e with
    | .Lambda _ b sc _ => some (b, sc)
    | _ => none
  | _ => []
def bareA : Arguments → Bool
  | ⟨[], [], none, [], [], none, []⟩ => true
  | _ => false
theorem bareA_ok {a : Arguments} (h : bareA a = true) : a = noArgs := by
  unfold bareA at h
  split at h
  · rfl
  · cases h
def lamX (c : Cc) (params : Arguments) (body : Expr) (scope : Scope) : Option ME := if c.lt && bareA params && lamSB c.sc scope then (match findL c.lams body scope with
  | some j => some (retE (.lam j))
  | none => none) else none
def toldX (r : Tr) (c : Cc) (x : Str) (params : Arguments) (body : Expr) (scope : Scope) : Option ME := if c.lt && bareA params && lamSB c.sc scope && glbB c.sc x then (match lookN x c.gl with
  | some (.told ret cx k) => if decide (k + 2 ≤ c.k) then (match r.e (c.gen scope k) body with
    | some m => some (toldE ret.cps.toList cx m)
    | none => none) else none
  | _ => none) else none
def lamMs (r : Tr) (c : Cc) (k : Nat) : List ME := c.lams.map fun p => if lamSB c.sc p.2 then (match r.e (c.gen p.2 k) p.1 with
  | some m => m
  | none => fun _ _ _ => none) else fun _ _ _ => none
/-- the mirrors of the lambdas by number -/
def bmL (l : List ME) (j : Nat) : ME := match l[j]? with
  | some m => m
  | none => fun _ _ _ => none
theorem bm_cases (r : Tr) (c : Cc) (k j : Nat) : (∃ b sc m, c.lams[j]? = some (b, sc) ∧ lamSB c.sc sc = true ∧ r.e (c.gen sc k) b = some m ∧ bmL (lamMs r c k) j = m) ∨ bmL (lamMs r c k) j = fun _ _ _ => none := by
  unfold bmL lamMs
  rw [List.getElem?_map]
  cases e : c.lams[j]? with
  | none => exact .inr rfl
  | some p =>
    obtain ⟨b, sc⟩ := p
    by_cases h : lamSB c.sc sc = true
    · cases e2 : r.e (c.gen sc k) b with
      | none => exact .inr (by simp only [Option.map_some, e2]; split <;> rfl)
      | some m => exact .inl ⟨b, sc, m, rfl, h, e2, by simp only [Option.map_some, e2, if_pos h]⟩
    · exact .inr (by simp only [Option.map_some, if_neg h])
def badX (r : Tr) (c : Cc) (elt : Expr) (gens : List Comprehension) (scope : Scope) : Option (ME × (Option Nat → ME)) := match gens with
  | [⟨tg, iter, [.Compare (.Call (.Name x p) [.Name y py] [] pos2) [.NotEq] [.Constant (.str ex) j pos3] pos4], a⟩] =>
    if decide (a = 0) && blkC c.N c.sc scope (ownOf c.N scope) && noSet iter && glbB (c.blk scope).sc x && visB (c.blk scope).sc y && c.lt && !(y == ("__debug__" : Str)) && !(y == ("__classdict__" : Str)) then
      (match lookN x c.gl, trI r.e c iter, trC (c.blk scope) ((ownOf c.N scope).map (·.2)) 4 tg, r.e (c.blk scope) elt, idx y c.N with
      | some (.told ret cx k), some (pb, fi), some g, some me, some i => if decide (k + 2 ≤ c.k) then
          some (pb, lcE false ((ownOf c.N scope).map (·.2)) fi g (op2E neD (toldF ((ownOf c.N scope).map (·.2)) i ret.cps.toList cx (bmL (lamMs r c k))) (retE (.str ex.cps.toList))) me) else none
      | _, _, _, _, _ => none) else none
  | _ => none
section
variable {w : Wd} {E : XK} {X : Cx} {c : Cc} {r : Tr} {pos : Pos}
theorem fit_lam (F : Fit w E X c) {scope : Scope} (hk : scope.kind = .function) {k : Nat} (A : Around) (outer : List Env) (s : Shared) (H : Hp) (E' : XK) (f c1 : Addr) (hr : Room k (A.deeper (lamEnv X scope s.heap.objs.size f c1))) : Fit w E' (lamCx X A outer s H E' scope f c1) (c.gen scope k) where
  env := ⟨F.env.W, F.env.K, F.env.gl, F.env.me, F.env.fl⟩
  N := F.N
  nd := F.nd
  sc := rfl
  kind := hk
  fn := fun z => by cases z
  calm := rfl
  own := passes_of rfl
  pass := passes_call (W := fun cls d _ H => E' cls d H) (takes_of rfl rfl rfl rfl) fun _ _ _ _ h => h
  take := fun z => by cases z
  room := hr
  tab := fun z => by cases z
  lam := fun z => by cases z
theorem lamS_of (F : Fit w E X c) {scope : Scope} (h : lamSB c.sc scope = true) : LamS X.env.scope scope := by rw [F.sc]; exact lamS_by h
theorem bare_bind (q : Str) (body : Expr) (scope : Scope) (cl : List (Str × Addr)) (pm cv ctv : Value) : bindArgs (PySem.W.kla_fn "<lambda>" q noArgs body scope cl pm cv ctv) ⟨[], []⟩ = pure [] := rfl
theorem lam_ok (F : Fit w E X c) {params : Arguments} {body : Expr} {scope : Scope} {m : ME} (h : lamX c params body scope = some m) : PE X (.Lambda params body scope pos) (tE w E m) := by
  unfold lamX at h
  split at h
  · rename_i hb
    simp only [Bool.and_eq_true] at hb
    obtain ⟨⟨h1, h2⟩, h3⟩ := hb
    obtain rfl := bareA_ok h2
    obtain ⟨C, P, t1, t2, t3, t4, t5, t6, t7⟩ := F.lam h1
    split at h
    · rename_i j e
      cases h
      exact r_lam t1 t2 t3 t4 t5 rfl (lamS_of F h3) (t7 j body scope (findL_ok e)) t6
    · cases h
  · cases h
theorem told_ok (he : SE w r.e) (F : Fit w E X c) {x : Str} {params : Arguments} {body : Expr} {scope : Scope} {m : ME} {p lpos : Pos} (h : toldX r c x params body scope = some m) : PE X (.Call (.Name x p) [.Lambda params body scope lpos] [] pos) (tE w E m) := by
  unfold toldX at h
  split at h
  · rename_i hb
    simp only [Bool.and_eq_true] at hb
    obtain ⟨⟨⟨h1, h2⟩, h3⟩, h4⟩ := hb
    obtain rfl := bareA_ok h2
    obtain ⟨C, P, t1, t2, t3, t4, t5, t6, t7⟩ := F.lam h1
    split at h
    · rename_i ret cx k e1
      split at h
      · rename_i hk
        rw [decide_eq_true_eq] at hk
        split at h
        · rename_i mb e2
          cases h
          obtain ⟨g, CS, a, e, sg, pg, dV, kV, doc, pm, cdv, ct, oc, an, od, osl, Ng, jj, p1, p2, p3, p4, p5, p6, p7, p8, q1, q2, q3, q4, q5, q6, q7, q8, q9, q10, q11, q12, q13, q14, q15⟩ := (F.env.gl _ (lookN_mem e1) X rfl rfl).ex
          have L := lamS_of F h3
          have hG := told_gives (X := X) (Ng := Ng) (x := x) (a := a) (q := X.env.qual ++ "<lambda>") (ret := ret) (g := g) (cdg := cdv) (j := jj) (p1 := p1) (p2 := p2) (p3 := p3) (p4 := p4) (p5 := p5) (p6 := p6) (p7 := p7) (p8 := p8) q9 q10 q15 fun f => by
            have : 0 < Ng.length := by
              cases Ng with
              | nil => cases q7
              | cons _ _ => exact Nat.succ_pos _
            rfl
          refine pe_imp (pe_lmt (t := fun E' => tE w E' mb) (glbB_ok F.sc h4) q1 q2 q3 q4 q5 q6 q7 q8 hG t1 t2 (F.room.mono hk) L rfl (fun _ _ _ _ _ => rfl) (fun A outer s H E' f c1 hr => he _ E' _ _ _ (fit_lam F L.kind A outer s H E' f c1 hr) e2) q12 q13 q14) fun _ _ _ h => by
            rw [F.K]
            exact told_imp t3 t4 t5 (fun c hc => q11 c hc) h
        · cases h
      · cases h
    · cases h
  · cases h
theorem bad_ok (he : SE w r.e) (F : Fit w E X c) {elt : Expr} {gens : List Comprehension} {scope : Scope} {m : ME × (Option Nat → ME)} (h : badX r c elt gens scope = some m) : PE X (.ListComp elt gens scope pos) (tEz w E m.2) := by
  unfold badX at h
  split at h
  · rename_i tg iter x p y py pos2 ex j pos3 pos4 a
    split at h
    · rename_i hb
      simp only [Bool.and_eq_true, decide_eq_true_eq, Bool.not_eq_true'] at hb
      obtain ⟨⟨⟨⟨⟨⟨⟨rfl, hb⟩, hs⟩, hx⟩, hy⟩, hl⟩, h4⟩, h5⟩ := hb
      split at h
      · rename_i ret cx k pb fi g me i e1 e2 e3 e4 e5
        split at h
        · rename_i hk
          rw [decide_eq_true_eq] at hk
          cases h
          obtain ⟨C, P, t1, t2, t3, t4, t5, t6, t7⟩ := F.lam hl
          have bo := blk_ok F hb
          have fb := fun s H C cl fp => fit_blk F (scope := scope) bo.kind s H C cl fp
          refine z_bad F.calm F.nd F.K F.un (i_ok he F e2) bo (fun s H C cl fp => tc_ok (fb s H C cl fp).tg F.nd 4 e3) (fun s H C cl fp => he _ _ _ _ _ (fb s H C cl fp) e4) hs (F.env.gl _ (lookN_mem e1) X rfl rfl) (fun s H C cl fp => glbB_ok (fb s H C cl fp).sc hx) (F.room.mono hk) (by rw [F.N]; exact idx_get e5) (fun C cl => ?_) (fun j => ?_) t6 h4 h5
          · have z := (fb X.s_0 X.H_0 C cl []).sc
            rw [show (compEnvC scope cl C X.env).scope = (c.blk scope).sc from z]
            exact visB_ok hy
          · rcases bm_cases r c k j with ⟨b, sc, mm, e6, hsc, e7, e8⟩ | e8
            · have L := lamS_of F hsc
              exact .inl ⟨noArgs, b, sc, t7 j b sc e6, L, fun _ _ _ _ _ => rfl, fun A outer s H E' f c1 hr => by rw [e8]; exact he _ E' _ _ _ (fit_lam F L.kind A outer s H E' f c1 hr) e7⟩
            · exact .inr e8
        · cases h
      · cases h
    · cases h
  · cases h
end
end MP

end
section
set_option Elab.async false
set_option linter.all false
set_option maxRecDepth 100000
set_option maxHeartbeats 2000000
/-! the mirror of a text, by a function: the whole; statements -/
namespace MP
open PySem PyProof.Rows L2 GXP

/-! ### expressions -/
def mapP (r : Option (ME × (Option Nat → ME))) : Option ME := match r with
  | some (pb, s) => some (lockE pb s)
  | none => none
def stepE (r : Tr) (c : Cc) : Expr → Option ME
  | .Constant k _ _ => constE k
  | .Name x _ => nameE c x
  | .BinOp a op b _ => binE op (r.e c a) (r.e c b)
  | .UnaryOp op a _ => unE op (r.e c a)
  | .BoolOp op es _ => trB r.e c op es
  | .IfExp t a b _ => match r.t c t with
    | some mt => map2 (ifE mt) (r.e c a) (r.e c b)
    | none => none
  | .Compare a ops cs _ => cmpE r.e c a ops cs
  | .Attribute o x _ => attE c x o (r.e c o)
  | .Subscript a i _ => subE r.e c a i
  | .Tuple es _ _ => mapA tupE (trA r.e c es)
  | .List es pos => if memP pos c.mu then mapA lstO (trA r.e c es) else mapA lstE (trA r.e c es)
  | .Dict [] [] pos => some (newE (.dct (memP pos c.tk) []))
  | .Call (.Name x _) [.GeneratorExp elt gens scope _] [] _ => gxX r c x elt gens scope
  | .Call (.Name x _) [.Lambda ps b sc _] [] _ => toldX r c x ps b sc
  | .Lambda ps b sc _ => lamX c ps b sc
  | .Call (.Name x _) args [] _ => callN c x args (trA r.e c args)
  | .Call (.Attribute o x apos) args [] pos => callM r.e c o x apos args pos
  | .ListComp elt gens scope pos => (match badX r c elt gens scope with
    | some m => some (lockE m.1 m.2)
    | none => mapP (lcX r c elt gens scope pos))
  | .DictComp kx vx gens scope pos => dcX r c kx vx gens scope pos
  | _ => none
def stepT (r : Tr) (c : Cc) : Expr → Option ME
  | .BoolOp op es _ => trBT r.t c op es
  | .UnaryOp .Not a _ => map1 notE (r.t c a)
  | .Compare a ops cs _ => cmpE r.e c a ops cs
  | e => if plainT e then map1 truE (r.e c e) else none
def trN : Nat → Tr
  | 0 => ⟨fun _ _ => none, fun _ _ => none⟩
  | n + 1 => ⟨stepE (trN n), stepT (trN n)⟩
section
variable {w : Wd} {r : Tr}
theorem stepE_ok (he : SE w r.e) (ht : ST w r.t) : SE w (stepE r) := by
  intro X E c x m F h
  unfold stepE at h
  split at h
  · exact const_ok h
  · exact name_ok F h
  · exact bin_ok he F h
  · exact un_ok he F h
  · exact b_ok he F h
  · split at h
    · rename_i mt e
      obtain ⟨ma, mb, h1, h2, rfl⟩ := map2_some h
      exact r_if (ht X E c _ mt F e) (he X E c _ ma F h1) (he X E c _ mb F h2)
    · cases h
  · exact (cmp2_ok he F h).1
  · exact att_ok he F h
  · exact sub_ok he F h
  · obtain ⟨ma, h1, rfl⟩ := mapA_some h
    exact r_tup (a_ok he F h1).1
  · split at h
    · obtain ⟨ma, h1, rfl⟩ := mapA_some h
      exact r_lstO (a_ok he F h1).1
    · obtain ⟨ma, h1, rfl⟩ := mapA_some h
      exact r_lst (a_ok he F h1).1
  · cases h
    cases memP _ c.tk with
    | false => exact r_dK
    | true => exact r_dT
  · exact gx_ok he ht F h
  · exact told_ok he F h
  · exact lam_ok F h
  · exact callN_ok he F h
  · exact callM_ok he F h
  · split at h
    · rename_i m e
      cases h
      exact e_lock (bad_ok he F e)
    · unfold mapP at h
      split at h
      · rename_i pb s e
        cases h
        exact e_lock (lc_ok he ht F e)
      · cases h
  · exact dc_ok he ht F h
  · cases h
theorem stepT_ok (he : SE w r.e) (ht : ST w r.t) : ST w (stepT r) := by
  intro X E c x m F h
  unfold stepT at h
  split at h
  · exact (bt_ok ht F h).pt
  · obtain ⟨ma, h1, rfl⟩ := map1_some h
    exact q_not (ht X E c _ ma F h1)
  · exact (cmp2_ok he F h).2
  · split at h
    · rename_i hp
      obtain ⟨ma, h1, rfl⟩ := map1_some h
      exact q_val F.K (he X E c _ ma F h1) (plain_true hp)
    · cases h
theorem trN_ok : ∀ n, SE w (trN n).e ∧ ST w (trN n).t
  | 0 => ⟨(fun X E c x m F h => by cases h), (fun X E c x m F h => by cases h)⟩
  | n + 1 => ⟨stepE_ok (trN_ok n).1 (trN_ok n).2, stepT_ok (trN_ok n).1 (trN_ok n).2⟩
end

/-! ### targets -/
def trGs (f : Expr → Option MG) : List Expr → Option MGs
  | [] => some nilG
  | e :: es => if noStar e then (match f e, trGs f es with
    | some a, some b => some (consG a b)
    | _, _ => none) else none
def trG (r : Tr) (c : Cc) : Nat → Expr → Option MG
  | 0, _ => none
  | n + 1, e => match e with
    | .Name x _ => if stoB c x then (match idx x c.N with
      | some i => some (nameG i)
      | none => none) else none
    | .Attribute o x _ => (match lookFd x c.fl, r.e c o with
      | some fd, some mo => some (fldG fd.cf fd.i mo)
      | _, _ => none)
    | .Subscript o i _ => if noSlice i then (match r.e c o, r.e c i with
      | some mo, some mi => some (subG mo mi)
      | _, _ => none) else none
    | .Tuple es _ _ => if es.all noStar then (match trGs (trG r c n) es with
      | some g => some (tupG es.length g)
      | none => none) else none
    | _ => none
section
variable {w : Wd} {E : XK} {X : Cx} {c : Cc} {r : Tr}
theorem tg_ok (he : SE w r.e) (F : Fit w E X c) : ∀ (n : Nat) {e : Expr} {g : MG}, trG r c n e = some g → PG X e (tGt w E g)
  | 0, _, _, h => by cases h
  | n + 1, e, g, h => by
    unfold trG at h
    split at h
    · rename_i x p
      split at h
      · rename_i hs
        obtain ⟨h1, h2⟩ := stoB_ok F.tg hs
        split at h
        · rename_i i e1
          cases h
          exact g_name F.nd (by rw [F.N]; exact idx_get e1) h1 h2
        · cases h
      · cases h
    · rename_i o x p
      split at h
      · rename_i fd mo e1 e2
        cases h
        obtain ⟨h2, h3⟩ := lookFd_mem e1
        obtain ⟨h4, h5⟩ := F.env.fl fd h2
        exact g_fld F.env.W F.K h4 (h5.trans h3) (he X E c o mo F e2)
      · cases h
    · rename_i o i p
      split at h
      · rename_i hs
        split at h
        · rename_i mo mi e1 e2
          cases h
          exact g_sub F.un (he X E c o mo F e1) (he X E c i mi F e2) hs
        · cases h
      · cases h
    · rename_i es k p
      split at h
      · rename_i hs
        split at h
        · rename_i g' e1
          cases h
          have all : ∀ {es : List Expr} {g : MGs}, trGs (trG r c n) es = some g → PGs X es (tGst w E g) := by
            intro es
            induction es with
            | nil => intro g h; cases h; exact gs_nil
            | cons e es ih =>
              intro g h
              unfold trGs at h
              split at h
              · rename_i hs
                split at h
                · rename_i a b h1 h2
                  cases h
                  exact gs_cons (tg_ok he F n h1) (ih h2) hs
                · cases h
              · cases h
          exact g_tup F.calm F.K (all e1) rfl hs
        · cases h
      · cases h
    · cases h
end

/-! ### stores that are swapped -/
def swNames (sc : Scope) (ts : List Expr) : List Str := ts.filterMap fun
  | .Name id pos => if sc.names.lookup id == some .local && pos.line == (ts.head?.map (·.pos.line)).getD 0 then some id else none
  | _ => none
/-- some l: the stores as the compiler makes them; none: not told -/
def swB (sc : Scope) (ts vs : List Expr) : Option (Option (List Str)) :=
  if !(ts.length == 2 || ts.length == 3) || vs.length != ts.length then some none
  else if vs.any (fun | .Starred .. => true | _ => false) then some none
  else if (swNames sc ts).length != ts.length || (swNames sc ts).eraseDups.length != (swNames sc ts).length then some none
  else if vs.all (foldedForSure 8) then some none
  else if vs.all (constantsAlone 8) then none
  else some (some (swNames sc ts))
def swT (sc : Scope) (tg v : Expr) : Option (Option (List Str)) := match tg, v with
  | .Tuple ts _ _, .Tuple vs _ _ => swB sc ts vs
  | .List _ _, _ => none
  | _, _ => some none
theorem blockKind_fn {env : Env} (h : env.scope.kind = .function) : env.blockKind = .function := by
  unfold Env.blockKind
  rw [h]
  rfl
theorem sw_ok {sc : Scope} {tg v : Expr} {env : Env} {o : Option (List Str)} (hk : env.scope.kind = .function) (hs : env.scope = sc) (h : swT sc tg v = some o) : swappedStores [tg] v env = pure o := by
  have hb := blockKind_fn hk
  subst hs
  unfold swT at h
  split at h
  · rename_i ts k1 p1 vs k2 p2
    unfold swB at h
    have hz : (!(ts.length == 2 || ts.length == 3) || vs.length != ts.length || env.blockKind != .function) = (!(ts.length == 2 || ts.length == 3) || vs.length != ts.length) := by
      rw [hb]
      simp
    show (if (!(ts.length == 2 || ts.length == 3) || vs.length != ts.length || env.blockKind != .function) = true then pure none else
      if (vs.any (fun | .Starred .. => true | _ => false)) = true then pure none else
      if ((swNames env.scope ts).length != ts.length || (swNames env.scope ts).eraseDups.length != (swNames env.scope ts).length) = true then pure none else
      if vs.all (foldedForSure 8) = true then pure none else
      if vs.all (constantsAlone 8) = true then (do unsupported "assign.tuple-of-constant-expressions:order-of-the-stores"; pure (some (swNames env.scope ts))) else pure (some (swNames env.scope ts))) = pure o
    rw [hz]
    split at h
    · rename_i c1; cases h; rw [if_pos c1]
    rename_i c1
    rw [if_neg c1]
    split at h
    · rename_i c2; cases h; exact if_pos c2
    rename_i c2
    refine (if_neg c2).trans ?_
    split at h
    · rename_i c3; cases h; rw [if_pos c3]
    rename_i c3
    rw [if_neg c3]
    split at h
    · rename_i c4; cases h; rw [if_pos c4]
    rename_i c4
    rw [if_neg c4]
    split at h
    · cases h
    rename_i c5
    cases h
    rw [if_neg c5]
  · cases h
  · rename_i h1 h2
    cases h
    unfold swappedStores
    split
    · rename_i ts vs e
      split at e
      · rename_i q; exact (h2 _ _ _ _ _ _ (List.cons.inj q).1 rfl).elim
      · rename_i q; exact (h1 _ _ (List.cons.inj q).1).elim
      · cases e
    · rfl
end MP

end
section
set_option Elab.async false
set_option linter.all false
set_option maxRecDepth 100000
set_option maxHeartbeats 2000000
/-! the mirror of a text, by a function: statements, defs -/
namespace MP
open PySem PyProof.Rows L2 GXP

def cmpScope : Expr → Option Scope
  | .ListComp _ _ s _ => some s
  | .SetComp _ _ s _ => some s
  | .DictComp _ _ _ s _ => some s
  | _ => none
/-- is the comprehension's value stored without a stop -/
def swpB (sc : Scope) (e tg : Expr) : Bool := match cmpScope e, tg with
  | some s, .Name t pos => sc.names.lookup t == some .local && pos.line == e.pos.line && !(s.names.any fun (n, k) => n == t && (k == .local || k == .cell))
  | _, _ => false
theorem swp_ok {e tg : Expr} {n : Nat} {env : Env} (hk : env.scope.kind = .function) : swapsWith e (some tg) n env = pure (swpB env.scope e tg) := by
  have hb := blockKind_fn hk
  cases e <;> first | rfl | skip
  all_goals
    cases tg <;> first | rfl | skip
    unfold swapsWith swpB cmpScope
    simp only [hb]
    rfl
section
variable {w : Wd} {E : XK} {X : Cx} {c : Cc}
theorem z_asg2 {tg e : Expr} {g : MG} {me : ME} {pos : Pos} (he : PE X e (tE w E me)) (hg : PG X tg (tGt w E g)) (hn : noStar tg = true) (hs : swapsWithSole [tg] e pos.line X.env = pure false) (hw : swappedStores [tg] e X.env = pure none) : PS X (.Assign [tg] e pos) (tS w E (asgS (thruG g) me)) :=
  ps_imp (ps_asg he hg hs hw (as_cons hn)) fun D σ H h => tE_mono (expr_imp h) fun v H1 ⟨d, m1, ρ, lk, μ1, rp, fr, rv, r, ρ', μ', e, q⟩ => by
    unfold thruG at e
    split at e
    · rename_i ρ2 μ2 e2
      cases e
      exact ⟨d, m1, ρ, lk, μ1, rp, fr, rv, ρ', μ', e2, q⟩
    · cases e
end
def asgG (r : Tr) (c : Cc) (tg e : Expr) : Option MS := if noStar tg && !swpB c.sc e tg then (match swT c.sc tg e, trG r c 4 tg, r.e c e with
  | some none, some g, some me => some (asgS (thruG g) me)
  | _, _, _ => none) else none
/-- name = [..] -/
def asgL (r : Tr) (c : Cc) (y : Str) (py : Pos) (elt : Expr) (gens : List Comprehension) (scope : Scope) (pos : Pos) : Option MS := if swpB c.sc (.ListComp elt gens scope pos) (.Name y py) then (match idx y c.N, lcX r c elt gens scope pos with
  | some i, some (pb, s) => some (lockS pb (setEz i s))
  | _, _ => none) else asgG r c (.Name y py) (.ListComp elt gens scope pos)
def isLoc (sc : Scope) (x : Str) : Bool := match sc.names.lookup x with
  | some .local => true
  | _ => false
def asgP (r : Tr) (c : Cc) (x y a b : Expr) (k1 k2 : Nat) (p1 p2 : Pos) : Option MS := match swT c.sc (.Tuple [x, y] k1 p1) (.Tuple [a, b] k2 p2), x, y with
  | some (some [x', y']), .Name x2 _, .Name y2 _ => if decide (x' = x2) && decide (y' = y2) && decide (x2 ≠ y2) && isLoc c.sc x2 && isLoc c.sc y2 then
      (match idx x2 c.N, idx y2 c.N, trA r.e c [a, b] with
      | some i, some j, some ma => if i = j then none else some (parS i j ma)
      | _, _, _ => none) else none
  | _, _, _ => asgG r c (.Tuple [x, y] k1 p1) (.Tuple [a, b] k2 p2)
def asgX (r : Tr) (c : Cc) (tg e : Expr) : Option MS := match tg, e with
  | .Name y py, .ListComp elt gens scope pos => asgL r c y py elt gens scope pos
  | .Tuple [x, y] k1 p1, .Tuple [a, b] k2 p2 => asgP r c x y a b k1 k2 p1 p2
  | tg, e => asgG r c tg e
def augX (r : Tr) (c : Cc) (op : Operator) (tg e : Expr) : Option MS := match tg, augOk op, r.e c e with
  | .Name x _, some f, some me => if stoB c x then (match idx x c.N with
    | some i => some (augS i f me)
    | none => none) else none
  | .Attribute o x _, some f, some me => (match lookFd x c.fl, r.e c o with
    | some fd, some mo => some (augF fd.cf fd.i f mo me)
    | _, _ => none)
  | _, _, _ => none
def raiX (c : Cc) (e : Expr) : Option MS := match e with
  | .Call (.Name x _) [.Constant (.str _) _ _] [] _ => if c.rs && glbB c.sc x && plainN x then (match lookN x c.gl with
    | some (.exc k) => some (exS k)
    | _ => none) else none
  | _ => none
def mapS (f : ME → MS) : Option ME → Option MS
  | some a => some (f a)
  | none => none
abbrev TrS := Cc → List Stmt → Option MS
def stepS (r : Tr) (ss : TrS) (c : Cc) : Stmt → Option MS
  | .Expr (.Constant (.str _) _ _) _ => some nxS
  | .Expr e _ => if notComp e then mapS dropS (r.e c e) else none
  | .Return (some e) _ => mapS retS (r.e c e)
  | .Return none _ => some (constS (.ret .non))
  | .Pass _ => some nxS
  | .Break _ => some (constS .brk)
  | .Continue _ => some (constS .cnt)
  | .If t a b _ => match r.t c t, ss c a, ss c b with
    | some mt, some ma, some mb => some (ifS mt ma mb)
    | _, _, _ => none
  | .For tg iter body [] _ => if noSet iter then (match trI r.e c iter, trG r c 4 tg, ss c body with
    | some (pb, fi), some g, some b => some (lockS pb (forS fi (gbS g b)))
    | _, _, _ => none) else none
  | .Assign [tg] e _ => asgX r c tg e
  | .AugAssign tg op e _ => augX r c op tg e
  | .Raise (some e) none _ => raiX c e
  | _ => none
def trS (r : Tr) : Nat → TrS
  | 0, _, _ => none
  | _ + 1, _, [] => some nxS
  | n + 1, c, s :: rest => match stepS r (trS r n) c s, trS r n c rest with
    | some a, some b => some (seqS a b)
    | _, _ => none
section
variable {w : Wd} {E : XK} {X : Cx} {c : Cc} {r : Tr} {pos : Pos}
theorem mapS_some {f : ME → MS} {a : Option ME} {m : MS} (h : mapS f a = some m) : ∃ x, a = some x ∧ m = f x := by
  cases a with
  | none => cases h
  | some x => cases h; exact ⟨x, rfl, rfl⟩
theorem asgG_ok (he : SE w r.e) (F : Fit w E X c) {tg e : Expr} {m : MS} (h : asgG r c tg e = some m) : PS X (.Assign [tg] e pos) (tS w E m) := by
  unfold asgG at h
  split at h
  · rename_i hc
    rw [Bool.and_eq_true, Bool.not_eq_true'] at hc
    split at h
    · rename_i g me e1 e2 e3
      cases h
      refine z_asg2 (he X E c e me F e3) (tg_ok he F 4 e2) hc.1 ?_ (sw_ok F.kind F.sc e1)
      show swapsWith e (some tg) pos.line X.env = pure false
      rw [swp_ok F.kind, F.sc, hc.2]
    · cases h
  · cases h
theorem asgL_ok (he : SE w r.e) (ht : ST w r.t) (F : Fit w E X c) {y : Str} {py lpos : Pos} {elt : Expr} {gens : List Comprehension} {scope : Scope} {m : MS} (h : asgL r c y py elt gens scope lpos = some m) : PS X (.Assign [.Name y py] (.ListComp elt gens scope lpos) pos) (tS w E m) := by
  unfold asgL at h
  split at h
  · rename_i hsw
    split at h
    · rename_i i pb s e1 e2
      cases h
      refine z_lock ?_
      have hsw' : swapsWith (.ListComp elt gens scope lpos) (some (.Name y py)) pos.line X.env = pure true := by
        rw [swp_ok F.kind, F.sc, hsw]
      have hloc : X.env.scope.names.lookup y = some .local := by
        rw [F.sc]
        unfold swpB at hsw
        simp only [cmpScope, Bool.and_eq_true] at hsw
        have := hsw.1.1
        revert this
        cases c.sc.names.lookup y with
        | none => intro h; cases h
        | some k => cases k <;> intro h <;> first | rfl | cases h
      unfold lcX at e2
      split at e2
      · rename_i tg iter ifs a
        split at e2
        · rename_i hb
          simp only [Bool.and_eq_true, decide_eq_true_eq] at hb
          obtain ⟨⟨rfl, hb⟩, hs⟩ := hb
          split at e2
          · rename_i P me e3 e4
            cases e2
            obtain ⟨h1, h2, h3⟩ := parts_some e3
            have bo := blk_ok F hb
            have fb := fun s H C cl fp => fit_blk F (scope := scope) bo.kind s H C cl fp
            exact z_setLc F.calm F.nd (by rw [F.N]; exact idx_get e1) hloc hsw' (i_ok he F h1) bo (fun s H C cl fp => tc_ok (fb s H C cl fp).tg F.nd 4 h2) (fun s H C cl fp => ifs_ok ht (fb s H C cl fp) h3) (fun s H C cl fp => he _ _ _ _ _ (fb s H C cl fp) e4) hs
          · cases e2
        · cases e2
      · cases e2
    · cases h
  · exact asgG_ok he F h
theorem loc_of {sc : Scope} {x : Str} (h : isLoc sc x = true) : sc.names.lookup x = some .local := by
  unfold isLoc at h
  split at h
  · assumption
  · cases h
theorem asgP_ok (he : SE w r.e) (F : Fit w E X c) {x y a b : Expr} {k1 k2 : Nat} {p1 p2 : Pos} {m : MS} (h : asgP r c x y a b k1 k2 p1 p2 = some m) : PS X (.Assign [.Tuple [x, y] k1 p1] (.Tuple [a, b] k2 p2) pos) (tS w E m) := by
  unfold asgP at h
  split at h
  · rename_i x' y' x2 px y2 py e0
    split at h
    · rename_i hc
      simp only [Bool.and_eq_true, decide_eq_true_eq] at hc
      obtain ⟨⟨⟨⟨rfl, rfl⟩, hne⟩, h1⟩, h2⟩ := hc
      split at h
      · rename_i i j ma e1 e2 e3
        split at h
        · cases h
        · rename_i hij
          cases h
          have hw := sw_ok (env := X.env) F.kind F.sc e0
          exact z_par F.calm F.nd (by rw [F.N]; exact idx_get e1) (by rw [F.N]; exact idx_get e2) hij (by rw [F.sc]; exact loc_of h1) (by rw [F.sc]; exact loc_of h2) (a_ok he F e3).1 hw
      · cases h
    · cases h
  · exact asgG_ok he F h
theorem aug_x_ok (he : SE w r.e) (F : Fit w E X c) {op : Operator} {tg e : Expr} {m : MS} (h : augX r c op tg e = some m) : PS X (.AugAssign tg op e pos) (tS w E m) := by
  unfold augX at h
  split at h
  · rename_i x p f me e1 e2
    split at h
    · rename_i hs
      obtain ⟨h1, h2⟩ := stoB_ok F.tg hs
      split at h
      · rename_i i e3
        cases h
        exact z_aug F.nd (by rw [F.N]; exact idx_get e3) h1 (he X E c e me F e2) h2 e1
      · cases h
    · cases h
  · rename_i o x p f me e1 e2
    split at h
    · rename_i fd mo e3 e4
      cases h
      obtain ⟨h2, h3⟩ := lookFd_mem e3
      obtain ⟨h4, h5⟩ := F.env.fl fd h2
      exact z_augF F.env.W F.K h4 (h5.trans h3) (he X E c o mo F e4) (he X E c e me F e2) e1
    · cases h
  · cases h
theorem rai_ok (F : Fit w E X c) {e : Expr} {m : MS} (h : raiX c e = some m) : PS X (.Raise (some e) none pos) (tS w E m) := by
  unfold raiX at h
  split at h
  · rename_i x p s j p2 p3
    split at h
    · rename_i hc
      simp only [Bool.and_eq_true] at hc
      obtain ⟨⟨h1, h2⟩, h3⟩ := hc
      split at h
      · rename_i k e1
        cases h
        obtain ⟨q1, q2, q3, ⟨B, nw, ni, bm, q4, q5⟩, _⟩ := F.env.gl _ (lookN_mem e1)
        exact z_raise F.calm (F.take h1) (pmk_own q4 q5 q1 q2 (q3 X rfl) (glbB_ok F.sc h2) (plainN_ok h3).1)
      · cases h
    · cases h
  · cases h
def SS (w : Wd) (f : TrS) : Prop := ∀ X E c x m, Fit w E X c → f c x = some m → PSs X x (tS w E m)
theorem stepS_ok (he : SE w r.e) (ht : ST w r.t) {ss : TrS} (hss : SS w ss) (F : Fit w E X c) {st : Stmt} {m : MS} (h : stepS r ss c st = some m) : PS X st (tS w E m) := by
  unfold stepS at h
  split at h
  · cases h; exact z_doc
  · split at h
    · rename_i hn
      obtain ⟨me, h1, rfl⟩ := mapS_some h
      exact z_drop (he X E c _ me F h1) hn
    · cases h
  · obtain ⟨me, h1, rfl⟩ := mapS_some h
    exact z_ret (he X E c _ me F h1)
  · cases h; exact z_retN
  · cases h; exact z_pass
  · cases h; exact z_brk
  · cases h; exact z_cnt
  · split at h
    · rename_i mt ma mb e1 e2 e3
      cases h
      exact z_if (ht X E c _ mt F e1) (hss X E c _ ma F e2) (hss X E c _ mb F e3)
    · cases h
  · split at h
    · rename_i hn
      split at h
      · rename_i pb fi g b e1 e2 e3
        cases h
        exact z_lock (z_for F.own F.calm (i_ok he F e1) (tg_ok he F 4 e2) (hss X E c _ b F e3) hn)
      · cases h
    · cases h
  · unfold asgX at h
    split at h
    · exact asgL_ok he ht F h
    · exact asgP_ok he F h
    · exact asgG_ok he F h
  · exact aug_x_ok he F h
  · exact rai_ok F h
  · cases h
theorem trS_ok (he : SE w r.e) (ht : ST w r.t) : ∀ n, SS w (trS r n)
  | 0 => fun X E c x m F h => by
    unfold trS at h
    cases h
  | n + 1 => fun X E c x m F h => by
    cases x with
    | nil => cases h; exact z_nil
    | cons s rest =>
      unfold trS at h
      split at h
      · rename_i a b e1 e2
        cases h
        exact z_cons (stepS_ok he ht (trS_ok he ht n) F e1) (trS_ok he ht n X E c _ _ F e2)
      · cases h
end
/-- a body's mirror -/
def trBody (c : Cc) (body : List Stmt) : Option MS := trS (trN 40) 120 c body
theorem body_ok {w : Wd} {E : XK} {X : Cx} {c : Cc} {body : List Stmt} {m : MS} (F : Fit w E X c) (h : trBody c body = some m) : PSs X body (tS w E m) := trS_ok (trN_ok 40).1 (trN_ok 40).2 120 X E c body m F h

/-! ### defs -/
/-- a def's mirror from its body's: the names' slots, then the end -/
def endF : Option (Fl × Fr × Sto) → Option (R × Sto)
  | some (.nx, _, μ) => some (.ok .non, μ)
  | some (.ret d, _, μ) => some (.ok d, μ)
  | some (.ex c, _, μ) => some (.ex c, μ)
  | _ => none
def startF (N : Nat) (ds : List D) : Fr := ds.map some ++ List.replicate (N - ds.length) none
def mfOf (N : Nat) (b : MS) : MF := fun ds lk μ => endF (b (startF N ds) lk μ)
theorem start_fr {w : Wd} {m : Im} {H : Hp} {N : List Str} {vs : List V} {ds : List D} (r : RVs w m H vs ds) : FrR w m H (L2.start N vs) (startF N.length ds) := by
  refine ⟨by unfold L2.start startF; simp [r.len], fun i d e => ?_⟩
  unfold startF at e
  by_cases hi : i < ds.length
  · rw [List.getElem?_append_left (by simpa using hi), List.getElem?_map] at e
    cases q : ds[i]? with
    | none => rw [q] at e; cases e
    | some d' =>
      rw [q] at e
      cases e
      obtain ⟨v, h1, h2⟩ := r.get q
      refine ⟨v, ?_, h2⟩
      unfold L2.start
      rw [List.getElem?_append_left (by simpa [r.len] using hi), List.getElem?_map, h1]
      rfl
  · rw [List.getElem?_append_right (by simpa using hi), List.getElem?_replicate] at e
    split at e <;> cases e
theorem body_run {w : Wd} {E : XK} {N : List Str} {n : Nat} {b : MS} {vs : List V} {H : Hp} {Q : VK} (h : spM w n (mfOf N.length b) vs H Q E) : tS w E b { nx := fun _ H' => Q .non H', rt := Q } (L2.start N vs) H := by
  obtain ⟨_, m, ds, lk, μ, r, μ', rp, rv, e, q⟩ := h
  unfold mfOf at e
  refine ⟨m, startF N.length ds, lk, μ, rp, start_fr rv, ?_⟩
  cases e1 : b (startF N.length ds) lk μ with
  | none => rw [e1] at e; cases e
  | some p =>
    obtain ⟨r1, ρ1, μ1⟩ := p
    rw [e1] at e
    cases r1 with
    | nx => cases e; exact ⟨.nx, _, _, e1, fun σ' m' H' a b c => q .non m' H' a b .non⟩
    | ret d => cases e; exact ⟨.ret d, _, _, e1, fun v m' H' a b c => q v m' H' a b c⟩
    | brk => cases e
    | cnt => cases e
    | ex c => cases e; exact ⟨.ex c, _, _, e1, fun m' H' a b => q m' H' a b⟩
/-- a def of the text keeps its mirror's promise -/
theorem fn_ok {w : Wd} {P : Program} {wo : World} {mg : Str → Option Value} {base : Heap} {k : Nat} {f : Addr} {name qual : Str} {params : Arguments} {body : List Stmt} {scope : Scope} {dV kV doc pm cdv ct oc : Value} {an od : Option Addr}
    {osl : Array (Option Value)} {N ps : List Str} {c : Cc} {b : MS} (lk : w.K.lookup f = some ⟨oc, od, .func (PySem.W.fnOf name qual params body scope dV kV doc pm an cdv ct), osl⟩) (hcd : PySem.W.codeIn w.K cdv qual = true) (S : FnScope N ps scope)
    (W : Wok w) (hgl : ∀ p ∈ c.gl, Means w P wo w.K mg base p.1 p.2) (hme : ∀ m ∈ c.me, MeIs w P wo w.K mg base m) (hfl : ∀ f ∈ c.fl, FldOk w f.cf f.i ∧ w.fn f.i = f.nm)
    (hN : c.N = N) (hsc : c.sc = scope) (hk : c.k = k) (hgx : c.gx = true → ∃ P, P ∈ w.tb ∧ (∀ q ∈ w.tq, q.1 ≠ P) ∧ ∃ q, TabB base mg q P ∧ cdv = .ref q) (hlt : c.lt = true → ∀ (A : Around) (outer : List Env) (s : Shared) (H : Hp) (E : XK), LamF w (cxOf (L2.CX P wo) P wo w.K mg base N qual scope f cdv A outer s H E) c.lams) (hb : trBody c body = some b) :
    FnOk P wo w.K mg base (L2.CX P wo) (k + 1) f (PySem.W.fnOf name qual params body scope dV kV doc pm an cdv ct) ps (spM w ps.length (mfOf N.length b)) := by
  subst hk
  refine fn_of lk hcd S (fun vs H Q E h => h.1) fun A outer s H vs Q E hr hsp => ⟨_, body_ok (X := cxOf (L2.CX P wo) P wo w.K mg base N qual scope f cdv A outer s H E) (E := E) ?_ hb, body_run hsp⟩
  exact {
    env := ⟨W, rfl, hgl, hme, hfl⟩
    N := hN.symm
    nd := S.nd
    sc := hsc.symm
    kind := S.kind
    fn := fun _ _ => rfl
    calm := rfl
    own := passes_of rfl
    pass := passes_call (W := fun cls d _ H => E cls d H) (takes_of rfl rfl rfl rfl) fun _ _ _ _ h => h
    take := fun _ => takes_of rfl rfl rfl rfl
    room := hr
    tab := hgx
    lam := fun z => hlt z _ _ _ _ _ }
end MP

end
section
set_option Elab.async false
set_option linter.all false
set_option maxRecDepth 100000
set_option maxHeartbeats 2000000
/-! the mirror: defs that leave the store as it was -/
namespace MP
open PySem PyProof.Rows L2 GXP

mutual
/-- no label from n on -/
def lowD (n : Nat) : D → Bool
  | .obj k => decide (k < n)
  | .tup l => lowDs n l
  | .kt l => lowDs n l
  | .lst l => lowDs n l
  | .kl l => lowDs n l
  | .dct _ l => lowKs n l
  | _ => true
def lowDs (n : Nat) : List D → Bool
  | [] => true
  | d :: r => lowD n d && lowDs n r
def lowKs (n : Nat) : List (D × D) → Bool
  | [] => true
  | (_, d) :: r => lowD n d && lowKs n r
end
def Im.low (m : Im) (n : Nat) : Im := ⟨fun k => if k < n then m.io k else none, m.fz, m.cs⟩
section
variable {w : Wd} {m : Im} {H : Hp} {n : Nat}
mutual
theorem RV.low : ∀ {v : V} {d : D}, RV w m H v d → lowD n d = true → RV w (m.low n) H v d
  | _, _, .non, _ => .non
  | _, _, .bl b, _ => .bl b
  | _, _, .int i, _ => .int i
  | _, _, .str z, _ => .str z
  | _, _, .tup h t, l => .tup h (RVs.low t l)
  | _, _, .kt h t, l => .kt h (RVs.low t l)
  | _, _, .lst f h t, l => .lst f h (RVs.low t l)
  | _, _, .kl h f t, l => .kl h f (RVs.low t l)
  | _, _, .dK f h t, l => .dK f h (RKs.low t l)
  | _, _, .dT f h t, l => .dT f h (RTs.low t l)
  | _, _, .obj h, l => .obj ((if_pos (of_decide_eq_true l)).trans h)
  | _, _, .lam h h2, _ => .lam h h2
  | _, _, .kd h, _ => .kd h
theorem RVs.low : ∀ {vs : List V} {ds : List D}, RVs w m H vs ds → lowDs n ds = true → RVs w (m.low n) H vs ds
  | _, _, .nil, _ => .nil
  | _, _, .cons h t, l => .cons (RV.low h (Bool.and_eq_true_iff.mp l).1) (RVs.low t (Bool.and_eq_true_iff.mp l).2)
theorem RKs.low : ∀ {vs : List (Key × V)} {ds : List (D × D)}, RKs w m H vs ds → lowKs n ds = true → RKs w (m.low n) H vs ds
  | _, _, .nil, _ => .nil
  | _, _, .cons h t, l => .cons (RV.low h (Bool.and_eq_true_iff.mp l).1) (RKs.low t (Bool.and_eq_true_iff.mp l).2)
theorem RTs.low : ∀ {vs : List (List Key × V)} {ds : List (D × D)}, RTs w m H vs ds → lowKs n ds = true → RTs w (m.low n) H vs ds
  | _, _, .nil, _ => .nil
  | _, _, .cons h t, l => .cons (RV.low h (Bool.and_eq_true_iff.mp l).1) (RTs.low t (Bool.and_eq_true_iff.mp l).2)
end
end
def allLk (n : Nat) (lk : Lk) : Lk := fun k => decide (k < n) || lk k
theorem Rp.back {w : Wd} {m m' : Im} {H H' : Hp} {lk : Lk} {μ μ' : Sto} (rp : Rp w m H lk μ) (rp' : Rp w m' H' (allLk μ.nx lk) μ') (ex : Ext m m' (allLk μ.nx lk) H H') : Rp w (m'.low μ.nx) H' lk μ ∧ Ext m (m'.low μ.nx) lk H H' := by
  have io' : ∀ n a, (m'.low μ.nx).io n = some a → n < μ.nx ∧ m'.io n = some a := fun n a h => by
    have h : (if n < μ.nx then m'.io n else none) = some a := h
    by_cases e : n < μ.nx
    · rw [if_pos e] at h; exact ⟨e, h⟩
    · rw [if_neg e] at h; cases h
  have iok : ∀ n a, m.io n = some a → (m'.low μ.nx).io n = some a := fun n a h => (if_pos (rp.nx n a h)).trans (ex.io n a h)
  have x : Wx m (m'.low μ.nx) H H' := ⟨iok, ex.wx.fz, ex.wx.rd, ex.wx.tp, ex.wx.tf, ex.wx.ex, ex.wx.ls, ex.cs⟩
  refine ⟨⟨fun n c h => ?_, fun n n' a h1 h2 => rp'.inj n n' a (io' _ _ h1).2 (io' _ _ h2).2, fun n a h => (io' _ _ h).1, fun n a h => rp'.there n a (io' _ _ h).2, fun a h => ⟨(rp'.fz a h).1, fun n z => (rp'.fz a h).2 n (io' _ _ z).2⟩, rp'.tab, rp'.tabq, fun n a h => rp'.ioT n a (io' _ _ h).2, rp'.fzT⟩,
    ⟨iok, ex.fz, ex.kF, ex.kT, fun n a h => ex.kL n a (by simp [allLk, h]), ex.kZ, ex.kE, ex.th, fun n a h => ex.ioN n a (io' _ _ h).2, ex.kU, ex.fzN, ex.cs⟩⟩
  obtain ⟨a, u, h1, h2, h3⟩ := rp.cell n c h
  refine ⟨a, u, iok _ _ h1, h2.mono x, ?_⟩
  rw [ex.kL n a (by simp [allLk, rp.nx n a h1]) h1]
  exact h3
/-- the store is given back as it was -/
def pureF (f : MF) : MF := fun ds lk μ => match f ds (allLk μ.nx lk) μ with
  | some (.ok d, _) => if lowD μ.nx d then some (.ok d, μ) else none
  | some (.ex c, _) => some (.ex c, μ)
  | none => none
theorem pure_sp {w : Wd} {n : Nat} {f : MF} {vs : List V} {H : Hp} {Q : VK} {E : XK} (h : spM w n (pureF f) vs H Q E) : spM w n f vs H Q E := by
  obtain ⟨hl, m, ds, lk, μ, r, μ', rp, rv, e, q⟩ := h
  unfold pureF at e
  cases e1 : f ds (allLk μ.nx lk) μ with
  | none => rw [e1] at e; cases e
  | some p =>
    obtain ⟨r1, μ1⟩ := p
    rw [e1] at e
    refine ⟨hl, m, ds, allLk μ.nx lk, μ, r1, μ1, rp.lockUp (fun k z => by simp [allLk, z]), rv, e1, ?_⟩
    cases r1 with
    | ok d =>
      simp only at e
      split at e
      · rename_i hlow
        cases e
        intro v m' H' rp' ex rv'
        obtain ⟨rb, eb⟩ := rp.back rp' ex
        exact q v _ H' rb eb (rv'.low hlow)
      · cases e
    | ex c =>
      cases e
      intro m' H' rp' ex
      obtain ⟨rb, eb⟩ := rp.back rp' ex
      exact q _ H' rb eb
theorem fn_pure {w : Wd} {P : Program} {wo : World} {K : PySem.W.Frag} {mg : Str → Option Value} {base : Heap} {CX : CXT} {k n : Nat} {f : Addr} {fd : FuncData} {ps : List Str} {g : MF} (F : FnOk P wo K mg base CX k f fd ps (spM w n g)) : FnOk P wo K mg base CX k f fd ps (spM w n (pureF g)) :=
  F.imp fun _ _ _ _ h => pure_sp h
end MP

end
section
set_option Elab.async false
set_option linter.all false
set_option maxRecDepth 100000
set_option maxHeartbeats 4000000
namespace K02
open PySem PyProof.Rows L2 GXP MP
/-! the text by places -/
def top (i : Nat) : Stmt := PySem.Challenge.pw_coachstack_k02_horses_that_go_in_turn.main.body.getD i (.Pass ⟨0, 0, 0, 0⟩)
abbrev s_Horse_init : Stmt := inClass (top 6) 0
abbrev s_Stables_init : Stmt := inClass (top 7) 0
abbrev s_Stables_add : Stmt := inClass (top 7) 1
abbrev s_Stables_horse : Stmt := inClass (top 7) 2
abbrev s_Stables_at : Stmt := inClass (top 7) 3
abbrev s_Stables_rested : Stmt := inClass (top 7) 4
abbrev s_Stables_earliest : Stmt := inClass (top 7) 5
abbrev s_Stables_take : Stmt := inClass (top 7) 6
abbrev s_Stables_arrive : Stmt := inClass (top 7) 7
abbrev s_Stables_counts : Stmt := inClass (top 7) 8
abbrev s_Stables_away : Stmt := inClass (top 7) 9
abbrev s_Stables_tiredest : Stmt := inClass (top 7) 10
abbrev s_law_dice : Stmt := top 9
abbrev s_law_roll : Stmt := top 10
abbrev s_law_rounds : Stmt := top 11
abbrev s_law_told : Stmt := top 12
abbrev s_law_at : Stmt := top 13
abbrev s_law : Stmt := top 14
/-! names -/
def fnm : List Str := ["name", "home", "place", "ready", "miles", "horses"]
def fd_name : Fd := ⟨"name", 0, fun c => decide (c = 0)⟩
def fd_home : Fd := ⟨"home", 1, fun c => decide (c = 0)⟩
def fd_place : Fd := ⟨"place", 2, fun c => decide (c = 0)⟩
def fd_ready : Fd := ⟨"ready", 3, fun c => decide (c = 0)⟩
def fd_miles : Fd := ⟨"miles", 4, fun c => decide (c = 0)⟩
def fd_horses : Fd := ⟨"horses", 5, fun c => decide (c = 1)⟩
def fds : List Fd := [fd_name, fd_home, fd_place, fd_ready, fd_miles, fd_horses]
def mus : List (Nat × Nat) := [(33, 15), (80, 15), (81, 11), (116, 28), (132, 32)]
/-! Horse_init -/
def c_Horse_init : Cc := { N := ["self", "name", "home"], sc := defScope s_Horse_init, gl := [], me := [], fl := fds, mu := mus, tk := [], gx := false, rs := true, cs := true, k := 0 }
@[irreducible] def b_Horse_init : MS := (trBody c_Horse_init (defBody s_Horse_init)).getD fun _ _ _ => none
theorem e_Horse_init : b_Horse_init = (trBody c_Horse_init (defBody s_Horse_init)).getD fun _ _ _ => none := by unfold b_Horse_init; rfl
def f_Horse_init : MF := mfOf 3 b_Horse_init
theorem t_Horse_init : (trBody c_Horse_init (defBody s_Horse_init)).isSome = true := by decide +kernel
/-! Stables_init -/
def c_Stables_init : Cc := { N := ["self"], sc := defScope s_Stables_init, gl := [], me := [], fl := fds, mu := mus, tk := [], gx := false, rs := true, cs := true, k := 0 }
@[irreducible] def b_Stables_init : MS := (trBody c_Stables_init (defBody s_Stables_init)).getD fun _ _ _ => none
theorem e_Stables_init : b_Stables_init = (trBody c_Stables_init (defBody s_Stables_init)).getD fun _ _ _ => none := by unfold b_Stables_init; rfl
def f_Stables_init : MF := mfOf 1 b_Stables_init
theorem t_Stables_init : (trBody c_Stables_init (defBody s_Stables_init)).isSome = true := by decide +kernel
/-! Stables_add -/
def c_Stables_add : Cc := { N := ["self", "name", "home"], sc := defScope s_Stables_add, gl := [("Horse", .cls 0 3 1 f_Horse_init), ("HorseError", .exc 3)], me := [], fl := fds, mu := mus, tk := [], gx := false, rs := true, cs := true, k := 2 }
@[irreducible] def b_Stables_add : MS := (trBody c_Stables_add (defBody s_Stables_add)).getD fun _ _ _ => none
theorem e_Stables_add : b_Stables_add = (trBody c_Stables_add (defBody s_Stables_add)).getD fun _ _ _ => none := by unfold b_Stables_add; rfl
def f_Stables_add : MF := mfOf 3 b_Stables_add
def me_Stables_add : Me := ⟨"add", 1, 3, 3, f_Stables_add⟩
theorem t_Stables_add : (trBody c_Stables_add (defBody s_Stables_add)).isSome = true := by decide +kernel
/-! Stables_horse -/
def c_Stables_horse : Cc := { N := ["self", "name"], sc := defScope s_Stables_horse, gl := [("HorseError", .exc 3)], me := [], fl := fds, mu := mus, tk := [], gx := false, rs := true, cs := true, k := 0 }
@[irreducible] def b_Stables_horse : MS := (trBody c_Stables_horse (defBody s_Stables_horse)).getD fun _ _ _ => none
theorem e_Stables_horse : b_Stables_horse = (trBody c_Stables_horse (defBody s_Stables_horse)).getD fun _ _ _ => none := by unfold b_Stables_horse; rfl
def f_Stables_horse : MF := mfOf 2 b_Stables_horse
def me_Stables_horse : Me := ⟨"horse", 1, 2, 1, f_Stables_horse⟩
theorem t_Stables_horse : (trBody c_Stables_horse (defBody s_Stables_horse)).isSome = true := by decide +kernel
/-! Stables_at -/
def c_Stables_at : Cc := { N := ["self", "place", "rows", "name", "one", "home", "ready"], sc := defScope s_Stables_at, gl := [("sorted", .blt), ("tuple", .blt)], me := [], fl := fds, mu := mus, tk := [], gx := true, rs := true, cs := true, k := 5 }
@[irreducible] def b_Stables_at : MS := (trBody c_Stables_at (defBody s_Stables_at)).getD fun _ _ _ => none
theorem e_Stables_at : b_Stables_at = (trBody c_Stables_at (defBody s_Stables_at)).getD fun _ _ _ => none := by unfold b_Stables_at; rfl
def f_Stables_at : MF := pureF (mfOf 7 b_Stables_at)
def me_Stables_at : Me := ⟨"at", 1, 2, 6, f_Stables_at⟩
theorem t_Stables_at : (trBody c_Stables_at (defBody s_Stables_at)).isSome = true := by decide +kernel
/-! Stables_rested -/
def c_Stables_rested : Cc := { N := ["self", "place", "time", "name"], sc := defScope s_Stables_rested, gl := [("tuple", .blt)], me := [me_Stables_at], fl := fds, mu := mus, tk := [], gx := true, rs := true, cs := true, k := 11 }
@[irreducible] def b_Stables_rested : MS := (trBody c_Stables_rested (defBody s_Stables_rested)).getD fun _ _ _ => none
theorem e_Stables_rested : b_Stables_rested = (trBody c_Stables_rested (defBody s_Stables_rested)).getD fun _ _ _ => none := by unfold b_Stables_rested; rfl
def f_Stables_rested : MF := pureF (mfOf 4 b_Stables_rested)
def me_Stables_rested : Me := ⟨"rested", 1, 3, 12, f_Stables_rested⟩
theorem t_Stables_rested : (trBody c_Stables_rested (defBody s_Stables_rested)).isSome = true := by decide +kernel
/-! Stables_earliest -/
def c_Stables_earliest : Cc := { N := ["self", "place", "time", "ready", "name"], sc := defScope s_Stables_earliest, gl := [("TEAM", .val (.int 4)), ("len", .blt), ("max", .blt), ("sorted", .blt)], me := [me_Stables_at], fl := fds, mu := mus, tk := [], gx := true, rs := true, cs := true, k := 11 }
@[irreducible] def b_Stables_earliest : MS := (trBody c_Stables_earliest (defBody s_Stables_earliest)).getD fun _ _ _ => none
theorem e_Stables_earliest : b_Stables_earliest = (trBody c_Stables_earliest (defBody s_Stables_earliest)).getD fun _ _ _ => none := by unfold b_Stables_earliest; rfl
def f_Stables_earliest : MF := pureF (mfOf 5 b_Stables_earliest)
def me_Stables_earliest : Me := ⟨"earliest", 1, 3, 12, f_Stables_earliest⟩
theorem t_Stables_earliest : (trBody c_Stables_earliest (defBody s_Stables_earliest)).isSome = true := by decide +kernel
/-! Stables_take -/
def c_Stables_take : Cc := { N := ["self", "place", "time", "team", "name"], sc := defScope s_Stables_take, gl := [("HorseError", .exc 3), ("TEAM", .val (.int 4)), ("len", .blt)], me := [me_Stables_rested], fl := fds, mu := mus, tk := [], gx := false, rs := true, cs := true, k := 12 }
@[irreducible] def b_Stables_take : MS := (trBody c_Stables_take (defBody s_Stables_take)).getD fun _ _ _ => none
theorem e_Stables_take : b_Stables_take = (trBody c_Stables_take (defBody s_Stables_take)).getD fun _ _ _ => none := by unfold b_Stables_take; rfl
def f_Stables_take : MF := mfOf 5 b_Stables_take
def me_Stables_take : Me := ⟨"take", 1, 3, 13, f_Stables_take⟩
theorem t_Stables_take : (trBody c_Stables_take (defBody s_Stables_take)).isSome = true := by decide +kernel
/-! Stables_arrive -/
def c_Stables_arrive : Cc := { N := ["self", "team", "place", "time", "miles", "name", "one"], sc := defScope s_Stables_arrive, gl := [("HorseError", .exc 3), ("REST", .val (.int 360)), ("any", .blt), ("len", .blt)], me := [me_Stables_horse], fl := fds, mu := mus, tk := [], gx := true, rs := true, cs := true, k := 6 }
@[irreducible] def b_Stables_arrive : MS := (trBody c_Stables_arrive (defBody s_Stables_arrive)).getD fun _ _ _ => none
theorem e_Stables_arrive : b_Stables_arrive = (trBody c_Stables_arrive (defBody s_Stables_arrive)).getD fun _ _ _ => none := by unfold b_Stables_arrive; rfl
def f_Stables_arrive : MF := mfOf 7 b_Stables_arrive
def me_Stables_arrive : Me := ⟨"arrive", 1, 5, 7, f_Stables_arrive⟩
theorem t_Stables_arrive : (trBody c_Stables_arrive (defBody s_Stables_arrive)).isSome = true := by decide +kernel
/-! Stables_counts -/
def c_Stables_counts : Cc := { N := ["self", "found", "name", "place"], sc := defScope s_Stables_counts, gl := [("sorted", .blt), ("tuple", .blt)], me := [], fl := fds, mu := mus, tk := [], gx := true, rs := true, cs := true, k := 5 }
@[irreducible] def b_Stables_counts : MS := (trBody c_Stables_counts (defBody s_Stables_counts)).getD fun _ _ _ => none
theorem e_Stables_counts : b_Stables_counts = (trBody c_Stables_counts (defBody s_Stables_counts)).getD fun _ _ _ => none := by unfold b_Stables_counts; rfl
def f_Stables_counts : MF := pureF (mfOf 4 b_Stables_counts)
def me_Stables_counts : Me := ⟨"counts", 1, 1, 6, f_Stables_counts⟩
theorem t_Stables_counts : (trBody c_Stables_counts (defBody s_Stables_counts)).isSome = true := by decide +kernel
/-! Stables_away -/
def c_Stables_away : Cc := { N := ["self", "name"], sc := defScope s_Stables_away, gl := [("sorted", .blt), ("tuple", .blt)], me := [], fl := fds, mu := mus, tk := [], gx := true, rs := true, cs := true, k := 5 }
@[irreducible] def b_Stables_away : MS := (trBody c_Stables_away (defBody s_Stables_away)).getD fun _ _ _ => none
theorem e_Stables_away : b_Stables_away = (trBody c_Stables_away (defBody s_Stables_away)).getD fun _ _ _ => none := by unfold b_Stables_away; rfl
def f_Stables_away : MF := pureF (mfOf 2 b_Stables_away)
def me_Stables_away : Me := ⟨"away", 1, 1, 6, f_Stables_away⟩
theorem t_Stables_away : (trBody c_Stables_away (defBody s_Stables_away)).isSome = true := by decide +kernel
/-! Stables_tiredest -/
def c_Stables_tiredest : Cc := { N := ["self", "rows", "name"], sc := defScope s_Stables_tiredest, gl := [("min", .blt)], me := [], fl := fds, mu := mus, tk := [], gx := false, rs := true, cs := true, k := 0 }
@[irreducible] def b_Stables_tiredest : MS := (trBody c_Stables_tiredest (defBody s_Stables_tiredest)).getD fun _ _ _ => none
theorem e_Stables_tiredest : b_Stables_tiredest = (trBody c_Stables_tiredest (defBody s_Stables_tiredest)).getD fun _ _ _ => none := by unfold b_Stables_tiredest; rfl
def f_Stables_tiredest : MF := pureF (mfOf 3 b_Stables_tiredest)
def me_Stables_tiredest : Me := ⟨"tiredest", 1, 1, 1, f_Stables_tiredest⟩
theorem t_Stables_tiredest : (trBody c_Stables_tiredest (defBody s_Stables_tiredest)).isSome = true := by decide +kernel
/-! law_dice -/
def c_law_dice : Cc := { N := ["cell"], sc := defScope s_law_dice, gl := [("abs", .blt), ("int", .blt)], me := [], fl := fds, mu := mus, tk := [], gx := false, rs := true, cs := true, k := 0 }
@[irreducible] def b_law_dice : MS := (trBody c_law_dice (defBody s_law_dice)).getD fun _ _ _ => none
theorem e_law_dice : b_law_dice = (trBody c_law_dice (defBody s_law_dice)).getD fun _ _ _ => none := by unfold b_law_dice; rfl
def f_law_dice : MF := mfOf 1 b_law_dice
theorem t_law_dice : (trBody c_law_dice (defBody s_law_dice)).isSome = true := by decide +kernel
/-! law_roll -/
def c_law_roll : Cc := { N := ["dice", "many", "found"], sc := defScope s_law_roll, gl := [("_law_roll", .fn 2 0 fun _ _ _ => none), ("int", .blt)], me := [], fl := fds, mu := mus, tk := [], gx := false, rs := true, cs := true, k := 0 }
@[irreducible] def b_law_roll : MS := (trBody c_law_roll (defBody s_law_roll)).getD fun _ _ _ => none
theorem e_law_roll : b_law_roll = (trBody c_law_roll (defBody s_law_roll)).getD fun _ _ _ => none := by unfold b_law_roll; rfl
def f_law_roll : MF := mfOf 3 b_law_roll
theorem t_law_roll : (trBody c_law_roll (defBody s_law_roll)).isSome = true := by decide +kernel
/-! law_rounds -/
def c_law_rounds : Cc := { N := ["script", "most", "cells", "cell"], sc := defScope s_law_rounds, gl := [("_law_dice", .fn 1 1 f_law_dice)], me := [], fl := fds, mu := mus, tk := [], gx := false, rs := true, cs := true, k := 1 }
@[irreducible] def b_law_rounds : MS := (trBody c_law_rounds (defBody s_law_rounds)).getD fun _ _ _ => none
theorem e_law_rounds : b_law_rounds = (trBody c_law_rounds (defBody s_law_rounds)).getD fun _ _ _ => none := by unfold b_law_rounds; rfl
def f_law_rounds : MF := mfOf 4 b_law_rounds
theorem t_law_rounds : (trBody c_law_rounds (defBody s_law_rounds)).isSome = true := by decide +kernel
/-! law_at -/
def c_law_at : Cc := { N := ["own", "place", "rows", "name", "row"], sc := defScope s_law_at, gl := [("int", .blt), ("sorted", .blt)], me := [], fl := fds, mu := mus, tk := [], gx := false, rs := true, cs := true, k := 0 }
@[irreducible] def b_law_at : MS := (trBody c_law_at (defBody s_law_at)).getD fun _ _ _ => none
theorem e_law_at : b_law_at = (trBody c_law_at (defBody s_law_at)).getD fun _ _ _ => none := by unfold b_law_at; rfl
def f_law_at : MF := pureF (mfOf 5 b_law_at)
theorem t_law_at : (trBody c_law_at (defBody s_law_at)).isSome = true := by decide +kernel
/-! law -/
def c_law : Cc := { N := ["script", "dice", "stables", "own", "teams", "time", "k", "name", "home", "good", "step", "place", "team", "spot", "miles", "one", "ready", "due", "places", "rows", "bad", "f"], sc := defScope s_law, gl := [("REST", .val (.int 360)), ("Stables", .cls 1 1 1 f_Stables_init), ("TEAM", .val (.int 4)), ("_law_at", .fn 2 1 f_law_at), ("_law_roll", .fn 2 1 f_law_roll), ("_law_rounds", .fn 2 2 f_law_rounds), ("_law_told", .told "HorseError" (fun c => decide (c = 3)) 13), ("len", .blt), ("list", .blt), ("max", .blt), ("range", .blt), ("sorted", .blt), ("str", .blt), ("tuple", .blt)], me := [me_Stables_add, me_Stables_arrive, me_Stables_at, me_Stables_away, me_Stables_counts, me_Stables_earliest, me_Stables_horse, me_Stables_rested, me_Stables_take, me_Stables_tiredest], fl := fds, mu := mus, tk := [], gx := false, rs := true, cs := true, k := 15, lt := true, lams := lamsOf ((defBody s_law).getD 4 (.Pass ⟨0, 0, 0, 0⟩)) }
@[irreducible] def b_law : MS := (trBody c_law (defBody s_law)).getD fun _ _ _ => none
theorem e_law : b_law = (trBody c_law (defBody s_law)).getD fun _ _ _ => none := by unfold b_law; rfl
def f_law : MF := mfOf 22 b_law
theorem t_law : (trBody c_law (defBody s_law)).isSome = true := by decide +kernel
end K02

end
section
set_option Elab.async false
set_option linter.all false
set_option maxRecDepth 100000
set_option maxHeartbeats 0
namespace K02
open PySem PySem.Spec PyProof.Rows L2
/-! the head: facts by names, the run -/
def d_Horse_init : He.DefD := ⟨("Horse", some "__init__"), "__init__", "Horse.__init__", defArgs s_Horse_init, defBody s_Horse_init, defScope s_Horse_init, [], []⟩
def d_Stables_init : He.DefD := ⟨("Stables", some "__init__"), "__init__", "Stables.__init__", defArgs s_Stables_init, defBody s_Stables_init, defScope s_Stables_init, [], []⟩
def d_Stables_add : He.DefD := ⟨("Stables", some "add"), "add", "Stables.add", defArgs s_Stables_add, defBody s_Stables_add, defScope s_Stables_add, [], []⟩
def d_Stables_horse : He.DefD := ⟨("Stables", some "horse"), "horse", "Stables.horse", defArgs s_Stables_horse, defBody s_Stables_horse, defScope s_Stables_horse, [], []⟩
def d_Stables_at : He.DefD := ⟨("Stables", some "at"), "at", "Stables.at", defArgs s_Stables_at, defBody s_Stables_at, defScope s_Stables_at, [], []⟩
def d_Stables_rested : He.DefD := ⟨("Stables", some "rested"), "rested", "Stables.rested", defArgs s_Stables_rested, defBody s_Stables_rested, defScope s_Stables_rested, [], []⟩
def d_Stables_earliest : He.DefD := ⟨("Stables", some "earliest"), "earliest", "Stables.earliest", defArgs s_Stables_earliest, defBody s_Stables_earliest, defScope s_Stables_earliest, [], []⟩
def d_Stables_take : He.DefD := ⟨("Stables", some "take"), "take", "Stables.take", defArgs s_Stables_take, defBody s_Stables_take, defScope s_Stables_take, [], []⟩
def d_Stables_arrive : He.DefD := ⟨("Stables", some "arrive"), "arrive", "Stables.arrive", defArgs s_Stables_arrive, defBody s_Stables_arrive, defScope s_Stables_arrive, [], []⟩
def d_Stables_counts : He.DefD := ⟨("Stables", some "counts"), "counts", "Stables.counts", defArgs s_Stables_counts, defBody s_Stables_counts, defScope s_Stables_counts, [], []⟩
def d_Stables_away : He.DefD := ⟨("Stables", some "away"), "away", "Stables.away", defArgs s_Stables_away, defBody s_Stables_away, defScope s_Stables_away, [], []⟩
def d_Stables_tiredest : He.DefD := ⟨("Stables", some "tiredest"), "tiredest", "Stables.tiredest", defArgs s_Stables_tiredest, defBody s_Stables_tiredest, defScope s_Stables_tiredest, [], []⟩
def d_law_dice : He.DefD := ⟨("_law_dice", none), "_law_dice", "_law_dice", defArgs s_law_dice, defBody s_law_dice, defScope s_law_dice, [], []⟩
def d_law_roll : He.DefD := ⟨("_law_roll", none), "_law_roll", "_law_roll", defArgs s_law_roll, defBody s_law_roll, defScope s_law_roll, [], []⟩
def d_law_rounds : He.DefD := ⟨("_law_rounds", none), "_law_rounds", "_law_rounds", defArgs s_law_rounds, defBody s_law_rounds, defScope s_law_rounds, [], []⟩
def d_law_told : He.DefD := ⟨("_law_told", none), "_law_told", "_law_told", defArgs s_law_told, defBody s_law_told, defScope s_law_told, [], []⟩
def d_law_at : He.DefD := ⟨("_law_at", none), "_law_at", "_law_at", defArgs s_law_at, defBody s_law_at, defScope s_law_at, [], []⟩
def d_law : He.DefD := ⟨("law", none), "law", "law", defArgs s_law, defBody s_law, defScope s_law, [], []⟩
def hfn0 : List He.DefD := [d_Horse_init, d_Stables_init, d_Stables_add, d_Stables_horse, d_Stables_at, d_Stables_rested, d_Stables_earliest, d_Stables_take, d_Stables_arrive, d_Stables_counts, d_Stables_away, d_Stables_tiredest, d_law_dice, d_law_roll, d_law_rounds, d_law_told, d_law_at, d_law]
def hfn : List He.DefD := hfn0
def hfa0 : List He.Fa := [.glo "CoachError", .glo "HorseError", .glo "Horse", .glo "Stables", .glo "_law_dice", .glo "_law_roll", .glo "_law_rounds", .glo "_law_told", .glo "_law_at", .glo "law", .int "REST" 360, .int "TEAM" 4, .free "ValueError", .free "abs", .free "any", .free "int", .free "len", .free "list", .free "max", .free "min", .free "range", .free "sorted", .free "str", .free "tuple", .cls "Horse", .noat "Horse" "name", .noat "Horse" "home", .noat "Horse" "place", .noat "Horse" "ready", .noat "Horse" "miles"]
def hfa1 : List He.Fa := [.noat "Horse" "horses", .mkr "Horse", .cls "Stables", .noat "Stables" "name", .noat "Stables" "home", .noat "Stables" "place", .noat "Stables" "ready", .noat "Stables" "miles", .noat "Stables" "horses", .mkr "Stables", .meth "Stables" "add", .meth "Stables" "horse", .meth "Stables" "at", .meth "Stables" "rested", .meth "Stables" "earliest", .meth "Stables" "take", .meth "Stables" "arrive", .meth "Stables" "counts", .meth "Stables" "away", .meth "Stables" "tiredest", .exc "HorseError", .exm "HorseError" "HorseError" true]
def hfa : List He.Fa := hfa0 ++ hfa1
def htf0 : List He.Defn := [("Stables", some "at"), ("Stables", some "rested"), ("Stables", some "earliest"), ("Stables", some "arrive"), ("Stables", some "counts"), ("Stables", some "away"), ("law", none)]
def htf : List He.Defn := htf0
def hnames0 : List Str := ["CoachError", "HorseError", "Horse", "Stables", "_law_dice", "_law_roll", "_law_rounds", "_law_told", "_law_at", "REST", "TEAM"]
def hnames : List Str := hnames0
abbrev R : PySem.W.OpenRow := PySem.W.OpenLaw.row PySem.Challenge.rw_coachstack_k02_horses_that_go_in_turn
def hstop : List Str := ["HorseError"]
def hex (K : PySem.W.Frag) : Bool := (htf.all fun p => decide (p = (("law", none) : He.Defn)) || decide ((He.cT K p).2 ≠ (He.cT K (("law", none) : He.Defn)).2)) && hstop.all fun x => (match PySem.W.subIn K (.ref (He.ga K x)) (.type "StopIteration") with
  | some false => true
  | _ => false)
abbrev hk : PySem.W.Hook := He.hookX 6 hfa hfn [] htf hex
def ob (s : PySem.W.SharedT) : He.AlX := He.obsX 6 hfa hfn [] htf hex (HandSHeadRun.getT s)
theorem ob_eq (s : PySem.W.SharedT) : ob s = hk.obs s.abs := He.obsX_eq (HandSHeadRun.getT_eq s)
theorem run (w : World) : HandSHeadRun.RunEq R (PySem.W.view R.prog [14]) hk ob 3000 hnames w := by
  intro os
  kernel_rfl
end K02

end
section
set_option Elab.async false
set_option linter.all false
set_option maxRecDepth 100000
set_option maxHeartbeats 2000000
/-! defs as data: their mirrors' promises, from the head's facts -/
namespace MP
open PySem PySem.Spec PyProof.Rows L2

theorem isSome_getD {α : Type _} {o : Option α} {d : α} (h : o.isSome = true) : o = some (o.getD d) := by
  cases o with
  | none => cases h
  | some a => rfl
section
variable {P : Program} {wo : World} {mg : Str → Option Value} {base : Heap} {f : Addr} {fd : FuncData} {x qual : Str} {params : Arguments} {body : List Stmt} {scope : Scope} {N ps : List Str} {c : Cc}
/-- a def without lambdas -/
theorem fn_okD {w : Wd} (F : FunD w.K x qual params body scope [] [] f fd) (S : FnScope N ps scope) (W : Wok w) (hgl : ∀ p ∈ c.gl, Means w P wo w.K mg base p.1 p.2) (hme : ∀ m ∈ c.me, MeIs w P wo w.K mg base m) (hfl : ∀ f ∈ c.fl, FldOk w f.cf f.i ∧ w.fn f.i = f.nm)
    (hN : c.N = N) (hsc : c.sc = scope) (hgx : c.gx = true → ∃ P, P ∈ w.tb ∧ (∀ q ∈ w.tq, q.1 ≠ P) ∧ ∃ q, GXP.TabB base mg q P ∧ fd.code = .ref q) (hlt : c.lt = false) (hb : (trBody c body).isSome = true) :
    FnOk P wo w.K mg base (L2.CX P wo) (c.k + 1) f fd ps (spM w ps.length (mfOf N.length ((trBody c body).getD fun _ _ _ => none))) := by
  obtain ⟨oc, od, dV, kV, doc, pm, an, cdv, ct, osl, rfl, lk, hcd, _, _⟩ := F.ex
  exact fn_ok lk hcd S W hgl hme hfl hN hsc rfl hgx (fun z => by rw [hlt] at z; cases z) (isSome_getD hb)
/-- a def with lambdas: the world of meanings is chosen at its entry -/
theorem fn_okW {w : List (Str × Addr) → Wd} {K : PySem.W.Frag} (hK : ∀ cs, (w cs).K = K) (F : FunD K x qual params body scope [] [] f fd) (S : FnScope N ps scope) (W : ∀ cs, Wok (w cs)) (hgl : ∀ cs, ∀ p ∈ c.gl, Means (w cs) P wo K mg base p.1 p.2) (hme : ∀ cs, ∀ m ∈ c.me, MeIs (w cs) P wo K mg base m)
    (hfl : ∀ cs, ∀ f ∈ c.fl, FldOk (w cs) f.cf f.i ∧ (w cs).fn f.i = f.nm) (hN : c.N = N) (hsc : c.sc = scope) (hgx : c.gx = false) (hlt : ∀ (cdv : Value) (A : Around) (outer : List Env) (s : Shared) (H : Hp) (E : XK), fd.code = cdv → LamF (w (envOfC qual scope s.heap.objs.size f cdv).cells) (cxOf (L2.CX P wo) P wo K mg base N qual scope f cdv A outer s H E) c.lams)
    (hb : (trBody c body).isSome = true) : FnOk P wo K mg base (L2.CX P wo) (c.k + 1) f fd ps (fun vs H Q E => ∀ cs, spM (w cs) ps.length (mfOf N.length ((trBody c body).getD fun _ _ _ => none)) vs H Q E) := by
  obtain ⟨oc, od, dV, kV, doc, pm, an, cdv, ct, osl, rfl, lk, hcd, _, _⟩ := F.ex
  refine fn_of lk hcd S (fun vs H Q E h => (h []).1) fun A outer s H vs Q E hr hsp => ⟨_, body_ok (w := w (envOfC qual scope s.heap.objs.size f cdv).cells) (X := cxOf (L2.CX P wo) P wo K mg base N qual scope f cdv A outer s H E) (E := E) ?_ (isSome_getD hb), body_run (hsp _)⟩
  exact {
    env := ⟨W _, (hK _).symm, hgl _, hme _, hfl _⟩
    N := hN.symm
    nd := S.nd
    sc := hsc.symm
    kind := S.kind
    fn := fun _ _ => rfl
    calm := rfl
    own := passes_of rfl
    pass := passes_call (W := fun cls d _ H => E cls d H) (takes_of rfl rfl rfl rfl) fun _ _ _ _ h => h
    take := fun _ => takes_of rfl rfl rfl rfl
    room := hr
    tab := fun z => by rw [hgx] at z; cases z
    lam := fun _ => hlt cdv A outer s H E rfl }
theorem fnIs_D {w : Wd} {K : PySem.W.Frag} {b : MS} {n k : Nat} {g : MF} (hK : w.K = K) (F : FunD K x qual params body scope [] [] f fd) (hbd : Binds K fd ps []) (S : FnScope N ps scope) (W : Wok w) (hgl : ∀ p ∈ c.gl, Means w P wo K mg base p.1 p.2) (hme : ∀ m ∈ c.me, MeIs w P wo K mg base m) (hfl : ∀ f ∈ c.fl, FldOk w f.cf f.i ∧ w.fn f.i = f.nm)
    (hN : c.N = N) (hsc : c.sc = scope) (hgx : c.gx = true → ∃ P, P ∈ w.tb ∧ (∀ q ∈ w.tq, q.1 ≠ P) ∧ ∃ q, GXP.TabB base mg q P ∧ fd.code = .ref q) (hlt : c.lt = false) (hb : (trBody c body).isSome = true)
    (hE : b = (trBody c body).getD fun _ _ _ => none) (hn : ps.length = n) (hk : c.k + 1 = k) (hg : g = mfOf N.length b ∨ g = pureF (mfOf N.length b)) : FnIs w P wo K mg base n k g f := by
  subst hK
  subst hn
  subst hk
  subst hE
  have o := fn_okD (P := P) (wo := wo) (mg := mg) (base := base) F S W hgl hme hfl hN hsc hgx hlt hb
  rcases hg with hg | hg
  · subst hg; exact ⟨fd, ps, F.kp, hbd, o⟩
  · subst hg; exact ⟨fd, ps, F.kp, hbd, fn_pure o⟩
theorem fn_okWE {w : List (Str × Addr) → Wd} {K : PySem.W.Frag} {b : MS} {n k : Nat} {g : MF} (hK : ∀ cs, (w cs).K = K) (F : FunD K x qual params body scope [] [] f fd) (S : FnScope N ps scope) (W : ∀ cs, Wok (w cs)) (hgl : ∀ cs, ∀ p ∈ c.gl, Means (w cs) P wo K mg base p.1 p.2) (hme : ∀ cs, ∀ m ∈ c.me, MeIs (w cs) P wo K mg base m)
    (hfl : ∀ cs, ∀ f ∈ c.fl, FldOk (w cs) f.cf f.i ∧ (w cs).fn f.i = f.nm) (hN : c.N = N) (hsc : c.sc = scope) (hgx : c.gx = false) (hlt : ∀ (cdv : Value) (A : Around) (outer : List Env) (s : Shared) (H : Hp) (E : XK), fd.code = cdv → LamF (w (envOfC qual scope s.heap.objs.size f cdv).cells) (cxOf (L2.CX P wo) P wo K mg base N qual scope f cdv A outer s H E) c.lams)
    (hb : (trBody c body).isSome = true) (hE : b = (trBody c body).getD fun _ _ _ => none) (hn : ps.length = n) (hk : c.k + 1 = k) (hg : g = mfOf N.length b) : FnOk P wo K mg base (L2.CX P wo) k f fd ps (fun vs H Q E => ∀ cs, spM (w cs) n g vs H Q E) := by
  subst hn
  subst hk
  subst hE
  subst hg
  exact fn_okW hK F S W hgl hme hfl hN hsc hgx hlt hb
/-- a call of nothing known: the def itself within its own body, never reached -/
theorem fn_self {w : Wd} {K : PySem.W.Frag} {k n : Nat} {fd : FuncData} (hn : ps.length = n) : FnOk P wo K mg base (L2.CX P wo) k f fd ps (spM w n fun _ _ _ => none) :=
  ⟨fun vs H Q E h => h.1.trans hn.symm, fun A outer s H args us vs Q E hr e0 hb r hsp => by
    obtain ⟨_, m, ds, lk, μ, r, μ', _, _, e, _⟩ := hsp
    cases e⟩
end
end MP

end
section
set_option Elab.async false
set_option linter.all false
set_option maxRecDepth 100000
set_option maxHeartbeats 2000000
/-! the world of meanings from the head's facts -/
namespace MP
open PySem PySem.Spec PyProof.Rows L2

/-- cas: classes by number; fnm: fields; tb, tq: tables of generator expressions, of lambdas; q: the lambdas' qualified name -/
def wOf (K : PySem.W.Frag) (cas fnm : List Str) (tb : List Addr) (P : Addr) (q : Str) (lams : List (Expr × Scope)) (cs : List (Str × Addr)) : Wd where
  K := K
  ca c := He.ga K (cas.getD c "")
  fn i := fnm.getD i ""
  fm := fnm.length
  tb := tb
  tq := [(P, q)]
  lm j _ a c1 := match lams[j]? with
    | some (b, sc) => LamIs q noArgs b sc cs a c1
    | none => fun _ => False
  co := CodeIs q
  kd _ _ := False
section
variable {K : PySem.W.Frag} {cas fnm : List Str} {tb : List Addr} {P : Addr} {q : Str} {lams : List (Expr × Scope)} {cs : List (Str × Addr)} {prog : Program} {wo : World} {mg : Str → Option Value} {base h : Heap} {fa : List He.Fa} {fn : List He.DefD}
abbrev W0 (K : PySem.W.Frag) (cas fnm : List Str) (tb : List Addr) (P : Addr) (q : Str) (lams : List (Expr × Scope)) (cs : List (Str × Addr)) : Wd := wOf K cas fnm tb P q lams cs
theorem wok (hn : fnm.Nodup) : Wok (wOf K cas fnm tb P q lams cs) := ⟨fun i j hi hj e => by
  have hi : i < fnm.length := hi
  have hj : j < fnm.length := hj
  have e : fnm.getD i "" = fnm.getD j "" := e
  rw [List.getD_eq_getElem?_getD, List.getD_eq_getElem?_getD, List.getElem?_eq_getElem hi, List.getElem?_eq_getElem hj] at e
  have p := List.pairwise_iff_getElem.mp hn
  have e : fnm[i] = fnm[j] := e
  rcases Nat.lt_trichotomy i j with l | l | l
  · exact absurd e (p i j hi hj l)
  · exact l
  · exact absurd e.symm (p j i hj hi l)⟩
theorem lamF {X : Cx} {C : Addr} (hT : LamX.TabB X.base X.mg C P) (hc : X.env.code = .ref C) (hq : X.env.qual ++ "<lambda>" = q) (hP : P ∉ tb) (hcs : X.env.cells = cs) : LamF (wOf K cas fnm tb P q lams cs) X lams := by
  subst hq
  subst hcs
  refine ⟨C, P, hT, hc, List.mem_singleton.mpr rfl, hP, fun p hp _ => by rw [List.mem_singleton.mp hp], fun a => rfl, fun j b sc e _ a c1 => ?_⟩
  show (match lams[j]? with
    | some (b, sc) => LamIs (X.env.qual ++ "<lambda>") noArgs b sc X.env.cells a c1
    | none => fun _ => False) = _
  rw [e]
theorem m_int {w : Wd} {x : Str} {i : Int} (c : He.SaysD fa fn K) (X : K.In h) (G : h.Ns mainGlobals mg) (hf : He.Fa.int x i ∈ fa) : Means w prog wo K mg base x (.val (.int i)) := by
  obtain ⟨t, e⟩ := He.int_ok X G (c.facts hf)
  exact ⟨.int i, _, e, ⟨t, rfl⟩, fun _ _ => .int i⟩
theorem m_blt {w : Wd} {x : Str} (c : He.SaysD fa fn K) (X : K.In h) (G : h.Ns mainGlobals mg) (hf : He.Fa.free x ∈ fa) : Means w prog wo K mg base x .blt := He.free_ok X G (c.facts hf)
theorem m_exc {i : Nat} {x : Str} (c : He.SaysD fa fn K) (X : K.In h) (G : h.Ns mainGlobals mg) (hi : cas.getD i "" = x) (hf : He.Fa.exc x ∈ fa) (hg : He.Fa.glo x ∈ fa) (hs : PySem.W.subIn K (.ref (He.ga K x)) (.type "StopIteration") = some false) {I : String} (B : ExcBaseFacts "ValueError" "ValueError.__new__" I He.veBase) : Means (wOf K cas fnm tb P q lams cs) prog wo K mg base x (.exc i) := by
  obtain ⟨h1, h2, h3, h4⟩ := He.exc_ok (c.facts hf)
  have e : (wOf K cas fnm tb P q lams cs).ca i = He.ga K x := by show He.ga K (cas.getD i "") = _; rw [hi]
  refine ⟨by rw [e]; exact He.glo_ok X G (c.facts hg), by rw [e]; exact h2, fun X0 hX => by rw [e]; exact raises_own (by rw [hX]; exact h3) (by rw [hX]; exact h4), ⟨_, _, _, _, B, by rw [e]; exact h1⟩, by rw [e]; exact hs⟩
theorem m_fn {w : Wd} {x : Str} {n k : Nat} {g : MF} (c : He.SaysD fa fn K) (X : K.In h) (G : h.Ns mainGlobals mg) (hg : He.Fa.glo x ∈ fa) (F : FnIs w prog wo K mg base n k g (He.ga K x)) : Means w prog wo K mg base x (.fn n k g) := ⟨_, He.glo_ok X G (c.facts hg), F⟩
theorem m_cls {i : Nat} {x : Str} {n k : Nat} {g : MF} (c : He.SaysD fa fn K) (X : K.In h) (G : h.Ns mainGlobals mg) (hi : cas.getD i "" = x) (hg : He.Fa.glo x ∈ fa) (hm : He.Fa.mkr x ∈ fa) (F : FnIs (wOf K cas fnm tb P q lams cs) prog wo K mg base n k g (He.ma K (He.ga K x) "__init__")) :
    Means (wOf K cas fnm tb P q lams cs) prog wo K mg base x (.cls i n k g) := by
  have e : (wOf K cas fnm tb P q lams cs).ca i = He.ga K x := by show He.ga K (cas.getD i "") = _; rw [hi]
  exact ⟨by rw [e]; exact He.glo_ok X G (c.facts hg), _, by rw [e]; exact He.mkr_ok (c.facts hm), F⟩
theorem m_me {i : Nat} {x y : Str} {n k : Nat} {g : MF} (c : He.SaysD fa fn K) (hi : cas.getD i "" = x) (hc : He.Fa.cls x ∈ fa) (hm : He.Fa.meth x y ∈ fa) (hn : y ∉ fnm) (F : FnIs (wOf K cas fnm tb P q lams cs) prog wo K mg base n k g (He.ma K (He.ga K x) y)) :
    MeIs (wOf K cas fnm tb P q lams cs) prog wo K mg base ⟨y, i, n, k, g⟩ := by
  have e : (wOf K cas fnm tb P q lams cs).ca i = He.ga K x := by show He.ga K (cas.getD i "") = _; rw [hi]
  refine ⟨fun j hj z => hn ?_, by rw [e]; exact He.cls_ok (c.facts hc), _, by rw [e]; exact He.meth_ok (c.facts hm), F⟩
  have hj : j < fnm.length := hj
  have z : fnm.getD j "" = y := z
  rw [List.getD_eq_getElem?_getD, List.getElem?_eq_getElem hj] at z
  rw [← z]
  exact List.getElem_mem hj
theorem all_nil {α : Type _} {Q : α → Prop} : ∀ p ∈ ([] : List α), Q p := fun _ h => by cases h
theorem all_cons {α : Type _} {Q : α → Prop} {a : α} {l : List α} (h : Q a) (t : ∀ p ∈ l, Q p) : ∀ p ∈ a :: l, Q p := fun p hp => by
  rcases List.mem_cons.mp hp with e | e
  · rw [e]; exact h
  · exact t p e
theorem code_ref {p : He.Defn} {x qual : Str} {params : Arguments} {body : List Stmt} {scope : Scope} {dvs : List V} {kws : List (Str × V)} {fd : FuncData} (F : FunD K x qual params body scope dvs kws (He.fAd K p) fd) : fd.code = .ref (He.codeOf K p) := by
  obtain ⟨oc, od, dV, kV, doc, pm, an, cdv, ct, osl, rfl, lk, hcd, _, _⟩ := F.ex
  obtain ⟨c, rfl⟩ := He.codeIn_ref hcd
  rw [He.codeOf_eq lk rfl] <;> rfl
theorem tab_gx {c P : Addr} (t : LamX.TabB base mg c P) : GXP.TabB base mg c P := ⟨t.1, t.2, t.3⟩
theorem fld_ok {x : List Str} {i : Nat} {cf : Nat → Bool} {nm : Str} (c : He.SaysD fa fn K) (hi : i < fnm.length) (hnm : fnm.getD i "" = nm) (h : ∀ j, cf j = true → He.Fa.cls (cas.getD j "") ∈ fa ∧ He.Fa.noat (cas.getD j "") nm ∈ fa) : FldOk (wOf K cas fnm tb P q lams cs) cf i ∧ (wOf K cas fnm tb P q lams cs).fn i = nm :=
  ⟨⟨hi, fun j hj => ⟨He.cls_ok (c.facts (h j hj).1), by show NoAttr K _ (fnm.getD i ""); rw [hnm]; exact He.noat_ok (c.facts (h j hj).2)⟩⟩, hnm⟩
end
end MP

end
section
set_option Elab.async false
set_option linter.all false
set_option maxRecDepth 100000
set_option maxHeartbeats 400000
namespace K02
open PySem PySem.Spec PyProof.Rows L2 MP
def cas : List Str := ["Horse", "Stables", "CoachError", "HorseError"]
def tbs (K : PySem.W.Frag) : List Addr := [(He.cT K ("Stables", some "at")).2, (He.cT K ("Stables", some "rested")).2, (He.cT K ("Stables", some "earliest")).2, (He.cT K ("Stables", some "arrive")).2, (He.cT K ("Stables", some "counts")).2, (He.cT K ("Stables", some "away")).2]
def lamq : Str := ("law.<locals>." : Str) ++ "<lambda>"
def wK (K : PySem.W.Frag) (cs : List (Str × Addr)) : Wd := wOf K cas fnm (tbs K) (He.cT K ("law", none)).2 lamq c_law.lams cs
structure Ctx (K : PySem.W.Frag) (h : Heap) (mg : Str → Option Value) (base : Heap) : Prop where
  c : He.SaysD hfa hfn K
  X : K.In h
  G : h.Ns mainGlobals mg
  hT : ∀ p ∈ htf, LamX.TabB base mg (He.cT K p).1 (He.cT K p).2
  hd : hex K = true
theorem hm {f : He.Fa} (i : Nat) (h : hfa[i]? = some f := by rfl) : f ∈ hfa := List.mem_of_getElem? h
theorem fnm_nd : fnm.Nodup := by decide
section
variable {P : Program} {wo : World} {K : PySem.W.Frag} {h : Heap} {mg : Str → Option Value} {base : Heap}
theorem hne (C : Ctx K h mg base) {p : He.Defn} (hp : p ∈ htf) (hn : p ≠ (("law", none) : He.Defn)) : (He.cT K p).2 ≠ (He.cT K ("law", none)).2 := by
  have z := List.all_eq_true.mp (Bool.and_eq_true_iff.mp C.hd).1 p hp
  rcases Bool.or_eq_true_iff.mp z with z | z
  · exact absurd (of_decide_eq_true z) hn
  · exact of_decide_eq_true z
theorem hstp (C : Ctx K h mg base) {x : Str} (hx : x ∈ hstop) : PySem.W.subIn K (.ref (He.ga K x)) (.type "StopIteration") = some false := by
  have z := List.all_eq_true.mp (Bool.and_eq_true_iff.mp C.hd).2 x hx
  split at z
  · assumption
  · cases z
theorem fl_ok (C : Ctx K h mg base) (cs : List (Str × Addr)) : ∀ f ∈ fds, FldOk (wK K cs) f.cf f.i ∧ (wK K cs).fn f.i = f.nm :=
  all_cons (show FldOk (wK K cs) fd_name.cf fd_name.i ∧ (wK K cs).fn fd_name.i = fd_name.nm from fld_ok (x := []) (fnm := fnm) (cas := cas) C.c (by decide) rfl (fun j hj => by
    have hj : (decide (j = 0)) = true := hj
    simp only [Bool.or_eq_true, decide_eq_true_eq] at hj
    rcases hj with rfl
    · exact ⟨(hm 24), (hm 25)⟩))
    (all_cons (show FldOk (wK K cs) fd_home.cf fd_home.i ∧ (wK K cs).fn fd_home.i = fd_home.nm from fld_ok (x := []) (fnm := fnm) (cas := cas) C.c (by decide) rfl (fun j hj => by
    have hj : (decide (j = 0)) = true := hj
    simp only [Bool.or_eq_true, decide_eq_true_eq] at hj
    rcases hj with rfl
    · exact ⟨(hm 24), (hm 26)⟩))
    (all_cons (show FldOk (wK K cs) fd_place.cf fd_place.i ∧ (wK K cs).fn fd_place.i = fd_place.nm from fld_ok (x := []) (fnm := fnm) (cas := cas) C.c (by decide) rfl (fun j hj => by
    have hj : (decide (j = 0)) = true := hj
    simp only [Bool.or_eq_true, decide_eq_true_eq] at hj
    rcases hj with rfl
    · exact ⟨(hm 24), (hm 27)⟩))
    (all_cons (show FldOk (wK K cs) fd_ready.cf fd_ready.i ∧ (wK K cs).fn fd_ready.i = fd_ready.nm from fld_ok (x := []) (fnm := fnm) (cas := cas) C.c (by decide) rfl (fun j hj => by
    have hj : (decide (j = 0)) = true := hj
    simp only [Bool.or_eq_true, decide_eq_true_eq] at hj
    rcases hj with rfl
    · exact ⟨(hm 24), (hm 28)⟩))
    (all_cons (show FldOk (wK K cs) fd_miles.cf fd_miles.i ∧ (wK K cs).fn fd_miles.i = fd_miles.nm from fld_ok (x := []) (fnm := fnm) (cas := cas) C.c (by decide) rfl (fun j hj => by
    have hj : (decide (j = 0)) = true := hj
    simp only [Bool.or_eq_true, decide_eq_true_eq] at hj
    rcases hj with rfl
    · exact ⟨(hm 24), (hm 29)⟩))
    (all_cons (show FldOk (wK K cs) fd_horses.cf fd_horses.i ∧ (wK K cs).fn fd_horses.i = fd_horses.nm from fld_ok (x := []) (fnm := fnm) (cas := cas) C.c (by decide) rfl (fun j hj => by
    have hj : (decide (j = 1)) = true := hj
    simp only [Bool.or_eq_true, decide_eq_true_eq] at hj
    rcases hj with rfl
    · exact ⟨(hm 32), (hm 38)⟩))
    (all_nil))))))
theorem nf_Stables_add : ("add" : Str) ∉ fnm := by decide
theorem nf_Stables_horse : ("horse" : Str) ∉ fnm := by decide
theorem nf_Stables_at : ("at" : Str) ∉ fnm := by decide
theorem nf_Stables_rested : ("rested" : Str) ∉ fnm := by decide
theorem nf_Stables_earliest : ("earliest" : Str) ∉ fnm := by decide
theorem nf_Stables_take : ("take" : Str) ∉ fnm := by decide
theorem nf_Stables_arrive : ("arrive" : Str) ∉ fnm := by decide
theorem nf_Stables_counts : ("counts" : Str) ∉ fnm := by decide
theorem nf_Stables_away : ("away" : Str) ∉ fnm := by decide
theorem nf_Stables_tiredest : ("tiredest" : Str) ∉ fnm := by decide
theorem told_law_told (C : Ctx K h mg base) (cs : List (Str × Addr)) : ∀ X : Cx, X.K = K → X.mg = mg → TolIs (wK K cs) X "_law_told" "HorseError" (fun c => decide (c = 3)) 13 := by
  intro X hK hmg
  obtain ⟨fd, F⟩ := C.c.defs (d := d_law_told) (List.mem_of_getElem? (i := 15) rfl)
  obtain ⟨oc, od, dV, kV, doc, pm, an, cdv, ct, osl, e, lk, hcd, _, _⟩ := F.ex
  subst e
  refine ⟨He.ga K "_law_told", He.ga K "HorseError", "what", "HorseError", defScope s_law_told, defArgs s_law_told, dV, kV, doc, pm, cdv, ct, oc, an, od, osl, ["what"], _, _, _, _, _, _, _, _, _, by rw [hmg]; exact He.glo_ok C.X C.G (C.c.facts (hm 7)), by rw [hK]; exact F.kp, by rw [hK]; exact lk, by rw [hK]; exact hcd, ?_, ?_, rfl, .inl rfl, rfl, by rw [hmg]; exact He.glo_ok C.X C.G (C.c.facts (hm 1)), fun c hc => ?_, rfl, rfl, rfl, rfl⟩
  · rw [hK]
    exact FunD.bindsN F fun _ _ _ _ _ _ us hl => match us, hl with | [_], _ => rfl
  · exact ⟨rfl, rfl, rfl, by decide +kernel, rfl, by decide +kernel, by decide +kernel⟩
  · obtain rfl := of_decide_eq_true hc
    exact He.exm_ok (C.c.facts (hm 51))
theorem sc_Horse_init : FnScope ["self", "name", "home"] ["self", "name", "home"] (defScope s_Horse_init) := ⟨rfl, rfl, rfl, by decide +kernel, rfl, by decide +kernel, by decide +kernel⟩
theorem fun_Horse_init (C : Ctx K h mg base) : ∃ fd, FunD K "__init__" "Horse.__init__" (defArgs s_Horse_init) (defBody s_Horse_init) (defScope s_Horse_init) [] [] (He.fAd K ("Horse", some "__init__")) fd := C.c.defs (d := d_Horse_init) (List.mem_of_getElem? (i := 0) rfl)
theorem bnd_Horse_init {fd : FuncData} (F : FunD K "__init__" "Horse.__init__" (defArgs s_Horse_init) (defBody s_Horse_init) (defScope s_Horse_init) [] [] (He.fAd K ("Horse", some "__init__")) fd) : Binds K fd ["self", "name", "home"] [] := FunD.bindsN F fun _ _ _ _ _ _ us hl => match us, hl with | [_, _, _], _ => rfl
theorem gl_Horse_init (C : Ctx K h mg base) (cs : List (Str × Addr)) : ∀ p ∈ c_Horse_init.gl, Means (wK K cs) P wo K mg base p.1 p.2 :=
  all_nil
theorem mes_Horse_init (C : Ctx K h mg base) (cs : List (Str × Addr)) : ∀ m ∈ c_Horse_init.me, MeIs (wK K cs) P wo K mg base m :=
  all_nil
theorem ok_Horse_init (C : Ctx K h mg base) (cs : List (Str × Addr)) : FnIs (wK K cs) P wo K mg base 3 (c_Horse_init.k + 1) f_Horse_init (He.fAd K ("Horse", some "__init__")) := by
  obtain ⟨fd, F⟩ := fun_Horse_init C
  exact fnIs_D (w := wK K cs) (c := c_Horse_init) (b := b_Horse_init) rfl F (bnd_Horse_init F) sc_Horse_init (wok fnm_nd) (gl_Horse_init C cs) (mes_Horse_init C cs) (fl_ok C cs) rfl rfl (fun z => absurd z (by decide)) rfl t_Horse_init e_Horse_init rfl rfl (.inl rfl)
theorem sc_Stables_init : FnScope ["self"] ["self"] (defScope s_Stables_init) := ⟨rfl, rfl, rfl, by decide +kernel, rfl, by decide +kernel, by decide +kernel⟩
theorem fun_Stables_init (C : Ctx K h mg base) : ∃ fd, FunD K "__init__" "Stables.__init__" (defArgs s_Stables_init) (defBody s_Stables_init) (defScope s_Stables_init) [] [] (He.fAd K ("Stables", some "__init__")) fd := C.c.defs (d := d_Stables_init) (List.mem_of_getElem? (i := 1) rfl)
theorem bnd_Stables_init {fd : FuncData} (F : FunD K "__init__" "Stables.__init__" (defArgs s_Stables_init) (defBody s_Stables_init) (defScope s_Stables_init) [] [] (He.fAd K ("Stables", some "__init__")) fd) : Binds K fd ["self"] [] := FunD.bindsN F fun _ _ _ _ _ _ us hl => match us, hl with | [_], _ => rfl
theorem gl_Stables_init (C : Ctx K h mg base) (cs : List (Str × Addr)) : ∀ p ∈ c_Stables_init.gl, Means (wK K cs) P wo K mg base p.1 p.2 :=
  all_nil
theorem mes_Stables_init (C : Ctx K h mg base) (cs : List (Str × Addr)) : ∀ m ∈ c_Stables_init.me, MeIs (wK K cs) P wo K mg base m :=
  all_nil
theorem ok_Stables_init (C : Ctx K h mg base) (cs : List (Str × Addr)) : FnIs (wK K cs) P wo K mg base 1 (c_Stables_init.k + 1) f_Stables_init (He.fAd K ("Stables", some "__init__")) := by
  obtain ⟨fd, F⟩ := fun_Stables_init C
  exact fnIs_D (w := wK K cs) (c := c_Stables_init) (b := b_Stables_init) rfl F (bnd_Stables_init F) sc_Stables_init (wok fnm_nd) (gl_Stables_init C cs) (mes_Stables_init C cs) (fl_ok C cs) rfl rfl (fun z => absurd z (by decide)) rfl t_Stables_init e_Stables_init rfl rfl (.inl rfl)
theorem sc_Stables_add : FnScope ["self", "name", "home"] ["self", "name", "home"] (defScope s_Stables_add) := ⟨rfl, rfl, rfl, by decide +kernel, rfl, by decide +kernel, by decide +kernel⟩
theorem fun_Stables_add (C : Ctx K h mg base) : ∃ fd, FunD K "add" "Stables.add" (defArgs s_Stables_add) (defBody s_Stables_add) (defScope s_Stables_add) [] [] (He.fAd K ("Stables", some "add")) fd := C.c.defs (d := d_Stables_add) (List.mem_of_getElem? (i := 2) rfl)
theorem bnd_Stables_add {fd : FuncData} (F : FunD K "add" "Stables.add" (defArgs s_Stables_add) (defBody s_Stables_add) (defScope s_Stables_add) [] [] (He.fAd K ("Stables", some "add")) fd) : Binds K fd ["self", "name", "home"] [] := FunD.bindsN F fun _ _ _ _ _ _ us hl => match us, hl with | [_, _, _], _ => rfl
theorem gl_Stables_add_0 (C : Ctx K h mg base) (cs : List (Str × Addr)) : Means (wK K cs) P wo K mg base "Horse" (.cls 0 3 1 f_Horse_init) := m_cls C.c C.X C.G rfl (hm 2) (hm 31) (ok_Horse_init C cs)
theorem gl_Stables_add_1 (C : Ctx K h mg base) (cs : List (Str × Addr)) : Means (wK K cs) P wo K mg base "HorseError" (.exc 3) := m_exc C.c C.X C.G rfl (hm 50) (hm 1) (hstp C (List.mem_of_getElem? (i := 0) rfl)) PySem.F.excBase_ValueError
theorem gl_Stables_add (C : Ctx K h mg base) (cs : List (Str × Addr)) : ∀ p ∈ c_Stables_add.gl, Means (wK K cs) P wo K mg base p.1 p.2 :=
  all_cons (gl_Stables_add_0 C cs) (all_cons (gl_Stables_add_1 C cs) (all_nil))
theorem mes_Stables_add (C : Ctx K h mg base) (cs : List (Str × Addr)) : ∀ m ∈ c_Stables_add.me, MeIs (wK K cs) P wo K mg base m :=
  all_nil
theorem ok_Stables_add (C : Ctx K h mg base) (cs : List (Str × Addr)) : FnIs (wK K cs) P wo K mg base 3 (c_Stables_add.k + 1) f_Stables_add (He.fAd K ("Stables", some "add")) := by
  obtain ⟨fd, F⟩ := fun_Stables_add C
  exact fnIs_D (w := wK K cs) (c := c_Stables_add) (b := b_Stables_add) rfl F (bnd_Stables_add F) sc_Stables_add (wok fnm_nd) (gl_Stables_add C cs) (mes_Stables_add C cs) (fl_ok C cs) rfl rfl (fun z => absurd z (by decide)) rfl t_Stables_add e_Stables_add rfl rfl (.inl rfl)
theorem sc_Stables_horse : FnScope ["self", "name"] ["self", "name"] (defScope s_Stables_horse) := ⟨rfl, rfl, rfl, by decide +kernel, rfl, by decide +kernel, by decide +kernel⟩
theorem fun_Stables_horse (C : Ctx K h mg base) : ∃ fd, FunD K "horse" "Stables.horse" (defArgs s_Stables_horse) (defBody s_Stables_horse) (defScope s_Stables_horse) [] [] (He.fAd K ("Stables", some "horse")) fd := C.c.defs (d := d_Stables_horse) (List.mem_of_getElem? (i := 3) rfl)
theorem bnd_Stables_horse {fd : FuncData} (F : FunD K "horse" "Stables.horse" (defArgs s_Stables_horse) (defBody s_Stables_horse) (defScope s_Stables_horse) [] [] (He.fAd K ("Stables", some "horse")) fd) : Binds K fd ["self", "name"] [] := FunD.bindsN F fun _ _ _ _ _ _ us hl => match us, hl with | [_, _], _ => rfl
theorem gl_Stables_horse_0 (C : Ctx K h mg base) (cs : List (Str × Addr)) : Means (wK K cs) P wo K mg base "HorseError" (.exc 3) := m_exc C.c C.X C.G rfl (hm 50) (hm 1) (hstp C (List.mem_of_getElem? (i := 0) rfl)) PySem.F.excBase_ValueError
theorem gl_Stables_horse (C : Ctx K h mg base) (cs : List (Str × Addr)) : ∀ p ∈ c_Stables_horse.gl, Means (wK K cs) P wo K mg base p.1 p.2 :=
  all_cons (gl_Stables_horse_0 C cs) (all_nil)
theorem mes_Stables_horse (C : Ctx K h mg base) (cs : List (Str × Addr)) : ∀ m ∈ c_Stables_horse.me, MeIs (wK K cs) P wo K mg base m :=
  all_nil
theorem ok_Stables_horse (C : Ctx K h mg base) (cs : List (Str × Addr)) : FnIs (wK K cs) P wo K mg base 2 (c_Stables_horse.k + 1) f_Stables_horse (He.fAd K ("Stables", some "horse")) := by
  obtain ⟨fd, F⟩ := fun_Stables_horse C
  exact fnIs_D (w := wK K cs) (c := c_Stables_horse) (b := b_Stables_horse) rfl F (bnd_Stables_horse F) sc_Stables_horse (wok fnm_nd) (gl_Stables_horse C cs) (mes_Stables_horse C cs) (fl_ok C cs) rfl rfl (fun z => absurd z (by decide)) rfl t_Stables_horse e_Stables_horse rfl rfl (.inl rfl)
theorem sc_Stables_at : FnScope ["self", "place", "rows", "name", "one", "home", "ready"] ["self", "place"] (defScope s_Stables_at) := ⟨rfl, rfl, rfl, by decide +kernel, rfl, by decide +kernel, by decide +kernel⟩
theorem fun_Stables_at (C : Ctx K h mg base) : ∃ fd, FunD K "at" "Stables.at" (defArgs s_Stables_at) (defBody s_Stables_at) (defScope s_Stables_at) [] [] (He.fAd K ("Stables", some "at")) fd := C.c.defs (d := d_Stables_at) (List.mem_of_getElem? (i := 4) rfl)
theorem bnd_Stables_at {fd : FuncData} (F : FunD K "at" "Stables.at" (defArgs s_Stables_at) (defBody s_Stables_at) (defScope s_Stables_at) [] [] (He.fAd K ("Stables", some "at")) fd) : Binds K fd ["self", "place"] [] := FunD.bindsN F fun _ _ _ _ _ _ us hl => match us, hl with | [_, _], _ => rfl
theorem gl_Stables_at_0 (C : Ctx K h mg base) (cs : List (Str × Addr)) : Means (wK K cs) P wo K mg base "sorted" (.blt) := m_blt C.c C.X C.G (hm 21)
theorem gl_Stables_at_1 (C : Ctx K h mg base) (cs : List (Str × Addr)) : Means (wK K cs) P wo K mg base "tuple" (.blt) := m_blt C.c C.X C.G (hm 23)
theorem gl_Stables_at (C : Ctx K h mg base) (cs : List (Str × Addr)) : ∀ p ∈ c_Stables_at.gl, Means (wK K cs) P wo K mg base p.1 p.2 :=
  all_cons (gl_Stables_at_0 C cs) (all_cons (gl_Stables_at_1 C cs) (all_nil))
theorem mes_Stables_at (C : Ctx K h mg base) (cs : List (Str × Addr)) : ∀ m ∈ c_Stables_at.me, MeIs (wK K cs) P wo K mg base m :=
  all_nil
theorem ok_Stables_at (C : Ctx K h mg base) (cs : List (Str × Addr)) : FnIs (wK K cs) P wo K mg base 2 (c_Stables_at.k + 1) f_Stables_at (He.fAd K ("Stables", some "at")) := by
  obtain ⟨fd, F⟩ := fun_Stables_at C
  exact fnIs_D (w := wK K cs) (c := c_Stables_at) (b := b_Stables_at) rfl F (bnd_Stables_at F) sc_Stables_at (wok fnm_nd) (gl_Stables_at C cs) (mes_Stables_at C cs) (fl_ok C cs) rfl rfl (fun _ => ⟨(He.cT K ("Stables", some "at")).2, List.mem_of_getElem? (i := 0) rfl, fun z hz => by rw [List.mem_singleton.mp hz]; exact (hne C (List.mem_of_getElem? (i := 0) rfl) (by decide)).symm, (He.cT K ("Stables", some "at")).1, tab_gx (C.hT ("Stables", some "at") (List.mem_of_getElem? (i := 0) rfl)), code_ref F⟩) rfl t_Stables_at e_Stables_at rfl rfl (.inr rfl)
theorem sc_Stables_rested : FnScope ["self", "place", "time", "name"] ["self", "place", "time"] (defScope s_Stables_rested) := ⟨rfl, rfl, rfl, by decide +kernel, rfl, by decide +kernel, by decide +kernel⟩
theorem fun_Stables_rested (C : Ctx K h mg base) : ∃ fd, FunD K "rested" "Stables.rested" (defArgs s_Stables_rested) (defBody s_Stables_rested) (defScope s_Stables_rested) [] [] (He.fAd K ("Stables", some "rested")) fd := C.c.defs (d := d_Stables_rested) (List.mem_of_getElem? (i := 5) rfl)
theorem bnd_Stables_rested {fd : FuncData} (F : FunD K "rested" "Stables.rested" (defArgs s_Stables_rested) (defBody s_Stables_rested) (defScope s_Stables_rested) [] [] (He.fAd K ("Stables", some "rested")) fd) : Binds K fd ["self", "place", "time"] [] := FunD.bindsN F fun _ _ _ _ _ _ us hl => match us, hl with | [_, _, _], _ => rfl
theorem gl_Stables_rested_0 (C : Ctx K h mg base) (cs : List (Str × Addr)) : Means (wK K cs) P wo K mg base "tuple" (.blt) := m_blt C.c C.X C.G (hm 23)
theorem gl_Stables_rested (C : Ctx K h mg base) (cs : List (Str × Addr)) : ∀ p ∈ c_Stables_rested.gl, Means (wK K cs) P wo K mg base p.1 p.2 :=
  all_cons (gl_Stables_rested_0 C cs) (all_nil)
theorem me_Stables_rested_0 (C : Ctx K h mg base) (cs : List (Str × Addr)) : MeIs (wK K cs) P wo K mg base me_Stables_at := m_me (y := "at") (i := 1) (n := 2) (k := 6) (g := f_Stables_at) C.c rfl (hm 32) (hm 42) nf_Stables_at (ok_Stables_at C cs)
theorem mes_Stables_rested (C : Ctx K h mg base) (cs : List (Str × Addr)) : ∀ m ∈ c_Stables_rested.me, MeIs (wK K cs) P wo K mg base m :=
  all_cons (me_Stables_rested_0 C cs) (all_nil)
theorem ok_Stables_rested (C : Ctx K h mg base) (cs : List (Str × Addr)) : FnIs (wK K cs) P wo K mg base 3 (c_Stables_rested.k + 1) f_Stables_rested (He.fAd K ("Stables", some "rested")) := by
  obtain ⟨fd, F⟩ := fun_Stables_rested C
  exact fnIs_D (w := wK K cs) (c := c_Stables_rested) (b := b_Stables_rested) rfl F (bnd_Stables_rested F) sc_Stables_rested (wok fnm_nd) (gl_Stables_rested C cs) (mes_Stables_rested C cs) (fl_ok C cs) rfl rfl (fun _ => ⟨(He.cT K ("Stables", some "rested")).2, List.mem_of_getElem? (i := 1) rfl, fun z hz => by rw [List.mem_singleton.mp hz]; exact (hne C (List.mem_of_getElem? (i := 1) rfl) (by decide)).symm, (He.cT K ("Stables", some "rested")).1, tab_gx (C.hT ("Stables", some "rested") (List.mem_of_getElem? (i := 1) rfl)), code_ref F⟩) rfl t_Stables_rested e_Stables_rested rfl rfl (.inr rfl)
theorem sc_Stables_earliest : FnScope ["self", "place", "time", "ready", "name"] ["self", "place", "time"] (defScope s_Stables_earliest) := ⟨rfl, rfl, rfl, by decide +kernel, rfl, by decide +kernel, by decide +kernel⟩
theorem fun_Stables_earliest (C : Ctx K h mg base) : ∃ fd, FunD K "earliest" "Stables.earliest" (defArgs s_Stables_earliest) (defBody s_Stables_earliest) (defScope s_Stables_earliest) [] [] (He.fAd K ("Stables", some "earliest")) fd := C.c.defs (d := d_Stables_earliest) (List.mem_of_getElem? (i := 6) rfl)
theorem bnd_Stables_earliest {fd : FuncData} (F : FunD K "earliest" "Stables.earliest" (defArgs s_Stables_earliest) (defBody s_Stables_earliest) (defScope s_Stables_earliest) [] [] (He.fAd K ("Stables", some "earliest")) fd) : Binds K fd ["self", "place", "time"] [] := FunD.bindsN F fun _ _ _ _ _ _ us hl => match us, hl with | [_, _, _], _ => rfl
theorem gl_Stables_earliest_0 (C : Ctx K h mg base) (cs : List (Str × Addr)) : Means (wK K cs) P wo K mg base "TEAM" (.val (.int 4)) := m_int C.c C.X C.G (hm 11)
theorem gl_Stables_earliest_1 (C : Ctx K h mg base) (cs : List (Str × Addr)) : Means (wK K cs) P wo K mg base "len" (.blt) := m_blt C.c C.X C.G (hm 16)
theorem gl_Stables_earliest_2 (C : Ctx K h mg base) (cs : List (Str × Addr)) : Means (wK K cs) P wo K mg base "max" (.blt) := m_blt C.c C.X C.G (hm 18)
theorem gl_Stables_earliest_3 (C : Ctx K h mg base) (cs : List (Str × Addr)) : Means (wK K cs) P wo K mg base "sorted" (.blt) := m_blt C.c C.X C.G (hm 21)
theorem gl_Stables_earliest (C : Ctx K h mg base) (cs : List (Str × Addr)) : ∀ p ∈ c_Stables_earliest.gl, Means (wK K cs) P wo K mg base p.1 p.2 :=
  all_cons (gl_Stables_earliest_0 C cs) (all_cons (gl_Stables_earliest_1 C cs) (all_cons (gl_Stables_earliest_2 C cs) (all_cons (gl_Stables_earliest_3 C cs) (all_nil))))
theorem me_Stables_earliest_0 (C : Ctx K h mg base) (cs : List (Str × Addr)) : MeIs (wK K cs) P wo K mg base me_Stables_at := m_me (y := "at") (i := 1) (n := 2) (k := 6) (g := f_Stables_at) C.c rfl (hm 32) (hm 42) nf_Stables_at (ok_Stables_at C cs)
theorem mes_Stables_earliest (C : Ctx K h mg base) (cs : List (Str × Addr)) : ∀ m ∈ c_Stables_earliest.me, MeIs (wK K cs) P wo K mg base m :=
  all_cons (me_Stables_earliest_0 C cs) (all_nil)
theorem ok_Stables_earliest (C : Ctx K h mg base) (cs : List (Str × Addr)) : FnIs (wK K cs) P wo K mg base 3 (c_Stables_earliest.k + 1) f_Stables_earliest (He.fAd K ("Stables", some "earliest")) := by
  obtain ⟨fd, F⟩ := fun_Stables_earliest C
  exact fnIs_D (w := wK K cs) (c := c_Stables_earliest) (b := b_Stables_earliest) rfl F (bnd_Stables_earliest F) sc_Stables_earliest (wok fnm_nd) (gl_Stables_earliest C cs) (mes_Stables_earliest C cs) (fl_ok C cs) rfl rfl (fun _ => ⟨(He.cT K ("Stables", some "earliest")).2, List.mem_of_getElem? (i := 2) rfl, fun z hz => by rw [List.mem_singleton.mp hz]; exact (hne C (List.mem_of_getElem? (i := 2) rfl) (by decide)).symm, (He.cT K ("Stables", some "earliest")).1, tab_gx (C.hT ("Stables", some "earliest") (List.mem_of_getElem? (i := 2) rfl)), code_ref F⟩) rfl t_Stables_earliest e_Stables_earliest rfl rfl (.inr rfl)
theorem sc_Stables_take : FnScope ["self", "place", "time", "team", "name"] ["self", "place", "time"] (defScope s_Stables_take) := ⟨rfl, rfl, rfl, by decide +kernel, rfl, by decide +kernel, by decide +kernel⟩
theorem fun_Stables_take (C : Ctx K h mg base) : ∃ fd, FunD K "take" "Stables.take" (defArgs s_Stables_take) (defBody s_Stables_take) (defScope s_Stables_take) [] [] (He.fAd K ("Stables", some "take")) fd := C.c.defs (d := d_Stables_take) (List.mem_of_getElem? (i := 7) rfl)
theorem bnd_Stables_take {fd : FuncData} (F : FunD K "take" "Stables.take" (defArgs s_Stables_take) (defBody s_Stables_take) (defScope s_Stables_take) [] [] (He.fAd K ("Stables", some "take")) fd) : Binds K fd ["self", "place", "time"] [] := FunD.bindsN F fun _ _ _ _ _ _ us hl => match us, hl with | [_, _, _], _ => rfl
theorem gl_Stables_take_0 (C : Ctx K h mg base) (cs : List (Str × Addr)) : Means (wK K cs) P wo K mg base "HorseError" (.exc 3) := m_exc C.c C.X C.G rfl (hm 50) (hm 1) (hstp C (List.mem_of_getElem? (i := 0) rfl)) PySem.F.excBase_ValueError
theorem gl_Stables_take_1 (C : Ctx K h mg base) (cs : List (Str × Addr)) : Means (wK K cs) P wo K mg base "TEAM" (.val (.int 4)) := m_int C.c C.X C.G (hm 11)
theorem gl_Stables_take_2 (C : Ctx K h mg base) (cs : List (Str × Addr)) : Means (wK K cs) P wo K mg base "len" (.blt) := m_blt C.c C.X C.G (hm 16)
theorem gl_Stables_take (C : Ctx K h mg base) (cs : List (Str × Addr)) : ∀ p ∈ c_Stables_take.gl, Means (wK K cs) P wo K mg base p.1 p.2 :=
  all_cons (gl_Stables_take_0 C cs) (all_cons (gl_Stables_take_1 C cs) (all_cons (gl_Stables_take_2 C cs) (all_nil)))
theorem me_Stables_take_0 (C : Ctx K h mg base) (cs : List (Str × Addr)) : MeIs (wK K cs) P wo K mg base me_Stables_rested := m_me (y := "rested") (i := 1) (n := 3) (k := 12) (g := f_Stables_rested) C.c rfl (hm 32) (hm 43) nf_Stables_rested (ok_Stables_rested C cs)
theorem mes_Stables_take (C : Ctx K h mg base) (cs : List (Str × Addr)) : ∀ m ∈ c_Stables_take.me, MeIs (wK K cs) P wo K mg base m :=
  all_cons (me_Stables_take_0 C cs) (all_nil)
theorem ok_Stables_take (C : Ctx K h mg base) (cs : List (Str × Addr)) : FnIs (wK K cs) P wo K mg base 3 (c_Stables_take.k + 1) f_Stables_take (He.fAd K ("Stables", some "take")) := by
  obtain ⟨fd, F⟩ := fun_Stables_take C
  exact fnIs_D (w := wK K cs) (c := c_Stables_take) (b := b_Stables_take) rfl F (bnd_Stables_take F) sc_Stables_take (wok fnm_nd) (gl_Stables_take C cs) (mes_Stables_take C cs) (fl_ok C cs) rfl rfl (fun z => absurd z (by decide)) rfl t_Stables_take e_Stables_take rfl rfl (.inl rfl)
theorem sc_Stables_arrive : FnScope ["self", "team", "place", "time", "miles", "name", "one"] ["self", "team", "place", "time", "miles"] (defScope s_Stables_arrive) := ⟨rfl, rfl, rfl, by decide +kernel, rfl, by decide +kernel, by decide +kernel⟩
theorem fun_Stables_arrive (C : Ctx K h mg base) : ∃ fd, FunD K "arrive" "Stables.arrive" (defArgs s_Stables_arrive) (defBody s_Stables_arrive) (defScope s_Stables_arrive) [] [] (He.fAd K ("Stables", some "arrive")) fd := C.c.defs (d := d_Stables_arrive) (List.mem_of_getElem? (i := 8) rfl)
theorem bnd_Stables_arrive {fd : FuncData} (F : FunD K "arrive" "Stables.arrive" (defArgs s_Stables_arrive) (defBody s_Stables_arrive) (defScope s_Stables_arrive) [] [] (He.fAd K ("Stables", some "arrive")) fd) : Binds K fd ["self", "team", "place", "time", "miles"] [] := FunD.bindsN F fun _ _ _ _ _ _ us hl => match us, hl with | [_, _, _, _, _], _ => rfl
theorem gl_Stables_arrive_0 (C : Ctx K h mg base) (cs : List (Str × Addr)) : Means (wK K cs) P wo K mg base "HorseError" (.exc 3) := m_exc C.c C.X C.G rfl (hm 50) (hm 1) (hstp C (List.mem_of_getElem? (i := 0) rfl)) PySem.F.excBase_ValueError
theorem gl_Stables_arrive_1 (C : Ctx K h mg base) (cs : List (Str × Addr)) : Means (wK K cs) P wo K mg base "REST" (.val (.int 360)) := m_int C.c C.X C.G (hm 10)
theorem gl_Stables_arrive_2 (C : Ctx K h mg base) (cs : List (Str × Addr)) : Means (wK K cs) P wo K mg base "any" (.blt) := m_blt C.c C.X C.G (hm 14)
theorem gl_Stables_arrive_3 (C : Ctx K h mg base) (cs : List (Str × Addr)) : Means (wK K cs) P wo K mg base "len" (.blt) := m_blt C.c C.X C.G (hm 16)
theorem gl_Stables_arrive (C : Ctx K h mg base) (cs : List (Str × Addr)) : ∀ p ∈ c_Stables_arrive.gl, Means (wK K cs) P wo K mg base p.1 p.2 :=
  all_cons (gl_Stables_arrive_0 C cs) (all_cons (gl_Stables_arrive_1 C cs) (all_cons (gl_Stables_arrive_2 C cs) (all_cons (gl_Stables_arrive_3 C cs) (all_nil))))
theorem me_Stables_arrive_0 (C : Ctx K h mg base) (cs : List (Str × Addr)) : MeIs (wK K cs) P wo K mg base me_Stables_horse := m_me (y := "horse") (i := 1) (n := 2) (k := 1) (g := f_Stables_horse) C.c rfl (hm 32) (hm 41) nf_Stables_horse (ok_Stables_horse C cs)
theorem mes_Stables_arrive (C : Ctx K h mg base) (cs : List (Str × Addr)) : ∀ m ∈ c_Stables_arrive.me, MeIs (wK K cs) P wo K mg base m :=
  all_cons (me_Stables_arrive_0 C cs) (all_nil)
theorem ok_Stables_arrive (C : Ctx K h mg base) (cs : List (Str × Addr)) : FnIs (wK K cs) P wo K mg base 5 (c_Stables_arrive.k + 1) f_Stables_arrive (He.fAd K ("Stables", some "arrive")) := by
  obtain ⟨fd, F⟩ := fun_Stables_arrive C
  exact fnIs_D (w := wK K cs) (c := c_Stables_arrive) (b := b_Stables_arrive) rfl F (bnd_Stables_arrive F) sc_Stables_arrive (wok fnm_nd) (gl_Stables_arrive C cs) (mes_Stables_arrive C cs) (fl_ok C cs) rfl rfl (fun _ => ⟨(He.cT K ("Stables", some "arrive")).2, List.mem_of_getElem? (i := 3) rfl, fun z hz => by rw [List.mem_singleton.mp hz]; exact (hne C (List.mem_of_getElem? (i := 3) rfl) (by decide)).symm, (He.cT K ("Stables", some "arrive")).1, tab_gx (C.hT ("Stables", some "arrive") (List.mem_of_getElem? (i := 3) rfl)), code_ref F⟩) rfl t_Stables_arrive e_Stables_arrive rfl rfl (.inl rfl)
theorem sc_Stables_counts : FnScope ["self", "found", "name", "place"] ["self"] (defScope s_Stables_counts) := ⟨rfl, rfl, rfl, by decide +kernel, rfl, by decide +kernel, by decide +kernel⟩
theorem fun_Stables_counts (C : Ctx K h mg base) : ∃ fd, FunD K "counts" "Stables.counts" (defArgs s_Stables_counts) (defBody s_Stables_counts) (defScope s_Stables_counts) [] [] (He.fAd K ("Stables", some "counts")) fd := C.c.defs (d := d_Stables_counts) (List.mem_of_getElem? (i := 9) rfl)
theorem bnd_Stables_counts {fd : FuncData} (F : FunD K "counts" "Stables.counts" (defArgs s_Stables_counts) (defBody s_Stables_counts) (defScope s_Stables_counts) [] [] (He.fAd K ("Stables", some "counts")) fd) : Binds K fd ["self"] [] := FunD.bindsN F fun _ _ _ _ _ _ us hl => match us, hl with | [_], _ => rfl
theorem gl_Stables_counts_0 (C : Ctx K h mg base) (cs : List (Str × Addr)) : Means (wK K cs) P wo K mg base "sorted" (.blt) := m_blt C.c C.X C.G (hm 21)
theorem gl_Stables_counts_1 (C : Ctx K h mg base) (cs : List (Str × Addr)) : Means (wK K cs) P wo K mg base "tuple" (.blt) := m_blt C.c C.X C.G (hm 23)
theorem gl_Stables_counts (C : Ctx K h mg base) (cs : List (Str × Addr)) : ∀ p ∈ c_Stables_counts.gl, Means (wK K cs) P wo K mg base p.1 p.2 :=
  all_cons (gl_Stables_counts_0 C cs) (all_cons (gl_Stables_counts_1 C cs) (all_nil))
theorem mes_Stables_counts (C : Ctx K h mg base) (cs : List (Str × Addr)) : ∀ m ∈ c_Stables_counts.me, MeIs (wK K cs) P wo K mg base m :=
  all_nil
theorem ok_Stables_counts (C : Ctx K h mg base) (cs : List (Str × Addr)) : FnIs (wK K cs) P wo K mg base 1 (c_Stables_counts.k + 1) f_Stables_counts (He.fAd K ("Stables", some "counts")) := by
  obtain ⟨fd, F⟩ := fun_Stables_counts C
  exact fnIs_D (w := wK K cs) (c := c_Stables_counts) (b := b_Stables_counts) rfl F (bnd_Stables_counts F) sc_Stables_counts (wok fnm_nd) (gl_Stables_counts C cs) (mes_Stables_counts C cs) (fl_ok C cs) rfl rfl (fun _ => ⟨(He.cT K ("Stables", some "counts")).2, List.mem_of_getElem? (i := 4) rfl, fun z hz => by rw [List.mem_singleton.mp hz]; exact (hne C (List.mem_of_getElem? (i := 4) rfl) (by decide)).symm, (He.cT K ("Stables", some "counts")).1, tab_gx (C.hT ("Stables", some "counts") (List.mem_of_getElem? (i := 4) rfl)), code_ref F⟩) rfl t_Stables_counts e_Stables_counts rfl rfl (.inr rfl)
theorem sc_Stables_away : FnScope ["self", "name"] ["self"] (defScope s_Stables_away) := ⟨rfl, rfl, rfl, by decide +kernel, rfl, by decide +kernel, by decide +kernel⟩
theorem fun_Stables_away (C : Ctx K h mg base) : ∃ fd, FunD K "away" "Stables.away" (defArgs s_Stables_away) (defBody s_Stables_away) (defScope s_Stables_away) [] [] (He.fAd K ("Stables", some "away")) fd := C.c.defs (d := d_Stables_away) (List.mem_of_getElem? (i := 10) rfl)
theorem bnd_Stables_away {fd : FuncData} (F : FunD K "away" "Stables.away" (defArgs s_Stables_away) (defBody s_Stables_away) (defScope s_Stables_away) [] [] (He.fAd K ("Stables", some "away")) fd) : Binds K fd ["self"] [] := FunD.bindsN F fun _ _ _ _ _ _ us hl => match us, hl with | [_], _ => rfl
theorem gl_Stables_away_0 (C : Ctx K h mg base) (cs : List (Str × Addr)) : Means (wK K cs) P wo K mg base "sorted" (.blt) := m_blt C.c C.X C.G (hm 21)
theorem gl_Stables_away_1 (C : Ctx K h mg base) (cs : List (Str × Addr)) : Means (wK K cs) P wo K mg base "tuple" (.blt) := m_blt C.c C.X C.G (hm 23)
theorem gl_Stables_away (C : Ctx K h mg base) (cs : List (Str × Addr)) : ∀ p ∈ c_Stables_away.gl, Means (wK K cs) P wo K mg base p.1 p.2 :=
  all_cons (gl_Stables_away_0 C cs) (all_cons (gl_Stables_away_1 C cs) (all_nil))
theorem mes_Stables_away (C : Ctx K h mg base) (cs : List (Str × Addr)) : ∀ m ∈ c_Stables_away.me, MeIs (wK K cs) P wo K mg base m :=
  all_nil
theorem ok_Stables_away (C : Ctx K h mg base) (cs : List (Str × Addr)) : FnIs (wK K cs) P wo K mg base 1 (c_Stables_away.k + 1) f_Stables_away (He.fAd K ("Stables", some "away")) := by
  obtain ⟨fd, F⟩ := fun_Stables_away C
  exact fnIs_D (w := wK K cs) (c := c_Stables_away) (b := b_Stables_away) rfl F (bnd_Stables_away F) sc_Stables_away (wok fnm_nd) (gl_Stables_away C cs) (mes_Stables_away C cs) (fl_ok C cs) rfl rfl (fun _ => ⟨(He.cT K ("Stables", some "away")).2, List.mem_of_getElem? (i := 5) rfl, fun z hz => by rw [List.mem_singleton.mp hz]; exact (hne C (List.mem_of_getElem? (i := 5) rfl) (by decide)).symm, (He.cT K ("Stables", some "away")).1, tab_gx (C.hT ("Stables", some "away") (List.mem_of_getElem? (i := 5) rfl)), code_ref F⟩) rfl t_Stables_away e_Stables_away rfl rfl (.inr rfl)
theorem sc_Stables_tiredest : FnScope ["self", "rows", "name"] ["self"] (defScope s_Stables_tiredest) := ⟨rfl, rfl, rfl, by decide +kernel, rfl, by decide +kernel, by decide +kernel⟩
theorem fun_Stables_tiredest (C : Ctx K h mg base) : ∃ fd, FunD K "tiredest" "Stables.tiredest" (defArgs s_Stables_tiredest) (defBody s_Stables_tiredest) (defScope s_Stables_tiredest) [] [] (He.fAd K ("Stables", some "tiredest")) fd := C.c.defs (d := d_Stables_tiredest) (List.mem_of_getElem? (i := 11) rfl)
theorem bnd_Stables_tiredest {fd : FuncData} (F : FunD K "tiredest" "Stables.tiredest" (defArgs s_Stables_tiredest) (defBody s_Stables_tiredest) (defScope s_Stables_tiredest) [] [] (He.fAd K ("Stables", some "tiredest")) fd) : Binds K fd ["self"] [] := FunD.bindsN F fun _ _ _ _ _ _ us hl => match us, hl with | [_], _ => rfl
theorem gl_Stables_tiredest_0 (C : Ctx K h mg base) (cs : List (Str × Addr)) : Means (wK K cs) P wo K mg base "min" (.blt) := m_blt C.c C.X C.G (hm 19)
theorem gl_Stables_tiredest (C : Ctx K h mg base) (cs : List (Str × Addr)) : ∀ p ∈ c_Stables_tiredest.gl, Means (wK K cs) P wo K mg base p.1 p.2 :=
  all_cons (gl_Stables_tiredest_0 C cs) (all_nil)
theorem mes_Stables_tiredest (C : Ctx K h mg base) (cs : List (Str × Addr)) : ∀ m ∈ c_Stables_tiredest.me, MeIs (wK K cs) P wo K mg base m :=
  all_nil
theorem ok_Stables_tiredest (C : Ctx K h mg base) (cs : List (Str × Addr)) : FnIs (wK K cs) P wo K mg base 1 (c_Stables_tiredest.k + 1) f_Stables_tiredest (He.fAd K ("Stables", some "tiredest")) := by
  obtain ⟨fd, F⟩ := fun_Stables_tiredest C
  exact fnIs_D (w := wK K cs) (c := c_Stables_tiredest) (b := b_Stables_tiredest) rfl F (bnd_Stables_tiredest F) sc_Stables_tiredest (wok fnm_nd) (gl_Stables_tiredest C cs) (mes_Stables_tiredest C cs) (fl_ok C cs) rfl rfl (fun z => absurd z (by decide)) rfl t_Stables_tiredest e_Stables_tiredest rfl rfl (.inr rfl)
theorem sc_law_dice : FnScope ["cell"] ["cell"] (defScope s_law_dice) := ⟨rfl, rfl, rfl, by decide +kernel, rfl, by decide +kernel, by decide +kernel⟩
theorem fun_law_dice (C : Ctx K h mg base) : ∃ fd, FunD K "_law_dice" "_law_dice" (defArgs s_law_dice) (defBody s_law_dice) (defScope s_law_dice) [] [] (He.fAd K ("_law_dice", none)) fd := C.c.defs (d := d_law_dice) (List.mem_of_getElem? (i := 12) rfl)
theorem bnd_law_dice {fd : FuncData} (F : FunD K "_law_dice" "_law_dice" (defArgs s_law_dice) (defBody s_law_dice) (defScope s_law_dice) [] [] (He.fAd K ("_law_dice", none)) fd) : Binds K fd ["cell"] [] := FunD.bindsN F fun _ _ _ _ _ _ us hl => match us, hl with | [_], _ => rfl
theorem gl_law_dice_0 (C : Ctx K h mg base) (cs : List (Str × Addr)) : Means (wK K cs) P wo K mg base "abs" (.blt) := m_blt C.c C.X C.G (hm 13)
theorem gl_law_dice_1 (C : Ctx K h mg base) (cs : List (Str × Addr)) : Means (wK K cs) P wo K mg base "int" (.blt) := m_blt C.c C.X C.G (hm 15)
theorem gl_law_dice (C : Ctx K h mg base) (cs : List (Str × Addr)) : ∀ p ∈ c_law_dice.gl, Means (wK K cs) P wo K mg base p.1 p.2 :=
  all_cons (gl_law_dice_0 C cs) (all_cons (gl_law_dice_1 C cs) (all_nil))
theorem mes_law_dice (C : Ctx K h mg base) (cs : List (Str × Addr)) : ∀ m ∈ c_law_dice.me, MeIs (wK K cs) P wo K mg base m :=
  all_nil
theorem ok_law_dice (C : Ctx K h mg base) (cs : List (Str × Addr)) : FnIs (wK K cs) P wo K mg base 1 (c_law_dice.k + 1) f_law_dice (He.fAd K ("_law_dice", none)) := by
  obtain ⟨fd, F⟩ := fun_law_dice C
  exact fnIs_D (w := wK K cs) (c := c_law_dice) (b := b_law_dice) rfl F (bnd_law_dice F) sc_law_dice (wok fnm_nd) (gl_law_dice C cs) (mes_law_dice C cs) (fl_ok C cs) rfl rfl (fun z => absurd z (by decide)) rfl t_law_dice e_law_dice rfl rfl (.inl rfl)
theorem sc_law_roll : FnScope ["dice", "many", "found"] ["dice", "many"] (defScope s_law_roll) := ⟨rfl, rfl, rfl, by decide +kernel, rfl, by decide +kernel, by decide +kernel⟩
theorem fun_law_roll (C : Ctx K h mg base) : ∃ fd, FunD K "_law_roll" "_law_roll" (defArgs s_law_roll) (defBody s_law_roll) (defScope s_law_roll) [] [] (He.fAd K ("_law_roll", none)) fd := C.c.defs (d := d_law_roll) (List.mem_of_getElem? (i := 13) rfl)
theorem bnd_law_roll {fd : FuncData} (F : FunD K "_law_roll" "_law_roll" (defArgs s_law_roll) (defBody s_law_roll) (defScope s_law_roll) [] [] (He.fAd K ("_law_roll", none)) fd) : Binds K fd ["dice", "many"] [] := FunD.bindsN F fun _ _ _ _ _ _ us hl => match us, hl with | [_, _], _ => rfl
theorem gl_law_roll_0 (C : Ctx K h mg base) (cs : List (Str × Addr)) : Means (wK K cs) P wo K mg base "_law_roll" (.fn 2 0 fun _ _ _ => none) := by
  obtain ⟨fd, F⟩ := fun_law_roll C
  exact m_fn C.c C.X C.G (hm 5) ⟨fd, _, F.kp, bnd_law_roll F, fn_self rfl⟩
theorem gl_law_roll_1 (C : Ctx K h mg base) (cs : List (Str × Addr)) : Means (wK K cs) P wo K mg base "int" (.blt) := m_blt C.c C.X C.G (hm 15)
theorem gl_law_roll (C : Ctx K h mg base) (cs : List (Str × Addr)) : ∀ p ∈ c_law_roll.gl, Means (wK K cs) P wo K mg base p.1 p.2 :=
  all_cons (gl_law_roll_0 C cs) (all_cons (gl_law_roll_1 C cs) (all_nil))
theorem mes_law_roll (C : Ctx K h mg base) (cs : List (Str × Addr)) : ∀ m ∈ c_law_roll.me, MeIs (wK K cs) P wo K mg base m :=
  all_nil
theorem ok_law_roll (C : Ctx K h mg base) (cs : List (Str × Addr)) : FnIs (wK K cs) P wo K mg base 2 (c_law_roll.k + 1) f_law_roll (He.fAd K ("_law_roll", none)) := by
  obtain ⟨fd, F⟩ := fun_law_roll C
  exact fnIs_D (w := wK K cs) (c := c_law_roll) (b := b_law_roll) rfl F (bnd_law_roll F) sc_law_roll (wok fnm_nd) (gl_law_roll C cs) (mes_law_roll C cs) (fl_ok C cs) rfl rfl (fun z => absurd z (by decide)) rfl t_law_roll e_law_roll rfl rfl (.inl rfl)
theorem sc_law_rounds : FnScope ["script", "most", "cells", "cell"] ["script", "most"] (defScope s_law_rounds) := ⟨rfl, rfl, rfl, by decide +kernel, rfl, by decide +kernel, by decide +kernel⟩
theorem fun_law_rounds (C : Ctx K h mg base) : ∃ fd, FunD K "_law_rounds" "_law_rounds" (defArgs s_law_rounds) (defBody s_law_rounds) (defScope s_law_rounds) [] [] (He.fAd K ("_law_rounds", none)) fd := C.c.defs (d := d_law_rounds) (List.mem_of_getElem? (i := 14) rfl)
theorem bnd_law_rounds {fd : FuncData} (F : FunD K "_law_rounds" "_law_rounds" (defArgs s_law_rounds) (defBody s_law_rounds) (defScope s_law_rounds) [] [] (He.fAd K ("_law_rounds", none)) fd) : Binds K fd ["script", "most"] [] := FunD.bindsN F fun _ _ _ _ _ _ us hl => match us, hl with | [_, _], _ => rfl
theorem gl_law_rounds_0 (C : Ctx K h mg base) (cs : List (Str × Addr)) : Means (wK K cs) P wo K mg base "_law_dice" (.fn 1 1 f_law_dice) := m_fn C.c C.X C.G (hm 4) (ok_law_dice C cs)
theorem gl_law_rounds (C : Ctx K h mg base) (cs : List (Str × Addr)) : ∀ p ∈ c_law_rounds.gl, Means (wK K cs) P wo K mg base p.1 p.2 :=
  all_cons (gl_law_rounds_0 C cs) (all_nil)
theorem mes_law_rounds (C : Ctx K h mg base) (cs : List (Str × Addr)) : ∀ m ∈ c_law_rounds.me, MeIs (wK K cs) P wo K mg base m :=
  all_nil
theorem ok_law_rounds (C : Ctx K h mg base) (cs : List (Str × Addr)) : FnIs (wK K cs) P wo K mg base 2 (c_law_rounds.k + 1) f_law_rounds (He.fAd K ("_law_rounds", none)) := by
  obtain ⟨fd, F⟩ := fun_law_rounds C
  exact fnIs_D (w := wK K cs) (c := c_law_rounds) (b := b_law_rounds) rfl F (bnd_law_rounds F) sc_law_rounds (wok fnm_nd) (gl_law_rounds C cs) (mes_law_rounds C cs) (fl_ok C cs) rfl rfl (fun z => absurd z (by decide)) rfl t_law_rounds e_law_rounds rfl rfl (.inl rfl)
theorem sc_law_at : FnScope ["own", "place", "rows", "name", "row"] ["own", "place"] (defScope s_law_at) := ⟨rfl, rfl, rfl, by decide +kernel, rfl, by decide +kernel, by decide +kernel⟩
theorem fun_law_at (C : Ctx K h mg base) : ∃ fd, FunD K "_law_at" "_law_at" (defArgs s_law_at) (defBody s_law_at) (defScope s_law_at) [] [] (He.fAd K ("_law_at", none)) fd := C.c.defs (d := d_law_at) (List.mem_of_getElem? (i := 16) rfl)
theorem bnd_law_at {fd : FuncData} (F : FunD K "_law_at" "_law_at" (defArgs s_law_at) (defBody s_law_at) (defScope s_law_at) [] [] (He.fAd K ("_law_at", none)) fd) : Binds K fd ["own", "place"] [] := FunD.bindsN F fun _ _ _ _ _ _ us hl => match us, hl with | [_, _], _ => rfl
theorem gl_law_at_0 (C : Ctx K h mg base) (cs : List (Str × Addr)) : Means (wK K cs) P wo K mg base "int" (.blt) := m_blt C.c C.X C.G (hm 15)
theorem gl_law_at_1 (C : Ctx K h mg base) (cs : List (Str × Addr)) : Means (wK K cs) P wo K mg base "sorted" (.blt) := m_blt C.c C.X C.G (hm 21)
theorem gl_law_at (C : Ctx K h mg base) (cs : List (Str × Addr)) : ∀ p ∈ c_law_at.gl, Means (wK K cs) P wo K mg base p.1 p.2 :=
  all_cons (gl_law_at_0 C cs) (all_cons (gl_law_at_1 C cs) (all_nil))
theorem mes_law_at (C : Ctx K h mg base) (cs : List (Str × Addr)) : ∀ m ∈ c_law_at.me, MeIs (wK K cs) P wo K mg base m :=
  all_nil
theorem ok_law_at (C : Ctx K h mg base) (cs : List (Str × Addr)) : FnIs (wK K cs) P wo K mg base 2 (c_law_at.k + 1) f_law_at (He.fAd K ("_law_at", none)) := by
  obtain ⟨fd, F⟩ := fun_law_at C
  exact fnIs_D (w := wK K cs) (c := c_law_at) (b := b_law_at) rfl F (bnd_law_at F) sc_law_at (wok fnm_nd) (gl_law_at C cs) (mes_law_at C cs) (fl_ok C cs) rfl rfl (fun z => absurd z (by decide)) rfl t_law_at e_law_at rfl rfl (.inr rfl)
theorem sc_law : FnScope ["script", "dice", "stables", "own", "teams", "time", "k", "name", "home", "good", "step", "place", "team", "spot", "miles", "one", "ready", "due", "places", "rows", "bad", "f"] ["script"] (defScope s_law) := ⟨rfl, rfl, rfl, by decide +kernel, rfl, by decide +kernel, by decide +kernel⟩
theorem fun_law (C : Ctx K h mg base) : ∃ fd, FunD K "law" "law" (defArgs s_law) (defBody s_law) (defScope s_law) [] [] (He.fAd K ("law", none)) fd := C.c.defs (d := d_law) (List.mem_of_getElem? (i := 17) rfl)
theorem gl_law_0 (C : Ctx K h mg base) (cs : List (Str × Addr)) : Means (wK K cs) P wo K mg base "REST" (.val (.int 360)) := m_int C.c C.X C.G (hm 10)
theorem gl_law_1 (C : Ctx K h mg base) (cs : List (Str × Addr)) : Means (wK K cs) P wo K mg base "Stables" (.cls 1 1 1 f_Stables_init) := m_cls C.c C.X C.G rfl (hm 3) (hm 39) (ok_Stables_init C cs)
theorem gl_law_2 (C : Ctx K h mg base) (cs : List (Str × Addr)) : Means (wK K cs) P wo K mg base "TEAM" (.val (.int 4)) := m_int C.c C.X C.G (hm 11)
theorem gl_law_3 (C : Ctx K h mg base) (cs : List (Str × Addr)) : Means (wK K cs) P wo K mg base "_law_at" (.fn 2 1 f_law_at) := m_fn C.c C.X C.G (hm 8) (ok_law_at C cs)
theorem gl_law_4 (C : Ctx K h mg base) (cs : List (Str × Addr)) : Means (wK K cs) P wo K mg base "_law_roll" (.fn 2 1 f_law_roll) := m_fn C.c C.X C.G (hm 5) (ok_law_roll C cs)
theorem gl_law_5 (C : Ctx K h mg base) (cs : List (Str × Addr)) : Means (wK K cs) P wo K mg base "_law_rounds" (.fn 2 2 f_law_rounds) := m_fn C.c C.X C.G (hm 6) (ok_law_rounds C cs)
theorem gl_law_6 (C : Ctx K h mg base) (cs : List (Str × Addr)) : Means (wK K cs) P wo K mg base "_law_told" (.told "HorseError" (fun c => decide (c = 3)) 13) := told_law_told C cs
theorem gl_law_7 (C : Ctx K h mg base) (cs : List (Str × Addr)) : Means (wK K cs) P wo K mg base "len" (.blt) := m_blt C.c C.X C.G (hm 16)
theorem gl_law_8 (C : Ctx K h mg base) (cs : List (Str × Addr)) : Means (wK K cs) P wo K mg base "list" (.blt) := m_blt C.c C.X C.G (hm 17)
theorem gl_law_9 (C : Ctx K h mg base) (cs : List (Str × Addr)) : Means (wK K cs) P wo K mg base "max" (.blt) := m_blt C.c C.X C.G (hm 18)
theorem gl_law_10 (C : Ctx K h mg base) (cs : List (Str × Addr)) : Means (wK K cs) P wo K mg base "range" (.blt) := m_blt C.c C.X C.G (hm 20)
theorem gl_law_11 (C : Ctx K h mg base) (cs : List (Str × Addr)) : Means (wK K cs) P wo K mg base "sorted" (.blt) := m_blt C.c C.X C.G (hm 21)
theorem gl_law_12 (C : Ctx K h mg base) (cs : List (Str × Addr)) : Means (wK K cs) P wo K mg base "str" (.blt) := m_blt C.c C.X C.G (hm 22)
theorem gl_law_13 (C : Ctx K h mg base) (cs : List (Str × Addr)) : Means (wK K cs) P wo K mg base "tuple" (.blt) := m_blt C.c C.X C.G (hm 23)
theorem gl_law (C : Ctx K h mg base) (cs : List (Str × Addr)) : ∀ p ∈ c_law.gl, Means (wK K cs) P wo K mg base p.1 p.2 :=
  all_cons (gl_law_0 C cs) (all_cons (gl_law_1 C cs) (all_cons (gl_law_2 C cs) (all_cons (gl_law_3 C cs) (all_cons (gl_law_4 C cs) (all_cons (gl_law_5 C cs) (all_cons (gl_law_6 C cs) (all_cons (gl_law_7 C cs) (all_cons (gl_law_8 C cs) (all_cons (gl_law_9 C cs) (all_cons (gl_law_10 C cs) (all_cons (gl_law_11 C cs) (all_cons (gl_law_12 C cs) (all_cons (gl_law_13 C cs) (all_nil))))))))))))))
theorem me_law_0 (C : Ctx K h mg base) (cs : List (Str × Addr)) : MeIs (wK K cs) P wo K mg base me_Stables_add := m_me (y := "add") (i := 1) (n := 3) (k := 3) (g := f_Stables_add) C.c rfl (hm 32) (hm 40) nf_Stables_add (ok_Stables_add C cs)
theorem me_law_1 (C : Ctx K h mg base) (cs : List (Str × Addr)) : MeIs (wK K cs) P wo K mg base me_Stables_arrive := m_me (y := "arrive") (i := 1) (n := 5) (k := 7) (g := f_Stables_arrive) C.c rfl (hm 32) (hm 46) nf_Stables_arrive (ok_Stables_arrive C cs)
theorem me_law_2 (C : Ctx K h mg base) (cs : List (Str × Addr)) : MeIs (wK K cs) P wo K mg base me_Stables_at := m_me (y := "at") (i := 1) (n := 2) (k := 6) (g := f_Stables_at) C.c rfl (hm 32) (hm 42) nf_Stables_at (ok_Stables_at C cs)
theorem me_law_3 (C : Ctx K h mg base) (cs : List (Str × Addr)) : MeIs (wK K cs) P wo K mg base me_Stables_away := m_me (y := "away") (i := 1) (n := 1) (k := 6) (g := f_Stables_away) C.c rfl (hm 32) (hm 48) nf_Stables_away (ok_Stables_away C cs)
theorem me_law_4 (C : Ctx K h mg base) (cs : List (Str × Addr)) : MeIs (wK K cs) P wo K mg base me_Stables_counts := m_me (y := "counts") (i := 1) (n := 1) (k := 6) (g := f_Stables_counts) C.c rfl (hm 32) (hm 47) nf_Stables_counts (ok_Stables_counts C cs)
theorem me_law_5 (C : Ctx K h mg base) (cs : List (Str × Addr)) : MeIs (wK K cs) P wo K mg base me_Stables_earliest := m_me (y := "earliest") (i := 1) (n := 3) (k := 12) (g := f_Stables_earliest) C.c rfl (hm 32) (hm 44) nf_Stables_earliest (ok_Stables_earliest C cs)
theorem me_law_6 (C : Ctx K h mg base) (cs : List (Str × Addr)) : MeIs (wK K cs) P wo K mg base me_Stables_horse := m_me (y := "horse") (i := 1) (n := 2) (k := 1) (g := f_Stables_horse) C.c rfl (hm 32) (hm 41) nf_Stables_horse (ok_Stables_horse C cs)
theorem me_law_7 (C : Ctx K h mg base) (cs : List (Str × Addr)) : MeIs (wK K cs) P wo K mg base me_Stables_rested := m_me (y := "rested") (i := 1) (n := 3) (k := 12) (g := f_Stables_rested) C.c rfl (hm 32) (hm 43) nf_Stables_rested (ok_Stables_rested C cs)
theorem me_law_8 (C : Ctx K h mg base) (cs : List (Str × Addr)) : MeIs (wK K cs) P wo K mg base me_Stables_take := m_me (y := "take") (i := 1) (n := 3) (k := 13) (g := f_Stables_take) C.c rfl (hm 32) (hm 45) nf_Stables_take (ok_Stables_take C cs)
theorem me_law_9 (C : Ctx K h mg base) (cs : List (Str × Addr)) : MeIs (wK K cs) P wo K mg base me_Stables_tiredest := m_me (y := "tiredest") (i := 1) (n := 1) (k := 1) (g := f_Stables_tiredest) C.c rfl (hm 32) (hm 49) nf_Stables_tiredest (ok_Stables_tiredest C cs)
theorem mes_law (C : Ctx K h mg base) (cs : List (Str × Addr)) : ∀ m ∈ c_law.me, MeIs (wK K cs) P wo K mg base m :=
  all_cons (me_law_0 C cs) (all_cons (me_law_1 C cs) (all_cons (me_law_2 C cs) (all_cons (me_law_3 C cs) (all_cons (me_law_4 C cs) (all_cons (me_law_5 C cs) (all_cons (me_law_6 C cs) (all_cons (me_law_7 C cs) (all_cons (me_law_8 C cs) (all_cons (me_law_9 C cs) (all_nil))))))))))
theorem ok_lawF (C : Ctx K h mg base) {fd : FuncData} (F : FunD K "law" "law" (defArgs s_law) (defBody s_law) (defScope s_law) [] [] (He.fAd K ("law", none)) fd) : FnOk P wo K mg base (L2.CX P wo) (c_law.k + 1) (He.fAd K ("law", none)) fd ["script"] (fun vs H Q E => ∀ cs, spM (wK K cs) 1 f_law vs H Q E) := by
  refine fn_okWE (w := wK K) (c := c_law) (b := b_law) (fun _ => rfl) F sc_law (fun _ => wok fnm_nd) (gl_law C) (mes_law C) (fl_ok C) rfl rfl rfl (fun cdv A outer s H E e => ?_) t_law e_law rfl rfl rfl
  refine lamF (C.hT ("law", none) (List.mem_of_getElem? (i := 6) rfl)) (e ▸ code_ref F) rfl (fun z => ?_) rfl
  have z : (He.cT K ("law", none)).2 ∈ tbs K := z
  simp only [tbs, List.mem_cons, List.not_mem_nil, or_false] at z
  rcases z with z | z | z | z | z | z
  · exact hne C (List.mem_of_getElem? (i := 0) rfl) (by decide) z.symm
  · exact hne C (List.mem_of_getElem? (i := 1) rfl) (by decide) z.symm
  · exact hne C (List.mem_of_getElem? (i := 2) rfl) (by decide) z.symm
  · exact hne C (List.mem_of_getElem? (i := 3) rfl) (by decide) z.symm
  · exact hne C (List.mem_of_getElem? (i := 4) rfl) (by decide) z.symm
  · exact hne C (List.mem_of_getElem? (i := 5) rfl) (by decide) z.symm
end
end K02

end
section
set_option Elab.async false
set_option linter.all false
set_option maxRecDepth 100000
set_option maxHeartbeats 0
/-! the end: the law's statement from the plain law -/
namespace K02
open PySem PySem.Spec PyProof.Rows L2 MP
abbrev lk0 : Lk := fun _ => false
abbrev st0 : Sto := ⟨0, fun _ => none⟩
def Plain : Prop := ∀ ns : List Int, ns.length ≤ 63 → (∀ z ∈ ns, Builtin.Int.intBits z ≤ 1048576) → ∃ μ', f_law [.kl (ns.map .int)] lk0 st0 = some (.ok (.bl true), μ')
theorem rvs_ints {w : Wd} {m : Im} {H : Hp} : ∀ ns : List Int, RVs w m H (ns.map V.int) (ns.map D.int)
  | [] => .nil
  | n :: ns => .cons (.int n) (rvs_ints ns)
theorem entry (hp : Plain) {K : PySem.W.Frag} {H : Hp} {a : Addr} {ns : List Int} (hl : ns.length ≤ 63) (hb : ∀ z ∈ ns, Builtin.Int.intBits z ≤ 1048576) (hT : ∀ p ∈ htf, H (He.cT K p).2 = some (.tbl #[])) (hS : SqL K H a (ns.map V.int)) :
    ∀ cs, spM (wK K cs) 1 f_law [.ref a] H (fun v _ => v = .bl true) fun _ _ _ => False := fun cs => by
  obtain ⟨μ', e⟩ := hp ns hl hb
  have tg : ∀ P ∈ (wK K cs).tb, ∃ p ∈ htf, P = (He.cT K p).2 := fun P h => by
    have h : P ∈ tbs K := h
    simp only [tbs, List.mem_cons, List.not_mem_nil, or_false] at h
    rcases h with h | h | h | h | h | h
    · exact ⟨_, List.mem_of_getElem? (i := 0) rfl, h⟩
    · exact ⟨_, List.mem_of_getElem? (i := 1) rfl, h⟩
    · exact ⟨_, List.mem_of_getElem? (i := 2) rfl, h⟩
    · exact ⟨_, List.mem_of_getElem? (i := 3) rfl, h⟩
    · exact ⟨_, List.mem_of_getElem? (i := 4) rfl, h⟩
    · exact ⟨_, List.mem_of_getElem? (i := 5) rfl, h⟩
  have hmk : ∀ fz : Addr → Prop, (∀ b, fz b → H b ≠ none ∧ ∀ ps, H b ≠ some (.tbl ps)) → (fz a ∨ ∀ H', SqL K H' a (ns.map V.int)) → spM (wK K cs) 1 f_law [.ref a] H (fun v _ => v = .bl true) fun _ _ _ => False := fun fz hf hfa => by
    refine ⟨rfl, ⟨fun _ => none, fz, cs⟩, _, lk0, st0, _, μ', ?_, .cons (.kl hS hfa (rvs_ints ns)) .nil, e, fun v m' H' _ _ r => rv_bl r⟩
    exact {
      cell := fun n c z => by cases z
      inj := fun n n' a z => by cases z
      nx := fun n a z => by cases z
      there := fun n a z => by cases z
      fz := fun b z => ⟨(hf b z).1, fun n y => by cases y⟩
      tab := fun P h => by
        obtain ⟨p, hp, rfl⟩ := tg P h
        exact ⟨_, hT p hp, trivial⟩
      tabq := fun q h => by
        obtain rfl := List.mem_singleton.mp h
        exact ⟨_, hT _ (List.mem_of_getElem? (i := 6) rfl), trivial, fun _ _ z => by cases z⟩
      ioT := fun n a z => by cases z
      fzT := fun b z ps => (hf b z).2 ps }
  rcases hS with hS | hS
  · refine hmk (fun b => b = a) (fun b z => ?_) (.inl rfl)
    subst z
    rcases hS with h | ⟨o, h⟩
    · exact ⟨by rw [h]; simp, fun ps => by rw [h]; simp⟩
    · exact ⟨by rw [h]; simp, fun ps => by rw [h]; simp⟩
  · exact hmk (fun _ => False) (fun _ z => z.elim) (.inr fun _ => .inr hS)
end K02
open PySem PySem.W PySem.Calls PyProof.Rows
theorem k02_of (hp : K02.Plain) : PySem.Challenge.rw_coachstack_k02_horses_that_go_in_turn.Holds := by
  w_on; o_law
  refine HandSHeadRun.head_any (r := OpenLaw.row PySem.Challenge.rw_coachstack_k02_horses_that_go_in_turn) (q := view (OpenLaw.row PySem.Challenge.rw_coachstack_k02_horses_that_go_in_turn).prog [14]) (H := K02.hk) (ob := K02.ob) (M := 3000) (loose := K02.hnames) (d := HandSHeadRun.topDef (OpenLaw.row PySem.Challenge.rw_coachstack_k02_horses_that_go_in_turn).prog 14) (kwd := []) K02.ob_eq
    (by kernel_rfl) (fun s => by kernel_rfl) K02.run (by kernel_rfl) (by kernel_rfl) (by kernel_rfl) (by rfl) (by first | assumption | decide +kernel) (by decide +kernel) ⟨rfl, rfl, rfl, rfl, rfl, by decide +kernel⟩ ?hw ?hc
  case hw => w_witness2
  case hc =>
    refine LamX.walk_ofTsE (l := PySem.Challenge.rw_coachstack_k02_horses_that_go_in_turn) (n := 63) (k := 16) (x := "script") (CX := fun w => L2.CX (PySem.Challenge.rw_coachstack_k02_horses_that_go_in_turn).prog w) rfl (by decide) (by kernel_rfl) ⟨rfl, by decide, by decide⟩ ?F (fun _ _ _ _ _ z => ?_)
    · intro w mg fa h Y G hmg0
      obtain ⟨K, KX, c⟩ := Y
      have hmg : mg ("law" : PySem.Str) = some (.ref fa) := by
        have e : (HandSHeadRun.topDef (OpenLaw.row PySem.Challenge.rw_coachstack_k02_horses_that_go_in_turn).prog 14).name = ("law" : PySem.Str) := by kernel_rfl
        rw [← e]
        exact hmg0
      have e := hmg.symm.trans (He.glo_ok KX G (c.t.d.facts (f := .glo "law") (List.mem_of_getElem? (i := 9) rfl)))
      cases e
      obtain ⟨fd, F⟩ := c.t.d.defs (d := K02.d_law) (List.mem_of_getElem? (i := 17) rfl)
      refine ⟨K, KX, fd, K02.htf.map (He.cT K), (fun vs H Q E => ∀ cs, MP.spM (K02.wK K cs) 1 K02.f_law vs H Q E), ?_, ?_, ?_, fun s v => L2.FunD.bindsA (ps := ["script"]) F (fun _ _ _ _ _ _ us hl => match us, hl with | [_], _ => rfl) s [v] rfl, ?_, fun base hB hN hTB => ?_⟩
      · intro p hp
        obtain ⟨q, hq, rfl⟩ := List.mem_map.mp hp
        exact c.empty q hq
      · intro p hp
        obtain ⟨q, hq, rfl⟩ := List.mem_map.mp hp
        exact c.out q hq
      · intro p hp
        obtain ⟨q, hq, rfl⟩ := List.mem_map.mp hp
        exact PySem.W.codeHd_of_K KX (c.hd q hq)
      · intro H a ns hl hb hT hS
        exact K02.entry hp hl hb (fun p hp => hT _ (List.mem_map_of_mem hp)) hS
      · have C : K02.Ctx K base mg base := ⟨c.t.d, hB, hN, fun p hp => hTB _ (List.mem_map_of_mem hp), c.more⟩
        exact K02.ok_lawF C F
    · obtain ⟨_, _, _, _, _, _, _, _, _, _, _, _, z⟩ := z
      exact z

end
section
set_option Elab.async false
set_option linter.all false
set_option maxRecDepth 100000
set_option maxHeartbeats 4000000
/-! the mirrors of the defs, written out -/
namespace K02
open PySem PyProof.Rows L2 GXP MP
/-! Horse_init: 0 self, 1 name, 2 home -/
def q_Horse_init_12 : MS := asgS (thruG (fldG fd_name.cf fd_name.i (varE 0))) (varE 1)
def q_Horse_init_13 : MS := asgS (thruG (fldG fd_home.cf fd_home.i (varE 0))) (varE 2)
def q_Horse_init_14 : MS := asgS (thruG (fldG fd_place.cf fd_place.i (varE 0))) (varE 2)
def q_Horse_init_15 : MS := asgS (thruG (fldG fd_ready.cf fd_ready.i (varE 0))) (retE (.int 0))
def q_Horse_init_16 : MS := asgS (thruG (fldG fd_miles.cf fd_miles.i (varE 0))) (retE (.int 0))
def k_Horse_init_12 : MS := seqS q_Horse_init_12 (seqS q_Horse_init_13 (seqS q_Horse_init_14 (seqS q_Horse_init_15 (seqS q_Horse_init_16 nxS))))
theorem x_Horse_init : b_Horse_init = k_Horse_init_12 := (e_Horse_init).trans (by kernel_rfl)
/-! Stables_init: 0 self -/
def q_Stables_init_20 : MS := asgS (thruG (fldG fd_horses.cf fd_horses.i (varE 0))) (newE (.dct false []))
def k_Stables_init_20 : MS := seqS q_Stables_init_20 nxS
theorem x_Stables_init : b_Stables_init = k_Stables_init_20 := (e_Stables_init).trans (by kernel_rfl)
/-! Stables_add: 0 self, 1 name, 2 home -/
def q_Stables_add_24 : MS := exS 3
def k_Stables_add_24 : MS := seqS q_Stables_add_24 nxS
def q_Stables_add_23 : MS := ifS (orQ (op2E inD (varE 1) (op1E (fldD fd_horses.cf fd_horses.i) (varE 0))) (op2E eqD (varE 1) (retE (.str [])))) k_Stables_add_24 nxS
def q_Stables_add_25 : MS := asgS (thruG (subG (op1E (fldD fd_horses.cf fd_horses.i) (varE 0)) (varE 1))) (makeE 3 0 f_Horse_init (consA (varE 1) (consA (varE 2) nilA)))
def k_Stables_add_23 : MS := seqS q_Stables_add_23 (seqS q_Stables_add_25 nxS)
theorem x_Stables_add : b_Stables_add = k_Stables_add_23 := (e_Stables_add).trans (by kernel_rfl)
/-! Stables_horse: 0 self, 1 name -/
def q_Stables_horse_29 : MS := exS 3
def k_Stables_horse_29 : MS := seqS q_Stables_horse_29 nxS
def q_Stables_horse_28 : MS := ifS (op2E notInD (varE 1) (op1E (fldD fd_horses.cf fd_horses.i) (varE 0))) k_Stables_horse_29 nxS
def q_Stables_horse_30 : MS := retS (op2E ixD (op1E (fldD fd_horses.cf fd_horses.i) (varE 0)) (varE 1))
def k_Stables_horse_28 : MS := seqS q_Stables_horse_28 (seqS q_Stables_horse_30 nxS)
theorem x_Stables_horse : b_Stables_horse = k_Stables_horse_28 := (e_Stables_horse).trans (by kernel_rfl)
/-! Stables_at: 0 self, 1 place, 2 rows, 3 name, 4 one, 5 home, 6 ready -/
def q_Stables_at_33 : MS := asgS (thruG (nameG 2)) (lstO nilA)
def q_Stables_at_35 : MS := asgS (thruG (nameG 4)) (op2E ixD (op1E (fldD fd_horses.cf fd_horses.i) (varE 0)) (varE 3))
def q_Stables_at_37 : MS := dropS (orE (fun _ _ _ => none) (bmE "list" appN (varE 2) (consA (tupE (consA (ifE (op2E eqD (op1E (fldD fd_home.cf fd_home.i) (varE 4)) (varE 1)) (retE (.int 1)) (retE (.int 0))) (consA (op1E (fldD fd_ready.cf fd_ready.i) (varE 4)) (consA (varE 3) nilA)))) nilA)))
def k_Stables_at_37 : MS := seqS q_Stables_at_37 nxS
def q_Stables_at_36 : MS := ifS (op2E eqD (op1E (fldD fd_place.cf fd_place.i) (varE 4)) (varE 1)) k_Stables_at_37 nxS
def k_Stables_at_35 : MS := seqS q_Stables_at_35 (seqS q_Stables_at_36 nxS)
def q_Stables_at_34 : MS := lockS (op1E (fldD fd_horses.cf fd_horses.i) (varE 0)) (forS (itE (op1E (fldD fd_horses.cf fd_horses.i) (varE 0))) (gbS (nameG 3) k_Stables_at_35))
def q_Stables_at_38 : MS := retS (lockE (calE sortN (consA (varE 2) nilA)) (gxE [5, 6, 3] (itE (calE sortN (consA (varE 2) nilA))) (cTup 3 (cCons (cName 5) (cCons (cName 6) (cCons (cName 3) cNil)))) (retE (.bl true)) (varE 3) stAll [] fnTup))
def k_Stables_at_33 : MS := seqS q_Stables_at_33 (seqS q_Stables_at_34 (seqS q_Stables_at_38 nxS))
theorem x_Stables_at : b_Stables_at = k_Stables_at_33 := (e_Stables_at).trans (by kernel_rfl)
/-! Stables_rested: 0 self, 1 place, 2 time, 3 name -/
def q_Stables_rested_41 : MS := retS (lockE (orE (orE (methE 2 1 f_Stables_at (varE 0) (consA (varE 1) nilA)) (fun _ _ _ => none)) (fun _ _ _ => none)) (gxE [3] (itE (orE (orE (methE 2 1 f_Stables_at (varE 0) (consA (varE 1) nilA)) (fun _ _ _ => none)) (fun _ _ _ => none))) (cName 3) (op2E iLe (op1E (fldD fd_ready.cf fd_ready.i) (op2E ixD (op1E (fldD fd_horses.cf fd_horses.i) (varE 0)) (varE 3))) (varE 2)) (varE 3) stAll [] fnTup))
def k_Stables_rested_41 : MS := seqS q_Stables_rested_41 nxS
theorem x_Stables_rested : b_Stables_rested = k_Stables_rested_41 := (e_Stables_rested).trans (by kernel_rfl)
/-! Stables_earliest: 0 self, 1 place, 2 time, 3 ready, 4 name -/
def q_Stables_earliest_44 : MS := asgS (thruG (nameG 3)) (lockE (orE (orE (methE 2 1 f_Stables_at (varE 0) (consA (varE 1) nilA)) (fun _ _ _ => none)) (fun _ _ _ => none)) (gxE [4] (itE (orE (orE (methE 2 1 f_Stables_at (varE 0) (consA (varE 1) nilA)) (fun _ _ _ => none)) (fun _ _ _ => none))) (cName 4) (retE (.bl true)) (op1E (fldD fd_ready.cf fd_ready.i) (op2E ixD (op1E (fldD fd_horses.cf fd_horses.i) (varE 0)) (varE 4))) stAll [] fnSrt))
def q_Stables_earliest_45 : MS := retS (ifE (op2E iGe (calE lenN (consA (varE 3) nilA)) (retE (.int 4))) (calE (orN max2N (mmN PySem.W.maxD)) (consA (varE 2) (consA (op2E ixD (varE 3) (op2E subD (retE (.int 4)) (retE (.int 1)))) nilA))) (retE .non))
def k_Stables_earliest_44 : MS := seqS q_Stables_earliest_44 (seqS q_Stables_earliest_45 nxS)
theorem x_Stables_earliest : b_Stables_earliest = k_Stables_earliest_44 := (e_Stables_earliest).trans (by kernel_rfl)
/-! Stables_take: 0 self, 1 place, 2 time, 3 team, 4 name -/
def q_Stables_take_48 : MS := asgS (thruG (nameG 3)) (slE (orE (orE (methE 3 1 f_Stables_rested (varE 0) (consA (varE 1) (consA (varE 2) nilA))) (fun _ _ _ => none)) (fun _ _ _ => none)) none (some (retE (.int 4))))
def q_Stables_take_50 : MS := exS 3
def k_Stables_take_50 : MS := seqS q_Stables_take_50 nxS
def q_Stables_take_49 : MS := ifS (op2E iLt (calE lenN (consA (varE 3) nilA)) (retE (.int 4))) k_Stables_take_50 nxS
def q_Stables_take_52 : MS := asgS (thruG (fldG fd_place.cf fd_place.i (op2E ixD (op1E (fldD fd_horses.cf fd_horses.i) (varE 0)) (varE 4)))) (retE .non)
def k_Stables_take_52 : MS := seqS q_Stables_take_52 nxS
def q_Stables_take_51 : MS := lockS (varE 3) (forS (itE (varE 3)) (gbS (nameG 4) k_Stables_take_52))
def q_Stables_take_53 : MS := retS (varE 3)
def k_Stables_take_48 : MS := seqS q_Stables_take_48 (seqS q_Stables_take_49 (seqS q_Stables_take_51 (seqS q_Stables_take_53 nxS)))
theorem x_Stables_take : b_Stables_take = k_Stables_take_48 := (e_Stables_take).trans (by kernel_rfl)
/-! Stables_arrive: 0 self, 1 team, 2 place, 3 time, 4 miles, 5 name, 6 one -/
def q_Stables_arrive_57 : MS := exS 3
def k_Stables_arrive_57 : MS := seqS q_Stables_arrive_57 nxS
def q_Stables_arrive_56 : MS := ifS (orQ (op2E iLt (calE lenN (consA (lockE (varE 1) (dcE false [5] (itE (varE 1)) (cName 5) (retE (.bl true)) (varE 5) (retE (.bl true)))) nilA)) (calE lenN (consA (varE 1) nilA))) (truE (lockE (varE 1) (anyE [3] [5] (itE (varE 1)) (cName 5) (retE (.bl true)) (op2E notN (op1E (fldD fd_place.cf fd_place.i) (orE (orE (methE 2 1 f_Stables_horse (varE 0) (consA (varE 5) nilA)) (fun _ _ _ => none)) (fun _ _ _ => none))) (retE .non)))))) k_Stables_arrive_57 nxS
def q_Stables_arrive_59 : MS := asgS (thruG (nameG 6)) (op2E ixD (op1E (fldD fd_horses.cf fd_horses.i) (varE 0)) (varE 5))
def q_Stables_arrive_60 : MS := asgS (thruG (tupG 2 (consG (fldG fd_place.cf fd_place.i (varE 6)) (consG (fldG fd_ready.cf fd_ready.i (varE 6)) nilG)))) (tupE (consA (varE 2) (consA (op2E addD (varE 3) (retE (.int 360))) nilA)))
def q_Stables_arrive_61 : MS := augF fd_miles.cf fd_miles.i (orOp iAdd sAdd) (varE 6) (varE 4)
def k_Stables_arrive_59 : MS := seqS q_Stables_arrive_59 (seqS q_Stables_arrive_60 (seqS q_Stables_arrive_61 nxS))
def q_Stables_arrive_58 : MS := lockS (varE 1) (forS (itE (varE 1)) (gbS (nameG 5) k_Stables_arrive_59))
def k_Stables_arrive_56 : MS := seqS q_Stables_arrive_56 (seqS q_Stables_arrive_58 nxS)
theorem x_Stables_arrive : b_Stables_arrive = k_Stables_arrive_56 := (e_Stables_arrive).trans (by kernel_rfl)
/-! Stables_counts: 0 self, 1 found, 2 name, 3 place -/
def q_Stables_counts_64 : MS := asgS (thruG (nameG 1)) (newE (.dct false []))
def q_Stables_counts_66 : MS := asgS (thruG (nameG 3)) (op1E (fldD fd_place.cf fd_place.i) (op2E ixD (op1E (fldD fd_horses.cf fd_horses.i) (varE 0)) (varE 2)))
def q_Stables_counts_68 : MS := asgS (thruG (subG (varE 1) (varE 3))) (op2E addD (orE (fun _ _ _ => none) (get2E (varE 1) (varE 3) (retE (.int 0)))) (retE (.int 1)))
def k_Stables_counts_68 : MS := seqS q_Stables_counts_68 nxS
def q_Stables_counts_67 : MS := ifS (op2E notN (varE 3) (retE .non)) k_Stables_counts_68 nxS
def k_Stables_counts_66 : MS := seqS q_Stables_counts_66 (seqS q_Stables_counts_67 nxS)
def q_Stables_counts_65 : MS := lockS (op1E (fldD fd_horses.cf fd_horses.i) (varE 0)) (forS (itE (op1E (fldD fd_horses.cf fd_horses.i) (varE 0))) (gbS (nameG 2) k_Stables_counts_66))
def q_Stables_counts_69 : MS := retS (lockE (calE sortN (consA (varE 1) nilA)) (gxE [3] (itE (calE sortN (consA (varE 1) nilA))) (cName 3) (retE (.bl true)) (tupE (consA (varE 3) (consA (op2E ixD (varE 1) (varE 3)) nilA))) stAll [] fnTup))
def k_Stables_counts_64 : MS := seqS q_Stables_counts_64 (seqS q_Stables_counts_65 (seqS q_Stables_counts_69 nxS))
theorem x_Stables_counts : b_Stables_counts = k_Stables_counts_64 := (e_Stables_counts).trans (by kernel_rfl)
/-! Stables_away: 0 self, 1 name -/
def q_Stables_away_72 : MS := retS (lockE (calE sortN (consA (op1E (fldD fd_horses.cf fd_horses.i) (varE 0)) nilA)) (gxE [1] (itE (calE sortN (consA (op1E (fldD fd_horses.cf fd_horses.i) (varE 0)) nilA))) (cName 1) (op2E neD (op1E (fldD fd_place.cf fd_place.i) (op2E ixD (op1E (fldD fd_horses.cf fd_horses.i) (varE 0)) (varE 1))) (op1E (fldD fd_home.cf fd_home.i) (op2E ixD (op1E (fldD fd_horses.cf fd_horses.i) (varE 0)) (varE 1)))) (varE 1) stAll [] fnTup))
def k_Stables_away_72 : MS := seqS q_Stables_away_72 nxS
theorem x_Stables_away : b_Stables_away = k_Stables_away_72 := (e_Stables_away).trans (by kernel_rfl)
/-! Stables_tiredest: 0 self, 1 rows, 2 name -/
def q_Stables_tiredest_75 : MS := lockS (op1E (fldD fd_horses.cf fd_horses.i) (varE 0)) (setEz 1 (lcE false [2] (itE (op1E (fldD fd_horses.cf fd_horses.i) (varE 0))) (cName 2) (retE (.bl true)) (tupE (consA (op2E subD (retE (.int 0)) (op1E (fldD fd_miles.cf fd_miles.i) (op2E ixD (op1E (fldD fd_horses.cf fd_horses.i) (varE 0)) (varE 2)))) (consA (varE 2) nilA)))))
def q_Stables_tiredest_76 : MS := retS (ifE (op2E neD (varE 1) (lstE nilA)) (op2E ixD (calE (orN min2N (mmN PySem.W.minD)) (consA (varE 1) nilA)) (retE (.int 1))) (retE .non))
def k_Stables_tiredest_75 : MS := seqS q_Stables_tiredest_75 (seqS q_Stables_tiredest_76 nxS)
theorem x_Stables_tiredest : b_Stables_tiredest = k_Stables_tiredest_75 := (e_Stables_tiredest).trans (by kernel_rfl)
/-! law_dice: 0 cell -/
def q_law_dice_80 : MS := retS (lstO (consA (calE absN (consA (varE 0) nilA)) (consA (retE (.int 0)) (consA (retE (.int 2)) nilA))))
def k_law_dice_80 : MS := seqS q_law_dice_80 nxS
def q_law_dice_79 : MS := ifS (chE iLt iLt (op2E subD (retE (.int 0)) (retE (.int 10))) (varE 0) (retE (.int 10))) k_law_dice_80 nxS
def q_law_dice_81 : MS := retS (lstO (consA (varE 0) (consA (op2E addD (retE (.int 1)) (op2E iMod (calE intN (consA (varE 0) nilA)) (retE (.int 1009)))) (consA (calE intN (consA (op2E iGe (varE 0) (op2E iPow (retE (.int 10)) (retE (.int 18)))) nilA)) nilA))))
def k_law_dice_79 : MS := seqS q_law_dice_79 (seqS q_law_dice_81 nxS)
theorem x_law_dice : b_law_dice = k_law_dice_79 := (e_law_dice).trans (by kernel_rfl)
/-! law_roll: 0 dice, 1 many, 2 found -/
def q_law_roll_84 : MS := asgS (thruG (nameG 2)) (op2E iMod (calE intN (consA (op2E ixD (varE 0) (retE (.int 0))) nilA)) (varE 1))
def q_law_roll_85 : MS := asgS (thruG (subG (varE 0) (retE (.int 0)))) (op2E divD (op2E ixD (varE 0) (retE (.int 0))) (varE 1))
def q_law_roll_86 : MS := retS (varE 2)
def k_law_roll_84 : MS := seqS q_law_roll_84 (seqS q_law_roll_85 (seqS q_law_roll_86 nxS))
def q_law_roll_83 : MS := ifS (orQ (op2E eqD (op2E ixD (varE 0) (retE (.int 2))) (retE (.int 2))) (andQ (op2E eqD (op2E ixD (varE 0) (retE (.int 2))) (retE (.int 1))) (op2E iGt (op2E ixD (varE 0) (retE (.int 0))) (retE (.int 0))))) k_law_roll_84 nxS
def q_law_roll_87 : MS := asgS (thruG (subG (varE 0) (retE (.int 2)))) (retE (.int 0))
def q_law_roll_89 : MS := retS (op2E iMod (calE intN (consA (op2E addD (op2E iMul (callE 2 (fun _ _ _ => none) (consA (varE 0) (consA (op2E addD (op2E divD (varE 1) (retE (.int 100000000))) (retE (.int 1))) nilA))) (retE (.int 100000000))) (callE 2 (fun _ _ _ => none) (consA (varE 0) (consA (retE (.int 100000000)) nilA)))) nilA)) (varE 1))
def k_law_roll_89 : MS := seqS q_law_roll_89 nxS
def q_law_roll_88 : MS := ifS (op2E iGt (varE 1) (retE (.int 100000000))) k_law_roll_89 nxS
def q_law_roll_90 : MS := asgS (thruG (subG (varE 0) (retE (.int 0)))) (op2E iMod (calE intN (consA (op2E addD (op2E addD (op2E iMul (op2E ixD (varE 0) (retE (.int 0))) (retE (.int 48271))) (op2E iMul (op2E ixD (varE 0) (retE (.int 1))) (retE (.int 69621)))) (retE (.int 11))) nilA)) (retE (.int 2147483647)))
def q_law_roll_91 : MS := asgS (thruG (subG (varE 0) (retE (.int 1)))) (op2E addD (op2E ixD (varE 0) (retE (.int 1))) (retE (.int 1)))
def q_law_roll_92 : MS := retS (op2E iMod (calE intN (consA (op2E divD (op2E ixD (varE 0) (retE (.int 0))) (retE (.int 7))) nilA)) (varE 1))
def k_law_roll_83 : MS := seqS q_law_roll_83 (seqS q_law_roll_87 (seqS q_law_roll_88 (seqS q_law_roll_90 (seqS q_law_roll_91 (seqS q_law_roll_92 nxS)))))
theorem x_law_roll : b_law_roll = k_law_roll_83 := (e_law_roll).trans (by kernel_rfl)
/-! law_rounds: 0 script, 1 most, 2 cells, 3 cell -/
def q_law_rounds_94 : MS := asgS (thruG (nameG 2)) (slE (varE 0) none (some (varE 1)))
def q_law_rounds_96 : MS := asgS (thruG (nameG 2)) (lstE (consA (retE (.int 0)) nilA))
def k_law_rounds_96 : MS := seqS q_law_rounds_96 nxS
def q_law_rounds_95 : MS := ifS (op2E eqD (varE 2) (lstE nilA)) k_law_rounds_96 nxS
def q_law_rounds_97 : MS := retS (lockE (varE 2) (lcE false [3] (itE (varE 2)) (cName 3) (retE (.bl true)) (callE 1 f_law_dice (consA (varE 3) nilA))))
def k_law_rounds_94 : MS := seqS q_law_rounds_94 (seqS q_law_rounds_95 (seqS q_law_rounds_97 nxS))
theorem x_law_rounds : b_law_rounds = k_law_rounds_94 := (e_law_rounds).trans (by kernel_rfl)
/-! law_at: 0 own, 1 place, 2 rows, 3 name, 4 row -/
def q_law_at_104 : MS := asgS (thruG (nameG 2)) (calE sortN (consA (lockE (varE 0) (lcE false [3] (itE (varE 0)) (cName 3) (op2E eqD (op2E ixD (op2E ixD (varE 0) (varE 3)) (retE (.int 1))) (varE 1)) (tupE (consA (calE intN (consA (op2E eqD (op2E ixD (op2E ixD (varE 0) (varE 3)) (retE (.int 0))) (varE 1)) nilA)) (consA (op2E ixD (op2E ixD (varE 0) (varE 3)) (retE (.int 2))) (consA (varE 3) nilA)))))) nilA))
def q_law_at_105 : MS := retS (lockE (varE 2) (lcE false [4] (itE (varE 2)) (cName 4) (retE (.bl true)) (op2E ixD (varE 4) (retE (.int 2)))))
def k_law_at_104 : MS := seqS q_law_at_104 (seqS q_law_at_105 nxS)
theorem x_law_at : b_law_at = k_law_at_104 := (e_law_at).trans (by kernel_rfl)
/-! law: 0 script, 1 dice, 2 stables, 3 own, 4 teams, 5 time, 6 k, 7 name, 8 home, 9 good, 10 step, 11 place, 12 team, 13 spot, 14 miles, 15 one, 16 ready, 17 due, 18 places, 19 rows, 20 bad, 21 f -/
def q_law_108 : MS := asgS (thruG (tupG 4 (consG (nameG 2) (consG (nameG 3) (consG (nameG 4) (consG (nameG 5) nilG)))))) (tupE (consA (makeE 1 1 f_Stables_init nilA) (consA (newE (.dct false [])) (consA (lstE nilA) (consA (retE (.int 0)) nilA)))))
def q_law_110 : MS := asgS (thruG (tupG 2 (consG (nameG 7) (consG (nameG 8) nilG)))) (tupE (consA (op2E addD (retE (.str [104])) (calE strN (consA (callE 2 f_law_roll (consA (varE 1) (consA (retE (.int 20)) nilA))) nilA))) (consA (op2E ixD (retE (.str [97, 98, 99])) (callE 2 f_law_roll (consA (varE 1) (consA (retE (.int 3)) nilA)))) nilA)))
def q_law_111 : MS := asgS (thruG (nameG 9)) (op2E notInD (varE 7) (varE 3))
def q_law_114 : MS := retS (retE (.bl false))
def k_law_114 : MS := seqS q_law_114 nxS
def q_law_112 : MS := ifS (op2E eqD (op2E eqD (toldE [72, 111, 114, 115, 101, 69, 114, 114, 111, 114] (fun c => decide (c = 3)) (orE (orE (methE 3 1 f_Stables_add (varE 2) (consA (varE 7) (consA (varE 8) nilA))) (fun _ _ _ => none)) (fun _ _ _ => none))) (retE (.str [72, 111, 114, 115, 101, 69, 114, 114, 111, 114]))) (varE 9)) k_law_114 nxS
def q_law_116 : MS := asgS (thruG (subG (varE 3) (varE 7))) (lstO (consA (varE 8) (consA (varE 8) (consA (retE (.int 0)) (consA (retE (.int 0)) nilA)))))
def k_law_116 : MS := seqS q_law_116 nxS
def q_law_115 : MS := ifS (truE (varE 9)) k_law_116 nxS
def k_law_110 : MS := seqS q_law_110 (seqS q_law_111 (seqS q_law_112 (seqS q_law_115 nxS)))
def q_law_109 : MS := lockS noP (forS (rng1E (consA (callE 2 f_law_roll (consA (varE 1) (consA (retE (.int 15)) nilA))) nilA)) (gbS (nameG 6) k_law_110))
def q_law_118 : MS := asgS (thruG (tupG 2 (consG (nameG 5) (consG (nameG 11) nilG)))) (tupE (consA (op2E addD (varE 5) (callE 2 f_law_roll (consA (varE 1) (consA (retE (.int 200)) nilA)))) (consA (op2E ixD (retE (.str [97, 98, 99])) (callE 2 f_law_roll (consA (varE 1) (consA (retE (.int 3)) nilA)))) nilA)))
def q_law_120 : MS := asgS (thruG (nameG 12)) (slE (lockE (callE 2 f_law_at (consA (varE 3) (consA (varE 11) nilA))) (lcE false [7] (itE (callE 2 f_law_at (consA (varE 3) (consA (varE 11) nilA)))) (cName 7) (op2E iLe (op2E ixD (op2E ixD (varE 3) (varE 7)) (retE (.int 2))) (varE 5)) (varE 7))) none (some (retE (.int 4))))
def q_law_123 : MS := retS (retE (.bl false))
def k_law_123 : MS := seqS q_law_123 nxS
def q_law_121 : MS := ifS (op2E neD (toldE [72, 111, 114, 115, 101, 69, 114, 114, 111, 114] (fun c => decide (c = 3)) (orE (orE (methE 3 1 f_Stables_take (varE 2) (consA (varE 11) (consA (varE 5) nilA))) (fun _ _ _ => none)) (fun _ _ _ => none))) (ifE (op2E eqD (calE lenN (consA (varE 12) nilA)) (retE (.int 4))) (calE tupN (consA (varE 12) nilA)) (retE (.str [72, 111, 114, 115, 101, 69, 114, 114, 111, 114])))) k_law_123 nxS
def q_law_125 : MS := asgS (thruG (nameG 4)) (op2E addD (varE 4) (lstE (consA (varE 12) nilA)))
def q_law_127 : MS := asgS (thruG (subG (op2E ixD (varE 3) (varE 7)) (retE (.int 1)))) (retE .non)
def k_law_127 : MS := seqS q_law_127 nxS
def q_law_126 : MS := lockS (varE 12) (forS (itE (varE 12)) (gbS (nameG 7) k_law_127))
def k_law_125 : MS := seqS q_law_125 (seqS q_law_126 nxS)
def q_law_124 : MS := ifS (op2E eqD (calE lenN (consA (varE 12) nilA)) (retE (.int 4))) k_law_125 nxS
def k_law_120 : MS := seqS q_law_120 (seqS q_law_121 (seqS q_law_124 nxS))
def q_law_129 : MS := parS 13 14 (consA (callE 2 f_law_roll (consA (varE 1) (consA (calE lenN (consA (varE 4) nilA)) nilA))) (consA (op2E addD (retE (.int 1)) (callE 2 f_law_roll (consA (varE 1) (consA (retE (.int 30)) nilA)))) nilA))
def q_law_130 : MS := dropS (orE (orE (methE 5 1 f_Stables_arrive (varE 2) (consA (op2E ixD (varE 4) (varE 13)) (consA (varE 11) (consA (varE 5) (consA (varE 14) nilA))))) (fun _ _ _ => none)) (fun _ _ _ => none))
def q_law_132 : MS := asgS (thruG (subG (varE 3) (varE 7))) (lstO (consA (op2E ixD (op2E ixD (varE 3) (varE 7)) (retE (.int 0))) (consA (varE 11) (consA (op2E addD (varE 5) (retE (.int 360))) (consA (op2E addD (op2E ixD (op2E ixD (varE 3) (varE 7)) (retE (.int 3))) (varE 14)) nilA)))))
def k_law_132 : MS := seqS q_law_132 nxS
def q_law_131 : MS := lockS (op2E ixD (varE 4) (varE 13)) (forS (itE (op2E ixD (varE 4) (varE 13))) (gbS (nameG 7) k_law_132))
def q_law_133 : MS := asgS (thruG (nameG 4)) (op2E addD (slE (varE 4) none (some (varE 13))) (slE (varE 4) (some (op2E addD (varE 13) (retE (.int 1)))) none))
def k_law_129 : MS := seqS q_law_129 (seqS q_law_130 (seqS q_law_131 (seqS q_law_133 nxS)))
def q_law_119 : MS := ifS (orQ (op2E eqD (callE 2 f_law_roll (consA (varE 1) (consA (retE (.int 2)) nilA))) (retE (.int 0))) (op2E eqD (varE 4) (lstE nilA))) k_law_120 k_law_129
def q_law_135 : MS := asgS (thruG (nameG 15)) (orE (orE (methE 2 1 f_Stables_horse (varE 2) (consA (varE 7) nilA)) (fun _ _ _ => none)) (fun _ _ _ => none))
def q_law_137 : MS := retS (retE (.bl false))
def k_law_137 : MS := seqS q_law_137 nxS
def q_law_136 : MS := ifS (orQ (op2E neD (lstE (consA (op1E (fldD fd_home.cf fd_home.i) (varE 15)) (consA (op1E (fldD fd_place.cf fd_place.i) (varE 15)) (consA (op1E (fldD fd_ready.cf fd_ready.i) (varE 15)) (consA (op1E (fldD fd_miles.cf fd_miles.i) (varE 15)) nilA))))) (op2E ixD (varE 3) (varE 7))) (op2E neD (op1E (fldD fd_name.cf fd_name.i) (varE 15)) (varE 7))) k_law_137 nxS
def k_law_135 : MS := seqS q_law_135 (seqS q_law_136 nxS)
def q_law_134 : MS := lockS (varE 3) (forS (itE (varE 3)) (gbS (nameG 7) k_law_135))
def q_law_139 : MS := asgS (thruG (nameG 16)) (calE sortN (consA (lockE (varE 3) (lcE false [7] (itE (varE 3)) (cName 7) (op2E eqD (op2E ixD (op2E ixD (varE 3) (varE 7)) (retE (.int 1))) (varE 11)) (op2E ixD (op2E ixD (varE 3) (varE 7)) (retE (.int 2))))) nilA))
def q_law_140 : MS := asgS (thruG (nameG 17)) (ifE (op2E iGt (calE lenN (consA (varE 16) nilA)) (retE (.int 3))) (calE (orN max2N (mmN PySem.W.maxD)) (consA (varE 5) (consA (op2E ixD (varE 16) (retE (.int 3))) nilA))) (retE .non))
def q_law_142 : MS := retS (retE (.bl false))
def k_law_142 : MS := seqS q_law_142 nxS
def q_law_141 : MS := ifS (orQ (op2E neD (calE listN (consA (orE (orE (methE 2 1 f_Stables_at (varE 2) (consA (varE 11) nilA)) (fun _ _ _ => none)) (fun _ _ _ => none)) nilA)) (callE 2 f_law_at (consA (varE 3) (consA (varE 11) nilA)))) (orQ (op2E neD (calE listN (consA (orE (orE (methE 3 1 f_Stables_rested (varE 2) (consA (varE 11) (consA (varE 5) nilA))) (fun _ _ _ => none)) (fun _ _ _ => none)) nilA)) (lockE (callE 2 f_law_at (consA (varE 3) (consA (varE 11) nilA))) (lcE false [7] (itE (callE 2 f_law_at (consA (varE 3) (consA (varE 11) nilA)))) (cName 7) (op2E iLe (op2E ixD (op2E ixD (varE 3) (varE 7)) (retE (.int 2))) (varE 5)) (varE 7)))) (op2E neD (orE (orE (methE 3 1 f_Stables_earliest (varE 2) (consA (varE 11) (consA (varE 5) nilA))) (fun _ _ _ => none)) (fun _ _ _ => none)) (varE 17)))) k_law_142 nxS
def k_law_139 : MS := seqS q_law_139 (seqS q_law_140 (seqS q_law_141 nxS))
def q_law_138 : MS := lockS (retE (.str [97, 98, 99])) (forS (itE (retE (.str [97, 98, 99]))) (gbS (nameG 11) k_law_139))
def q_law_143 : MS := asgS (thruG (nameG 18)) (lockE (varE 3) (lcE false [7] (itE (varE 3)) (cName 7) (retE (.bl true)) (op2E ixD (op2E ixD (varE 3) (varE 7)) (retE (.int 1)))))
def q_law_145 : MS := retS (retE (.bl false))
def k_law_145 : MS := seqS q_law_145 nxS
def q_law_144 : MS := ifS (orQ (op2E neD (calE listN (consA (orE (orE (methE 1 1 f_Stables_counts (varE 2) nilA) (fun _ _ _ => none)) (fun _ _ _ => none)) nilA)) (lockE (retE (.str [97, 98, 99])) (lcE false [11] (itE (retE (.str [97, 98, 99]))) (cName 11) (op2E inD (varE 11) (varE 18)) (tupE (consA (varE 11) (consA (orE (fun _ _ _ => none) (bmE "list" cntN (varE 18) (consA (varE 11) nilA))) nilA)))))) (op2E neD (calE listN (consA (orE (orE (methE 1 1 f_Stables_away (varE 2) nilA) (fun _ _ _ => none)) (fun _ _ _ => none)) nilA)) (calE sortN (consA (lockE (varE 3) (lcE false [7] (itE (varE 3)) (cName 7) (op2E neD (op2E ixD (op2E ixD (varE 3) (varE 7)) (retE (.int 0))) (op2E ixD (op2E ixD (varE 3) (varE 7)) (retE (.int 1)))) (varE 7))) nilA)))) k_law_145 nxS
def q_law_146 : MS := asgS (thruG (nameG 19)) (calE sortN (consA (lockE (varE 3) (lcE false [7] (itE (varE 3)) (cName 7) (retE (.bl true)) (tupE (consA (op1E negD (op2E ixD (op2E ixD (varE 3) (varE 7)) (retE (.int 3)))) (consA (varE 7) nilA))))) nilA))
def q_law_148 : MS := retS (retE (.bl false))
def k_law_148 : MS := seqS q_law_148 nxS
def q_law_147 : MS := ifS (op2E neD (orE (orE (methE 1 1 f_Stables_tiredest (varE 2) nilA) (fun _ _ _ => none)) (fun _ _ _ => none)) (ifE (op2E neD (varE 19) (lstE nilA)) (op2E ixD (op2E ixD (varE 19) (retE (.int 0))) (retE (.int 1))) (retE .non))) k_law_148 nxS
def k_law_118 : MS := seqS q_law_118 (seqS q_law_119 (seqS q_law_134 (seqS q_law_138 (seqS q_law_143 (seqS q_law_144 (seqS q_law_146 (seqS q_law_147 nxS)))))))
def q_law_117 : MS := lockS noP (forS (rng1E (consA (callE 2 f_law_roll (consA (varE 1) (consA (retE (.int 31)) nilA))) nilA)) (gbS (nameG 10) k_law_118))
def k_law_108 : MS := seqS q_law_108 (seqS q_law_109 (seqS q_law_117 nxS))
def q_law_107 : MS := lockS (callE 2 f_law_rounds (consA (varE 0) (consA (retE (.int 1)) nilA))) (forS (itE (callE 2 f_law_rounds (consA (varE 0) (consA (retE (.int 1)) nilA)))) (gbS (nameG 1) k_law_108))
def q_law_149 : MS := asgS (thruG (nameG 2)) (makeE 1 1 f_Stables_init nilA)
def q_law_151 : MS := dropS (orE (orE (methE 3 1 f_Stables_add (varE 2) (consA (op2E addD (retE (.str [104])) (calE strN (consA (varE 6) nilA))) (consA (retE (.str [97])) nilA))) (fun _ _ _ => none)) (fun _ _ _ => none))
def k_law_151 : MS := seqS q_law_151 nxS
def q_law_150 : MS := lockS noP (forS (rng1E (consA (retE (.int 4)) nilA)) (gbS (nameG 6) k_law_151))
def q_law_152 : MS := asgS (thruG (nameG 12)) (orE (orE (methE 3 1 f_Stables_take (varE 2) (consA (retE (.str [97])) (consA (retE (.int 0)) nilA))) (fun _ _ _ => none)) (fun _ _ _ => none))
def q_law_153 : MS := asgS (thruG (nameG 20)) (lstE (consA (retE (.lam 0)) (consA (retE (.lam 1)) (consA (retE (.lam 2)) (consA (retE (.lam 3)) (consA (retE (.lam 4)) nilA))))))
def q_law_161 : MS := retS (retE (.bl false))
def k_law_161 : MS := seqS q_law_161 nxS
def q_law_159 : MS := ifS (orQ (op2E neD (lockE (varE 20) (lcE false [21] (itE (varE 20)) (cName 21) (op2E neD (toldF [21] 21 [72, 111, 114, 115, 101, 69, 114, 114, 111, 114] (fun c => decide (c = 3)) (bmL [(orE (orE (methE 3 1 f_Stables_add (varE 2) (consA (retE (.str [104, 48])) (consA (retE (.str [97])) nilA))) (fun _ _ _ => none)) (fun _ _ _ => none)), (orE (orE (methE 3 1 f_Stables_add (varE 2) (consA (retE (.str [])) (consA (retE (.str [97])) nilA))) (fun _ _ _ => none)) (fun _ _ _ => none)), (orE (orE (methE 2 1 f_Stables_horse (varE 2) (consA (retE (.str [122])) nilA)) (fun _ _ _ => none)) (fun _ _ _ => none)), (orE (orE (methE 3 1 f_Stables_take (varE 2) (consA (retE (.str [97])) (consA (retE (.int 0)) nilA))) (fun _ _ _ => none)) (fun _ _ _ => none)), (orE (orE (methE 5 1 f_Stables_arrive (varE 2) (consA (lstE (consA (retE (.str [122])) nilA)) (consA (retE (.str [97])) (consA (retE (.int 0)) (consA (retE (.int 1)) nilA))))) (fun _ _ _ => none)) (fun _ _ _ => none))])) (retE (.str [72, 111, 114, 115, 101, 69, 114, 114, 111, 114]))) (retE (.int 1)))) (lstE nilA)) (orQ (op2E neD (toldE [72, 111, 114, 115, 101, 69, 114, 114, 111, 114] (fun c => decide (c = 3)) (orE (orE (methE 5 1 f_Stables_arrive (varE 2) (consA (lstE (consA (retE (.str [104, 48])) (consA (retE (.str [104, 48])) nilA))) (consA (retE (.str [97])) (consA (retE (.int 0)) (consA (retE (.int 1)) nilA))))) (fun _ _ _ => none)) (fun _ _ _ => none))) (retE (.str [72, 111, 114, 115, 101, 69, 114, 114, 111, 114]))) (op2E neD (orE (orE (methE 1 1 f_Stables_counts (varE 2) nilA) (fun _ _ _ => none)) (fun _ _ _ => none)) (tupE nilA)))) k_law_161 nxS
def q_law_162 : MS := dropS (orE (orE (methE 5 1 f_Stables_arrive (varE 2) (consA (varE 12) (consA (retE (.str [98])) (consA (retE (.int 50)) (consA (retE (.int 10)) nilA))))) (fun _ _ _ => none)) (fun _ _ _ => none))
def q_law_163 : MS := retS (andE (op2E eqD (toldE [72, 111, 114, 115, 101, 69, 114, 114, 111, 114] (fun c => decide (c = 3)) (orE (orE (methE 5 1 f_Stables_arrive (varE 2) (consA (varE 12) (consA (retE (.str [98])) (consA (retE (.int 50)) (consA (retE (.int 10)) nilA))))) (fun _ _ _ => none)) (fun _ _ _ => none))) (retE (.str [72, 111, 114, 115, 101, 69, 114, 114, 111, 114]))) (andE (op2E eqD (orE (orE (methE 3 1 f_Stables_earliest (varE 2) (consA (retE (.str [98])) (consA (retE (.int 0)) nilA))) (fun _ _ _ => none)) (fun _ _ _ => none)) (retE (.int 410))) (andE (op2E eqD (tupE (consA (retE (.int 360)) (consA (retE (.int 4)) nilA))) (tupE (consA (retE (.int 360)) (consA (retE (.int 4)) nilA)))) (andE (op2E eqD (orE (orE (methE 1 1 f_Stables_tiredest (varE 2) nilA) (fun _ _ _ => none)) (fun _ _ _ => none)) (retE (.str [104, 48]))) (op2E isN (orE (orE (methE 1 1 f_Stables_tiredest (makeE 1 1 f_Stables_init nilA) nilA) (fun _ _ _ => none)) (fun _ _ _ => none)) (retE .non))))))
def k_law_107 : MS := seqS q_law_107 (seqS q_law_149 (seqS q_law_150 (seqS q_law_152 (seqS q_law_153 (seqS q_law_159 (seqS q_law_162 (seqS q_law_163 nxS)))))))
theorem x_law : b_law = k_law_107 := (e_law).trans (by kernel_rfl)
end K02

end
section
set_option Elab.async false
set_option linter.all false
set_option maxRecDepth 100000
set_option maxHeartbeats 1000000
/-! reckoning with mirrors: equations, loops -/
namespace MP
open PySem PyProof.Rows L2 GXP
section
variable {ρ : Fr} {lk : Lk} {μ μ1 μ2 μ3 : Sto} {a b c : ME} {d e x y z : D} {k : D → ME} {ds : List D} {n i : Nat}
theorem put_ce (μ : Sto) (n k : Nat) (c : C) : (μ.put n c).ce k = if k = n then some c else μ.ce k := rfl
@[simp] theorem put_nx (μ : Sto) (n : Nat) (c : C) : (μ.put n c).nx = μ.nx := rfl
theorem add_ce (μ : Sto) (k : Nat) (c : C) : (μ.add c).ce k = if k = μ.nx then some c else μ.ce k := rfl
@[simp] theorem add_nx (μ : Sto) (c : C) : (μ.add c).nx = μ.nx + 1 := rfl
@[simp] theorem put_same (μ : Sto) (n : Nat) (c : C) : (μ.put n c).ce n = some c := if_pos rfl
@[simp] theorem add_same (μ : Sto) (c : C) : (μ.add c).ce μ.nx = some c := if_pos rfl
@[simp] theorem put_put (μ : Sto) (n : Nat) (c d : C) : (μ.put n c).put n d = μ.put n d := by
  unfold Sto.put; congr 1; funext k; simp only; split <;> simp_all
@[simp] theorem add_put (μ : Sto) (c d : C) : (μ.add c).put μ.nx d = μ.add d := by
  unfold Sto.put Sto.add; congr 1; funext k; simp only; split <;> simp_all
theorem put_self {μ : Sto} {n : Nat} {c : C} (h : μ.ce n = some c) : μ.put n c = μ := by
  cases μ; unfold Sto.put; congr 1; funext k; simp only; split
  · rename_i e; rw [e]; exact h.symm
  · rfl
/-! expressions -/
@[simp] theorem v_ret : retE d ρ lk μ = some (.ok d, μ) := rfl
@[simp] theorem v_bind : bindE a k ρ lk μ = match a ρ lk μ with
  | some (.ok d, μ') => k d ρ lk μ'
  | some (.ex c, μ') => some (.ex c, μ')
  | none => none := rfl
@[simp] theorem v_lift {g : Sto → Option D} : liftE g ρ lk μ = match g μ with
  | some d => some (.ok d, μ)
  | none => none := rfl
@[simp] theorem v_op1 {f : Op1} : op1E f a ρ lk μ = match a ρ lk μ with
  | some (.ok d, μ') => (match f μ' d with
    | some d => some (.ok d, μ')
    | none => none)
  | some (.ex c, μ') => some (.ex c, μ')
  | none => none := rfl
@[simp] theorem v_op2 {f : Op2} : op2E f a b ρ lk μ = match a ρ lk μ with
  | some (.ok d, μ') => (match b ρ lk μ' with
    | some (.ok e, μ'') => (match f μ'' d e with
      | some d => some (.ok d, μ'')
      | none => none)
    | some (.ex c, μ'') => some (.ex c, μ'')
    | none => none)
  | some (.ex c, μ') => some (.ex c, μ')
  | none => none := rfl
@[simp] theorem v_vr : varE i ρ lk μ = match getS ρ[i]? with
  | some d => some (.ok d, μ)
  | none => none := rfl
@[simp] theorem v_getS : getS (some (some d)) = some d := rfl
@[simp] theorem v_tru : truE a ρ lk μ = match a ρ lk μ with
  | some (.ok d, μ') => (match (match truD μ' d with
    | some b => some (D.bl b)
    | none => none) with
    | some d => some (.ok d, μ')
    | none => none)
  | some (.ex c, μ') => some (.ex c, μ')
  | none => none := rfl
@[simp] theorem v_if : ifE c a b ρ lk μ = match c ρ lk μ with
  | some (.ok (.bl true), μ') => a ρ lk μ'
  | some (.ok (.bl false), μ') => b ρ lk μ'
  | some (.ex c, μ') => some (.ex c, μ')
  | _ => none := by
  unfold ifE bindE
  split <;> rename_i e <;> (first | rw [e] | rfl | skip)
  rename_i d μ'
  cases d <;> try rfl
  rename_i t
  cases t <;> rfl
@[simp] theorem v_andQ : andQ a b ρ lk μ = match a ρ lk μ with
  | some (.ok (.bl true), μ') => b ρ lk μ'
  | some (.ok (.bl false), μ') => some (.ok (.bl false), μ')
  | some (.ex c, μ') => some (.ex c, μ')
  | _ => none := by unfold andQ; rw [v_if]; rfl
@[simp] theorem v_orQ : orQ a b ρ lk μ = match a ρ lk μ with
  | some (.ok (.bl true), μ') => some (.ok (.bl true), μ')
  | some (.ok (.bl false), μ') => b ρ lk μ'
  | some (.ex c, μ') => some (.ex c, μ')
  | _ => none := by unfold orQ; rw [v_if]; rfl
@[simp] theorem v_not : notE a ρ lk μ = match a ρ lk μ with
  | some (.ok d, μ') => (match (match d with | .bl b => some (D.bl (!b)) | _ => none) with
    | some d => some (.ok d, μ')
    | none => none)
  | some (.ex c, μ') => some (.ex c, μ')
  | none => none := rfl
@[simp] theorem v_andE : andE a b ρ lk μ = match a ρ lk μ with
  | some (.ok d, μ') => (match truD μ' d with
    | some true => b ρ lk μ'
    | some false => some (.ok d, μ')
    | none => none)
  | some (.ex c, μ') => some (.ex c, μ')
  | none => none := rfl
@[simp] theorem v_orV : orV a b ρ lk μ = match a ρ lk μ with
  | some (.ok d, μ') => (match truD μ' d with
    | some true => some (.ok d, μ')
    | some false => b ρ lk μ'
    | none => none)
  | some (.ex c, μ') => some (.ex c, μ')
  | none => none := rfl
@[simp] theorem v_ch {f g : Op2} : chE f g a b c ρ lk μ = match a ρ lk μ with
  | some (.ok x, μ1) => (match b ρ lk μ1 with
    | some (.ok y, μ2) => (match f μ2 x y with
      | some (.bl true) => (match c ρ lk μ2 with
        | some (.ok u, μ3) => (match g μ3 y u with
          | some d => some (.ok d, μ3)
          | none => none)
        | some (.ex c, μ3) => some (.ex c, μ3)
        | none => none)
      | some (.bl false) => some (.ok (.bl false), μ2)
      | _ => none)
    | some (.ex c, μ2) => some (.ex c, μ2)
    | none => none)
  | some (.ex c, μ1) => some (.ex c, μ1)
  | none => none := by
  unfold chE bindE
  cases a ρ lk μ with
  | none => rfl
  | some p =>
    obtain ⟨r, μ1⟩ := p
    cases r with
    | ex c => rfl
    | ok x =>
      simp only
      cases b ρ lk μ1 with
      | none => rfl
      | some p =>
        obtain ⟨r, μ2⟩ := p
        cases r with
        | ex c => rfl
        | ok y =>
          simp only [liftE]
          cases f μ2 x y with
          | none => rfl
          | some z =>
            cases z <;> try rfl
            rename_i t
            cases t <;> rfl
@[simp] theorem v_nilA : nilA ρ lk μ = some (.inl [], μ) := rfl
@[simp] theorem v_consA {t : MA} : consA a t ρ lk μ = match a ρ lk μ with
  | some (.ok d, μ1) => (match t ρ lk μ1 with
    | some (.inl ds, μ2) => some (.inl (d :: ds), μ2)
    | some (.inr c, μ2) => some (.inr c, μ2)
    | none => none)
  | some (.ex c, μ1) => some (.inr c, μ1)
  | none => none := rfl
@[simp] theorem v_bindA {t : MA} {k : List D → ME} : bindA t k ρ lk μ = match t ρ lk μ with
  | some (.inl ds, μ1) => k ds ρ lk μ1
  | some (.inr c, μ1) => some (.ex c, μ1)
  | none => none := rfl
@[simp] theorem v_cal {f : OpN} {t : MA} : calE f t ρ lk μ = match t ρ lk μ with
  | some (.inl ds, μ1) => (match f μ1 ds with
    | some d => some (.ok d, μ1)
    | none => none)
  | some (.inr c, μ1) => some (.ex c, μ1)
  | none => none := rfl
@[simp] theorem v_oe : orE a b ρ lk μ = match a ρ lk μ with
  | some r => some r
  | none => b ρ lk μ := rfl
@[simp] theorem v_call {f : MF} {t : MA} : callE n f t ρ lk μ = match t ρ lk μ with
  | some (.inl ds, μ1) => if ds.length = n then f ds lk μ1 else none
  | some (.inr c, μ1) => some (.ex c, μ1)
  | none => none := by
  unfold callE bindA
  split <;> rename_i e <;> (first | rw [e] | rfl | skip)
  simp only
  split <;> rfl
@[simp] theorem v_meth {f : MF} {t : MA} : methE n i f a t ρ lk μ = match a ρ lk μ with
  | some (.ok d, μ1) => if isC i μ1 d then (match t ρ lk μ1 with
    | some (.inl ds, μ2) => if ds.length + 1 = n then f (d :: ds) lk μ2 else none
    | some (.inr c, μ2) => some (.ex c, μ2)
    | none => none) else none
  | some (.ex c, μ1) => some (.ex c, μ1)
  | none => none := by
  unfold methE bindE
  split <;> rename_i e <;> (first | rw [e] | rfl | skip)
  simp only
  split
  · unfold bindA
    split <;> rename_i e <;> (first | rw [e] | rfl | skip)
    simp only
    split <;> rfl
  · rfl
@[simp] theorem v_make {f : MF} {t : MA} : makeE n i f t ρ lk μ = match t ρ lk μ with
  | some (.inl ds, μ1) => if ds.length + 1 = n then mkEnd μ1.nx (f (.obj μ1.nx :: ds) lk (μ1.add (.ins i []))) else none
  | some (.inr c, μ1) => some (.ex c, μ1)
  | none => none := by
  unfold makeE bindA
  split <;> rename_i e <;> (first | rw [e] | rfl | skip)
  simp only
  split <;> rfl
@[simp] theorem v_new {c : C} : newE c ρ lk μ = some (.ok (.obj μ.nx), μ.add c) := rfl
@[simp] theorem v_lstE {t : MA} : lstE t ρ lk μ = match t ρ lk μ with
  | some (.inl ds, μ1) => (match (if ds.length ≤ 16777216 then some (D.lst ds) else none) with
    | some d => some (.ok d, μ1)
    | none => none)
  | some (.inr c, μ1) => some (.ex c, μ1)
  | none => none := rfl
@[simp] theorem v_tupE {t : MA} : tupE t ρ lk μ = match t ρ lk μ with
  | some (.inl ds, μ1) => (match (if ds.length ≤ 16777216 then some (D.tup ds) else none) with
    | some d => some (.ok d, μ1)
    | none => none)
  | some (.inr c, μ1) => some (.ex c, μ1)
  | none => none := rfl
@[simp] theorem v_lstO {t : MA} : lstO t ρ lk μ = match t ρ lk μ with
  | some (.inl ds, μ1) => if ds.length ≤ 16777216 then some (.ok (.obj μ1.nx), μ1.add (.lst ds)) else none
  | some (.inr c, μ1) => some (.ex c, μ1)
  | none => none := by
  unfold lstO bindA
  split <;> rename_i e <;> (first | rw [e] | rfl | skip)
  simp only
  split <;> rfl
@[simp] theorem v_told {ret : List Nat} {cx : Nat → Bool} : toldE ret cx a ρ lk μ = match a ρ lk μ with
  | some (.ok d, μ') => some (.ok d, μ')
  | some (.ex c, μ') => if cx c then some (.ok (.str ret), μ') else none
  | none => none := rfl
/-! statements -/
@[simp] theorem v_nx : nxS ρ lk μ = some (.nx, ρ, μ) := rfl
@[simp] theorem v_seq {f g : MS} : seqS f g ρ lk μ = match f ρ lk μ with
  | some (.nx, ρ', μ') => g ρ' lk μ'
  | r => r := rfl
@[simp] theorem v_expr {k : D → MS} : exprS a k ρ lk μ = match a ρ lk μ with
  | some (.ok d, μ1) => k d ρ lk μ1
  | some (.ex c, μ1) => some (.ex c, ρ, μ1)
  | none => none := rfl
@[simp] theorem v_drop : dropS a ρ lk μ = match a ρ lk μ with
  | some (.ok d, μ1) => some (.nx, ρ, μ1)
  | some (.ex c, μ1) => some (.ex c, ρ, μ1)
  | none => none := rfl
@[simp] theorem v_retS : retS a ρ lk μ = match a ρ lk μ with
  | some (.ok d, μ1) => some (.ret d, ρ, μ1)
  | some (.ex c, μ1) => some (.ex c, ρ, μ1)
  | none => none := rfl
@[simp] theorem v_ifS {f g : MS} : ifS a f g ρ lk μ = match a ρ lk μ with
  | some (.ok (.bl true), μ1) => f ρ lk μ1
  | some (.ok (.bl false), μ1) => g ρ lk μ1
  | some (.ex c, μ1) => some (.ex c, ρ, μ1)
  | _ => none := by
  unfold ifS exprS
  split <;> rename_i e <;> (first | rw [e] | rfl | skip)
  rename_i d μ'
  cases d <;> try rfl
  rename_i t
  cases t <;> rfl
@[simp] theorem v_setS : setS i a ρ lk μ = match a ρ lk μ with
  | some (.ok d, μ1) => some (.nx, ρ.set i (some d), μ1)
  | some (.ex c, μ1) => some (.ex c, ρ, μ1)
  | none => none := rfl
@[simp] theorem v_const {r : Fl} : constS r ρ lk μ = some (r, ρ, μ) := rfl
@[simp] theorem v_exS : exS n ρ lk μ = some (.ex n, ρ, μ) := rfl
@[simp] theorem v_asg {g : MG} : asgS g a ρ lk μ = match a ρ lk μ with
  | some (.ok d, μ1) => g d ρ lk μ1
  | some (.ex c, μ1) => some (.ex c, ρ, μ1)
  | none => none := rfl
@[simp] theorem v_thru {g : MG} : thruG g d ρ lk μ = match g d ρ lk μ with
  | some (.nx, ρ', μ') => some (.nx, ρ', μ')
  | _ => none := rfl
@[simp] theorem v_nameG : nameG i d ρ lk μ = some (.nx, ρ.set i (some d), μ) := rfl
@[simp] theorem v_fldG {cf : Nat → Bool} {o : ME} : fldG cf i o d ρ lk μ = match o ρ lk μ with
  | some (.ok (.obj n), μ1) => (match insC (μ1.ce n) with
    | some (c, fs) => if cf c && !lk n && decide (fs.length < 1000) then some (.nx, ρ, μ1.put n (.ins c (putFD fs i d))) else none
    | none => none)
  | some (.ex c, μ1) => some (.ex c, ρ, μ1)
  | _ => none := by
  unfold fldG exprS
  split <;> rename_i e <;> (first | rw [e] | rfl | skip)
  rename_i d μ'
  cases d <;> rfl
@[simp] theorem v_subG {o j : ME} : subG o j d ρ lk μ = match o ρ lk μ with
  | some (.ok x, μ1) => (match j ρ lk μ1 with
    | some (.ok y, μ2) => (match putSub lk μ2 x y d with
      | some μ' => some (.nx, ρ, μ')
      | none => none)
    | some (.ex c, μ2) => some (.ex c, ρ, μ2)
    | none => none)
  | some (.ex c, μ1) => some (.ex c, ρ, μ1)
  | none => none := rfl
@[simp] theorem v_nilG : nilG [] ρ lk μ = some (.nx, ρ, μ) := rfl
@[simp] theorem v_consG {g : MG} {t : MGs} : consG g t (d :: ds) ρ lk μ = match g d ρ lk μ with
  | some (.nx, ρ', μ') => t ds ρ' lk μ'
  | r => r := rfl
@[simp] theorem v_tupG {t : MGs} : tupG n t (.tup ds) ρ lk μ = if ds.length = n then t ds ρ lk μ else none := by
  show (if ds.length = n then t ds else fun _ _ _ => none) ρ lk μ = _
  split <;> rfl
@[simp] theorem v_par {j : Nat} {t : MA} : parS i j t ρ lk μ = match t ρ lk μ with
  | some (.inl [x, y], μ1) => some (.nx, (ρ.set i (some x)).set j (some y), μ1)
  | some (.inr c, μ1) => some (.ex c, ρ, μ1)
  | _ => none := rfl
@[simp] theorem v_gb {g : MG} {s : MS} : gbS g s d ρ lk μ = match thruG g d ρ lk μ with
  | some (.nx, ρ', μ') => s ρ' lk μ'
  | r => r := rfl
@[simp] theorem v_itE {z : Option Nat} : itE a z ρ lk μ = match a ρ lk μ with
  | some (.ok d, μ1) => (match walkV z lk μ1 d with
    | some l => some (.inl l, μ1)
    | none => none)
  | some (.ex c, μ1) => some (.inr c, μ1)
  | none => none := rfl
@[simp] theorem v_for {fi : MI} {gb : D → MS} {z : Option Nat} : forS fi gb z ρ lk μ = match fi z ρ lk μ with
  | some (.inl ds, μ1) => loopM gb ds ρ lk μ1
  | some (.inr c, μ1) => some (.ex c, ρ, μ1)
  | none => none := rfl
@[simp] theorem v_lc {ob : Bool} {vs : List Nat} {fi : MI} {tg : CG} {tt te : ME} {z : Option Nat} : lcE ob vs fi tg tt te z ρ lk μ = match fi z ρ lk μ with
  | some (.inl ds, μ1) => (match lcL tg tt te ds 0 (wipeF ρ vs) lk μ1 with
    | some (ys, μ2) => some (lcEnd ob ys μ2)
    | none => none)
  | some (.inr c, μ1) => some (.ex c, μ1)
  | none => none := rfl
@[simp] theorem v_gx {β γ : Type} {vs : List Nat} {fi : MI} {tg : CG} {tt te : ME} {st : Sto → β → D → Option (Sum β γ)} {b0 : β} {fn : Sto → Sum β γ → Option D} {z : Option Nat} : gxE vs fi tg tt te st b0 fn z ρ lk μ = match fi z ρ lk μ with
  | some (.inl ds, μ1) => (match gxL tg tt te st ds b0 (wipeF ρ vs) lk μ1 with
    | some (r, μ2) => (match fn μ2 r with
      | some d => some (.ok d, μ2)
      | none => none)
    | none => none)
  | some (.inr c, μ1) => some (.ex c, μ1)
  | none => none := rfl
@[simp] theorem v_anyE {ns vs : List Nat} {fi : MI} {tg : CG} {tt te : ME} {z : Option Nat} : anyE ns vs fi tg tt te z ρ lk μ = match fi z ρ lk μ with
  | some (.inl ds, μ1) => (match anyL ns tg tt te ds 0 (wipeF ρ vs) lk μ1 with
    | some (.inl b, μ2) => some (.ok (.bl b), μ2)
    | some (.inr c, μ2) => some (.ex c, μ2)
    | none => none)
  | some (.inr c, μ1) => some (.ex c, μ1)
  | none => none := rfl
@[simp] theorem v_dc {ob : Bool} {vs : List Nat} {fi : MI} {tg : CG} {tt tk tv : ME} {z : Option Nat} : dcE ob vs fi tg tt tk tv z ρ lk μ = match fi z ρ lk μ with
  | some (.inl ds, μ1) => (match dcL tg tt tk tv ds [] (wipeF ρ vs) lk μ1 with
    | some (l, μ2) => some (dcEnd ob l μ2)
    | none => none)
  | some (.inr c, μ1) => some (.ex c, μ1)
  | none => none := rfl
@[simp] theorem v_lcEndF {ys : List D} : lcEnd false ys μ = (.ok (.lst ys), μ) := rfl
@[simp] theorem v_lcEndT {ys : List D} : lcEnd true ys μ = (.ok (.obj μ.nx), μ.add (.lst ys)) := rfl
@[simp] theorem v_dcEndF {ys : List (D × D)} : dcEnd false ys μ = (.ok (.dct false ys), μ) := rfl
/-! what is walked -/
/-- nothing of the store is walked -/
theorem lockS_none {s : Option Nat → MS} (h : prb a ρ lk μ = none) : lockS a s ρ lk μ = s none ρ lk μ := by unfold lockS; rw [h]
theorem lockE_none {s : Option Nat → ME} (h : prb a ρ lk μ = none) : lockE a s ρ lk μ = s none ρ lk μ := by unfold lockE; rw [h]
theorem lockS_dct {s : Option Nat → MS} {t : Bool} {l : List (D × D)} {μ' : Sto} (h : a ρ lk μ = some (.ok (.obj n), μ')) (hc : μ.ce n = some (.dct t l)) : lockS a s ρ lk μ = noExS (s (some n) ρ (lkp n lk) μ) := by
  unfold lockS prb; rw [h]; simp only [hc, Option.isSome_some, if_true]
theorem lockE_dct {s : Option Nat → ME} {t : Bool} {l : List (D × D)} {μ' : Sto} (h : a ρ lk μ = some (.ok (.obj n), μ')) (hc : μ.ce n = some (.dct t l)) : lockE a s ρ lk μ = noExE (s (some n) ρ (lkp n lk) μ) := by
  unfold lockE prb; rw [h]; simp only [hc, Option.isSome_some, if_true]
@[simp] theorem lockS_noP {s : Option Nat → MS} : lockS noP s ρ lk μ = s none ρ lk μ := rfl
theorem prb_of {μ' : Sto} (h : a ρ lk μ = some (.ok d, μ')) (hd : ∀ n, d ≠ .obj n) : prb a ρ lk μ = none := by
  unfold prb; rw [h]
  cases d <;> first | rfl | exact absurd rfl (hd _)
theorem prb_ex {μ' : Sto} (h : a ρ lk μ = some (.ex n, μ')) : prb a ρ lk μ = none := by unfold prb; rw [h]
end
/-! ### loops -/
section
variable {lk : Lk} {μ : Sto} {tg : CG} {tt te : ME} {ρ : Fr}
theorem lcL_map {α : Type} (g : α → D) (p : α → Bool) (f : α → D) : ∀ (l : List α) (n : Nat), n + l.length ≤ 16777216 → (∀ a ∈ l, ∃ ρ2, tg (g a) ρ = some ρ2 ∧ tt ρ2 lk μ = some (.ok (.bl (p a)), μ) ∧ (p a = true → te ρ2 lk μ = some (.ok (f a), μ))) →
    lcL tg tt te (l.map g) n ρ lk μ = some ((l.filter p).map f, μ)
  | [], _, _, _ => rfl
  | a :: l, n, hn, h => by
    obtain ⟨ρ2, h1, h2, h3⟩ := h a List.mem_cons_self
    rw [List.length_cons] at hn
    rw [List.map_cons]
    unfold lcL
    rw [h1]
    simp only [h2]
    cases e : p a with
    | false =>
      rw [List.filter_cons_of_neg (by rw [e]; exact Bool.false_ne_true)]
      exact lcL_map g p f l n (by omega) fun b hb => h b (List.mem_cons_of_mem _ hb)
    | true =>
      rw [List.filter_cons_of_pos e]
      simp only [h3 e, if_pos (show n < 16777216 by omega)]
      rw [lcL_map g p f l (n + 1) (by omega) fun b hb => h b (List.mem_cons_of_mem _ hb)]
      rfl
theorem gxL_map {α : Type} (g : α → D) (p : α → Bool) (f : α → D) : ∀ (l : List α) (acc : List D), acc.length + l.length ≤ 16777216 → (∀ a ∈ l, ∃ ρ2, tg (g a) ρ = some ρ2 ∧ tt ρ2 lk μ = some (.ok (.bl (p a)), μ) ∧ (p a = true → te ρ2 lk μ = some (.ok (f a), μ))) →
    gxL tg tt te stAll (l.map g) acc ρ lk μ = some (.inl (acc ++ (l.filter p).map f), μ)
  | [], acc, _, _ => by rw [List.map_nil, List.filter_nil, List.map_nil, List.append_nil]; rfl
  | a :: l, acc, hn, h => by
    obtain ⟨ρ2, h1, h2, h3⟩ := h a List.mem_cons_self
    rw [List.length_cons] at hn
    rw [List.map_cons]
    unfold gxL
    rw [h1]
    simp only [h2]
    cases e : p a with
    | false =>
      rw [List.filter_cons_of_neg (by rw [e]; exact Bool.false_ne_true)]
      exact gxL_map g p f l acc (by omega) fun b hb => h b (List.mem_cons_of_mem _ hb)
    | true =>
      rw [List.filter_cons_of_pos e]
      simp only [h3 e, stAll, if_pos (show acc.length < 16777216 by omega)]
      rw [gxL_map g p f l (acc ++ [f a]) (by rw [List.length_append, List.length_singleton]; omega) fun b hb => h b (List.mem_cons_of_mem _ hb)]
      rw [List.map_cons, List.append_assoc]; rfl
theorem filter_true {α : Type} (l : List α) : l.filter (fun _ => true) = l := List.filter_eq_self.mpr fun _ _ => rfl
theorem lcL_mapT {α : Type} (g : α → D) (f : α → D) (l : List α) (n : Nat) (hn : n + l.length ≤ 16777216) (h : ∀ a ∈ l, ∃ ρ2, tg (g a) ρ = some ρ2 ∧ tt ρ2 lk μ = some (.ok (.bl true), μ) ∧ te ρ2 lk μ = some (.ok (f a), μ)) :
    lcL tg tt te (l.map g) n ρ lk μ = some (l.map f, μ) := by
  have := lcL_map (tg := tg) (tt := tt) (te := te) (ρ := ρ) (lk := lk) (μ := μ) g (fun _ => true) f l n hn fun a ha => let ⟨ρ2, h1, h2, h3⟩ := h a ha; ⟨ρ2, h1, h2, fun _ => h3⟩
  rw [filter_true] at this
  exact this
theorem gxL_mapT {α : Type} (g : α → D) (f : α → D) (l : List α) (acc : List D) (hn : acc.length + l.length ≤ 16777216) (h : ∀ a ∈ l, ∃ ρ2, tg (g a) ρ = some ρ2 ∧ tt ρ2 lk μ = some (.ok (.bl true), μ) ∧ te ρ2 lk μ = some (.ok (f a), μ)) :
    gxL tg tt te stAll (l.map g) acc ρ lk μ = some (.inl (acc ++ l.map f), μ) := by
  have := gxL_map (tg := tg) (tt := tt) (te := te) (ρ := ρ) (lk := lk) (μ := μ) g (fun _ => true) f l acc hn fun a ha => let ⟨ρ2, h1, h2, h3⟩ := h a ha; ⟨ρ2, h1, h2, fun _ => h3⟩
  rw [filter_true] at this
  exact this
/-- a loop by an invariant -/
theorem loopM_inv {gb : D → MS} (I : Nat → Fr → Sto → Prop) : ∀ (ds : List D) (n : Nat) (ρ : Fr) (μ : Sto), (∀ i d ρ μ, ds[i]? = some d → I (n + i) ρ μ → ∃ ρ' μ', gb d ρ lk μ = some (.nx, ρ', μ') ∧ I (n + i + 1) ρ' μ') → I n ρ μ →
    ∃ ρ' μ', loopM gb ds ρ lk μ = some (.nx, ρ', μ') ∧ I (n + ds.length) ρ' μ'
  | [], n, ρ, μ, _, h0 => ⟨ρ, μ, rfl, h0⟩
  | d :: ds, n, ρ, μ, h, h0 => by
    obtain ⟨ρ1, μ1, e1, h1⟩ := h 0 d ρ μ rfl h0
    obtain ⟨ρ2, μ2, e2, h2⟩ := loopM_inv I ds (n + 1) ρ1 μ1 (fun i d ρ μ hd hi => by
      have e : n + 1 + i = n + (i + 1) := by omega
      rw [e] at hi ⊢
      exact h (i + 1) d ρ μ hd hi) h1
    refine ⟨ρ2, μ2, ?_, by have e : n + (d :: ds).length = n + 1 + ds.length := by rw [List.length_cons]; omega
                           rw [e]; exact h2⟩
    unfold loopM
    rw [e1]
    exact e2
/-- a loop over a list's images, that only reads: it does not matter what is left in the frame -/
theorem loopM_pure {α : Type} {gb : D → MS} (g : α → D) (I : Fr → Prop) : ∀ (l : List α) (ρ : Fr), I ρ → (∀ a ∈ l, ∀ ρ, I ρ → ∃ ρ', gb (g a) ρ lk μ = some (.nx, ρ', μ) ∧ I ρ') → ∃ ρ', loopM gb (l.map g) ρ lk μ = some (.nx, ρ', μ) ∧ I ρ'
  | [], ρ, h0, _ => ⟨ρ, rfl, h0⟩
  | a :: l, ρ, h0, h => by
    obtain ⟨ρ1, e1, h1⟩ := h a List.mem_cons_self ρ h0
    obtain ⟨ρ2, e2, h2⟩ := loopM_pure g I l ρ1 h1 fun b hb => h b (List.mem_cons_of_mem _ hb)
    refine ⟨ρ2, ?_, h2⟩
    rw [List.map_cons]
    unfold loopM
    rw [e1]
    exact e2
end
/-! ### dicts by texts -/
theorem lookD_map {α : Type} (nm : α → List Nat) (g : List Nat → D) (n : List Nat) : ∀ l : List α, lookD (l.map fun r => (.str (nm r), g (nm r))) (.str n) = if n ∈ l.map nm then some (g n) else none
  | [] => rfl
  | r :: l => by
    rw [List.map_cons, List.map_cons]
    unfold lookD
    simp only [keq, decide_eq_true_eq, List.mem_cons]
    by_cases e : nm r = n
    · rw [if_pos e, if_pos (.inl e.symm), e]
    · rw [if_neg e, lookD_map nm g n l]
      by_cases h : n ∈ l.map nm
      · rw [if_pos h, if_pos (.inr h)]
      · rw [if_neg h, if_neg (fun z => z.elim (fun z => e z.symm) h)]
theorem mapO_map {α : Type} {β : Type} {f : D → Option β} (g : α → D) (k : α → β) : ∀ l : List α, (∀ a ∈ l, f (g a) = some (k a)) → mapO f (l.map g) = some (l.map k)
  | [], _ => rfl
  | a :: l, h => by
    rw [List.map_cons]
    unfold mapO
    rw [h a List.mem_cons_self, mapO_map g k l fun b hb => h b (List.mem_cons_of_mem _ hb)]
    rfl
end MP

end
section
set_option Elab.async false
set_option linter.all false
set_option maxRecDepth 100000
set_option maxHeartbeats 1000000
/-! k02: the store, words of it -/
namespace K02
open PySem PyProof.Rows L2 GXP MP
structure Ho where
  nm : List Nat
  ho : List Nat
  pl : Option (List Nat)
  re : Int
  mi : Int
def plD : Option (List Nat) → D
  | none => .non
  | some s => .str s
def HF (r : Ho) : C := .ins 0 [(0, .str r.nm), (1, .str r.ho), (2, plD r.pl), (3, .int r.re), (4, .int r.mi)]
def OF (r : Ho) : C := .lst [.str r.ho, plD r.pl, .int r.re, .int r.mi]
def okS (s : List Nat) : Prop := s.length ≤ 1000 ∧ ∀ c ∈ s, c < 1114112
structure Good (r : Ho) : Prop where
  nm : okS r.nm
  ho : okS r.ho
  pl : ∀ s, r.pl = some s → okS s
structure St1 (μ : Sto) (s h : Nat) (hs : List Ho) (la : List Nat → Nat) : Prop where
  st : μ.ce s = some (.ins 1 [(5, .obj h)])
  dc : μ.ce h = some (.dct false (hs.map fun r => (.str r.nm, .obj (la r.nm))))
  ce : ∀ r ∈ hs, μ.ce (la r.nm) = some (HF r)
  inj : ∀ r ∈ hs, ∀ r' ∈ hs, la r.nm = la r'.nm → r.nm = r'.nm
  nd : (hs.map Ho.nm).Nodup
  ok : ∀ r ∈ hs, Good r
  len : hs.length ≤ 1000
/-! texts -/
theorem okS_lay {s : List Nat} (h : okS s) : PyData.canLay0 (.str ⟨s.toArray⟩) = true := by
  simp only [PyData.canLay0, PyData.strOk]
  rw [Array.all_eq_true_iff_forall_mem]
  intro x hx
  exact decide_eq_true (h.2 x (by simpa using hx))
theorem okS_shaped {s : List Nat} (h : okS s) : SeqAt.shaped (.str ⟨s.toArray⟩) = true := by
  unfold SeqAt.shaped
  rw [okS_lay h]; rfl
theorem str_eq {a b : List Nat} : ((⟨a.toArray⟩ : Str) == ⟨b.toArray⟩) = decide (a = b) := by
  by_cases e : a = b
  · subst e; simp
  · rw [decide_eq_false e]
    refine beq_false_of_ne fun z => e ?_
    injection z with z
    simpa using z
def plP : Option (List Nat) → PyData
  | none => .none
  | some s => .str ⟨s.toArray⟩
theorem snap_pl (μ : Sto) (x : Option (List Nat)) : snapD μ (plD x) = some (plP x) := by cases x <;> rfl
theorem shaped_pl {x : Option (List Nat)} (h : ∀ s, x = some s → okS s) : SeqAt.shaped (plP x) = true := by
  cases x with
  | none => rfl
  | some s => exact okS_shaped (h s rfl)
theorem eqv_pl (x y : Option (List Nat)) : PyData.eqv (plP x) (plP y) = decide (x = y) := by
  cases x <;> cases y <;> simp [plP, PyData.eqv, str_eq]
theorem eqD_pl {μ : Sto} {x y : Option (List Nat)} (h : ∀ s, x = some s → okS s) (h' : ∀ s, y = some s → okS s) : eqD μ (plD x) (plD y) = some (.bl (decide (x = y))) := by
  unfold eqD
  rw [snap_pl, snap_pl]
  simp only [shaped_pl h, shaped_pl h', eqv_pl, Bool.and_self, if_true]
theorem neD_pl {μ : Sto} {x y : Option (List Nat)} (h : ∀ s, x = some s → okS s) (h' : ∀ s, y = some s → okS s) : neD μ (plD x) (plD y) = some (.bl (!decide (x = y))) := by
  unfold neD
  rw [snap_pl, snap_pl]
  simp only [shaped_pl h, shaped_pl h', eqv_pl, Bool.and_self, if_true]
theorem okO {s : List Nat} (h : okS s) : ∀ t, some s = some t → okS t := fun t e => by cases e; exact h
theorem eqD_ps {μ : Sto} {x : Option (List Nat)} {y : List Nat} (h : ∀ s, x = some s → okS s) (h' : okS y) : eqD μ (plD x) (.str y) = some (.bl (decide (x = some y))) := eqD_pl h (okO h')
theorem eqD_ss {μ : Sto} {x y : List Nat} (h : okS x) (h' : okS y) : eqD μ (.str x) (.str y) = some (.bl (decide (x = y))) := by
  have := eqD_pl (μ := μ) (okO h) (okO h')
  simpa [plD] using this
theorem neD_ss {μ : Sto} {x y : List Nat} (h : okS x) (h' : okS y) : neD μ (.str x) (.str y) = some (.bl (!decide (x = y))) := by
  have := neD_pl (μ := μ) (okO h) (okO h')
  simpa [plD] using this
theorem okS_nil : okS [] := ⟨Nat.zero_le _, fun _ h => by cases h⟩
/-! the fields -/
section
variable {μ : Sto} {s h l : Nat} {hs : List Ho} {la : List Nat → Nat} {r : Ho}
theorem f_horses (S : St1 μ s h hs la) : fldD fd_horses.cf fd_horses.i μ (.obj s) = some (.obj h) := by
  simp [fldD, insOf, insC, S.st, fd_horses, lookF]
theorem f_name (e : μ.ce l = some (HF r)) : fldD fd_name.cf fd_name.i μ (.obj l) = some (.str r.nm) := by
  simp [fldD, insOf, insC, e, fd_name, lookF, HF]
theorem f_home (e : μ.ce l = some (HF r)) : fldD fd_home.cf fd_home.i μ (.obj l) = some (.str r.ho) := by
  simp [fldD, insOf, insC, e, fd_home, lookF, HF]
theorem f_place (e : μ.ce l = some (HF r)) : fldD fd_place.cf fd_place.i μ (.obj l) = some (plD r.pl) := by
  simp [fldD, insOf, insC, e, fd_place, lookF, HF]
theorem f_ready (e : μ.ce l = some (HF r)) : fldD fd_ready.cf fd_ready.i μ (.obj l) = some (.int r.re) := by
  simp [fldD, insOf, insC, e, fd_ready, lookF, HF]
theorem f_miles (e : μ.ce l = some (HF r)) : fldD fd_miles.cf fd_miles.i μ (.obj l) = some (.int r.mi) := by
  simp [fldD, insOf, insC, e, fd_miles, lookF, HF]
theorem getD_h (S : St1 μ s h hs la) (n : List Nat) : getD μ (.obj h) (.str n) = some (if n ∈ hs.map Ho.nm then some (.obj (la n)) else none) := by
  simp only [getD, dctOf, dctC, S.dc, okKey, toKey, Option.isSome_some, if_true]
  rw [lookD_map (nm := Ho.nm) (g := fun n => D.obj (la n))]
theorem itL_dct {n : Nat} {t : Bool} {l : List (D × D)} (e : μ.ce n = some (.dct t l)) : itL μ (.obj n) = none := by simp [itL, lstOf, e]
theorem ix_h (S : St1 μ s h hs la) {n : List Nat} (hn : n ∈ hs.map Ho.nm) : ixD μ (.obj h) (.str n) = some (.obj (la n)) := by
  unfold ixD orOp
  simp only [ixL, itL_dct S.dc, ixT, itT, ixS, ixDc, getD_h S, if_pos hn]
theorem in_h (S : St1 μ s h hs la) (n : List Nat) : inD μ (.str n) (.obj h) = some (.bl (decide (n ∈ hs.map Ho.nm))) := by
  unfold inD orOp
  simp only [inDc, getD_h S]
  by_cases z : n ∈ hs.map Ho.nm <;> simp [z]
theorem notIn_h (S : St1 μ s h hs la) (n : List Nat) : notInD μ (.str n) (.obj h) = some (.bl (decide (n ∉ hs.map Ho.nm))) := by
  unfold notInD orOp
  simp only [inDc, getD_h S]
  by_cases z : n ∈ hs.map Ho.nm <;> simp [z]
theorem isC_s (S : St1 μ s h hs la) : isC 1 μ (.obj s) = true := by simp [isC, insOf, insC, S.st]
end
/-! horse -/
section
variable {μ : Sto} {s h : Nat} {hs : List Ho} {la : List Nat → Nat} {lk : Lk}
theorem p_horse (S : St1 μ s h hs la) (n : List Nat) : f_Stables_horse [.obj s, .str n] lk μ = if n ∈ hs.map Ho.nm then some (.ok (.obj (la n)), μ) else some (.ex 3, μ) := by
  unfold f_Stables_horse
  rw [x_Stables_horse]
  by_cases hn : n ∈ hs.map Ho.nm
  · simp [mfOf, startF, endF, k_Stables_horse_28, q_Stables_horse_28, q_Stables_horse_30, f_horses S, notIn_h S, ix_h S hn, hn]
  · simp [mfOf, startF, endF, k_Stables_horse_28, k_Stables_horse_29, q_Stables_horse_28, q_Stables_horse_29, q_Stables_horse_30, f_horses S, notIn_h S, hn]
end
end K02

end
section
set_option Elab.async false
set_option linter.all false
set_option maxRecDepth 100000
set_option maxHeartbeats 1000000
/-! k02: at -/
namespace K02
open PySem PyProof.Rows L2 GXP MP
def Wf (μ : Sto) : Prop := ∀ k c, μ.ce k = some c → k < μ.nx
theorem Wf.ne {μ : Sto} (W : Wf μ) {k : Nat} {c : C} (e : μ.ce k = some c) : k ≠ μ.nx := Nat.ne_of_lt (W k c e)
theorem Wf.add {μ : Sto} (W : Wf μ) {k : Nat} {c d : C} (e : μ.ce k = some c) : (μ.add d).ce k = some c := by rw [add_ce, if_neg (W.ne e)]; exact e
theorem Wf.put {μ : Sto} (W : Wf μ) {n : Nat} {c d : C} (e : μ.ce n = some d) : Wf (μ.put n c) := fun k c' h => by
  rw [put_ce] at h
  split at h
  · rename_i z; rw [z]; exact W n d e
  · exact W k c' h
theorem Wf.add' {μ : Sto} (W : Wf μ) {c : C} : Wf (μ.add c) := fun k c' h => by
  rw [add_ce] at h
  split at h
  · rename_i z; rw [z]; exact Nat.lt_succ_self _
  · exact Nat.lt_succ_of_lt (W k c' h)
theorem St1.keep {μ μ' : Sto} {s h : Nat} {hs : List Ho} {la : List Nat → Nat} (S : St1 μ s h hs la) (k : ∀ n c, μ.ce n = some c → μ'.ce n = some c) : St1 μ' s h hs la :=
  ⟨k _ _ S.st, k _ _ S.dc, fun r hr => k _ _ (S.ce r hr), S.inj, S.nd, S.ok, S.len⟩
theorem walk_dct {μ : Sto} {lk : Lk} {n : Nat} {l : List (D × D)} (hl : lk n = true) (e : μ.ce n = some (.dct false l)) : walkV (some n) lk μ (.obj n) = some (l.map Prod.fst) := by
  simp [walkV, itT, hl, e]
def rowD (p : List Nat) (r : Ho) : D := .tup [.int (if r.ho = p then 1 else 0), .int r.re, .str r.nm]
def rowP (p : List Nat) (r : Ho) : PyData := .tuple [.int (if r.ho = p then 1 else 0), .int r.re, .str ⟨r.nm.toArray⟩]
theorem snap_row (μ : Sto) (p : List Nat) (r : Ho) : snapD μ (rowD p r) = some (rowP p r) := rfl
/-- at the place -/
def atP (p : List Nat) (r : Ho) : Bool := decide (r.pl = some p)
/-- the horses at a place as they go -/
def atL (hs : List Ho) (p : List Nat) : List Ho := (hs.filter (atP p)).mergeSort fun a b => PySem.W.dataLe false (rowP p) a b
theorem srtOk_rows (p : List Nat) (l : List Ho) : srtOk (l.map (rowP p)) = true := by
  unfold srtOk alikeB
  simp only [Bool.and_eq_true, List.all_eq_true, List.mem_map, forall_exists_index, and_imp, forall_apply_eq_imp_iff₂, Bool.or_eq_true]
  refine ⟨⟨fun a _ b _ => rfl, .inl fun a _ => rfl⟩, fun a _ => rfl⟩
theorem srtD_map {α : Type} (g : α → D) (k : α → PyData) (l : List α) : srtD (l.map g) (l.map k) = (l.mergeSort fun a b => PySem.W.dataLe false k a b).map g := by
  unfold srtD
  have e : (l.map g).zip (l.map k) = l.map fun a => (g a, k a) := by
    induction l with
    | nil => rfl
    | cons a l ih => rw [List.map_cons, List.map_cons, List.zip_cons_cons, ih]; rfl
  rw [e, ← List.map_mergeSort (f := fun a => (g a, k a)) (r := fun a b => PySem.W.dataLe false k a b) (fun a _ b _ => rfl), List.map_map]
  rfl
theorem sort_rows {μ : Sto} {d : D} {p : List Nat} {l : List Ho} (e : itAny μ d = some (l.map (rowD p))) : sortN μ [d] = some (.lst ((l.mergeSort fun a b => PySem.W.dataLe false (rowP p) a b).map (rowD p))) := by
  unfold sortN
  simp only [e]
  rw [mapO_map (rowD p) (rowP p) l fun a _ => snap_row μ p a]
  simp only [srtOk_rows, if_true]
  rw [srtD_map]
theorem itAny_lst {μ : Sto} {l : List D} : itAny μ (.lst l) = some l := rfl
theorem itAny_obj {μ : Sto} {n : Nat} {l : List D} (e : μ.ce n = some (.lst l)) : itAny μ (.obj n) = some l := by simp [itAny, itL, lstOf, e]
theorem walk_lst {z : Option Nat} {lk : Lk} {μ : Sto} {l : List D} : walkV z lk μ (.lst l) = some l := rfl
theorem walk_tup {z : Option Nat} {lk : Lk} {μ : Sto} {l : List D} : walkV z lk μ (.tup l) = some l := rfl
theorem lowDs_str (n : Nat) (l : List (List Nat)) : lowDs n (l.map .str) = true := by
  induction l with
  | nil => rfl
  | cons a l ih => rw [List.map_cons]; unfold lowDs; rw [ih]; rfl
theorem mem_nm {hs : List Ho} {r : Ho} (h : r ∈ hs) : r.nm ∈ hs.map Ho.nm := List.mem_map_of_mem h
theorem atL_mem {hs : List Ho} {p : List Nat} {r : Ho} (h : r ∈ atL hs p) : r ∈ hs := (List.mem_filter.mp (List.mem_mergeSort.mp h)).1
theorem atL_len (hs : List Ho) (p : List Nat) : (atL hs p).length ≤ hs.length := by
  unfold atL
  rw [List.length_mergeSort]
  exact List.length_filter_le _ _
theorem take_filter_succ {α : Type} (P : α → Bool) {l : List α} {i : Nat} {a : α} (e : l[i]? = some a) : (l.take (i + 1)).filter P = (l.take i).filter P ++ (if P a then [a] else []) := by
  rw [List.take_add_one, e, List.filter_append]
  congr 1
  cases h : P a <;> simp [h]
theorem pure_ok {f : MF} {ds : List D} {lk : Lk} {μ μ' : Sto} {d : D} (h : f ds (allLk μ.nx lk) μ = some (.ok d, μ')) (hl : lowD μ.nx d = true) : pureF f ds lk μ = some (.ok d, μ) := by
  unfold pureF; simp only [h, hl, if_true]
theorem allLk_nx {lk : Lk} {n : Nat} (h : lk n = false) : allLk n lk n = false := by simp [allLk, h]
theorem allLk_lt {lk : Lk} {n k : Nat} (h : k < n) : allLk n lk k = true := by simp [allLk, h]
section
variable {μ : Sto} {s h : Nat} {hs : List Ho} {la : List Nat → Nat} {lk : Lk}
theorem p_at (W : Wf μ) (S : St1 μ s h hs la) {p : List Nat} (hp : okS p) (hlk : lk μ.nx = false) : f_Stables_at [.obj s, .str p] lk μ = some (.ok (.tup ((atL hs p).map fun r => .str r.nm)), μ) := by
  unfold f_Stables_at
  refine pure_ok (μ' := μ.add (.lst ((hs.filter (atP p)).map (rowD p)))) ?_ (by unfold lowD; have := lowDs_str μ.nx ((atL hs p).map Ho.nm); rw [List.map_map] at this; exact this)
  rw [x_Stables_at]
  have hk := allLk_nx hlk
  generalize hlk0 : allLk μ.nx lk = lk0 at hk ⊢
  have hnh : μ.nx ≠ h := (W.ne S.dc).symm
  -- the loop
  have loop : ∃ ρ', loopM (gbS (nameG 3) k_Stables_at_35) (hs.map fun r => D.str r.nm) [some (.obj s), some (.str p), some (.obj μ.nx), none, none, none, none] (lkp h lk0) (μ.add (.lst [])) = some (.nx, ρ', μ.add (.lst ((hs.filter (atP p)).map (rowD p)))) ∧
      ∃ o3 o4 o5 o6, ρ' = [some (.obj s), some (.str p), some (.obj μ.nx), o3, o4, o5, o6] := by
    let I : Nat → Fr → Sto → Prop := fun i ρ μ' => μ' = μ.add (.lst (((hs.take i).filter (atP p)).map (rowD p))) ∧ ∃ o3 o4 o5 o6, ρ = [some (.obj s), some (.str p), some (.obj μ.nx), o3, o4, o5, o6]
    have step : ∀ (i : Nat) (d : D) (ρ : Fr) (μ' : Sto), (hs.map fun r => D.str r.nm)[i]? = some d → I (0 + i) ρ μ' → ∃ ρ' μ'', gbS (nameG 3) k_Stables_at_35 d ρ (lkp h lk0) μ' = some (.nx, ρ', μ'') ∧ I (0 + i + 1) ρ' μ'' := by
      intro i d ρ μ' hd hi
      rw [Nat.zero_add] at hi ⊢
      obtain ⟨rfl, o3, o4, o5, o6, rfl⟩ := hi
      rw [List.getElem?_map] at hd
      obtain ⟨r, hr, rfl⟩ := Option.map_eq_some_iff.mp hd
      have hm : r ∈ hs := List.mem_of_getElem? hr
      have S' : St1 (μ.add (.lst (((hs.take i).filter (atP p)).map (rowD p)))) s h hs la := S.keep fun n c e => W.add e
      have c1 := S'.ce r hm
      have g := S.ok r hm
      have hle : ((hs.take i).filter (atP p)).length < 16777216 := by
        have h1 := List.length_filter_le (atP p) (hs.take i)
        have h2 : (hs.take i).length ≤ hs.length := by rw [List.length_take]; exact Nat.min_le_right _ _
        have := S.len
        omega
      refine ⟨[some (.obj s), some (.str p), some (.obj μ.nx), some (.str r.nm), some (.obj (la r.nm)), o5, o6], _, ?_, rfl, _, _, _, _, rfl⟩
      rw [take_filter_succ (atP p) hr]
      cases hP : atP p r with
      | false =>
        have q1 : ∀ μ, eqD μ (plD r.pl) (.str p) = some (.bl false) := fun μ => by rw [eqD_ps g.pl hp]; exact congrArg (fun b => some (D.bl b)) hP
        simp [k_Stables_at_35, q_Stables_at_35, q_Stables_at_36, f_horses S', ix_h S' (mem_nm hm), f_place c1, q1]
      | true =>
        have q1 : ∀ μ, eqD μ (plD r.pl) (.str p) = some (.bl true) := fun μ => by rw [eqD_ps g.pl hp]; exact congrArg (fun b => some (D.bl b)) hP
        have hlk1 : lkp h lk0 μ.nx = false := by simp [lkp, hk, hnh]
        cases e : decide (r.ho = p) with
        | true =>
          have q2 : ∀ μ, eqD μ (.str r.ho) (.str p) = some (.bl true) := fun μ => by rw [eqD_ss g.ho hp, e]
          have q3 : (if r.ho = p then (1 : Int) else 0) = 1 := if_pos (of_decide_eq_true e)
          simp [k_Stables_at_35, q_Stables_at_35, q_Stables_at_36, k_Stables_at_37, q_Stables_at_37, f_horses S', ix_h S' (mem_nm hm), f_place c1, f_home c1, f_ready c1, q1, q2, q3, bmE, tyD, itL, lstOf, appN, hlk1, hle, rowD]
        | false =>
          have q2 : ∀ μ, eqD μ (.str r.ho) (.str p) = some (.bl false) := fun μ => by rw [eqD_ss g.ho hp, e]
          have q3 : (if r.ho = p then (1 : Int) else 0) = 0 := if_neg (of_decide_eq_false e)
          simp [k_Stables_at_35, q_Stables_at_35, q_Stables_at_36, k_Stables_at_37, q_Stables_at_37, f_horses S', ix_h S' (mem_nm hm), f_place c1, f_home c1, f_ready c1, q1, q2, q3, bmE, tyD, itL, lstOf, appN, hlk1, hle, rowD]
    obtain ⟨ρ', μ', e1, ⟨e2, o3, o4, o5, o6, e3⟩⟩ := loopM_inv I (hs.map fun r => D.str r.nm) 0 [some (.obj s), some (.str p), some (.obj μ.nx), none, none, none, none] (μ.add (.lst [])) step ⟨rfl, _, _, _, _, rfl⟩
    rw [Nat.zero_add, List.length_map, List.take_length] at e2
    subst e2
    exact ⟨ρ', e1, o3, o4, o5, o6, e3⟩
  obtain ⟨ρ', e1, o3, o4, o5, o6, rfl⟩ := loop
  have Sa : St1 (μ.add (.lst [])) s h hs la := S.keep fun n c e => W.add e
  have Sb : St1 (μ.add (.lst ((hs.filter (atP p)).map (rowD p)))) s h hs la := S.keep fun n c e => W.add e
  have q34 : q_Stables_at_34 [some (.obj s), some (.str p), some (.obj μ.nx), none, none, none, none] lk0 (μ.add (.lst [])) = some (.nx, [some (.obj s), some (.str p), some (.obj μ.nx), o3, o4, o5, o6], μ.add (.lst ((hs.filter (atP p)).map (rowD p)))) := by
    unfold q_Stables_at_34
    rw [lockS_dct (n := h) (μ' := μ.add (.lst [])) (by simp [f_horses Sa]) Sa.dc]
    have w := walk_dct (lk := lkp h lk0) (by simp [lkp]) Sa.dc
    rw [List.map_map] at w
    simp only [v_for, v_itE, v_op1, v_vr, List.getElem?_cons_zero, v_getS, f_horses Sa, w]
    have e1' : loopM (gbS (nameG 3) k_Stables_at_35) (hs.map (Prod.fst ∘ fun r => (D.str r.nm, D.obj (la r.nm)))) [some (.obj s), some (.str p), some (.obj μ.nx), none, none, none, none] (lkp h lk0) (μ.add (.lst [])) = _ := e1
    rw [e1']
    rfl
  have srt : sortN (μ.add (.lst ((hs.filter (atP p)).map (rowD p)))) [.obj μ.nx] = some (.lst ((atL hs p).map (rowD p))) := sort_rows (itAny_obj (by simp))
  have q38 : q_Stables_at_38 [some (.obj s), some (.str p), some (.obj μ.nx), o3, o4, o5, o6] lk0 (μ.add (.lst ((hs.filter (atP p)).map (rowD p)))) = some (.ret (.tup ((atL hs p).map fun r => .str r.nm)), [some (.obj s), some (.str p), some (.obj μ.nx), o3, o4, o5, o6], μ.add (.lst ((hs.filter (atP p)).map (rowD p)))) := by
    unfold q_Stables_at_38
    rw [v_retS, lockE_none (prb_of (d := .lst ((atL hs p).map (rowD p))) (by simp [srt]; rfl) (fun n z => by cases z))]
    simp only [v_gx, v_itE, v_cal, v_consA, v_nilA, v_vr, List.getElem?_cons_succ, List.getElem?_cons_zero, v_getS, srt, walk_lst]
    rw [gxL_mapT (rowD p) (fun r => .str r.nm) (atL hs p) [] (by have := atL_len hs p; have := S.len; simp only [List.length_nil]; omega) (fun r hr => ⟨_, by simp [cTup, cCons, cName, cNil, rowD, itT, wipeF]; rfl, rfl, by simp⟩)]
    simp [fnTup]
  simp only [mfOf, startF, k_Stables_at_33, v_seq]
  have q33 : q_Stables_at_33 [some (.obj s), some (.str p), none, none, none, none, none] lk0 μ = some (.nx, [some (.obj s), some (.str p), some (.obj μ.nx), none, none, none, none], μ.add (.lst [])) := by
    unfold q_Stables_at_33; simp
  have e0 : (List.map some [D.obj s, D.str p] ++ List.replicate (7 - [D.obj s, D.str p].length) none) = [some (.obj s), some (.str p), none, none, none, none, none] := rfl
  rw [e0, q33]
  simp only [q34, q38, endF]
end
end K02

end
section
set_option Elab.async false
set_option linter.all false
set_option maxRecDepth 100000
set_option maxHeartbeats 1000000
/-! k02: rested, earliest, away, tiredest -/
namespace K02
open PySem PyProof.Rows L2 GXP MP
/-! sorted -/
def sI (l : List Int) : List Int := l.mergeSort fun a b => decide (a ≤ b)
theorem srtOk_ints (l : List Int) : srtOk (l.map .int) = true := by
  unfold srtOk alikeB
  simp only [Bool.and_eq_true, List.all_eq_true, List.mem_map, forall_exists_index, and_imp, forall_apply_eq_imp_iff₂, Bool.or_eq_true]
  exact ⟨⟨fun a _ b _ => rfl, .inr fun a _ => rfl⟩, fun a _ => rfl⟩
theorem srtD_ints (l : List Int) : srtD (l.map .int) (l.map .int) = (sI l).map .int := by
  rw [srtD_map]
  unfold sI
  rw [PySem.W.dataLe_int (fun a : Int => a)]
theorem mapO_ints (μ : Sto) (l : List Int) : mapO (snapD μ) (l.map .int) = some (l.map .int) := mapO_map (f := snapD μ) D.int PyData.int l fun _ _ => rfl
theorem sort_ints {μ : Sto} {d : D} {l : List Int} (e : itAny μ d = some (l.map .int)) : sortN μ [d] = some (.lst ((sI l).map .int)) := by
  unfold sortN
  simp only [e, mapO_ints, srtOk_ints, srtD_ints, if_true]
theorem fnSrt_ints (μ : Sto) (l : List Int) : fnSrt μ (.inl (l.map .int)) = some (.lst ((sI l).map .int)) := by
  unfold fnSrt
  simp only [mapO_ints, srtOk_ints, srtD_ints, if_true]
theorem sI_len (l : List Int) : (sI l).length = l.length := List.length_mergeSort l
def leN (a b : Ho) : Bool := decide (a.nm ≤ b.nm)
theorem srtOk_nms (l : List Ho) : srtOk (l.map fun r => .str ⟨r.nm.toArray⟩) = true := by
  unfold srtOk alikeB
  simp only [Bool.and_eq_true, List.all_eq_true, List.mem_map, forall_exists_index, and_imp, forall_apply_eq_imp_iff₂, Bool.or_eq_true]
  exact ⟨⟨fun a _ b _ => rfl, .inr fun a _ => rfl⟩, fun a _ => rfl⟩
theorem sort_nms {μ : Sto} {d : D} {l : List Ho} (e : itAny μ d = some (l.map fun r => .str r.nm)) : sortN μ [d] = some (.lst ((l.mergeSort leN).map fun r => .str r.nm)) := by
  unfold sortN
  simp only [e]
  rw [mapO_map (f := snapD μ) (fun r : Ho => D.str r.nm) (fun r => PyData.str ⟨r.nm.toArray⟩) l fun _ _ => rfl]
  simp only [srtOk_nms, if_true]
  rw [srtD_map (fun r : Ho => D.str r.nm) (fun r => PyData.str ⟨r.nm.toArray⟩), PySem.W.dataLe_str (fun r : Ho => (⟨r.nm.toArray⟩ : Str))]
  rfl
/-- the first time at which a team is rested -/
def eaD (l : List Int) (t : Int) : D := match (sI l)[3]? with
  | some x => .int (if x > t then x else t)
  | none => .non
theorem at3 {l : List Int} {x : Int} (e : l[3]? = some x) : atI (l.map D.int) 3 = some (.int x) := by
  have hl : 3 < l.length := (List.getElem?_eq_some_iff.mp e).1
  have e2 : (l.map D.int)[3]? = some (.int x) := by rw [List.getElem?_map, e]; rfl
  unfold atI ixN
  rw [List.length_map, if_pos (by decide), if_pos (by omega)]
  exact e2
section
variable {μ : Sto} {s h : Nat} {hs : List Ho} {la : List Nat → Nat} {lk : Lk}
theorem lowN {n : Nat} (l : List Ho) : lowD n (.tup (l.map fun r => .str r.nm)) = true := by
  unfold lowD; have := lowDs_str n (l.map Ho.nm); rw [List.map_map] at this; exact this
theorem p_rested (W : Wf μ) (S : St1 μ s h hs la) {p : List Nat} {t : Int} (hp : okS p) (hlk : lk μ.nx = false) :
    f_Stables_rested [.obj s, .str p, .int t] lk μ = some (.ok (.tup (((atL hs p).filter fun r => decide (r.re ≤ t)).map fun r => .str r.nm)), μ) := by
  unfold f_Stables_rested
  refine pure_ok (μ' := μ) ?_ (lowN _)
  rw [x_Stables_rested]
  have hk := allLk_nx hlk
  generalize allLk μ.nx lk = lk0 at hk ⊢
  have ca : ∀ o : Option D, (orE (orE (methE 2 1 f_Stables_at (varE 0) (consA (varE 1) nilA)) (fun _ _ _ => none)) (fun _ _ _ => none)) [some (.obj s), some (.str p), some (.int t), o] lk0 μ = some (.ok (.tup ((atL hs p).map fun r => .str r.nm)), μ) := fun o => by
    simp [isC_s S, p_at W S hp hk]
  have e0 : startF 4 [D.obj s, .str p, .int t] = [some (.obj s), some (.str p), some (.int t), none] := rfl
  unfold mfOf
  rw [e0]
  unfold k_Stables_rested_41 q_Stables_rested_41
  rw [v_seq, v_retS, lockE_none (prb_of (ca none) (fun n z => by cases z))]
  simp only [v_gx, v_itE, ca, walk_tup]
  rw [gxL_map (fun r : Ho => D.str r.nm) (fun r => decide (r.re ≤ t)) (fun r => .str r.nm) (atL hs p) [] (by have := atL_len hs p; have := S.len; simp only [List.length_nil]; omega) (fun r hr => ⟨[some (.obj s), some (.str p), some (.int t), some (.str r.nm)], rfl, by
    have hm := atL_mem hr
    simp [f_horses S, ix_h S (mem_nm hm), f_ready (S.ce r hm), iLe, opII], fun _ => by simp⟩)]
  simp [fnTup, endF]
theorem p_earliest (W : Wf μ) (S : St1 μ s h hs la) {p : List Nat} {t : Int} (hp : okS p) (hlk : lk μ.nx = false) :
    f_Stables_earliest [.obj s, .str p, .int t] lk μ = some (.ok (eaD ((atL hs p).map Ho.re) t), μ) := by
  unfold f_Stables_earliest
  refine pure_ok (μ' := μ) ?_ (by unfold eaD; split <;> rfl)
  rw [x_Stables_earliest]
  have hk := allLk_nx hlk
  generalize allLk μ.nx lk = lk0 at hk ⊢
  have ca : ∀ o o' : Option D, (orE (orE (methE 2 1 f_Stables_at (varE 0) (consA (varE 1) nilA)) (fun _ _ _ => none)) (fun _ _ _ => none)) [some (.obj s), some (.str p), some (.int t), o, o'] lk0 μ = some (.ok (.tup ((atL hs p).map fun r => .str r.nm)), μ) := fun o o' => by
    simp [isC_s S, p_at W S hp hk]
  have e0 : startF 5 [D.obj s, .str p, .int t] = [some (.obj s), some (.str p), some (.int t), none, none] := rfl
  unfold mfOf
  rw [e0]
  have q44 : q_Stables_earliest_44 [some (.obj s), some (.str p), some (.int t), none, none] lk0 μ = some (.nx, [some (.obj s), some (.str p), some (.int t), some (.lst ((sI ((atL hs p).map Ho.re)).map .int)), none], μ) := by
    unfold q_Stables_earliest_44
    rw [v_asg, lockE_none (prb_of (ca none none) (fun n z => by cases z))]
    simp only [v_gx, v_itE, ca, walk_tup]
    rw [gxL_mapT (fun r : Ho => D.str r.nm) (fun r => .int r.re) (atL hs p) [] (by have := atL_len hs p; have := S.len; simp only [List.length_nil]; omega) (fun r hr => ⟨[some (.obj s), some (.str p), some (.int t), none, some (.str r.nm)], rfl, rfl, by
      have hm := atL_mem hr
      simp [f_horses S, ix_h S (mem_nm hm), f_ready (S.ce r hm)]⟩)]
    have e := fnSrt_ints μ ((atL hs p).map Ho.re)
    rw [List.map_map] at e
    have e' : fnSrt μ (.inl ([] ++ (atL hs p).map fun r => .int r.re)) = _ := e
    simp only [e', v_thru, v_nameG]
    rfl
  unfold k_Stables_earliest_44
  rw [v_seq, q44]
  simp only [v_seq]
  generalize hl : sI ((atL hs p).map Ho.re) = l
  have q45 : q_Stables_earliest_45 [some (.obj s), some (.str p), some (.int t), some (.lst (l.map .int)), none] lk0 μ = some (.ret (match l[3]? with | some x => .int (if x > t then x else t) | none => .non), [some (.obj s), some (.str p), some (.int t), some (.lst (l.map .int)), none], μ) := by
    unfold q_Stables_earliest_45
    cases e : l[3]? with
    | none =>
      have hl3 : l.length ≤ 3 := List.getElem?_eq_none_iff.mp e
      have c : decide ((4 : Int) ≤ (l.length : Int)) = false := decide_eq_false (by omega)
      simp [lenN, itL, iGe, opII, c]
    | some x =>
      have hl3 : 3 < l.length := (List.getElem?_eq_some_iff.mp e).1
      have c : decide ((4 : Int) ≤ (l.length : Int)) = true := decide_eq_true (by omega)
      have z : subD μ (.int 4) (.int 1) = some (.int 3) := rfl
      simp [lenN, itL, iGe, opII, c, z, ixD, orOp, ixL, ixA, at3 e, orN, max2N]
  rw [q45]
  simp only [endF, eaD, hl]
def awP (r : Ho) : Bool := !decide (r.pl = some r.ho)
theorem p_away (S : St1 μ s h hs la) : f_Stables_away [.obj s] lk μ = some (.ok (.tup (((hs.mergeSort leN).filter awP).map fun r => .str r.nm)), μ) := by
  unfold f_Stables_away
  refine pure_ok (μ' := μ) ?_ (lowN _)
  rw [x_Stables_away]
  generalize allLk μ.nx lk = lk0
  have it : itAny μ (.obj h) = some (hs.map fun r => .str r.nm) := by simp [itAny, itL_dct S.dc, itT, dctOf, dctC, S.dc]
  have ca : ∀ o : Option D, (calE sortN (consA (op1E (fldD fd_horses.cf fd_horses.i) (varE 0)) nilA)) [some (.obj s), o] lk0 μ = some (.ok (.lst ((hs.mergeSort leN).map fun r => .str r.nm)), μ) := fun o => by
    simp [f_horses S, sort_nms it]
  have e0 : startF 2 [D.obj s] = [some (.obj s), none] := rfl
  unfold mfOf
  rw [e0]
  unfold k_Stables_away_72 q_Stables_away_72
  rw [v_seq, v_retS, lockE_none (prb_of (ca none) (fun n z => by cases z))]
  simp only [v_gx, v_itE, ca, walk_lst]
  rw [gxL_map (fun r : Ho => D.str r.nm) awP (fun r => .str r.nm) (hs.mergeSort leN) [] (by rw [List.length_mergeSort]; have := S.len; simp only [List.length_nil]; omega) (fun r hr => ⟨[some (.obj s), some (.str r.nm)], rfl, by
    have hm := List.mem_mergeSort.mp hr
    have g := S.ok r hm
    have q : neD μ (plD r.pl) (.str r.ho) = some (.bl (awP r)) := neD_pl (y := some r.ho) g.pl (okO g.ho)
    simp [f_horses S, ix_h S (mem_nm hm), f_place (S.ce r hm), f_home (S.ce r hm), q], fun _ => by simp⟩)]
  simp [fnTup, endF]
end
end K02

end
section
set_option Elab.async false
set_option linter.all false
set_option maxRecDepth 100000
set_option maxHeartbeats 1000000
/-! k02: tiredest, counts -/
namespace K02
open PySem PyProof.Rows L2 GXP MP
/-! shapes -/
theorem lay_map {α : Type} (k : α → PyData) : ∀ l : List α, (∀ a ∈ l, PyData.canLay0 (k a) = true) → PyData.canLayAll0 (l.map k) = true
  | [], _ => rfl
  | a :: l, h => by
    rw [List.map_cons]
    simp only [PyData.canLayAll0, h a List.mem_cons_self, lay_map k l fun b hb => h b (List.mem_cons_of_mem _ hb), Bool.and_self]
theorem depth_map {α : Type} (k : α → PyData) (n : Nat) : ∀ l : List α, (∀ a ∈ l, PyData.depth (k a) ≤ n) → PyData.depthAll (l.map k) ≤ n
  | [], _ => by simp [PyData.depthAll]
  | a :: l, h => by
    rw [List.map_cons]
    have h1 := h a List.mem_cons_self
    have h2 := depth_map k n l fun b hb => h b (List.mem_cons_of_mem _ hb)
    simp only [PyData.depthAll]
    omega
theorem shaped_map {α : Type} (k : α → PyData) (l : List α) (h : ∀ a ∈ l, PyData.canLay0 (k a) = true ∧ PyData.depth (k a) ≤ 60) : SeqAt.shaped (.list (l.map k)) = true := by
  unfold SeqAt.shaped
  have h1 := lay_map k l fun a ha => (h a ha).1
  have h2 := depth_map k 60 l fun a ha => (h a ha).2
  refine Bool.and_eq_true_iff.mpr ⟨h1, decide_eq_true ?_⟩
  show PyData.depthAll (l.map k) + 1 ≤ 64
  omega
/-- a list and none -/
theorem ne_nil {μ : Sto} {α : Type} (g : α → D) (k : α → PyData) (l : List α) (h : ∀ a ∈ l, snap 11 μ (g a) = some (k a) ∧ PyData.canLay0 (k a) = true ∧ PyData.depth (k a) ≤ 60) : neD μ (.lst (l.map g)) (.lst []) = some (.bl (!l.isEmpty)) := by
  have e1 : snapD μ (.lst (l.map g)) = some (.list (l.map k)) := by
    show optL .list (mapO (snap 11 μ) (l.map g)) = _
    rw [mapO_map (f := snap 11 μ) g k l fun a ha => (h a ha).1]; rfl
  have e2 : snapD μ (.lst []) = some (.list []) := rfl
  unfold neD
  rw [e1, e2]
  simp only [shaped_map k l fun a ha => (h a ha).2]
  have e3 : SeqAt.shaped (.list []) = true := by decide
  cases l <;> simp [e3, PyData.eqv, PyData.eqvAll]
/-! tiredest -/
def tiD (r : Ho) : D := .tup [.int (0 - r.mi), .str r.nm]
def tiP (r : Ho) : PyData := .tuple [.int (0 - r.mi), .str ⟨r.nm.toArray⟩]
def ltT (a b : Ho) : Prop := 0 - a.mi < 0 - b.mi ∨ (0 - a.mi = 0 - b.mi ∧ a.nm < b.nm)
instance : DecidableRel ltT := fun a b => by unfold ltT; infer_instance
theorem lt_ti (a b : Ho) : PySem.W.dataLt (tiP a) (tiP b) = decide (ltT a b) := by
  unfold tiP ltT
  rw [PySem.W.dataLt_pair rfl rfl, PySem.W.dataLt_int, PySem.W.dataLt_str]
  simp only [PyData.eqv, beq_iff_eq, str_eq, decide_eq_true_eq]
  by_cases h1 : a.mi = b.mi
  · by_cases h2 : a.nm = b.nm
    · simp [h1, h2]
    · simp [h1, h2]
  · simp [h1]
theorem lt_tr {a b c : List Nat} (h : a < b) (h' : b < c) : a < c := List.lt_trans h h'
theorem ltT_tr {a b c : Ho} (h : ltT a b) (h' : ltT b c) : ltT a c := by
  unfold ltT at *
  rcases h with h | ⟨h, k⟩ <;> rcases h' with h' | ⟨h', k'⟩
  · exact .inl (by omega)
  · exact .inl (by omega)
  · exact .inl (by omega)
  · exact .inr ⟨by omega, lt_tr k k'⟩
theorem minD_spec : ∀ (xs : List Ho) (x : Ho), ∃ r ∈ x :: xs, PySem.W.minD (tiP x) (xs.map tiP) = tiP r ∧ ∀ r' ∈ x :: xs, ¬ ltT r' r
  | [], x => ⟨x, List.mem_cons_self, rfl, fun r' h => by
    rw [List.mem_singleton.mp h]
    unfold ltT
    intro z
    rcases z with z | ⟨_, z⟩
    · omega
    · exact List.lt_irrefl _ z⟩
  | y :: ys, x => by
    have e : PySem.W.minD (tiP x) ((y :: ys).map tiP) = PySem.W.minD (if ltT y x then tiP y else tiP x) (ys.map tiP) := by
      unfold PySem.W.minD
      rw [List.map_cons, List.foldl_cons, lt_ti]
      simp only [decide_eq_true_eq]
    by_cases h : ltT y x
    · rw [if_pos h] at e
      obtain ⟨r, h1, h2, h3⟩ := minD_spec ys y
      refine ⟨r, List.mem_cons_of_mem _ h1, e.trans h2, fun r' hr => ?_⟩
      rcases List.mem_cons.mp hr with z | z
      · subst z
        intro k
        exact h3 y List.mem_cons_self (ltT_tr h k)
      · exact h3 r' z
    · rw [if_neg h] at e
      obtain ⟨r, h1, h2, h3⟩ := minD_spec ys x
      refine ⟨r, ?_, e.trans h2, fun r' hr => ?_⟩
      · rcases List.mem_cons.mp h1 with z | z
        · rw [z]; exact List.mem_cons_self
        · exact List.mem_cons_of_mem _ (List.mem_cons_of_mem _ z)
      · rcases List.mem_cons.mp hr with z | z
        · exact h3 r' (by rw [z]; exact List.mem_cons_self)
        · rcases List.mem_cons.mp z with z | z
          · subst z
            intro k
            -- r' = y < r, and r is not above x: so y < x
            have hx := h3 x List.mem_cons_self
            apply h
            unfold ltT at *
            rcases k with k | ⟨k1, k2⟩
            · by_cases q : 0 - x.mi < 0 - r.mi
              · exact absurd (.inl q) hx
              · by_cases q2 : 0 - r'.mi < 0 - x.mi
                · exact .inl q2
                · omega
            · by_cases q : 0 - x.mi < 0 - r.mi
              · exact absurd (.inl q) hx
              · by_cases q2 : 0 - r.mi < 0 - x.mi
                · exact .inl (by omega)
                · refine .inr ⟨by omega, ?_⟩
                  have q3 : ¬ x.nm < r.nm := fun z => hx (.inr ⟨by omega, z⟩)
                  exact Classical.byContradiction fun z => q3 (List.lt_of_le_of_lt (List.not_lt.mp z) k2)
          · exact h3 r' (List.mem_cons_of_mem _ z)
theorem lay_ti {r : Ho} (g : Good r) : PyData.canLay0 (tiP r) = true := by
  have := okS_lay g.nm
  simp only [tiP, PyData.canLay0, PyData.canLayAll0] at this ⊢
  rw [this]; rfl
section
variable {μ : Sto} {s h : Nat} {hs : List Ho} {la : List Nat → Nat} {lk : Lk}
theorem p_tiredest (S : St1 μ s h hs la) : (hs = [] ∧ f_Stables_tiredest [.obj s] lk μ = some (.ok .non, μ)) ∨ ∃ r ∈ hs, (∀ r' ∈ hs, ¬ ltT r' r) ∧ f_Stables_tiredest [.obj s] lk μ = some (.ok (.str r.nm), μ) := by
  unfold f_Stables_tiredest
  have hmain : ∀ d, (∀ n, lowD n d = true) → (∀ lk0 : Lk, mfOf 3 b_Stables_tiredest [.obj s] lk0 μ = some (.ok d, μ)) → pureF (mfOf 3 b_Stables_tiredest) [.obj s] lk μ = some (.ok d, μ) := fun d hd h => pure_ok (h _) (hd _)
  have q75 : ∀ lk0 : Lk, q_Stables_tiredest_75 [some (.obj s), none, none] lk0 μ = some (.nx, [some (.obj s), some (.lst (hs.map tiD)), none], μ) := fun lk0 => by
    unfold q_Stables_tiredest_75
    rw [lockS_dct (n := h) (μ' := μ) (by simp [f_horses S]) S.dc]
    have w := walk_dct (lk := lkp h lk0) (by simp [lkp]) S.dc
    rw [List.map_map] at w
    unfold setEz
    simp only [v_setS, v_lc, v_itE, v_op1, v_vr, List.getElem?_cons_zero, v_getS, f_horses S, w]
    have e : lcL (cName 2) (retE (.bl true)) (tupE (consA (op2E subD (retE (.int 0)) (op1E (fldD fd_miles.cf fd_miles.i) (op2E ixD (op1E (fldD fd_horses.cf fd_horses.i) (varE 0)) (varE 2)))) (consA (varE 2) nilA))) (hs.map (Prod.fst ∘ fun r => (D.str r.nm, D.obj (la r.nm)))) 0 (wipeF [some (.obj s), none, none] [2]) (lkp h lk0) μ = some (hs.map tiD, μ) :=
      lcL_mapT (fun r : Ho => D.str r.nm) tiD hs 0 (by have := S.len; omega) fun r hm => ⟨[some (.obj s), none, some (.str r.nm)], rfl, rfl, by
        simp [f_horses S, ix_h S (mem_nm hm), f_miles (S.ce r hm), subD, iSub, opII, tiD]⟩
    rw [e]
    rfl
  have nn : neD μ (.lst (hs.map tiD)) (.lst []) = some (.bl (!hs.isEmpty)) := ne_nil tiD tiP hs fun r hr => ⟨rfl, lay_ti (S.ok r hr), by simp [tiP, PyData.depth, PyData.depthAll]⟩
  have e0 : startF 3 [D.obj s] = [some (.obj s), none, none] := rfl
  cases hh : hs with
  | nil =>
    refine .inl ⟨rfl, hmain _ (fun _ => rfl) fun lk0 => ?_⟩
    rw [x_Stables_tiredest]
    unfold mfOf k_Stables_tiredest_75
    rw [e0, v_seq, q75]
    rw [hh] at nn
    simp [q_Stables_tiredest_76, hh] at nn ⊢
    simp [nn, endF]
  | cons x xs =>
    obtain ⟨r, h1, h2, h3⟩ := minD_spec xs x
    refine .inr ⟨r, h1, h3, hmain _ (fun _ => rfl) fun lk0 => ?_⟩
    rw [x_Stables_tiredest]
    unfold mfOf k_Stables_tiredest_75
    rw [e0, v_seq, q75]
    have mm : mmN PySem.W.minD μ [.lst (hs.map tiD)] = some (tiD r) := by
      unfold mmN
      simp only [itL]
      rw [mapO_map (f := snapD μ) tiD tiP hs fun _ _ => rfl, hh, List.map_cons]
      simp only
      have ok1 : mmOk (tiP x :: xs.map tiP) = true := by
        rw [← List.map_cons]
        unfold mmOk alikeB
        simp only [Bool.and_eq_true, List.all_eq_true, List.mem_map, forall_exists_index, and_imp, forall_apply_eq_imp_iff₂]
        exact ⟨⟨fun a _ b _ => rfl, fun a _ => rfl⟩, fun a _ => rfl⟩
      have ok2 : ((x :: xs).map tiD).all flatTup = true := by
        rw [List.all_map]
        exact List.all_eq_true.mpr fun a _ => rfl
      have e2 : (List.map tiD (x :: xs)).all flatTup = true := ok2
      rw [ok1, e2, h2]
      simp [ofPy, tiP, pyGo, tiD]
    have ne2 : neD μ (.lst (hs.map tiD)) (.lst []) = some (.bl true) := by rw [nn, hh]; rfl
    have ix1 : ixD μ (tiD r) (.int 1) = some (.str r.nm) := rfl
    simp [q_Stables_tiredest_76, ne2, orN, min2N, mm, ix1, endF]
end
end K02

end
section
set_option Elab.async false
set_option linter.all false
set_option maxRecDepth 100000
set_option maxHeartbeats 1000000
namespace MP
open PySem PyProof.Rows L2 GXP
/-! dicts by texts, changed -/
theorem setD_map {g : List Nat → D} {p : List Nat} {e : D} : ∀ l : List (List Nat), setD (l.map fun k => (.str k, g k)) (.str p) e = l.map fun k => (.str k, if k = p then e else g k)
  | [] => rfl
  | k :: l => by
    rw [List.map_cons, List.map_cons]
    unfold setD
    rw [setD_map l]
    simp only [keq, decide_eq_true_eq]
    by_cases h : k = p <;> simp [h]
theorem lookD_txt (g : List Nat → D) (p : List Nat) (l : List (List Nat)) : lookD (l.map fun k => (.str k, g k)) (.str p) = if p ∈ l then some (g p) else none := by
  have := lookD_map (nm := fun k : List Nat => k) (g := g) p l
  simpa using this
theorem putD_txt (g : List Nat → D) (p : List Nat) (e : D) (l : List (List Nat)) : putD (l.map fun k => (.str k, g k)) (.str p) e = (if p ∈ l then l else l ++ [p]).map fun k => (.str k, if k = p then e else g k) := by
  unfold putD
  rw [lookD_txt]
  by_cases h : p ∈ l
  · simp only [h, if_true, Option.isSome_some, setD_map]
  · simp only [h, if_false, Option.isSome_none, Bool.false_eq_true]
    rw [List.map_append]
    congr 1
    · refine List.map_congr_left fun k hk => ?_
      rw [if_neg (fun (z : k = p) => h (z ▸ hk))]
    · simp
@[simp] theorem v_get2 {o a b : ME} {ρ : Fr} {lk : Lk} {μ : Sto} : get2E o a b ρ lk μ = match o ρ lk μ with
  | some (.ok d, μ1) => if isDct μ1 d then (match a ρ lk μ1 with
    | some (.ok y, μ2) => (match b ρ lk μ2 with
      | some (.ok z, μ3) => (match (match getD μ3 d y with
          | some (some v) => some v
          | some none => some z
          | none => none) with
        | some d => some (.ok d, μ3)
        | none => none)
      | some (.ex c, μ3) => some (.ex c, μ3)
      | none => none)
    | some (.ex c, μ2) => some (.ex c, μ2)
    | none => none) else none
  | some (.ex c, μ1) => some (.ex c, μ1)
  | none => none := by
  unfold get2E bindE
  split <;> rename_i e <;> (first | rw [e] | rfl | skip)
  all_goals (simp only; split <;> rfl)
theorem lowDs_map {α : Type} {n : Nat} (f : α → D) : ∀ l : List α, (∀ a ∈ l, lowD n (f a) = true) → lowDs n (l.map f) = true
  | [], _ => rfl
  | a :: l, h => by
    rw [List.map_cons]
    unfold lowDs
    rw [h a List.mem_cons_self, lowDs_map f l fun b hb => h b (List.mem_cons_of_mem _ hb)]; rfl
end MP
/-! k02: counts -/
namespace K02
open PySem PyProof.Rows L2 GXP MP
def leS (a b : List Nat) : Bool := decide (a ≤ b)
theorem sort_txt {μ : Sto} {d : D} {l : List (List Nat)} (e : itAny μ d = some (l.map .str)) : sortN μ [d] = some (.lst ((l.mergeSort leS).map .str)) := by
  unfold sortN
  simp only [e]
  rw [mapO_map (f := snapD μ) D.str (fun s => PyData.str ⟨s.toArray⟩) l fun _ _ => rfl]
  have ok : srtOk (l.map fun s => PyData.str ⟨s.toArray⟩) = true := by
    unfold srtOk alikeB
    simp only [Bool.and_eq_true, List.all_eq_true, List.mem_map, forall_exists_index, and_imp, forall_apply_eq_imp_iff₂, Bool.or_eq_true]
    exact ⟨⟨fun a _ b _ => rfl, .inr fun a _ => rfl⟩, fun a _ => rfl⟩
  simp only [ok, if_true]
  rw [srtD_map D.str (fun s => PyData.str ⟨s.toArray⟩), PySem.W.dataLe_str (fun s : List Nat => (⟨s.toArray⟩ : Str))]
  rfl
theorem leS_tr (a b c : List Nat) (h : leS a b = true) (h' : leS b c = true) : leS a c = true := decide_eq_true (List.le_trans (of_decide_eq_true h) (of_decide_eq_true h'))
theorem leS_tot (a b : List Nat) : (leS a b || leS b a) = true := by
  unfold leS
  rcases List.le_total a b with h | h <;> simp [h]
theorem leS_pair (l : List (List Nat)) : (l.mergeSort leS).Pairwise fun a b => leS a b = true := List.pairwise_mergeSort leS_tr leS_tot l
def cntP (l : List Ho) (k : List Nat) : Int := (l.countP (atP k) : Nat)
def cd (keys : List (List Nat)) (l : List Ho) : List (D × D) := keys.map fun k => (.str k, .int (cntP l k))
section
variable {μ : Sto} {s h : Nat} {hs : List Ho} {la : List Nat → Nat} {lk : Lk}
theorem take_succ_of {l : List Ho} {i : Nat} {r : Ho} (e : l[i]? = some r) : l.take (i + 1) = l.take i ++ [r] := by rw [List.take_add_one, e]; rfl
theorem cd_none {keys : List (List Nat)} {l : List Ho} {r : Ho} (h : r.pl = none) : cd keys (l ++ [r]) = cd keys l := by
  unfold cd cntP
  refine List.map_congr_left fun k _ => ?_
  rw [List.countP_append]
  simp [atP, h]
theorem cd_some {keys : List (List Nat)} {l : List Ho} {r : Ho} {p : List Nat} (h : r.pl = some p) (hk : p ∉ keys → cntP l p = 0) : putD (cd keys l) (.str p) (.int (cntP l p + 1)) = cd (if p ∈ keys then keys else keys ++ [p]) (l ++ [r]) := by
  unfold cd
  rw [putD_txt]
  refine List.map_congr_left fun k _ => ?_
  unfold cntP
  rw [List.countP_append]
  by_cases e : k = p
  · subst e; simp [atP, h]
  · have : ¬ p = k := fun z => e z.symm
    simp [atP, h, e, this]
theorem p_counts (W : Wf μ) (S : St1 μ s h hs la) (hlk : lk μ.nx = false) : ∃ ks : List (List Nat), ks.Nodup ∧ ks.Pairwise (fun a b => leS a b = true) ∧ (∀ k, k ∈ ks ↔ ∃ r ∈ hs, r.pl = some k) ∧
    f_Stables_counts [.obj s] lk μ = some (.ok (.tup (ks.map fun k => .tup [.str k, .int (cntP hs k)])), μ) := by
  have hk := allLk_nx hlk
  unfold f_Stables_counts
  generalize hlk0 : allLk μ.nx lk = lk0 at hk
  have hnh : μ.nx ≠ h := (W.ne S.dc).symm
  have hlk1 : lkp h lk0 μ.nx = false := by simp [lkp, hk, hnh]
  let I : Nat → Fr → Sto → Prop := fun i ρ μ' => ∃ keys : List (List Nat), keys.Nodup ∧ keys.length ≤ i ∧ (∀ k, k ∈ keys ↔ ∃ r ∈ hs.take i, r.pl = some k) ∧ μ' = μ.add (.dct false (cd keys (hs.take i))) ∧ ∃ o2 o3, ρ = [some (.obj s), some (.obj μ.nx), o2, o3]
  have step : ∀ (i : Nat) (d : D) (ρ : Fr) (μ' : Sto), (hs.map fun r => D.str r.nm)[i]? = some d → I (0 + i) ρ μ' → ∃ ρ' μ'', gbS (nameG 2) k_Stables_counts_66 d ρ (lkp h lk0) μ' = some (.nx, ρ', μ'') ∧ I (0 + i + 1) ρ' μ'' := by
    intro i d ρ μ' hd hi
    rw [Nat.zero_add] at hi ⊢
    obtain ⟨keys, nd, kl, mem, rfl, o2, o3, rfl⟩ := hi
    rw [List.getElem?_map] at hd
    obtain ⟨r, hr, rfl⟩ := Option.map_eq_some_iff.mp hd
    have hm : r ∈ hs := List.mem_of_getElem? hr
    have S' : St1 (μ.add (.dct false (cd keys (hs.take i)))) s h hs la := S.keep fun n c e => W.add e
    have c1 := S'.ce r hm
    have hil : i < hs.length := (List.getElem?_eq_some_iff.mp hr).1
    have hS := S.len
    refine ⟨[some (.obj s), some (.obj μ.nx), some (.str r.nm), some (plD r.pl)], μ.add (.dct false (cd (match r.pl with | none => keys | some p => if p ∈ keys then keys else keys ++ [p]) (hs.take (i + 1)))), ?_, (match r.pl with | none => keys | some p => if p ∈ keys then keys else keys ++ [p]), ?_, ?_, ?_, rfl, _, _, rfl⟩
    · rw [take_succ_of hr]
      cases hp : r.pl with
      | none =>
        rw [cd_none hp]
        have q1 : notN (μ.add (.dct false (cd keys (hs.take i)))) (plD none) .non = some (.bl false) := rfl
        simp [k_Stables_counts_66, q_Stables_counts_66, q_Stables_counts_67, f_horses S', ix_h S' (mem_nm hm), f_place c1, hp, q1]
      | some p =>
        have hz : p ∉ keys → cntP (hs.take i) p = 0 := fun z => by
          unfold cntP
          have : (hs.take i).countP (atP p) = 0 := List.countP_eq_zero.mpr fun r' hr' q => z ((mem p).mpr ⟨r', hr', of_decide_eq_true q⟩)
          rw [this]; rfl
        have q1 : notN (μ.add (.dct false (cd keys (hs.take i)))) (plD (some p)) .non = some (.bl true) := rfl
        have q2 : getD (μ.add (.dct false (cd keys (hs.take i)))) (.obj μ.nx) (.str p) = some (if p ∈ keys then some (.int (cntP (hs.take i) p)) else none) := by
          simp only [getD, dctOf, add_same, dctC, okKey, toKey, Option.isSome_some, if_true]
          unfold cd
          rw [lookD_txt (fun k => D.int (cntP (hs.take i) k))]
        have q3 : isDct (μ.add (.dct false (cd keys (hs.take i)))) (.obj μ.nx) = true := by simp [isDct, dctOf, dctC]
        have q4 : (match (if p ∈ keys then some (D.int (cntP (hs.take i) p)) else none) with | some v => some v | none => some (D.int 0)) = some (D.int (cntP (hs.take i) p)) := by
          by_cases z : p ∈ keys
          · simp only [z, if_true]
          · simp only [z, if_false, hz z]
        have q5 : ∀ i j : Int, addD (μ.add (.dct false (cd keys (hs.take i.toNat)))) (.int i) (.int j) = some (.int (i + j)) := fun _ _ => rfl
        have q6 : (cd keys (hs.take i)).length < 16777216 := by unfold cd; rw [List.length_map]; omega
        have q7 := cd_some (keys := keys) hp hz
        have q8 : plD (some p) = .str p := rfl
        have gg : get2E (varE 1) (varE 3) (retE (.int 0)) [some (.obj s), some (.obj μ.nx), some (.str r.nm), some (.str p)] (lkp h lk0) (μ.add (.dct false (cd keys (hs.take i)))) = some (.ok (.int (cntP (hs.take i) p)), μ.add (.dct false (cd keys (hs.take i)))) := by
          rw [v_get2]
          simp only [v_vr, List.getElem?_cons_succ, List.getElem?_cons_zero, v_getS, q3, if_true, v_ret, q2]
          by_cases z : p ∈ keys
          · simp only [z, if_true]
          · simp only [z, if_false, hz z]
        have ps : putSub (lkp h lk0) (μ.add (.dct false (cd keys (hs.take i)))) (.obj μ.nx) (.str p) (.int (cntP (hs.take i) p + 1)) = some (μ.add (.dct false (cd (if p ∈ keys then keys else keys ++ [p]) (hs.take i ++ [r])))) := by
          simp [putSub, hlk1, okKey, toKey, q6, q7]
        have ad : addD (μ.add (.dct false (cd keys (hs.take i)))) (.int (cntP (hs.take i) p)) (.int 1) = some (.int (cntP (hs.take i) p + 1)) := rfl
        have st : k_Stables_counts_68 [some (.obj s), some (.obj μ.nx), some (.str r.nm), some (.str p)] (lkp h lk0) (μ.add (.dct false (cd keys (hs.take i)))) = some (.nx, [some (.obj s), some (.obj μ.nx), some (.str r.nm), some (.str p)], μ.add (.dct false (cd (if p ∈ keys then keys else keys ++ [p]) (hs.take i ++ [r])))) := by
          unfold k_Stables_counts_68 q_Stables_counts_68
          simp only [v_seq, v_asg, v_op2, v_oe, gg, v_ret, ad, v_thru, v_subG, v_vr, List.getElem?_cons_succ, List.getElem?_cons_zero, v_getS, ps, v_nx]
        simp [k_Stables_counts_66, q_Stables_counts_66, q_Stables_counts_67, f_horses S', ix_h S' (mem_nm hm), f_place c1, hp, q1, q8, st]
        rw [q8] at q1
        simp [q1, st]
    · cases hp : r.pl with
      | none => exact nd
      | some p =>
        show (if p ∈ keys then keys else keys ++ [p]).Nodup
        by_cases z : p ∈ keys
        · rw [if_pos z]; exact nd
        · rw [if_neg z]
          refine List.nodup_append.mpr ⟨nd, by simp, fun a ha b hb e => ?_⟩
          rw [List.mem_singleton.mp hb] at e
          exact z (e ▸ ha)
    · cases hp : r.pl with
      | none => exact Nat.le_succ_of_le kl
      | some p =>
        show (if p ∈ keys then keys else keys ++ [p]).length ≤ i + 1
        by_cases z : p ∈ keys
        · rw [if_pos z]; omega
        · rw [if_neg z, List.length_append, List.length_singleton]; omega
    · intro k
      rw [take_succ_of hr]
      have e1 : (∃ r' ∈ hs.take i ++ [r], r'.pl = some k) ↔ (∃ r' ∈ hs.take i, r'.pl = some k) ∨ r.pl = some k := by
        constructor
        · rintro ⟨r', h1, h2⟩
          rcases List.mem_append.mp h1 with z | z
          · exact .inl ⟨r', z, h2⟩
          · rw [List.mem_singleton.mp z] at h2; exact .inr h2
        · rintro (⟨r', h1, h2⟩ | h2)
          · exact ⟨r', List.mem_append_left _ h1, h2⟩
          · exact ⟨r, List.mem_append_right _ (List.mem_singleton.mpr rfl), h2⟩
      rw [e1, ← mem k]
      cases hp : r.pl with
      | none => simp
      | some p =>
        show k ∈ (if p ∈ keys then keys else keys ++ [p]) ↔ k ∈ keys ∨ some p = some k
        by_cases z : p ∈ keys
        · rw [if_pos z]
          refine ⟨.inl, fun q => q.elim id fun q => ?_⟩
          cases q; exact z
        · rw [if_neg z, List.mem_append, List.mem_singleton]
          refine ⟨fun q => q.imp id fun q => by rw [q], fun q => q.imp id fun q => ?_⟩
          cases q; rfl
  obtain ⟨ρ', μ', e1, keys, nd, kl, mem, e2, o2, o3, e3⟩ := loopM_inv (lk := lkp h lk0) I (hs.map fun r => D.str r.nm) 0 [some (.obj s), some (.obj μ.nx), none, none] (μ.add (.dct false [])) step ⟨[], List.nodup_nil, Nat.le_refl _, fun k => by simp, rfl, _, _, rfl⟩
  rw [Nat.zero_add, List.length_map] at e2 mem kl
  rw [List.take_length] at e2 mem
  subst e2 e3
  refine ⟨keys.mergeSort leS, (List.mergeSort_perm keys leS).nodup_iff.mpr nd, leS_pair keys, fun k => List.mem_mergeSort.trans (mem k), ?_⟩
  refine pure_ok (μ' := μ.add (.dct false (cd keys hs))) ?_ (by unfold lowD; exact lowDs_map _ _ fun k _ => rfl)
  rw [hlk0]
  rw [x_Stables_counts]
  have e0 : startF 4 [D.obj s] = [some (.obj s), none, none, none] := rfl
  have Sa : St1 (μ.add (.dct false [])) s h hs la := S.keep fun n c e => W.add e
  have q64 : q_Stables_counts_64 [some (.obj s), none, none, none] lk0 μ = some (.nx, [some (.obj s), some (.obj μ.nx), none, none], μ.add (.dct false [])) := by
    unfold q_Stables_counts_64; simp
  have q65 : q_Stables_counts_65 [some (.obj s), some (.obj μ.nx), none, none] lk0 (μ.add (.dct false [])) = some (.nx, [some (.obj s), some (.obj μ.nx), o2, o3], μ.add (.dct false (cd keys hs))) := by
    unfold q_Stables_counts_65
    rw [lockS_dct (n := h) (μ' := μ.add (.dct false [])) (by simp [f_horses Sa]) Sa.dc]
    have w := walk_dct (lk := lkp h lk0) (by simp [lkp]) Sa.dc
    rw [List.map_map] at w
    simp only [v_for, v_itE, v_op1, v_vr, List.getElem?_cons_zero, v_getS, f_horses Sa, w]
    have e1' : loopM (gbS (nameG 2) k_Stables_counts_66) (hs.map (Prod.fst ∘ fun r => (D.str r.nm, D.obj (la r.nm)))) [some (.obj s), some (.obj μ.nx), none, none] (lkp h lk0) (μ.add (.dct false [])) = _ := e1
    rw [e1']
    rfl
  have it : itAny (μ.add (.dct false (cd keys hs))) (.obj μ.nx) = some (keys.map .str) := by
    simp [itAny, itL, lstOf, itT, dctOf, dctC, cd]
  have ca : ∀ o2 o3 : Option D, (calE sortN (consA (varE 1) nilA)) [some (.obj s), some (.obj μ.nx), o2, o3] lk0 (μ.add (.dct false (cd keys hs))) = some (.ok (.lst ((keys.mergeSort leS).map .str)), μ.add (.dct false (cd keys hs))) := fun o2 o3 => by
    simp [sort_txt it]
  have q69 : q_Stables_counts_69 [some (.obj s), some (.obj μ.nx), o2, o3] lk0 (μ.add (.dct false (cd keys hs))) = some (.ret (.tup ((keys.mergeSort leS).map fun k => .tup [.str k, .int (cntP hs k)])), [some (.obj s), some (.obj μ.nx), o2, o3], μ.add (.dct false (cd keys hs))) := by
    unfold q_Stables_counts_69
    rw [v_retS, lockE_none (prb_of (ca o2 o3) (fun n z => by cases z))]
    simp only [v_gx, v_itE, ca, walk_lst]
    rw [gxL_mapT D.str (fun k => .tup [.str k, .int (cntP hs k)]) (keys.mergeSort leS) [] (by rw [List.length_mergeSort]; have := S.len; simp only [List.length_nil]; omega) (fun k hk => ⟨[some (.obj s), some (.obj μ.nx), o2, some (.str k)], rfl, rfl, by
      have hk := List.mem_mergeSort.mp hk
      have q : ixD (μ.add (.dct false (cd keys hs))) (.obj μ.nx) (.str k) = some (.int (cntP hs k)) := by
        unfold ixD orOp
        have q1 : getD (μ.add (.dct false (cd keys hs))) (.obj μ.nx) (.str k) = some (some (.int (cntP hs k))) := by
          simp only [getD, dctOf, add_same, dctC, okKey, toKey, Option.isSome_some, if_true]
          unfold cd
          rw [lookD_txt (fun k => D.int (cntP hs k)), if_pos hk]
        simp only [ixL, itL, lstOf, add_same, ixT, itT, ixS, ixDc, q1]
      simp [q]⟩)]
    simp [fnTup]
  unfold mfOf k_Stables_counts_64
  rw [e0]
  simp only [v_seq, q64, q65, q69, endF]
end
end K02

end
section
set_option Elab.async false
set_option linter.all false
set_option maxRecDepth 100000
set_option maxHeartbeats 1000000
/-! k02: add, take, arrive -/
namespace K02
open PySem PyProof.Rows L2 GXP MP
abbrev lk00 : Lk := fun _ => false
/-- all but horses' own objects stays -/
structure Keep0 (μ μ' : Sto) : Prop where
  nx : μ.nx ≤ μ'.nx
  ce : ∀ k c, μ.ce k = some c → (∀ fs, c ≠ .ins 0 fs) → μ'.ce k = some c
theorem Keep0.refl (μ : Sto) : Keep0 μ μ := ⟨Nat.le_refl _, fun _ _ e _ => e⟩
theorem Keep0.trans {a b c : Sto} (x : Keep0 a b) (y : Keep0 b c) : Keep0 a c := ⟨Nat.le_trans x.nx y.nx, fun k d e n => y.ce k d (x.ce k d e n) n⟩
/-- one horse changed -/
def upd1 (f : Ho → Ho) (n : List Nat) (hs : List Ho) : List Ho := hs.map fun x => if x.nm = n then f x else x
theorem upd1_nm {f : Ho → Ho} (hf : ∀ x, (f x).nm = x.nm) (n : List Nat) (hs : List Ho) : (upd1 f n hs).map Ho.nm = hs.map Ho.nm := by
  unfold upd1
  rw [List.map_map]
  refine List.map_congr_left fun x _ => ?_
  show (if x.nm = n then f x else x).nm = x.nm
  split
  · exact hf x
  · rfl
/-- several, one after the other -/
def updL (f : Ho → Ho) : List (List Nat) → List Ho → List Ho
  | [], hs => hs
  | n :: ns, hs => updL f ns (upd1 f n hs)
theorem updL_nm {f : Ho → Ho} (hf : ∀ x, (f x).nm = x.nm) : ∀ (ns : List (List Nat)) (hs : List Ho), (updL f ns hs).map Ho.nm = hs.map Ho.nm
  | [], _ => rfl
  | n :: ns, hs => (updL_nm hf ns _).trans (upd1_nm hf n hs)
section
variable {μ : Sto} {s h : Nat} {hs : List Ho} {la : List Nat → Nat}
theorem nm_inj (nd : (hs.map Ho.nm).Nodup) : ∀ {r r' : Ho}, r ∈ hs → r' ∈ hs → r.nm = r'.nm → r = r' := by
  induction hs with
  | nil => intro r r' h; cases h
  | cons x xs ih =>
    intro r r' h h' e
    rw [List.map_cons] at nd
    obtain ⟨n1, n2⟩ := List.nodup_cons.mp nd
    rcases List.mem_cons.mp h with z | z <;> rcases List.mem_cons.mp h' with z' | z'
    · rw [z, z']
    · exact absurd (z ▸ e ▸ mem_nm z') n1
    · exact absurd (z' ▸ e ▸ mem_nm z) n1
    · exact ih n2 z z' e
theorem St1.upd (W : Wf μ) (S : St1 μ s h hs la) {f : Ho → Ho} (hf : ∀ x, (f x).nm = x.nm) (hg : ∀ x, Good x → Good (f x)) {r : Ho} (hr : r ∈ hs) :
    St1 (μ.put (la r.nm) (HF (f r))) s h (upd1 f r.nm hs) la ∧ Wf (μ.put (la r.nm) (HF (f r))) ∧ Keep0 μ (μ.put (la r.nm) (HF (f r))) := by
  have c := S.ce r hr
  have kp : ∀ k c', μ.ce k = some c' → (∀ fs, c' ≠ .ins 0 fs) → (μ.put (la r.nm) (HF (f r))).ce k = some c' := fun k c' e n => by
    rw [put_ce]
    split
    · rename_i z
      rw [z, c] at e
      cases e
      exact absurd rfl (n _)
    · exact e
  have mem : ∀ x ∈ upd1 f r.nm hs, ∃ y ∈ hs, x.nm = y.nm ∧ (y.nm = r.nm → x = f r) ∧ (y.nm ≠ r.nm → x = y) := fun x hx => by
    obtain ⟨y, hy, rfl⟩ := List.mem_map.mp hx
    refine ⟨y, hy, ?_, fun e => ?_, fun e => if_neg e⟩
    · show (if y.nm = r.nm then f y else y).nm = y.nm
      split
      · exact hf y
      · rfl
    · rw [if_pos e, nm_inj S.nd hy hr e]
  refine ⟨⟨kp _ _ S.st (fun fs z => by cases z), ?_, fun x hx => ?_, fun x hx y hy e => ?_, (by rw [upd1_nm hf]; exact S.nd), fun x hx => ?_, (by unfold upd1; rw [List.length_map]; exact S.len)⟩, W.put c, ⟨Nat.le_refl _, kp⟩⟩
  · have e : (upd1 f r.nm hs).map (fun x => (D.str x.nm, D.obj (la x.nm))) = hs.map fun x => (D.str x.nm, D.obj (la x.nm)) := by
      have := congrArg (List.map fun n : List Nat => (D.str n, D.obj (la n))) (upd1_nm hf r.nm hs)
      rw [List.map_map, List.map_map] at this
      exact this
    rw [e]
    exact kp _ _ S.dc fun fs z => by cases z
  · obtain ⟨y, hy, e1, e2, e3⟩ := mem x hx
    rw [put_ce]
    by_cases q : y.nm = r.nm
    · rw [e2 q, hf, if_pos rfl]
    · rw [e3 q, if_neg fun z => q (S.inj y hy r hr z)]
      exact S.ce y hy
  · obtain ⟨x', hx', e1, _, _⟩ := mem x hx
    obtain ⟨y', hy', e2, _, _⟩ := mem y hy
    rw [e1, e2] at e ⊢
    exact S.inj x' hx' y' hy' e
  · obtain ⟨y, hy, _, e2, e3⟩ := mem x hx
    by_cases q : y.nm = r.nm
    · rw [e2 q]; exact hg r (S.ok r hr)
    · rw [e3 q]; exact S.ok y hy
theorem upd1_mem_nm {f : Ho → Ho} (hf : ∀ x, (f x).nm = x.nm) {n m : List Nat} : n ∈ (upd1 f m hs).map Ho.nm ↔ n ∈ hs.map Ho.nm := by rw [upd1_nm hf]
/-! a loop that changes horse by horse -/
theorem loop_upd {gb : D → MS} {f : Ho → Ho} (hf : ∀ x, (f x).nm = x.nm) (hg : ∀ x, Good x → Good (f x)) (I : Fr → Prop)
    (step : ∀ (μ : Sto) (hs : List Ho) (r : Ho) (ρ : Fr), Wf μ → St1 μ s h hs la → r ∈ hs → I ρ → ∃ ρ', gb (.str r.nm) ρ lk00 μ = some (.nx, ρ', μ.put (la r.nm) (HF (f r))) ∧ I ρ') :
    ∀ (ns : List (List Nat)) (μ : Sto) (hs : List Ho) (ρ : Fr), Wf μ → St1 μ s h hs la → (∀ n ∈ ns, n ∈ hs.map Ho.nm) → I ρ → ∃ ρ' μ', loopM gb (ns.map .str) ρ lk00 μ = some (.nx, ρ', μ') ∧ I ρ' ∧ St1 μ' s h (updL f ns hs) la ∧ Wf μ' ∧ Keep0 μ μ'
  | [], μ, hs, ρ, W, S, _, i => ⟨ρ, μ, rfl, i, S, W, Keep0.refl μ⟩
  | n :: ns, μ, hs, ρ, W, S, hn, i => by
    obtain ⟨r, hr, e⟩ := List.mem_map.mp (hn n List.mem_cons_self)
    subst e
    obtain ⟨ρ1, e1, i1⟩ := step μ hs r ρ W S hr i
    obtain ⟨S1, W1, K1⟩ := S.upd W hf hg hr
    obtain ⟨ρ2, μ2, e2, i2, S2, W2, K2⟩ := loop_upd hf hg I step ns _ _ ρ1 W1 S1 (fun m hm => (upd1_mem_nm hf).mpr (hn m (List.mem_cons_of_mem _ hm))) i1
    refine ⟨ρ2, μ2, ?_, i2, S2, W2, K1.trans K2⟩
    rw [List.map_cons]
    unfold loopM
    rw [e1]
    exact e2
/-! add -/
theorem r_Horse_init (lk : Lk) (μ : Sto) (a : Nat) (n h : List Nat) (hl : lk a = false) (hc : μ.ce a = some (.ins 0 [])) :
    f_Horse_init [.obj a, .str n, .str h] lk μ = some (.ok .non, μ.put a (HF ⟨n, h, some h, 0, 0⟩)) := by
  unfold f_Horse_init
  rw [x_Horse_init]
  simp [mfOf, startF, endF, k_Horse_init_12, q_Horse_init_12, q_Horse_init_13, q_Horse_init_14, q_Horse_init_15, q_Horse_init_16, hl, hc, insC, putFD, fd_name, fd_home, fd_place, fd_ready, fd_miles, HF, plD]
theorem p_add_bad (S : St1 μ s h hs la) {n ho : List Nat} (hn : okS n) (hb : n ∈ hs.map Ho.nm ∨ n = []) : f_Stables_add [.obj s, .str n, .str ho] lk00 μ = some (.ex 3, μ) := by
  unfold f_Stables_add
  rw [x_Stables_add]
  by_cases h1 : n ∈ hs.map Ho.nm
  · simp [mfOf, startF, endF, k_Stables_add_23, q_Stables_add_23, k_Stables_add_24, q_Stables_add_24, f_horses S, in_h S, h1]
  · have h2 : n = [] := hb.resolve_left h1
    have q := eqD_ss (μ := μ) hn okS_nil
    rw [h2] at q h1
    simp [mfOf, startF, endF, k_Stables_add_23, q_Stables_add_23, k_Stables_add_24, q_Stables_add_24, f_horses S, in_h S, h1, h2, q]
theorem p_add (W : Wf μ) (S : St1 μ s h hs la) {n ho : List Nat} (hn : okS n) (hho : okS ho) (h1 : n ∉ hs.map Ho.nm) (h2 : n ≠ []) (hl : hs.length < 1000) :
    ∃ μ', f_Stables_add [.obj s, .str n, .str ho] lk00 μ = some (.ok .non, μ') ∧ St1 μ' s h (hs ++ [⟨n, ho, some ho, 0, 0⟩]) (fun k => if k = n then μ.nx else la k) ∧ Wf μ' ∧ μ'.nx = μ.nx + 1 ∧ ∀ k c, μ.ce k = some c → k ≠ h → μ'.ce k = some c := by
  have c0 := S.dc
  have hh : h ≠ μ.nx := W.ne c0
  have kp : ∀ (c : C) (k : Nat) (c' : C), μ.ce k = some c' → k ≠ h → ((μ.add (HF ⟨n, ho, some ho, 0, 0⟩)).put h c).ce k = some c' := fun c k c' e z => by
    rw [put_ce, if_neg z]; exact W.add e
  refine ⟨(μ.add (HF ⟨n, ho, some ho, 0, 0⟩)).put h (.dct false ((hs.map fun r => (.str r.nm, .obj (la r.nm))) ++ [(.str n, .obj μ.nx)])), ?_, ?_, (W.add').put (W.add c0), rfl, kp _⟩
  · unfold f_Stables_add
    rw [x_Stables_add]
    have q := eqD_ss (μ := μ) hn okS_nil
    rw [decide_eq_false h2] at q
    have S1 : St1 (μ.add (HF ⟨n, ho, some ho, 0, 0⟩)) s h hs la := S.keep fun n c e => W.add e
    have ii := r_Horse_init lk00 (μ.add (.ins 0 [])) μ.nx n ho rfl (add_same _ _)
    rw [add_put] at ii
    have pu : putSub lk00 (μ.add (HF ⟨n, ho, some ho, 0, 0⟩)) (.obj h) (.str n) (.obj μ.nx) = some ((μ.add (HF ⟨n, ho, some ho, 0, 0⟩)).put h (.dct false ((hs.map fun r => (.str r.nm, .obj (la r.nm))) ++ [(.str n, .obj μ.nx)]))) := by
      have hl' : (hs.map fun r => (D.str r.nm, D.obj (la r.nm))).length < 16777216 := by rw [List.length_map]; omega
      simp only [putSub, S1.dc, okKey, toKey, Option.isSome_some, Bool.true_and, Bool.false_eq_true, if_false, hl', decide_true, if_true]
      unfold putD
      rw [lookD_map (nm := Ho.nm) (g := fun n => D.obj (la n)), if_neg h1]
      rfl
    simp [mfOf, startF, endF, k_Stables_add_23, q_Stables_add_23, q_Stables_add_25, f_horses S, in_h S, h1, q, ii, mkEnd, f_horses S1, pu]
  · refine ⟨kp _ _ _ S.st fun z => ?_, ?_, fun r hr => ?_, fun r hr r' hr' e => ?_, ?_, fun r hr => ?_, by rw [List.length_append, List.length_singleton]; omega⟩
    · have := S.st; rw [z, c0] at this; cases this
    · rw [put_same, List.map_append]
      congr 2
      congr 1
      · refine List.map_congr_left fun r hr => ?_
        rw [if_neg (fun (z : r.nm = n) => h1 (z ▸ mem_nm hr))]
      · simp
    · rcases List.mem_append.mp hr with z | z
      · have hne : r.nm ≠ n := fun q => h1 (q ▸ mem_nm z)
        show _ = some (HF r)
        rw [if_neg hne]
        refine kp _ _ _ (S.ce r z) fun q => ?_
        have := S.ce r z
        rw [q, c0] at this
        cases this
      · rw [List.mem_singleton.mp z]
        show ((μ.add _).put h _).ce (if n = n then μ.nx else la n) = _
        rw [if_pos rfl, put_ce, if_neg hh.symm]
        exact add_same _ _
    · have key : ∀ r ∈ hs, la r.nm ≠ μ.nx := fun r hr => W.ne (S.ce r hr)
      have e : (if r.nm = n then μ.nx else la r.nm) = if r'.nm = n then μ.nx else la r'.nm := e
      rcases List.mem_append.mp hr with z | z <;> rcases List.mem_append.mp hr' with z' | z'
      · rw [if_neg (fun q : r.nm = n => h1 (q ▸ mem_nm z)), if_neg (fun q : r'.nm = n => h1 (q ▸ mem_nm z'))] at e
        exact S.inj r z r' z' e
      · rw [List.mem_singleton.mp z'] at e ⊢
        rw [if_neg (fun q : r.nm = n => h1 (q ▸ mem_nm z)), if_pos rfl] at e
        exact absurd e (key r z)
      · rw [List.mem_singleton.mp z] at e ⊢
        rw [if_neg (fun q : r'.nm = n => h1 (q ▸ mem_nm z')), if_pos rfl] at e
        exact absurd e.symm (key r' z')
      · rw [List.mem_singleton.mp z, List.mem_singleton.mp z']
    · rw [List.map_append]
      refine List.nodup_append.mpr ⟨S.nd, by simp, fun a ha b hb q => ?_⟩
      have : b = n := by simpa using hb
      rw [this] at q
      exact h1 (q ▸ ha)
    · rcases List.mem_append.mp hr with z | z
      · exact S.ok r z
      · rw [List.mem_singleton.mp z]
        exact ⟨hn, hho, fun t e => by cases e; exact hho⟩
end
end K02

end
section
set_option Elab.async false
set_option linter.all false
set_option maxRecDepth 100000
set_option maxHeartbeats 1000000
/-! k02: take, arrive -/
namespace K02
open PySem PyProof.Rows L2 GXP MP
theorem sIx4 (n : Nat) : HT.sIx n n (some 4) = min 4 n := by
  show HT.sIx n n (some ((4 : Nat) : Int)) = _
  exact HT.sIx_nat n n 4
theorem cut4 (q : List D) : MP.cutD q none (some 4) = q.take 4 := by
  unfold MP.cutD
  rw [sIx4]
  show (q.drop 0).take (min 4 q.length - 0) = _
  rw [List.drop_zero, Nat.sub_zero, List.take_eq_take_iff]
  omega
theorem sl_tup4 (μ : Sto) (q : List D) : slD μ (.tup q) none (some 4) = some (.tup (q.take 4)) := by
  unfold slD
  simp only [itL, itT, cut4]
  split
  · rename_i z
    have := z.2
    rw [sIx4] at this
    rw [List.take_of_length_le (by omega)]
  · rfl
theorem sl_lst4 (μ : Sto) (q : List D) : slD μ (.lst q) none (some 4) = some (.lst (q.take 4)) := by
  unfold slD
  simp only [itL, cut4]
@[simp] theorem v_sl1 {a b : ME} {ρ : Fr} {lk : Lk} {μ : Sto} : slE a none (some b) ρ lk μ = match a ρ lk μ with
  | some (.ok x, μ1) => (match b ρ lk μ1 with
    | some (.ok (.int i), μ2) => (match slD μ2 x none (some i) with
      | some d => some (.ok d, μ2)
      | none => none)
    | some (.ex c, μ2) => some (.ex c, μ2)
    | _ => none)
  | some (.ex c, μ1) => some (.ex c, μ1)
  | none => none := by
  unfold slE bindE
  split <;> rename_i e <;> (first | rw [e] | rfl | skip)
  simp only [partE, bindE]
  split <;> rename_i e <;> (first | rw [e] | rfl | skip)
  rename_i d μ'
  cases d <;> rfl
@[simp] theorem v_sl2 {a b : ME} {ρ : Fr} {lk : Lk} {μ : Sto} : slE a (some b) none ρ lk μ = match a ρ lk μ with
  | some (.ok x, μ1) => (match b ρ lk μ1 with
    | some (.ok (.int i), μ2) => (match slD μ2 x (some i) none with
      | some d => some (.ok d, μ2)
      | none => none)
    | some (.ex c, μ2) => some (.ex c, μ2)
    | _ => none)
  | some (.ex c, μ1) => some (.ex c, μ1)
  | none => none := by
  unfold slE bindE
  split <;> rename_i e <;> (first | rw [e] | rfl | skip)
  simp only [partE, bindE]
  split <;> rename_i e <;> (first | rw [e] | rfl | skip)
  rename_i d μ'
  cases d <;> rfl
/-- the rested ones -/
def reL (hs : List Ho) (p : List Nat) (t : Int) : List Ho := (atL hs p).filter fun r => decide (r.re ≤ t)
def teL (hs : List Ho) (p : List Nat) (t : Int) : List (List Nat) := ((reL hs p t).take 4).map Ho.nm
def goF (r : Ho) : Ho := { r with pl := none }
def coF (p : List Nat) (t m : Int) (r : Ho) : Ho := { r with pl := some p, re := t + 360, mi := r.mi + m }
theorem goF_ok {r : Ho} (g : Good r) : Good (goF r) := ⟨g.nm, g.ho, fun _ e => by cases e⟩
theorem coF_ok {p : List Nat} {t m : Int} (hp : okS p) {r : Ho} (g : Good r) : Good (coF p t m r) := ⟨g.nm, g.ho, fun _ e => by cases e; exact hp⟩
section
variable {μ : Sto} {s h : Nat} {hs : List Ho} {la : List Nat → Nat}
theorem reL_mem {p : List Nat} {t : Int} {r : Ho} (h : r ∈ reL hs p t) : r ∈ hs := atL_mem (List.mem_filter.mp h).1
theorem teL_mem {p : List Nat} {t : Int} : ∀ n ∈ teL hs p t, n ∈ hs.map Ho.nm := fun n hn => by
  obtain ⟨r, hr, rfl⟩ := List.mem_map.mp hn
  exact mem_nm (reL_mem (List.mem_of_mem_take hr))
theorem q48 (W : Wf μ) (S : St1 μ s h hs la) {p : List Nat} {t : Int} (hp : okS p) : q_Stables_take_48 [some (.obj s), some (.str p), some (.int t), none, none] lk00 μ = some (.nx, [some (.obj s), some (.str p), some (.int t), some (.tup ((teL hs p t).map .str)), none], μ) := by
  have e : ((reL hs p t).map fun r => D.str r.nm).take 4 = (teL hs p t).map .str := by
    unfold teL
    rw [List.map_map, List.map_take]; rfl
  have := p_rested (t := t) W S hp (lk := lk00) rfl
  unfold q_Stables_take_48
  simp [isC_s S, this, sl_tup4]
  exact e
theorem p_take_bad (W : Wf μ) (S : St1 μ s h hs la) {p : List Nat} {t : Int} (hp : okS p) (hl : (teL hs p t).length < 4) : f_Stables_take [.obj s, .str p, .int t] lk00 μ = some (.ex 3, μ) := by
  unfold f_Stables_take
  rw [x_Stables_take]
  have e0 : startF 5 [D.obj s, .str p, .int t] = [some (.obj s), some (.str p), some (.int t), none, none] := rfl
  unfold mfOf k_Stables_take_48
  rw [e0, v_seq, q48 W S hp]
  have c : decide (((teL hs p t).length : Int) < 4) = true := decide_eq_true (by omega)
  simp [q_Stables_take_49, lenN, itL, itT, iLt, opII, c, k_Stables_take_50, q_Stables_take_50, endF]
theorem p_take (W : Wf μ) (S : St1 μ s h hs la) {p : List Nat} {t : Int} (hp : okS p) (hl : 4 ≤ (teL hs p t).length) :
    ∃ μ', f_Stables_take [.obj s, .str p, .int t] lk00 μ = some (.ok (.tup ((teL hs p t).map .str)), μ') ∧ St1 μ' s h (updL goF (teL hs p t) hs) la ∧ Wf μ' ∧ Keep0 μ μ' := by
  obtain ⟨ρ', μ', e1, ⟨o4, rfl⟩, S', W', K'⟩ := loop_upd (s := s) (h := h) (la := la) (gb := gbS (nameG 4) k_Stables_take_52) (f := goF) (fun _ => rfl) (fun _ => goF_ok) (fun ρ => ∃ o4, ρ = [some (.obj s), some (.str p), some (.int t), some (.tup ((teL hs p t).map .str)), o4])
    (fun μ hs' r ρ W S hr i => by
      obtain ⟨o4, rfl⟩ := i
      refine ⟨_, ?_, some (.str r.nm), rfl⟩
      have c := S.ce r hr
      simp [k_Stables_take_52, q_Stables_take_52, f_horses S, ix_h S (mem_nm hr), c, HF, insC, putFD, fd_place, goF, plD]) (teL hs p t) μ hs [some (.obj s), some (.str p), some (.int t), some (.tup ((teL hs p t).map .str)), none] W S teL_mem ⟨_, rfl⟩
  refine ⟨μ', ?_, S', W', K'⟩
  unfold f_Stables_take
  rw [x_Stables_take]
  have e0 : startF 5 [D.obj s, .str p, .int t] = [some (.obj s), some (.str p), some (.int t), none, none] := rfl
  unfold mfOf k_Stables_take_48
  rw [e0, v_seq, q48 W S hp]
  have c : decide (((teL hs p t).length : Int) < 4) = false := decide_eq_false (by omega)
  have q51 : q_Stables_take_51 [some (.obj s), some (.str p), some (.int t), some (.tup ((teL hs p t).map .str)), none] lk00 μ = some (.nx, [some (.obj s), some (.str p), some (.int t), some (.tup ((teL hs p t).map .str)), o4], μ') := by
    unfold q_Stables_take_51
    rw [lockS_none (prb_of (d := .tup ((teL hs p t).map .str)) (μ' := μ) rfl (fun n z => by cases z))]
    simp [walk_tup, e1]
  simp [q_Stables_take_49, lenN, itL, itT, iLt, opII, c, q51, q_Stables_take_53, endF]
/-! arrive -/
/-- the keys of {name: True for name in l} -/
def ddp : List (List Nat) → List (List Nat) → List (List Nat)
  | keys, [] => keys
  | keys, n :: ns => ddp (if n ∈ keys then keys else keys ++ [n]) ns
theorem ddp_nodup : ∀ (ns keys : List (List Nat)), (keys ++ ns).Nodup → ddp keys ns = keys ++ ns
  | [], keys, _ => by rw [List.append_nil]; rfl
  | n :: ns, keys, nd => by
    unfold ddp
    have h : n ∉ keys := fun z => by
      obtain ⟨_, _, q⟩ := List.nodup_append.mp nd
      exact q n z n List.mem_cons_self rfl
    rw [if_neg h, ddp_nodup ns (keys ++ [n]) (by rw [List.append_assoc]; exact nd), List.append_assoc]; rfl
theorem dc_keys {ρ : Fr} {lk : Lk} {μ : Sto} (hρ : ρ.length = 7) : ∀ (ns keys : List (List Nat)), keys.length + ns.length < 16777216 →
    dcL (cName 5) (retE (.bl true)) (varE 5) (retE (.bl true)) (ns.map .str) (keys.map fun k => (.str k, .bl true)) ρ lk μ = some ((ddp keys ns).map fun k => (.str k, .bl true), μ)
  | [], keys, _ => rfl
  | n :: ns, keys, hl => by
    rw [List.length_cons] at hl
    rw [List.map_cons]
    unfold dcL
    have hg : (ρ.set 5 (some (.str n)))[5]? = some (some (.str n)) := List.getElem?_set_self (by omega)
    have hc : (keys.map fun k => (D.str k, D.bl true)).length < 16777216 := by rw [List.length_map]; omega
    simp only [cName, v_ret, v_vr, hg, v_getS, toKey, Option.isSome_some, Bool.true_and, hc, decide_true, if_true]
    have e := putD_txt (fun _ => D.bl true) n (.bl true) keys
    have e2 : putD (keys.map fun k => (D.str k, D.bl true)) (.str n) (.bl true) = (if n ∈ keys then keys else keys ++ [n]).map fun k => (D.str k, D.bl true) := by
      rw [e]
      refine List.map_congr_left fun k _ => ?_
      split <;> rfl
    rw [e2, dc_keys hρ ns _ (by have : (if n ∈ keys then keys else keys ++ [n]).length ≤ keys.length + 1 := (by split <;> simp); omega)]
    rfl
/-- the first that is not on the road -/
def anR (hs : List Ho) : List (List Nat) → Sum Bool Nat
  | [] => .inl false
  | n :: ns => match hs.find? fun r => decide (r.nm = n) with
    | none => .inr 3
    | some r => if r.pl.isSome then .inl true else anR hs ns
theorem any_road (S : St1 μ s h hs la) {ρ : Fr} {lk : Lk} (h0 : ρ[0]? = some (some (.obj s))) (hρ : ρ.length = 7) : ∀ (ns : List (List Nat)) (k : Nat), k + ns.length < 16777216 →
    anyL [3] (cName 5) (retE (.bl true)) (op2E notN (op1E (fldD fd_place.cf fd_place.i) (orE (orE (methE 2 1 f_Stables_horse (varE 0) (consA (varE 5) nilA)) (fun _ _ _ => none)) (fun _ _ _ => none))) (retE .non)) (ns.map .str) k ρ lk μ = some (anR hs ns, μ)
  | [], _, _ => rfl
  | n :: ns, k, hl => by
    rw [List.length_cons] at hl
    rw [List.map_cons]
    unfold anyL
    have hg : (ρ.set 5 (some (.str n)))[5]? = some (some (.str n)) := List.getElem?_set_self (by omega)
    have hg0 : (ρ.set 5 (some (.str n)))[0]? = some (some (.obj s)) := by rw [List.getElem?_set_ne (by decide)]; exact h0
    have hh := p_horse (lk := lk) S n
    unfold anR
    cases hf : hs.find? fun r => decide (r.nm = n) with
    | none =>
      have hn : n ∉ hs.map Ho.nm := fun z => by
        obtain ⟨r, hr, e⟩ := List.mem_map.mp z
        have := List.find?_eq_none.mp hf r hr
        exact this (decide_eq_true e)
      rw [if_neg hn] at hh
      simp [cName, hg, hg0, isC_s S, hh]
    | some r =>
      have hr : r ∈ hs := List.mem_of_find?_eq_some hf
      have e : r.nm = n := of_decide_eq_true (List.find?_some (p := fun r : Ho => decide (r.nm = n)) hf)
      subst e
      rw [if_pos (mem_nm hr)] at hh
      have c := S.ce r hr
      cases hp : r.pl with
      | none =>
        have q : notN μ (plD none) .non = some (.bl false) := rfl
        have hk : k < 16777216 := by omega
        simp [cName, hg, hg0, isC_s S, hh, f_place c, hp, q, hk]
        exact any_road S h0 hρ ns (k + 1) (by omega)
      | some p =>
        have q : notN μ (plD (some p)) .non = some (.bl true) := rfl
        have hk : k < 16777216 := by omega
        simp [cName, hg, hg0, isC_s S, hh, f_place c, hp, q, hk]
theorem anR_ok : ∀ ns : List (List Nat), (∀ n ∈ ns, n ∈ hs.map Ho.nm) → (∀ r ∈ hs, r.nm ∈ ns → r.pl = none) → anR hs ns = .inl false
  | [], _, _ => rfl
  | n :: ns, h1, h2 => by
    unfold anR
    cases hf : hs.find? fun r => decide (r.nm = n) with
    | none =>
      obtain ⟨r, hr, e⟩ := List.mem_map.mp (h1 n List.mem_cons_self)
      exact absurd (decide_eq_true e) (List.find?_eq_none.mp hf r hr)
    | some r =>
      have hr : r ∈ hs := List.mem_of_find?_eq_some hf
      have e : r.nm = n := of_decide_eq_true (List.find?_some (p := fun r : Ho => decide (r.nm = n)) hf)
      have := h2 r hr (by rw [e]; exact List.mem_cons_self)
      simp only [this, Option.isSome_none, Bool.false_eq_true, if_false]
      exact anR_ok ns (fun m hm => h1 m (List.mem_cons_of_mem _ hm)) fun r hr hm => h2 r hr (List.mem_cons_of_mem _ hm)
def Team (T : D) (ns : List (List Nat)) : Prop := T = .lst (ns.map .str) ∨ T = .tup (ns.map .str)
theorem Team.walk {T : D} {ns : List (List Nat)} (h : Team T ns) (z : Option Nat) (lk : Lk) (μ : Sto) : walkV z lk μ T = some (ns.map .str) := by
  rcases h with rfl | rfl <;> rfl
theorem Team.len {T : D} {ns : List (List Nat)} (h : Team T ns) (μ : Sto) : lenN μ [T] = some (.int ns.length) := by
  rcases h with rfl | rfl <;> simp [lenN, itL, itT]
theorem Team.no {T : D} {ns : List (List Nat)} (h : Team T ns) : ∀ n, T ≠ .obj n := fun n z => by
  rcases h with rfl | rfl <;> cases z
theorem q56 (S : St1 μ s h hs la) {T : D} {ns : List (List Nat)} (hT : Team T ns) (hl : ns.length ≤ 1000) (p : List Nat) (t m : Int) : q_Stables_arrive_56 [some (.obj s), some T, some (.str p), some (.int t), some (.int m), none, none] lk00 μ =
    (if (ddp [] ns).length < ns.length ∨ anR hs ns ≠ .inl false then some (.ex 3, [some (.obj s), some T, some (.str p), some (.int t), some (.int m), none, none], μ) else some (.nx, [some (.obj s), some T, some (.str p), some (.int t), some (.int m), none, none], μ)) := by
  have c1 : ∀ f : Option Nat → ME, lockE (varE 1) f [some (.obj s), some T, some (.str p), some (.int t), some (.int m), none, none] lk00 μ = f none [some (.obj s), some T, some (.str p), some (.int t), some (.int m), none, none] lk00 μ := fun f => lockE_none (prb_of (d := T) (μ' := μ) rfl hT.no)
  have dk := dc_keys (ρ := wipeF [some (.obj s), some T, some (.str p), some (.int t), some (.int m), none, none] [5]) (lk := lk00) (μ := μ) rfl ns [] (by simp; omega)
  have ar := any_road (lk := lk00) (ρ := wipeF [some (.obj s), some T, some (.str p), some (.int t), some (.int m), none, none] [5]) S rfl rfl ns 0 (by omega)
  have le : lenN μ [.dct false ((ddp [] ns).map fun k => (.str k, .bl true))] = some (.int (ddp [] ns).length) := by simp [lenN, itL, itT, dctOf]
  have d1 : dcL (cName 5) (retE (.bl true)) (varE 5) (retE (.bl true)) (ns.map .str) [] (wipeF [some (.obj s), some T, some (.str p), some (.int t), some (.int m), none, none] [5]) lk00 μ = some ((ddp [] ns).map fun k => (.str k, .bl true), μ) := dk
  unfold q_Stables_arrive_56
  rw [v_ifS, v_orQ]
  simp only [v_op2, v_cal, v_consA, v_nilA, c1, v_dc, v_itE, v_vr, List.getElem?_cons_succ, List.getElem?_cons_zero, v_getS, hT.walk, d1, v_dcEndF, le, hT.len, iLt, opII, if_true]
  by_cases h1 : (ddp [] ns).length < ns.length
  · have : decide (((ddp [] ns).length : Int) < (ns.length : Int)) = true := decide_eq_true (by omega)
    rw [if_pos (.inl h1)]
    simp [this, h1, k_Stables_arrive_57, q_Stables_arrive_57]
  · have : decide (((ddp [] ns).length : Int) < (ns.length : Int)) = false := decide_eq_false (by omega)
    simp only [this, v_tru, c1, v_anyE, v_itE, v_vr, List.getElem?_cons_succ, List.getElem?_cons_zero, v_getS, hT.walk, ar]
    cases ha : anR hs ns with
    | inl b =>
      cases b with
      | false =>
        rw [if_neg (fun z => z.elim h1 fun q => q rfl)]
        simp [truD]
      | true =>
        rw [if_pos (.inr (by simp))]
        simp [truD, k_Stables_arrive_57, q_Stables_arrive_57]
    | inr c =>
      have hc : c = 3 := by
        have : ∀ l, anR hs l = .inr c → c = 3 := by
          intro l
          induction l with
          | nil => intro z; cases z
          | cons n l ih =>
            intro z
            unfold anR at z
            split at z
            · cases z; rfl
            · split at z
              · cases z
              · exact ih z
        exact this ns ha
      subst hc
      rw [if_pos (.inr (by simp))]
theorem p_arrive_bad (S : St1 μ s h hs la) {T : D} {ns : List (List Nat)} (hT : Team T ns) (hl : ns.length ≤ 1000) {p : List Nat} {t m : Int} (hb : (ddp [] ns).length < ns.length ∨ anR hs ns ≠ .inl false) : f_Stables_arrive [.obj s, T, .str p, .int t, .int m] lk00 μ = some (.ex 3, μ) := by
  unfold f_Stables_arrive
  rw [x_Stables_arrive]
  have e0 : startF 7 [D.obj s, T, .str p, .int t, .int m] = [some (.obj s), some T, some (.str p), some (.int t), some (.int m), none, none] := rfl
  unfold mfOf k_Stables_arrive_56
  rw [e0, v_seq, q56 S hT hl, if_pos hb]
  rfl
theorem p_arrive (W : Wf μ) (S : St1 μ s h hs la) {T : D} {ns : List (List Nat)} (hT : Team T ns) (hl : ns.length ≤ 1000) {p : List Nat} {t m : Int} (hp : okS p) (nd : ns.Nodup) (h1 : ∀ n ∈ ns, n ∈ hs.map Ho.nm) (h2 : ∀ r ∈ hs, r.nm ∈ ns → r.pl = none) :
    ∃ μ', f_Stables_arrive [.obj s, T, .str p, .int t, .int m] lk00 μ = some (.ok .non, μ') ∧ St1 μ' s h (updL (coF p t m) ns hs) la ∧ Wf μ' ∧ Keep0 μ μ' := by
  obtain ⟨ρ', μ', e1, ⟨o5, o6, rfl⟩, S', W', K'⟩ := loop_upd (s := s) (h := h) (la := la) (gb := gbS (nameG 5) k_Stables_arrive_59) (f := coF p t m) (fun _ => rfl) (fun _ => coF_ok hp) (fun ρ => ∃ o5 o6, ρ = [some (.obj s), some T, some (.str p), some (.int t), some (.int m), o5, o6])
    (fun μ hs' r ρ W S hr i => by
      obtain ⟨o5, o6, rfl⟩ := i
      refine ⟨_, ?_, some (.str r.nm), some (.obj (la r.nm)), rfl⟩
      have c := S.ce r hr
      have ad : ∀ μ : Sto, addD μ (.int t) (.int 360) = some (.int (t + 360)) := fun _ => rfl
      have ad2 : ∀ (μ : Sto) (i j : Int), orOp iAdd sAdd μ (.int i) (.int j) = some (.int (i + j)) := fun _ _ _ => rfl
      simp [k_Stables_arrive_59, q_Stables_arrive_59, q_Stables_arrive_60, q_Stables_arrive_61, f_horses S, ix_h S (mem_nm hr), c, HF, insC, putFD, fd_place, fd_ready, fd_miles, coF, plD, ad, augF, insOf, lookF, ad2]) ns μ hs [some (.obj s), some T, some (.str p), some (.int t), some (.int m), none, none] W S h1 ⟨_, _, rfl⟩
  refine ⟨μ', ?_, S', W', K'⟩
  unfold f_Stables_arrive
  rw [x_Stables_arrive]
  have e0 : startF 7 [D.obj s, T, .str p, .int t, .int m] = [some (.obj s), some T, some (.str p), some (.int t), some (.int m), none, none] := rfl
  unfold mfOf k_Stables_arrive_56
  rw [e0, v_seq, q56 S hT hl, if_neg (fun z => z.elim (fun z => by rw [ddp_nodup ns [] nd] at z; simp at z) fun z => z (anR_ok ns h1 h2))]
  have q58 : q_Stables_arrive_58 [some (.obj s), some T, some (.str p), some (.int t), some (.int m), none, none] lk00 μ = some (.nx, [some (.obj s), some T, some (.str p), some (.int t), some (.int m), o5, o6], μ') := by
    unfold q_Stables_arrive_58
    rw [lockS_none (prb_of (d := T) (μ' := μ) rfl hT.no)]
    simp [hT.walk, e1]
  simp [q58, endF]
end
end K02

end
section
set_option Elab.async false
set_option linter.all false
set_option maxRecDepth 100000
set_option maxHeartbeats 1000000
/-! k02: dice; the law's own horses -/
namespace K02
open PySem PyProof.Rows L2 GXP MP
theorem eqD_ii (μ : Sto) (i j : Int) : eqD μ (.int i) (.int j) = some (.bl (decide (i = j))) := by
  unfold eqD
  have e : ∀ i : Int, snapD μ (.int i) = some (.int i) := fun _ => rfl
  have sh : ∀ i : Int, SeqAt.shaped (.int i) = true := fun _ => rfl
  rw [e, e]
  simp only [sh, Bool.and_self, if_true, PyData.eqv]
  rfl
section
variable {μ : Sto} {d : Nat} {lk : Lk}
theorem ixA0 (μ : Sto) (d : Nat) (x y z : D) (e : μ.ce d = some (.lst [x, y, z])) : ixD μ (.obj d) (.int 0) = some x := by
  simp [ixD, orOp, ixL, itL, lstOf, e, ixA, atI, ixN]
theorem ixA1 (μ : Sto) (d : Nat) (x y z : D) (e : μ.ce d = some (.lst [x, y, z])) : ixD μ (.obj d) (.int 1) = some y := by
  simp [ixD, orOp, ixL, itL, lstOf, e, ixA, atI, ixN]
theorem ixA2 (μ : Sto) (d : Nat) (x y z : D) (e : μ.ce d = some (.lst [x, y, z])) : ixD μ (.obj d) (.int 2) = some z := by
  simp [ixD, orOp, ixL, itL, lstOf, e, ixA, atI, ixN]
theorem pu0 (hl : lk d = false) (x y z w : D) (e : μ.ce d = some (.lst [x, y, z])) : putSub lk μ (.obj d) (.int 0) w = some (μ.put d (.lst [w, y, z])) := by
  simp [putSub, hl, e, ixN]
theorem pu1 (hl : lk d = false) (x y z w : D) (e : μ.ce d = some (.lst [x, y, z])) : putSub lk μ (.obj d) (.int 1) w = some (μ.put d (.lst [x, w, z])) := by
  simp [putSub, hl, e, ixN]
theorem pu2 (hl : lk d = false) (x y z w : D) (e : μ.ce d = some (.lst [x, y, z])) : putSub lk μ (.obj d) (.int 2) w = some (μ.put d (.lst [x, y, w])) := by
  simp [putSub, hl, e, ixN]
/-- a roll of the dice at d -/
structure Roll (μ : Sto) (d : Nat) (many r : Int) (μ' : Sto) : Prop where
  lo : 0 ≤ r
  hi : r < many
  st : ∃ a b c : Int, μ' = μ.put d (.lst [.int a, .int b, .int c])
theorem p_roll (hl : lk d = false) {a b c many : Int} (e : μ.ce d = some (.lst [.int a, .int b, .int c])) (h0 : 0 < many) (h1 : many ≤ 100000000) :
    ∃ r μ', f_law_roll [.obj d, .int many] lk μ = some (.ok (.int r), μ') ∧ Roll μ d many r μ' := by
  unfold f_law_roll
  rw [x_law_roll]
  have e0 : startF 3 [D.obj d, .int many] = [some (.obj d), some (.int many), none] := rfl
  have hne : many ≠ 0 := by omega
  have hab : many.natAbs < 1073741824 := by omega
  have md : ∀ (μ : Sto) (i : Int), iMod μ (.int i) (.int many) = some (.int (i.fmod many)) := fun μ i => by simp [iMod, opII, hne]
  have dv : ∀ (μ : Sto) (i : Int), divD μ (.int i) (.int many) = some (.int (i.fdiv many)) := fun μ i => by simp [divD, orOp, iDiv, opII, hne, hab]
  have d7 : ∀ (μ : Sto) (i : Int), divD μ (.int i) (.int 7) = some (.int (i.fdiv 7)) := fun μ i => rfl
  have mp : ∀ (μ : Sto) (i : Int), iMod μ (.int i) (.int 2147483647) = some (.int (i.fmod 2147483647)) := fun μ i => rfl
  have ml : ∀ (μ : Sto) (i j : Int), -p64 < j → j < p64 → iMul μ (.int i) (.int j) = some (.int (i * j)) := fun μ i j h1 h2 => by
    simp [iMul, opII, h1, h2]
  have m1 : ∀ (μ : Sto) (i : Int), iMul μ (.int i) (.int 48271) = some (.int (i * 48271)) := fun μ i => ml μ i _ (by decide) (by decide)
  have m2 : ∀ (μ : Sto) (i : Int), iMul μ (.int i) (.int 69621) = some (.int (i * 69621)) := fun μ i => ml μ i _ (by decide) (by decide)
  have ad : ∀ (μ : Sto) (i j : Int), addD μ (.int i) (.int j) = some (.int (i + j)) := fun μ i j => rfl
  have it : ∀ (μ : Sto) (i : Int), intN μ [.int i] = some (.int i) := fun μ i => rfl
  have gt : iGt μ (.int many) (.int 100000000) = some (.bl false) := by
    have : decide ((100000000 : Int) < many) = false := decide_eq_false (by omega)
    simp [iGt, opII, this]
  have f1 : ∀ i : Int, 0 ≤ i.fmod many := fun i => Int.fmod_nonneg_of_pos i h0
  have f2 : ∀ i : Int, i.fmod many < many := fun i => Int.fmod_lt_of_pos i h0
  -- the condition
  have cnd : (orQ (op2E eqD (op2E ixD (varE 0) (retE (.int 2))) (retE (.int 2))) (andQ (op2E eqD (op2E ixD (varE 0) (retE (.int 2))) (retE (.int 1))) (op2E iGt (op2E ixD (varE 0) (retE (.int 0))) (retE (.int 0))))) [some (.obj d), some (.int many), none] lk μ = some (.ok (.bl (decide (c = 2) || (decide (c = 1) && decide (0 < a)))), μ) := by
    simp only [v_orQ, v_andQ, v_op2, v_vr, List.getElem?_cons_zero, v_getS, v_ret, ixA2 μ d _ _ _ e, ixA0 μ d _ _ _ e, eqD_ii, iGt, opII]
    cases decide (c = 2) <;> simp [ixA2 μ d _ _ _ e, ixA0 μ d _ _ _ e, eqD_ii]
    cases decide (c = 1) <;> simp [ixA2 μ d _ _ _ e, ixA0 μ d _ _ _ e, eqD_ii]
  unfold mfOf k_law_roll_83
  rw [e0, v_seq]
  unfold q_law_roll_83
  rw [v_ifS, cnd]
  cases decide (c = 2) || (decide (c = 1) && decide (0 < a)) with
  | true =>
    refine ⟨a.fmod many, _, ?_, ⟨f1 a, f2 a, a.fdiv many, b, c, rfl⟩⟩
    simp [k_law_roll_84, q_law_roll_84, q_law_roll_85, q_law_roll_86, ixA0 μ d _ _ _ e, it, md, dv, pu0 hl _ _ _ _ e, endF]
  | false =>
    have e2 : (μ.put d (.lst [.int a, .int b, .int 0])).ce d = some (.lst [.int a, .int b, .int 0]) := put_same _ _ _
    have gt2 : iGt (μ.put d (.lst [.int a, .int b, .int 0])) (.int many) (.int 100000000) = some (.bl false) := gt
    refine ⟨(((a * 48271 + b * 69621 + 11).fmod 2147483647).fdiv 7).fmod many, _, ?_, ⟨f1 _, f2 _, (a * 48271 + b * 69621 + 11).fmod 2147483647, b + 1, 0, rfl⟩⟩
    have e3 : (μ.put d (.lst [.int ((a * 48271 + b * 69621 + 11).fmod 2147483647), .int b, .int 0])).ce d = some (.lst [.int ((a * 48271 + b * 69621 + 11).fmod 2147483647), .int b, .int 0]) := put_same _ _ _
    have e4 : (μ.put d (.lst [.int ((a * 48271 + b * 69621 + 11).fmod 2147483647), .int (b + 1), .int 0])).ce d = some (.lst [.int ((a * 48271 + b * 69621 + 11).fmod 2147483647), .int (b + 1), .int 0]) := put_same _ _ _
    have q90 : q_law_roll_90 [some (.obj d), some (.int many), none] lk (μ.put d (.lst [.int a, .int b, .int 0])) = some (.nx, [some (.obj d), some (.int many), none], μ.put d (.lst [.int ((a * 48271 + b * 69621 + 11).fmod 2147483647), .int b, .int 0])) := by
      unfold q_law_roll_90
      simp [ixA0 _ d _ _ _ e2, ixA1 _ d _ _ _ e2, m1, m2, ad, it, mp, pu0 hl _ _ _ _ e2]
    have q91 : q_law_roll_91 [some (.obj d), some (.int many), none] lk (μ.put d (.lst [.int ((a * 48271 + b * 69621 + 11).fmod 2147483647), .int b, .int 0])) = some (.nx, [some (.obj d), some (.int many), none], μ.put d (.lst [.int ((a * 48271 + b * 69621 + 11).fmod 2147483647), .int (b + 1), .int 0])) := by
      unfold q_law_roll_91
      simp [ixA1 _ d _ _ _ e3, ad, pu1 hl _ _ _ _ e3]
    have q92 : q_law_roll_92 [some (.obj d), some (.int many), none] lk (μ.put d (.lst [.int ((a * 48271 + b * 69621 + 11).fmod 2147483647), .int (b + 1), .int 0])) = some (.ret (.int ((((a * 48271 + b * 69621 + 11).fmod 2147483647).fdiv 7).fmod many)), [some (.obj d), some (.int many), none], μ.put d (.lst [.int ((a * 48271 + b * 69621 + 11).fmod 2147483647), .int (b + 1), .int 0])) := by
      unfold q_law_roll_92
      simp [ixA0 _ d _ _ _ e4, d7, it, md]
    have q87 : q_law_roll_87 [some (.obj d), some (.int many), none] lk μ = some (.nx, [some (.obj d), some (.int many), none], μ.put d (.lst [.int a, .int b, .int 0])) := by
      unfold q_law_roll_87
      simp [pu2 hl _ _ _ _ e]
    have q88 : q_law_roll_88 [some (.obj d), some (.int many), none] lk (μ.put d (.lst [.int a, .int b, .int 0])) = some (.nx, [some (.obj d), some (.int many), none], μ.put d (.lst [.int a, .int b, .int 0])) := by
      unfold q_law_roll_88
      simp [gt2]
    simp [q87, q88, q90, q91, q92, endF]
theorem p_dice (lk : Lk) (μ : Sto) (cell : Int) : ∃ a b c : Int, f_law_dice [.int cell] lk μ = some (.ok (.obj μ.nx), μ.add (.lst [.int a, .int b, .int c])) := by
  unfold f_law_dice
  rw [x_law_dice]
  have e0 : startF 1 [D.int cell] = [some (.int cell)] := rfl
  have sb : subD μ (.int 0) (.int 10) = some (.int (-10)) := rfl
  have lt : ∀ i j : Int, iLt μ (.int i) (.int j) = some (.bl (decide (i < j))) := fun _ _ => rfl
  have cnd : (chE iLt iLt (op2E subD (retE (.int 0)) (retE (.int 10))) (varE 0) (retE (.int 10))) [some (.int cell)] lk μ = some (.ok (.bl (decide (-10 < cell) && decide (cell < 10))), μ) := by
    simp only [v_ch, v_op2, v_ret, sb, v_vr, List.getElem?_cons_zero, v_getS, lt]
    cases decide (-10 < cell) <;> simp
  unfold mfOf k_law_dice_79
  rw [e0, v_seq]
  unfold q_law_dice_79
  rw [v_ifS, cnd]
  cases decide (-10 < cell) && decide (cell < 10) with
  | true =>
    refine ⟨if cell < 0 then -cell else cell, 0, 2, ?_⟩
    simp [k_law_dice_80, q_law_dice_80, absN, endF]
  | false =>
    have pw : iPow μ (.int 10) (.int 18) = some (.int (10 ^ 18)) := rfl
    have md : iMod μ (.int cell) (.int 1009) = some (.int (cell.fmod 1009)) := rfl
    have it : intN μ [.int cell] = some (.int cell) := rfl
    have ib : ∀ b, intN μ [.bl b] = some (.int (if b then 1 else 0)) := fun _ => rfl
    have ad : ∀ j : Int, addD μ (.int 1) (.int j) = some (.int (1 + j)) := fun _ => rfl
    have ge : iGe μ (.int cell) (.int (10 ^ 18)) = some (.bl (decide ((10 : Int) ^ 18 ≤ cell))) := rfl
    refine ⟨cell, 1 + cell.fmod 1009, if decide ((10 : Int) ^ 18 ≤ cell) then 1 else 0, ?_⟩
    simp only [v_seq, v_nx, q_law_dice_81, v_retS, v_lstO, v_consA, v_vr, List.getElem?_cons_zero, v_getS, v_op2, v_ret, v_cal, v_nilA, it, md, ad, pw, ge, ib, endF]
    rfl
end
theorem p_rounds (ns : List Int) : ∃ a b c : Int, f_law_rounds [.kl (ns.map .int), .int 1] lk00 ⟨0, fun _ => none⟩ = some (.ok (.lst [.obj 0]), (⟨0, fun _ => none⟩ : Sto).add (.lst [.int a, .int b, .int c])) := by
  have main : ∀ (cell : Int) (μ : Sto), μ = ⟨0, fun _ => none⟩ → ∃ a b c : Int, endF (q_law_rounds_97 [some (.kl (ns.map .int)), some (.int 1), some (.lst [.int cell]), none] lk00 μ) = some (.ok (.lst [.obj 0]), μ.add (.lst [.int a, .int b, .int c])) := by
    intro cell μ hμ
    obtain ⟨a, b, c, e⟩ := p_dice lk00 μ cell
    refine ⟨a, b, c, ?_⟩
    have hn : μ.nx = 0 := by rw [hμ]
    rw [hn] at e
    unfold q_law_rounds_97
    rw [v_retS, lockE_none (prb_of (d := .lst [.int cell]) (μ' := μ) rfl (fun n z => by cases z))]
    simp [walk_lst, lcL, cName, wipeF, e, endF]
  unfold f_law_rounds
  rw [x_law_rounds]
  have e0 : startF 4 [D.kl (ns.map .int), .int 1] = [some (.kl (ns.map .int)), some (.int 1), none, none] := rfl
  unfold mfOf k_law_rounds_94
  rw [e0, v_seq]
  cases ns with
  | nil =>
    have sl : slD (⟨0, fun _ => none⟩ : Sto) (.kl []) none (some 1) = some (.lst []) := rfl
    have eq : eqD (⟨0, fun _ => none⟩ : Sto) (.lst []) (.lst []) = some (.bl true) := rfl
    obtain ⟨a, b, c, e⟩ := main 0 _ rfl
    refine ⟨a, b, c, ?_⟩
    rw [← e]
    simp [q_law_rounds_94, sl, q_law_rounds_95, eq, k_law_rounds_96, q_law_rounds_96]
    split <;> simp_all [endF]
  | cons n ns =>
    have sl : slD (⟨0, fun _ => none⟩ : Sto) (.kl ((n :: ns).map .int)) none (some 1) = some (.lst [.int n]) := by
      unfold slD
      simp only [itL]
      have e1 : HT.sIx ((n :: ns).map D.int).length ((n :: ns).map D.int).length (some 1) = 1 := by
        show HT.sIx _ _ (some ((1 : Nat) : Int)) = 1
        rw [HT.sIx_nat, List.length_map, List.length_cons]; omega
      unfold MP.cutD
      rw [e1]
      rfl
    have eq : eqD (⟨0, fun _ => none⟩ : Sto) (.lst [.int n]) (.lst []) = some (.bl false) := rfl
    obtain ⟨a, b, c, e⟩ := main n _ rfl
    refine ⟨a, b, c, ?_⟩
    rw [← e]
    simp only [v_seq, q_law_rounds_94, v_asg, v_sl1, v_vr, List.getElem?_cons_zero, List.getElem?_cons_succ, v_getS, sl, v_thru, v_nameG, q_law_rounds_95, v_ifS, v_op2, v_lstE, v_nilA, List.set_cons_succ, List.set_cons_zero]
    simp [eq]
    split <;> simp_all [endF]
end K02

end
section
set_option Elab.async false
set_option linter.all false
set_option maxRecDepth 100000
set_option maxHeartbeats 1000000
/-! k02: the law's own horses; orders -/
namespace K02
open PySem PyProof.Rows L2 GXP MP
structure Ow (μ : Sto) (o : Nat) (hs : List Ho) (lo : List Nat → Nat) : Prop where
  dc : μ.ce o = some (.dct false (hs.map fun r => (.str r.nm, .obj (lo r.nm))))
  ce : ∀ r ∈ hs, μ.ce (lo r.nm) = some (OF r)
  inj : ∀ r ∈ hs, ∀ r' ∈ hs, lo r.nm = lo r'.nm → r.nm = r'.nm
theorem Ow.keep {μ μ' : Sto} {o : Nat} {hs : List Ho} {lo : List Nat → Nat} (S : Ow μ o hs lo) (k : ∀ n c, μ.ce n = some c → (∀ fs, c ≠ .ins 0 fs) → μ'.ce n = some c) : Ow μ' o hs lo :=
  ⟨k _ _ S.dc (fun fs z => by cases z), fun r hr => k _ _ (S.ce r hr) (fun fs z => by cases z), S.inj⟩
section
variable {μ : Sto} {o l : Nat} {hs : List Ho} {lo : List Nat → Nat} {r : Ho} {lk : Lk}
theorem getD_o (S : Ow μ o hs lo) (n : List Nat) : getD μ (.obj o) (.str n) = some (if n ∈ hs.map Ho.nm then some (.obj (lo n)) else none) := by
  simp only [getD, dctOf, dctC, S.dc, okKey, toKey, Option.isSome_some, if_true]
  rw [lookD_map (nm := Ho.nm) (g := fun n => D.obj (lo n))]
theorem ix_o (S : Ow μ o hs lo) {n : List Nat} (hn : n ∈ hs.map Ho.nm) : ixD μ (.obj o) (.str n) = some (.obj (lo n)) := by
  unfold ixD orOp
  simp only [ixL, itL_dct S.dc, ixT, itT, ixS, ixDc, getD_o S, if_pos hn]
theorem notIn_o (S : Ow μ o hs lo) (n : List Nat) : notInD μ (.str n) (.obj o) = some (.bl (decide (n ∉ hs.map Ho.nm))) := by
  unfold notInD orOp
  simp only [inDc, getD_o S]
  by_cases z : n ∈ hs.map Ho.nm <;> simp [z]
theorem o0 (e : μ.ce l = some (OF r)) : ixD μ (.obj l) (.int 0) = some (.str r.ho) := by
  simp [ixD, orOp, ixL, itL, lstOf, e, ixA, atI, ixN, OF]
theorem o1 (e : μ.ce l = some (OF r)) : ixD μ (.obj l) (.int 1) = some (plD r.pl) := by
  simp [ixD, orOp, ixL, itL, lstOf, e, ixA, atI, ixN, OF]
theorem o2 (e : μ.ce l = some (OF r)) : ixD μ (.obj l) (.int 2) = some (.int r.re) := by
  simp [ixD, orOp, ixL, itL, lstOf, e, ixA, atI, ixN, OF]
theorem o3 (e : μ.ce l = some (OF r)) : ixD μ (.obj l) (.int 3) = some (.int r.mi) := by
  simp [ixD, orOp, ixL, itL, lstOf, e, ixA, atI, ixN, OF]
theorem walk_o (S : Ow μ o hs lo) {lk : Lk} (hl : lk o = true) : walkV (some o) lk μ (.obj o) = some (hs.map fun r => .str r.nm) := by
  rw [walk_dct hl S.dc, List.map_map]; rfl
theorem p_lawat (S : Ow μ o hs lo) (ok : ∀ r ∈ hs, Good r) (hlen : hs.length ≤ 1000) {p : List Nat} (hp : okS p) : f_law_at [.obj o, .str p] lk μ = some (.ok (.lst ((atL hs p).map fun r => .str r.nm)), μ) := by
  unfold f_law_at
  refine pure_ok (μ' := μ) ?_ (by unfold lowD; exact lowDs_map _ _ fun r _ => rfl)
  rw [x_law_at]
  generalize allLk μ.nx lk = lk0
  have e0 : startF 5 [D.obj o, .str p] = [some (.obj o), some (.str p), none, none, none] := rfl
  have lc : lockE (varE 0) (lcE false [3] (itE (varE 0)) (cName 3) (op2E eqD (op2E ixD (op2E ixD (varE 0) (varE 3)) (retE (.int 1))) (varE 1)) (tupE (consA (calE intN (consA (op2E eqD (op2E ixD (op2E ixD (varE 0) (varE 3)) (retE (.int 0))) (varE 1)) nilA)) (consA (op2E ixD (op2E ixD (varE 0) (varE 3)) (retE (.int 2))) (consA (varE 3) nilA))))) [some (.obj o), some (.str p), none, none, none] lk0 μ = some (.ok (.lst ((hs.filter (atP p)).map (rowD p))), μ) := by
    rw [lockE_dct (n := o) (μ' := μ) rfl S.dc]
    have w := walk_o S (lk := lkp o lk0) (by simp [lkp])
    simp only [v_lc, v_itE, v_vr, List.getElem?_cons_zero, v_getS, w]
    rw [lcL_map (fun r : Ho => D.str r.nm) (atP p) (rowD p) hs 0 (by omega) fun r hm => ⟨[some (.obj o), some (.str p), none, some (.str r.nm), none], rfl, by
      have g := ok r hm
      have q : eqD μ (plD r.pl) (.str p) = some (.bl (atP p r)) := eqD_ps g.pl hp
      simp [ix_o S (mem_nm hm), o1 (S.ce r hm), q], fun _ => by
      have g := ok r hm
      have q : eqD μ (.str r.ho) (.str p) = some (.bl (decide (r.ho = p))) := eqD_ss g.ho hp
      simp [ix_o S (mem_nm hm), o0 (S.ce r hm), o2 (S.ce r hm), q, intN, rowD]⟩]
    rfl
  have srt := sort_rows (μ := μ) (p := p) (l := hs.filter (atP p)) (itAny_lst (μ := μ))
  have q104 : q_law_at_104 [some (.obj o), some (.str p), none, none, none] lk0 μ = some (.nx, [some (.obj o), some (.str p), some (.lst ((atL hs p).map (rowD p))), none, none], μ) := by
    unfold q_law_at_104
    rw [v_asg, v_cal, v_consA, lc]
    simp only [v_nilA, srt]
    rfl
  unfold mfOf k_law_at_104
  rw [e0, v_seq, q104]
  simp only [v_seq]
  unfold q_law_at_105
  rw [v_retS, lockE_none (prb_of (d := .lst ((atL hs p).map (rowD p))) (μ' := μ) rfl (fun n z => by cases z))]
  simp only [v_lc, v_itE, v_vr, List.getElem?_cons_succ, List.getElem?_cons_zero, v_getS, walk_lst]
  rw [lcL_mapT (rowD p) (fun r => .str r.nm) (atL hs p) 0 (by have := atL_len hs p; omega) fun r hm => ⟨[some (.obj o), some (.str p), some (.lst ((atL hs p).map (rowD p))), none, some (rowD p r)], rfl, rfl, by
    have q : ixD μ (rowD p r) (.int 2) = some (.str r.nm) := rfl
    simp [q]⟩]
  simp [endF]
end
/-! orders -/
theorem srt_uniq {α : Type} {le : α → α → Prop} (anti : ∀ a b, le a b → le b a → a = b) : ∀ (l l' : List α), l.Pairwise le → l'.Pairwise le → l.Perm l' → l = l'
  | [], l', _, _, p => (List.nil_perm.mp p).symm
  | a :: l, l', h, h', p => by
    cases l' with
    | nil => exact absurd p.symm (by intro z; exact absurd (List.nil_perm.mp z) (by simp))
    | cons b l' =>
      obtain ⟨h1, h2⟩ := List.pairwise_cons.mp h
      obtain ⟨h3, h4⟩ := List.pairwise_cons.mp h'
      have e : a = b := by
        have ha : a ∈ b :: l' := p.mem_iff.mp List.mem_cons_self
        have hb : b ∈ a :: l := p.mem_iff.mpr List.mem_cons_self
        rcases List.mem_cons.mp ha with z | z
        · exact z
        · rcases List.mem_cons.mp hb with z' | z'
          · exact z'.symm
          · exact anti a b (h1 b z') (h3 a z)
      subst e
      rw [srt_uniq anti l l' h2 h4 (List.Perm.cons_inv p)]
theorem sI_perm {l l' : List Int} (p : l.Perm l') : sI l = sI l' := by
  have tr : ∀ a b c : Int, decide (a ≤ b) = true → decide (b ≤ c) = true → decide (a ≤ c) = true := fun a b c h h' => decide_eq_true (by have := of_decide_eq_true h; have := of_decide_eq_true h'; omega)
  have tot : ∀ a b : Int, (decide (a ≤ b) || decide (b ≤ a)) = true := fun a b => by
    by_cases h : a ≤ b
    · simp [h]
    · simp [h]; omega
  refine srt_uniq (le := fun a b => decide (a ≤ b) = true) (fun a b h h' => by have := of_decide_eq_true h; have := of_decide_eq_true h'; omega) _ _ (List.pairwise_mergeSort tr tot l) (List.pairwise_mergeSort tr tot l') ?_
  exact (List.mergeSort_perm l _).trans (p.trans (List.mergeSort_perm l' _).symm)
theorem anti_S (a b : List Nat) (h : leS a b = true) (h' : leS b a = true) : a = b := List.le_antisymm (of_decide_eq_true h) (of_decide_eq_true h')
/-- sorted names -/
theorem nm_sort (l : List Ho) : (l.mergeSort leN).map Ho.nm = (l.map Ho.nm).mergeSort leS := List.map_mergeSort (f := Ho.nm) (fun a _ b _ => rfl)
theorem sort_filter (P : Ho → Bool) (l : List Ho) : ((l.mergeSort leN).filter P).map Ho.nm = ((l.filter P).mergeSort leN).map Ho.nm := by
  refine srt_uniq (le := fun a b => leS a b = true) anti_S _ _ ?_ ?_ ?_
  · have h : ((l.mergeSort leN).map Ho.nm).Pairwise fun a b => leS a b = true := by rw [nm_sort]; exact leS_pair _
    have h2 : (l.mergeSort leN).Pairwise fun a b => leS a.nm b.nm = true := List.pairwise_map.mp h
    exact List.pairwise_map.mpr (h2.filter P)
  · rw [nm_sort]; exact leS_pair _
  · exact ((List.mergeSort_perm l leN).filter P |>.trans (List.mergeSort_perm (l.filter P) leN).symm).map Ho.nm
theorem atL_perm (hs : List Ho) (p : List Nat) : (atL hs p).Perm (hs.filter (atP p)) := List.mergeSort_perm _ _
/-- the first of those sorted by miles, names -/
theorem leT_sort (l : List Ho) : ∀ r rs, (l.mergeSort fun a b => PySem.W.dataLe false tiP a b) = r :: rs → r ∈ l ∧ ∀ r' ∈ l, ¬ ltT r' r := by
  intro r rs e
  have hle : ∀ a b : Ho, PySem.W.dataLe false tiP a b = !decide (ltT b a) := fun a b => by
    show (!PySem.W.dataLt (tiP b) (tiP a)) = _
    rw [lt_ti]
  have tr : ∀ a b c : Ho, PySem.W.dataLe false tiP a b = true → PySem.W.dataLe false tiP b c = true → PySem.W.dataLe false tiP a c = true := fun a b c h h' => by
    rw [hle] at *
    simp only [Bool.not_eq_true', decide_eq_false_iff_not] at *
    intro k
    -- c < a, not b < a, not c < b
    unfold ltT at *
    rcases Int.lt_trichotomy (0 - a.mi) (0 - b.mi) with q | q | q
    · apply h'; rcases k with k | ⟨k, _⟩ <;> exact .inl (by omega)
    · rcases k with k | ⟨k1, k2⟩
      · exact h' (.inl (by omega))
      · refine h' (.inr ⟨by omega, Classical.byContradiction fun z => ?_⟩)
        have h1 : ¬ b.nm < a.nm := fun z => h (.inr ⟨by omega, z⟩)
        exact List.le_trans (List.not_lt.mp h1) (List.not_lt.mp z) k2
    · exact h (.inl q)
  have tot : ∀ a b : Ho, (PySem.W.dataLe false tiP a b || PySem.W.dataLe false tiP b a) = true := fun a b => by
    rw [hle, hle]
    by_cases h : ltT b a
    · have : ¬ ltT a b := fun z => by
        have := ltT_tr h z
        unfold ltT at this
        rcases this with k | ⟨_, k⟩
        · omega
        · exact List.lt_irrefl _ k
      simp [this]
    · simp [h]
  have pw := List.pairwise_mergeSort tr tot l
  rw [e] at pw
  have pm := List.mergeSort_perm l fun a b => PySem.W.dataLe false tiP a b
  rw [e] at pm
  refine ⟨pm.mem_iff.mp List.mem_cons_self, fun r' hr => ?_⟩
  rcases List.mem_cons.mp (pm.mem_iff.mpr hr) with z | z
  · subst z
    intro k
    unfold ltT at k
    rcases k with k | ⟨_, k⟩
    · omega
    · exact List.lt_irrefl _ k
  · have := (List.pairwise_cons.mp pw).1 r' z
    rw [hle] at this
    simpa using this
theorem ltT_anti {a b : Ho} (h : ¬ ltT a b) (h' : ¬ ltT b a) : a.nm = b.nm := by
  unfold ltT at *
  have e : 0 - a.mi = 0 - b.mi := by
    rcases Int.lt_trichotomy (0 - a.mi) (0 - b.mi) with q | q | q
    · exact absurd (.inl q) h
    · exact q
    · exact absurd (.inl q) h'
  exact List.le_antisymm (List.not_lt.mp fun z => h' (.inr ⟨e.symm, z⟩)) (List.not_lt.mp fun z => h (.inr ⟨e, z⟩))
end K02

end
section
set_option Elab.async false
set_option linter.all false
set_option maxRecDepth 100000
set_option maxHeartbeats 1000000
/-! k02: the law's state; horses are added -/
namespace K02
open PySem PyProof.Rows L2 GXP MP
def abc : List (List Nat) := [[97], [98], [99]]
theorem abc_ok {p : List Nat} (h : p ∈ abc) : okS p := by
  simp only [abc, List.mem_cons, List.not_mem_nil, or_false] at h
  rcases h with rfl | rfl | rfl <;> exact ⟨by decide, by decide⟩
structure LInv (μ : Sto) (d s h o : Nat) (hs : List Ho) (la lo : List Nat → Nat) (tm : List (List (List Nat))) : Prop where
  W : Wf μ
  S : St1 μ s h hs la
  O : Ow μ o hs lo
  D : ∃ a b c : Int, μ.ce d = some (.lst [.int a, .int b, .int c])
  oh : o ≠ h
  pa : ∀ r ∈ hs, r.ho ∈ abc ∧ ∀ p, r.pl = some p → p ∈ abc
  tm1 : ∀ t ∈ tm, t.Nodup ∧ t.length ≤ 4 ∧ ∀ n ∈ t, n ∈ hs.map Ho.nm
  tm2 : ∀ t ∈ tm, ∀ r ∈ hs, r.nm ∈ t → r.pl = none
  tm3 : tm.Pairwise fun a b => ∀ n ∈ a, n ∉ b
section
variable {μ : Sto} {d s h o : Nat} {hs : List Ho} {la lo : List Nat → Nat} {tm : List (List (List Nat))}
theorem LInv.roll (I : LInv μ d s h o hs la lo tm) {many r : Int} {μ' : Sto} (R : Roll μ d many r μ') : LInv μ' d s h o hs la lo tm := by
  obtain ⟨a, b, c, rfl⟩ := R.st
  obtain ⟨a0, b0, c0, e0⟩ := I.D
  have kp : ∀ n x, μ.ce n = some x → (∀ i j k : Int, x ≠ .lst [.int i, .int j, .int k]) → (μ.put d (.lst [.int a, .int b, .int c])).ce n = some x := fun n x e z => by
    rw [put_ce]
    split
    · rename_i q; rw [q, e0] at e; cases e; exact absurd rfl (z _ _ _)
    · exact e
  exact ⟨I.W.put e0, ⟨kp _ _ I.S.st (fun _ _ _ z => by cases z), kp _ _ I.S.dc (fun _ _ _ z => by cases z), fun r hr => kp _ _ (I.S.ce r hr) (fun _ _ _ z => by cases z), I.S.inj, I.S.nd, I.S.ok, I.S.len⟩,
    ⟨kp _ _ I.O.dc (fun _ _ _ z => by cases z), fun r hr => kp _ _ (I.O.ce r hr) (fun _ _ _ z => by unfold OF at z; cases z), I.O.inj⟩, ⟨a, b, c, put_same _ _ _⟩, I.oh, I.pa, I.tm1, I.tm2, I.tm3⟩
theorem roll_f (I : LInv μ d s h o hs la lo tm) {many : Int} (h0 : 0 < many) (h1 : many ≤ 100000000) : ∃ r μ', f_law_roll [.obj d, .int many] lk00 μ = some (.ok (.int r), μ') ∧ 0 ≤ r ∧ r < many ∧ LInv μ' d s h o hs la lo tm := by
  obtain ⟨a, b, c, e⟩ := I.D
  obtain ⟨r, μ', e1, R⟩ := p_roll (lk := lk00) rfl e h0 h1
  exact ⟨r, μ', e1, R.lo, R.hi, I.roll R⟩
end
/-- the digits -/
def dg (i : Int) : List Nat := (toString i : Str).cps.toList
theorem nm_ok {i : Int} (h0 : 0 ≤ i) (h1 : i < 20) : i.natAbs.log2 < 1920 ∧ okS (104 :: dg i) ∧ (dg i).length ≤ 100 := by
  have key : ∀ n : Fin 20, ((n.val : Int)).natAbs.log2 < 1920 ∧ ((104 :: dg (n.val : Int)).length ≤ 1000 ∧ ∀ c ∈ 104 :: dg (n.val : Int), c < 1114112) ∧ (dg (n.val : Int)).length ≤ 100 := by decide +kernel
  obtain ⟨n, rfl⟩ : ∃ n : Nat, i = n := ⟨i.toNat, by omega⟩
  exact key ⟨n, by omega⟩
theorem str_nm {μ : Sto} {i : Int} (h0 : 0 ≤ i) (h1 : i < 20) : strN μ [.int i] = some (.str (dg i)) ∧ addD μ (.str [104]) (.str (dg i)) = some (.str (104 :: dg i)) := by
  obtain ⟨a, b, c⟩ := nm_ok h0 h1
  refine ⟨by simp only [strN, a, if_true]; rfl, ?_⟩
  have : [104].length + (dg i).length ≤ 16777216 := by simp; omega
  simp only [addD, orOp, iAdd, opII, sAdd, this, if_true]
  rfl
theorem ix_abc {μ : Sto} {i : Int} (h0 : 0 ≤ i) (h1 : i < 3) : ∃ p ∈ abc, ixD μ (.str [97, 98, 99]) (.int i) = some (.str p) := by
  have : i = 0 ∨ i = 1 ∨ i = 2 := by omega
  rcases this with rfl | rfl | rfl
  · exact ⟨[97], by simp [abc], rfl⟩
  · exact ⟨[98], by simp [abc], rfl⟩
  · exact ⟨[99], by simp [abc], rfl⟩
def tmD (tm : List (List (List Nat))) : D := .lst (tm.map fun t => .lst (t.map .str))
def IsF (x : D) (d s o : Nat) (tm : List (List (List Nat))) (t : Int) (ρ : Fr) : Prop := ∃ o6 o7 o8 o9 o10 o11 o12 o13 o14 o15 o16 o17 o18 o19 o20 o21 : Option D,
  ρ = [some x, some (.obj d), some (.obj s), some (.obj o), some (tmD tm), some (.int t), o6, o7, o8, o9, o10, o11, o12, o13, o14, o15, o16, o17, o18, o19, o20, o21]
theorem r_Stables_init (lk : Lk) (μ : Sto) (a : Nat) (hl : lk a = false) (hn : a ≠ μ.nx) (hc : μ.ce a = some (.ins 1 [])) :
    f_Stables_init [.obj a] lk μ = some (.ok .non, (μ.add (.dct false [])).put a (.ins 1 [(5, .obj μ.nx)])) := by
  unfold f_Stables_init
  rw [x_Stables_init]
  simp [mfOf, startF, endF, k_Stables_init_20, q_Stables_init_20, hl, hc, insC, add_ce, putFD, fd_horses, hn]
/-- new stables -/
theorem mk_stables {ρ : Fr} {μ : Sto} (W : Wf μ) : ∃ μ', makeE 1 1 f_Stables_init nilA ρ lk00 μ = some (.ok (.obj μ.nx), μ') ∧ Wf μ' ∧ μ'.nx = μ.nx + 2 ∧ (∀ k c, μ.ce k = some c → μ'.ce k = some c) ∧ ∀ la, St1 μ' μ.nx (μ.nx + 1) [] la := by
  have e := r_Stables_init lk00 (μ.add (.ins 1 [])) μ.nx rfl (by simp) (add_same _ _)
  refine ⟨((μ.add (.ins 1 [])).add (.dct false [])).put μ.nx (.ins 1 [(5, .obj (μ.nx + 1))]), ?_, ?_, rfl, fun k c z => ?_, fun la => ⟨put_same _ _ _, ?_, fun r hr => (by cases hr), fun r hr => (by cases hr), List.nodup_nil, fun r hr => (by cases hr), Nat.zero_le _⟩⟩
  · rw [v_make]
    simp only [v_nilA, List.length_nil, Nat.zero_add, if_true, e, mkEnd]
    rfl
  · exact W.add'.add'.put (W.add'.add (add_same _ _))
  · rw [put_ce, if_neg (W.ne z)]
    exact W.add'.add (W.add z)
  · rw [put_ce, if_neg (by omega)]
    exact add_same (μ.add (.ins 1 [])) _
theorem ph_A {μ : Sto} {d : Nat} {x : D} (W : Wf μ) (D0 : ∃ a b c : Int, μ.ce d = some (.lst [.int a, .int b, .int c])) (o2 o3 o4 o5 o6 o7 o8 o9 o10 o11 o12 o13 o14 o15 o16 o17 o18 o19 o20 o21 : Option D) :
    ∃ ρ' μ' s h o, q_law_108 [some x, some (.obj d), o2, o3, o4, o5, o6, o7, o8, o9, o10, o11, o12, o13, o14, o15, o16, o17, o18, o19, o20, o21] lk00 μ = some (.nx, ρ', μ') ∧ IsF x d s o [] 0 ρ' ∧ ∀ la lo, LInv μ' d s h o [] la lo [] := by
  obtain ⟨a, b, c, e0⟩ := D0
  obtain ⟨μ1, e1, W1, n1, k1, S1⟩ := mk_stables (ρ := [some x, some (.obj d), o2, o3, o4, o5, o6, o7, o8, o9, o10, o11, o12, o13, o14, o15, o16, o17, o18, o19, o20, o21]) W
  refine ⟨_, μ1.add (.dct false []), μ.nx, μ.nx + 1, μ1.nx, ?_, ⟨o6, o7, o8, o9, o10, o11, o12, o13, o14, o15, o16, o17, o18, o19, o20, o21, rfl⟩, fun la lo => ?_⟩
  · unfold q_law_108
    rw [v_asg, v_tupE, v_consA, e1]
    simp
    rfl
  · exact ⟨W1.add', (S1 la).keep fun n c e => W1.add e, ⟨add_same _ _, fun r hr => (by cases hr), fun r hr => (by cases hr)⟩, ⟨a, b, c, W1.add (k1 _ _ e0)⟩, (by omega), fun r hr => (by cases hr), fun t ht => (by cases ht), fun t ht => (by cases ht), List.Pairwise.nil⟩
end K02

end
section
set_option Elab.async false
set_option linter.all false
set_option maxRecDepth 100000
set_option maxHeartbeats 1000000
/-! k02: horses are added -/
namespace K02
open PySem PyProof.Rows L2 GXP MP
abbrev HE : List Nat := [72, 111, 114, 115, 101, 69, 114, 114, 111, 114]
theorem eqD_nonS (μ : Sto) (x : List Nat) (hx : okS x) : eqD μ .non (.str x) = some (.bl false) := by
  have := eqD_pl (μ := μ) (x := none) (y := some x) (fun _ z => by cases z) (okO hx)
  simpa [plD] using this
theorem eqD_bb (μ : Sto) (a b : Bool) : eqD μ (.bl a) (.bl b) = some (.bl (a == b)) := by cases a <;> cases b <;> rfl
theorem okHE : okS HE := ⟨by decide, by decide⟩
section
variable {μ : Sto} {d s h o : Nat} {hs : List Ho} {la lo : List Nat → Nat} {x : D}
/-- own[name] = a new list -/
theorem own_set {μ : Sto} {tm : List (List (List Nat))} (W : Wf μ) (O : Ow μ o hs lo) (hl : hs.length ≤ 1000) (n : List Nat) (c : List D) :
    putSub lk00 (μ.add (.lst c)) (.obj o) (.str n) (.obj μ.nx) = some ((μ.add (.lst c)).put o (.dct false (putD (hs.map fun r => (.str r.nm, .obj (lo r.nm))) (.str n) (.obj μ.nx)))) := by
  have dc : (μ.add (.lst c)).ce o = some (.dct false (hs.map fun r => (.str r.nm, .obj (lo r.nm)))) := W.add O.dc
  have hl' : (hs.map fun r => (D.str r.nm, D.obj (lo r.nm))).length < 16777216 := by rw [List.length_map]; omega
  simp only [putSub, dc, okKey, toKey, Option.isSome_some, Bool.true_and, Bool.false_eq_true, if_false, hl', decide_true, if_true]
theorem ph_B (I : LInv μ d s h o hs la lo []) (hl : hs.length < 1000) {ρ : Fr} {t : Int} (F : IsF x d s o [] t ρ) (k : D) :
    ∃ ρ' μ' hs' la' lo', gbS (nameG 6) k_law_110 k ρ lk00 μ = some (.nx, ρ', μ') ∧ IsF x d s o [] t ρ' ∧ LInv μ' d s h o hs' la' lo' [] ∧ hs'.length ≤ hs.length + 1 := by
  obtain ⟨o6, o7, o8, o9, o10, o11, o12, o13, o14, o15, o16, o17, o18, o19, o20, o21, rfl⟩ := F
  obtain ⟨r1, μ1, e1, a1, b1, I1⟩ := roll_f I (many := 20) (by decide) (by decide)
  obtain ⟨r2, μ2, e2, a2, b2, I2⟩ := roll_f I1 (many := 3) (by decide) (by decide)
  obtain ⟨p, hp, ip⟩ := ix_abc (μ := μ2) a2 b2
  obtain ⟨s1, s2⟩ := str_nm (μ := μ1) a1 b1
  obtain ⟨_, okn, _⟩ := nm_ok a1 b1
  generalize hn : (104 :: dg r1) = n at s2 okn
  have hne : n ≠ [] := by rw [← hn]; simp
  have q110 : ∀ k, q_law_110 [some x, some (.obj d), some (.obj s), some (.obj o), some (tmD []), some (.int t), some k, o7, o8, o9, o10, o11, o12, o13, o14, o15, o16, o17, o18, o19, o20, o21] lk00 μ = some (.nx, [some x, some (.obj d), some (.obj s), some (.obj o), some (tmD []), some (.int t), some k, some (.str n), some (.str p), o9, o10, o11, o12, o13, o14, o15, o16, o17, o18, o19, o20, o21], μ2) := fun k => by
    unfold q_law_110
    simp [e1, e2, s1, s2, ip]
  have q111 : ∀ k, q_law_111 [some x, some (.obj d), some (.obj s), some (.obj o), some (tmD []), some (.int t), some k, some (.str n), some (.str p), o9, o10, o11, o12, o13, o14, o15, o16, o17, o18, o19, o20, o21] lk00 μ2 = some (.nx, [some x, some (.obj d), some (.obj s), some (.obj o), some (tmD []), some (.int t), some k, some (.str n), some (.str p), some (.bl (decide (n ∉ hs.map Ho.nm))), o10, o11, o12, o13, o14, o15, o16, o17, o18, o19, o20, o21], μ2) := fun k => by
    unfold q_law_111
    simp [notIn_o I2.O]
  by_cases hm : n ∈ hs.map Ho.nm
  · -- the name is taken
    have ad := p_add_bad I2.S (ho := p) okn (.inl hm)
    have q112 : ∀ k, q_law_112 [some x, some (.obj d), some (.obj s), some (.obj o), some (tmD []), some (.int t), some k, some (.str n), some (.str p), some (.bl (decide (n ∉ hs.map Ho.nm))), o10, o11, o12, o13, o14, o15, o16, o17, o18, o19, o20, o21] lk00 μ2 = some (.nx, [some x, some (.obj d), some (.obj s), some (.obj o), some (tmD []), some (.int t), some k, some (.str n), some (.str p), some (.bl (decide (n ∉ hs.map Ho.nm))), o10, o11, o12, o13, o14, o15, o16, o17, o18, o19, o20, o21], μ2) := fun k => by
      unfold q_law_112
      have z : decide (n ∉ hs.map Ho.nm) = false := by simp [hm]
      rw [z]
      have q := eqD_ss (μ := μ2) okHE okHE
      simp [isC_s I2.S, ad, q, eqD_bb]
    refine ⟨_, μ2, hs, la, lo, ?_, ⟨some k, some (.str n), some (.str p), some (.bl (decide (n ∉ hs.map Ho.nm))), o10, o11, o12, o13, o14, o15, o16, o17, o18, o19, o20, o21, rfl⟩, I2, Nat.le_succ _⟩
    have z : decide (n ∉ hs.map Ho.nm) = false := by simp [hm]
    simp only [v_gb, v_thru, v_nameG, List.set_cons_succ, List.set_cons_zero, k_law_110, v_seq, q110, q111, q112]
    rw [z]
    simp [q_law_115, truD]
  · obtain ⟨μ3, e3, S3, W3, n3, k3⟩ := p_add I2.W I2.S okn (abc_ok hp) hm hne hl
    have q112 : ∀ k, q_law_112 [some x, some (.obj d), some (.obj s), some (.obj o), some (tmD []), some (.int t), some k, some (.str n), some (.str p), some (.bl (decide (n ∉ hs.map Ho.nm))), o10, o11, o12, o13, o14, o15, o16, o17, o18, o19, o20, o21] lk00 μ2 = some (.nx, [some x, some (.obj d), some (.obj s), some (.obj o), some (tmD []), some (.int t), some k, some (.str n), some (.str p), some (.bl (decide (n ∉ hs.map Ho.nm))), o10, o11, o12, o13, o14, o15, o16, o17, o18, o19, o20, o21], μ3) := fun k => by
      unfold q_law_112
      have z : decide (n ∉ hs.map Ho.nm) = true := by simp [hm]
      rw [z]
      have q := eqD_nonS μ3 HE okHE
      simp [isC_s I2.S, e3, q, eqD_bb]
    -- own's list
    have O3 : Ow μ3 o hs lo := ⟨k3 _ _ I2.O.dc I2.oh, fun r hr => k3 _ _ (I2.O.ce r hr) (fun z => by
      have h1 := I2.O.ce r hr
      rw [z, I2.S.dc] at h1
      cases h1), I2.O.inj⟩
    let c : List D := [.str p, .str p, .int 0, .int 0]
    have os := own_set (tm := []) W3 O3 I2.S.len n c
    have hon : o ≠ μ3.nx := W3.ne O3.dc
    obtain ⟨nr, hnr⟩ : ∃ nr : Ho, nr = ⟨n, p, some p, 0, 0⟩ := ⟨_, rfl⟩
    have nrn : nr.nm = n := by rw [hnr]
    obtain ⟨lo', hlo⟩ : ∃ lo' : List Nat → Nat, lo' = fun k => if k = n then μ3.nx else lo k := ⟨_, rfl⟩
    have lo1 : ∀ r ∈ hs, lo' r.nm = lo r.nm := fun r hr => by rw [hlo]; exact if_neg (fun (z : r.nm = n) => hm (z ▸ mem_nm hr))
    have lo2 : lo' n = μ3.nx := by rw [hlo]; exact if_pos rfl
    rw [← hnr] at S3
    have pd : putD (hs.map fun r => (D.str r.nm, D.obj (lo r.nm))) (.str n) (.obj μ3.nx) = (hs ++ [nr]).map fun r => (D.str r.nm, D.obj (lo' r.nm)) := by
      unfold putD
      rw [lookD_map (nm := Ho.nm) (g := fun n => D.obj (lo n)), if_neg hm, List.map_append]
      simp only [Option.isSome_none, Bool.false_eq_true, if_false]
      congr 1
      · refine List.map_congr_left fun r hr => ?_
        rw [lo1 r hr]
      · rw [List.map_cons, List.map_nil, nrn, lo2]
    rw [pd] at os
    obtain ⟨a0, b0, c0, hd⟩ := I2.D
    have kp : ∀ k' c', μ3.ce k' = some c' → k' ≠ o → ((μ3.add (.lst c)).put o (.dct false ((hs ++ [nr]).map fun r => (D.str r.nm, D.obj (lo' r.nm))))).ce k' = some c' := fun k' c' e z => by
      rw [put_ce, if_neg z]; exact W3.add e
    have q115 : ∀ k, q_law_115 [some x, some (.obj d), some (.obj s), some (.obj o), some (tmD []), some (.int t), some k, some (.str n), some (.str p), some (.bl (decide (n ∉ hs.map Ho.nm))), o10, o11, o12, o13, o14, o15, o16, o17, o18, o19, o20, o21] lk00 μ3 = some (.nx, [some x, some (.obj d), some (.obj s), some (.obj o), some (tmD []), some (.int t), some k, some (.str n), some (.str p), some (.bl (decide (n ∉ hs.map Ho.nm))), o10, o11, o12, o13, o14, o15, o16, o17, o18, o19, o20, o21], (μ3.add (.lst c)).put o (.dct false ((hs ++ [nr]).map fun r => (D.str r.nm, D.obj (lo' r.nm))))) := fun k => by
      unfold q_law_115
      have z : decide (n ∉ hs.map Ho.nm) = true := by simp [hm]
      rw [z, v_ifS, v_tru]
      simp only [v_vr, List.getElem?_cons_succ, List.getElem?_cons_zero, v_getS, truD]
      unfold k_law_116 q_law_116
      simp only [v_seq, v_asg, v_lstO, v_consA, v_vr, List.getElem?_cons_succ, List.getElem?_cons_zero, v_getS, v_ret, v_nilA, List.length_cons, List.length_nil, v_thru, v_subG, v_nx]
      rw [if_pos (by decide)]
      have os' : putSub lk00 (μ3.add (.lst [.str p, .str p, .int 0, .int 0])) (.obj o) (.str n) (.obj μ3.nx) = _ := os
      simp only [os']
    have oh3 : o ≠ h := I2.oh
    refine ⟨_, (μ3.add (.lst c)).put o (.dct false ((hs ++ [nr]).map fun r => (D.str r.nm, D.obj (lo' r.nm)))), hs ++ [nr], fun k => if k = n then μ2.nx else la k, lo', ?_, ⟨some k, some (.str n), some (.str p), some (.bl (decide (n ∉ hs.map Ho.nm))), o10, o11, o12, o13, o14, o15, o16, o17, o18, o19, o20, o21, rfl⟩, ?_, by rw [List.length_append]; exact Nat.le_refl _⟩
    · simp only [v_gb, v_thru, v_nameG, List.set_cons_succ, List.set_cons_zero, k_law_110, v_seq, q110, q111, q112, q115]
      rfl
    · refine ⟨(W3.add').put (W3.add O3.dc), ⟨kp _ _ S3.st (fun z => ?_), kp _ _ S3.dc oh3.symm, fun r hr => kp _ _ (S3.ce r hr) (fun z => ?_), S3.inj, S3.nd, S3.ok, S3.len⟩, ⟨put_same _ _ _, fun r hr => ?_, fun r hr r' hr' e => ?_⟩, ⟨a0, b0, c0, kp _ _ (k3 _ _ hd fun z => ?_) (fun z => ?_)⟩, oh3, fun r hr => ?_, fun t ht => (by cases ht), fun t ht => (by cases ht), List.Pairwise.nil⟩
      · have h1 := S3.st; rw [z, O3.dc] at h1; cases h1
      · have h1 := S3.ce r hr; rw [z, O3.dc] at h1; cases h1
      · rcases List.mem_append.mp hr with z | z
        · rw [lo1 r z]
          refine kp _ _ (O3.ce r z) fun q => ?_
          have h1 := O3.ce r z
          rw [q, O3.dc] at h1
          cases h1
        · rw [List.mem_singleton.mp z, nrn, lo2, put_ce, if_neg hon.symm, hnr]
          exact add_same _ _
      · have key : ∀ r ∈ hs, lo r.nm ≠ μ3.nx := fun r hr => W3.ne (O3.ce r hr)
        rcases List.mem_append.mp hr with z | z <;> rcases List.mem_append.mp hr' with z' | z'
        · rw [lo1 r z, lo1 r' z'] at e
          exact O3.inj r z r' z' e
        · rw [List.mem_singleton.mp z', nrn] at e ⊢
          rw [lo1 r z, lo2] at e
          exact absurd e (key r z)
        · rw [List.mem_singleton.mp z, nrn] at e ⊢
          rw [lo1 r' z', lo2] at e
          exact absurd e.symm (key r' z')
        · rw [List.mem_singleton.mp z, List.mem_singleton.mp z']
      · rw [z, I2.S.dc] at hd; cases hd
      · rw [z, I2.O.dc] at hd; cases hd
      · rcases List.mem_append.mp hr with z | z
        · exact I2.pa r z
        · rw [List.mem_singleton.mp z, hnr]
          exact ⟨hp, fun q e => by cases e; exact hp⟩
end
end K02

end
section
set_option Elab.async false
set_option linter.all false
set_option maxRecDepth 100000
set_option maxHeartbeats 1000000
/-! k02: a team goes -/
namespace K02
open PySem PyProof.Rows L2 GXP MP
def KeepX (o : Nat) (μ μ' : Sto) : Prop := ∀ k c, μ.ce k = some c → k ≠ o → (∀ r : Ho, c ≠ OF r) → μ'.ce k = some c
theorem KeepX.trans {o : Nat} {a b c : Sto} (x : KeepX o a b) (y : KeepX o b c) : KeepX o a c := fun k d e n z => y k d (x k d e n z) n z
section
variable {o : Nat}
theorem loop_own {gb : D → MS} {f : Ho → Ho} (hf : ∀ x, (f x).nm = x.nm) (J : Fr → Prop)
    (step : ∀ (μ : Sto) (hs : List Ho) (lo : List Nat → Nat) (r : Ho) (ρ : Fr), Wf μ → Ow μ o hs lo → (hs.map Ho.nm).Nodup → hs.length ≤ 1000 → r ∈ hs → J ρ → ∃ ρ' μ' lo', gb (.str r.nm) ρ lk00 μ = some (.nx, ρ', μ') ∧ J ρ' ∧ Ow μ' o (upd1 f r.nm hs) lo' ∧ Wf μ' ∧ KeepX o μ μ') :
    ∀ (ns : List (List Nat)) (μ : Sto) (hs : List Ho) (lo : List Nat → Nat) (ρ : Fr), Wf μ → Ow μ o hs lo → (hs.map Ho.nm).Nodup → hs.length ≤ 1000 → (∀ n ∈ ns, n ∈ hs.map Ho.nm) → J ρ → ∃ ρ' μ' lo', loopM gb (ns.map .str) ρ lk00 μ = some (.nx, ρ', μ') ∧ J ρ' ∧ Ow μ' o (updL f ns hs) lo' ∧ Wf μ' ∧ KeepX o μ μ'
  | [], μ, hs, lo, ρ, W, O, _, _, _, j => ⟨ρ, μ, lo, rfl, j, O, W, fun _ _ e _ _ => e⟩
  | n :: ns, μ, hs, lo, ρ, W, O, nd, hl, hn, j => by
    obtain ⟨r, hr, e⟩ := List.mem_map.mp (hn n List.mem_cons_self)
    subst e
    obtain ⟨ρ1, μ1, lo1, e1, j1, O1, W1, K1⟩ := step μ hs lo r ρ W O nd hl hr j
    obtain ⟨ρ2, μ2, lo2, e2, j2, O2, W2, K2⟩ := loop_own hf J step ns μ1 _ lo1 ρ1 W1 O1 (by rw [upd1_nm hf]; exact nd) (by unfold upd1; rw [List.length_map]; exact hl) (fun m hm => (upd1_mem_nm hf).mpr (hn m (List.mem_cons_of_mem _ hm))) j1
    refine ⟨ρ2, μ2, lo2, ?_, j2, O2, W2, K1.trans K2⟩
    rw [List.map_cons]
    unfold loopM
    rw [e1]
    exact e2
end
/-- what several changes make -/
theorem updL_mem {f : Ho → Ho} (hf : ∀ x, (f x).nm = x.nm) (hho : ∀ x, (f x).ho = x.ho) : ∀ (ns : List (List Nat)) (hs : List Ho) (r' : Ho), r' ∈ updL f ns hs → ∃ r ∈ hs, r'.nm = r.nm ∧ r'.ho = r.ho ∧ (r.nm ∉ ns → r' = r) ∧ (r.nm ∈ ns → ∃ r0, r' = f r0)
  | [], hs, r', h => ⟨r', h, rfl, rfl, fun _ => rfl, fun z => by cases z⟩
  | n :: ns, hs, r', h => by
    obtain ⟨r1, h1, e1, e2, e3, e4⟩ := updL_mem hf hho ns (upd1 f n hs) r' h
    obtain ⟨r, hr, rfl⟩ := List.mem_map.mp h1
    have q1 : (if r.nm = n then f r else r).nm = r.nm := by split; exact hf r; rfl
    have q2 : (if r.nm = n then f r else r).ho = r.ho := by split; exact hho r; rfl
    rw [q1] at e1 e3 e4
    rw [q2] at e2
    refine ⟨r, hr, e1, e2, fun z => ?_, fun z => ?_⟩
    · rw [e3 fun q => z (List.mem_cons_of_mem _ q), if_neg (fun (q : r.nm = n) => z (q ▸ List.mem_cons_self))]
    · by_cases q : r.nm ∈ ns
      · exact e4 q
      · have e := e3 q
        rcases List.mem_cons.mp z with q2 | q2
        · rw [if_pos q2] at e; exact ⟨r, e⟩
        · exact absurd q2 q
section
variable {μ : Sto} {d s h o : Nat} {hs : List Ho} {la lo : List Nat → Nat} {tm : List (List (List Nat))} {x : D} {t : Int} {p : List Nat}
theorem teL_nodup (nd : (hs.map Ho.nm).Nodup) : (teL hs p t).Nodup := by
  unfold teL reL
  have h1 : ((atL hs p).map Ho.nm).Nodup := ((atL_perm hs p).map Ho.nm).nodup_iff.mpr (nd.sublist (List.filter_sublist.map Ho.nm))
  exact h1.sublist (((List.take_sublist 4 _).trans List.filter_sublist).map Ho.nm)
theorem teL_pl {n : List Nat} (hn : n ∈ teL hs p t) : ∃ r ∈ hs, r.nm = n ∧ r.pl = some p := by
  obtain ⟨r, hr, rfl⟩ := List.mem_map.mp hn
  have h1 := List.mem_of_mem_take hr
  have h2 := (List.mem_filter.mp h1).1
  have h3 := (atL_perm hs p).mem_iff.mp h2
  obtain ⟨h4, h5⟩ := List.mem_filter.mp h3
  exact ⟨r, h4, rfl, of_decide_eq_true h5⟩
theorem linv_take (I : LInv μ d s h o hs la lo tm) {μ' : Sto} {lo' : List Nat → Nat} (W' : Wf μ') (S' : St1 μ' s h (updL goF (teL hs p t) hs) la) (O' : Ow μ' o (updL goF (teL hs p t) hs) lo') (D' : ∃ a b c : Int, μ'.ce d = some (.lst [.int a, .int b, .int c])) : LInv μ' d s h o (updL goF (teL hs p t) hs) la lo' (tm ++ [teL hs p t]) := by
  have mem := updL_mem (f := goF) (fun _ => rfl) (fun _ => rfl) (teL hs p t) hs
  refine ⟨W', S', O', D', I.oh, fun r' hr' => ?_, fun u hu => ?_, fun u hu r' hr' hn => ?_, ?_⟩
  · obtain ⟨r, hr, e1, e2, e3, e4⟩ := mem r' hr'
    refine ⟨e2 ▸ (I.pa r hr).1, fun q e => ?_⟩
    by_cases z : r.nm ∈ teL hs p t
    · obtain ⟨r0, rfl⟩ := e4 z
      cases e
    · rw [e3 z] at e
      exact (I.pa r hr).2 q e
  · rw [updL_nm (f := goF) (fun _ => rfl)]
    rcases List.mem_append.mp hu with z | z
    · exact I.tm1 u z
    · rw [List.mem_singleton.mp z]
      refine ⟨teL_nodup I.S.nd, ?_, teL_mem⟩
      unfold teL
      rw [List.length_map, List.length_take]
      exact Nat.min_le_left _ _
  · obtain ⟨r, hr, e1, e2, e3, e4⟩ := mem r' hr'
    by_cases z : r.nm ∈ teL hs p t
    · obtain ⟨r0, rfl⟩ := e4 z
      rfl
    · rw [e3 z] at hn ⊢
      rcases List.mem_append.mp hu with q | q
      · exact I.tm2 u q r hr hn
      · rw [List.mem_singleton.mp q] at hn
        exact absurd hn z
  · refine List.pairwise_append.mpr ⟨I.tm3, List.pairwise_singleton _ _, fun a ha b hb n hn hn' => ?_⟩
    rw [List.mem_singleton.mp hb] at hn'
    obtain ⟨r, hr, e1, e2⟩ := teL_pl hn'
    have := I.tm2 a ha r hr (by rw [e1]; exact hn)
    rw [this] at e2
    cases e2
theorem atn (l : List D) (i : Nat) (y : D) (e : l[i]? = some y) : atI l (i : Int) = some y := by
  have hl : i < l.length := (List.getElem?_eq_some_iff.mp e).1
  unfold atI ixN
  rw [if_pos (by omega), if_pos (by omega)]
  exact e
/-- two that are told alike -/
theorem ne_same {μ : Sto} {y z : D} {q : PyData} (e1 : snapD μ y = some q) (e2 : snapD μ z = some q) (sh : SeqAt.shaped q = true) (rf : PyData.eqv q q = true) : neD μ y z = some (.bl false) := by
  unfold neD
  rw [e1, e2]
  simp only [sh, rf, Bool.and_self, if_true, Bool.not_true]
theorem eqv_all {α : Type} (k : α → PyData) : ∀ l : List α, (∀ a ∈ l, PyData.eqv (k a) (k a) = true) → PyData.eqvAll (l.map k) (l.map k) = true
  | [], _ => rfl
  | a :: l, h => by
    rw [List.map_cons]
    simp only [PyData.eqvAll, h a List.mem_cons_self, eqv_all k l fun b hb => h b (List.mem_cons_of_mem _ hb), Bool.and_self]
theorem strP_ok {n : List Nat} (h : okS n) : PyData.canLay0 (.str ⟨n.toArray⟩) = true ∧ PyData.depth (.str ⟨n.toArray⟩) ≤ 60 ∧ PyData.eqv (.str ⟨n.toArray⟩) (.str ⟨n.toArray⟩) = true := ⟨okS_lay h, by simp [PyData.depth], by simp [PyData.eqv]⟩
theorem shaped_tup {α : Type} (k : α → PyData) (l : List α) (h : ∀ a ∈ l, PyData.canLay0 (k a) = true ∧ PyData.depth (k a) ≤ 60) : SeqAt.shaped (.tuple (l.map k)) = true := by
  have := shaped_map k l h
  exact this
/-- equal tuples, lists of texts -/
theorem ne_tups {μ : Sto} {l : List (List Nat)} (h : ∀ n ∈ l, okS n) : neD μ (.tup (l.map .str)) (.tup (l.map .str)) = some (.bl false) := by
  have e : snapD μ (.tup (l.map .str)) = some (.tuple (l.map fun n => .str ⟨n.toArray⟩)) := by
    show optL .tuple (mapO (snap 11 μ) (l.map .str)) = _
    rw [mapO_map (f := snap 11 μ) D.str (fun n => PyData.str ⟨n.toArray⟩) l fun _ _ => rfl]; rfl
  refine ne_same e e (shaped_tup _ l fun n hn => ⟨(strP_ok (h n hn)).1, (strP_ok (h n hn)).2.1⟩) ?_
  show PyData.eqvAll _ _ = true
  exact eqv_all _ l fun n hn => (strP_ok (h n hn)).2.2
theorem ne_lsts {μ : Sto} {l : List (List Nat)} (h : ∀ n ∈ l, okS n) : neD μ (.lst (l.map .str)) (.lst (l.map .str)) = some (.bl false) := by
  have e : snapD μ (.lst (l.map .str)) = some (.list (l.map fun n => .str ⟨n.toArray⟩)) := by
    show optL .list (mapO (snap 11 μ) (l.map .str)) = _
    rw [mapO_map (f := snap 11 μ) D.str (fun n => PyData.str ⟨n.toArray⟩) l fun _ _ => rfl]; rfl
  refine ne_same e e (shaped_map _ l fun n hn => ⟨(strP_ok (h n hn)).1, (strP_ok (h n hn)).2.1⟩) ?_
  show PyData.eqvAll _ _ = true
  exact eqv_all _ l fun n hn => (strP_ok (h n hn)).2.2
theorem nm_okS (S : St1 μ s h hs la) {n : List Nat} (hn : n ∈ hs.map Ho.nm) : okS n := by
  obtain ⟨r, hr, rfl⟩ := List.mem_map.mp hn
  exact (S.ok r hr).nm
/-- the law's own list of the rested ones -/
theorem own_rested {lk : Lk} {ρ : Fr} (I : LInv μ d s h o hs la lo tm) (hp : p ∈ abc) (h3 : ρ[3]? = some (some (.obj o))) (h11 : ρ[11]? = some (some (.str p))) (h5 : ρ[5]? = some (some (.int t))) (hl : ρ.length = 22) :
    lockE (callE 2 f_law_at (consA (varE 3) (consA (varE 11) nilA))) (lcE false [7] (itE (callE 2 f_law_at (consA (varE 3) (consA (varE 11) nilA)))) (cName 7) (op2E iLe (op2E ixD (op2E ixD (varE 3) (varE 7)) (retE (.int 2))) (varE 5)) (varE 7)) ρ lk μ = some (.ok (.lst ((reL hs p t).map fun r => .str r.nm)), μ) := by
  have la_ := p_lawat (lk := lk) I.O I.S.ok I.S.len (abc_ok hp)
  have ca : callE 2 f_law_at (consA (varE 3) (consA (varE 11) nilA)) ρ lk μ = some (.ok (.lst ((atL hs p).map fun r => .str r.nm)), μ) := by
    simp [h3, h11, la_]
  rw [lockE_none (prb_of ca (fun n z => by cases z)), v_lc, v_itE, ca]
  simp only [walk_lst]
  rw [lcL_map (fun r : Ho => D.str r.nm) (fun r => decide (r.re ≤ t)) (fun r => .str r.nm) (atL hs p) 0 (by have := atL_len hs p; have := I.S.len; omega) (fun r hr => ?_)]
  · rfl
  · have hm := atL_mem hr
    have g7 : ((wipeF ρ [7]).set 7 (some (.str r.nm)))[7]? = some (some (.str r.nm)) := List.getElem?_set_self (by simp [wipeF, hl])
    have gi : ∀ i y, i ≠ 7 → ρ[i]? = some y → ((wipeF ρ [7]).set 7 (some (.str r.nm)))[i]? = some y := fun i y hi e => by
      rw [List.getElem?_set_ne hi.symm]
      unfold wipeF wipeF
      rw [List.getElem?_set_ne hi.symm]
      exact e
    refine ⟨(wipeF ρ [7]).set 7 (some (.str r.nm)), rfl, ?_, fun _ => ?_⟩
    · simp only [v_op2, v_vr, gi 3 _ (by decide) h3, gi 5 _ (by decide) h5, g7, v_getS, v_ret, ix_o I.O (mem_nm hm), o2 (I.O.ce r hm), iLe, opII, if_true]
    · simp only [v_vr, g7, v_getS]
theorem ph_take (I : LInv μ d s h o hs la lo tm) (hp : p ∈ abc) (hl : tm.length ≤ 1000) (o6 o7 o8 o9 o10 o11 o12 o13 o14 o15 o16 o17 o18 o19 o20 o21 : Option D) (h11 : o11 = some (.str p)) :
    ∃ ρ' μ' hs' lo' tm', k_law_120 [some x, some (.obj d), some (.obj s), some (.obj o), some (tmD tm), some (.int t), o6, o7, o8, o9, o10, o11, o12, o13, o14, o15, o16, o17, o18, o19, o20, o21] lk00 μ = some (.nx, ρ', μ') ∧ (∃ o6 o7 o8 o9 o10 o11 o12 o13 o14 o15 o16 o17 o18 o19 o20 o21, o11 = some (.str p) ∧ ρ' = [some x, some (.obj d), some (.obj s), some (.obj o), some (tmD tm'), some (.int t), o6, o7, o8, o9, o10, o11, o12, o13, o14, o15, o16, o17, o18, o19, o20, o21]) ∧ LInv μ' d s h o hs' la lo' tm' ∧ tm'.length ≤ tm.length + 1 := by
  subst h11
  have q120 : q_law_120 [some x, some (.obj d), some (.obj s), some (.obj o), some (tmD tm), some (.int t), o6, o7, o8, o9, o10, some (.str p), o12, o13, o14, o15, o16, o17, o18, o19, o20, o21] lk00 μ = some (.nx, [some x, some (.obj d), some (.obj s), some (.obj o), some (tmD tm), some (.int t), o6, o7, o8, o9, o10, some (.str p), some (.lst ((teL hs p t).map .str)), o13, o14, o15, o16, o17, o18, o19, o20, o21], μ) := by
    have e : ((reL hs p t).map fun r => D.str r.nm).take 4 = (teL hs p t).map .str := by
      unfold teL
      rw [List.map_map, List.map_take]; rfl
    unfold q_law_120
    rw [v_asg, v_sl1, own_rested I hp rfl rfl rfl rfl]
    simp only [v_ret, sl_lst4, e, v_thru, v_nameG]
    rfl
  have tl4 : (teL hs p t).length ≤ 4 := by
    unfold teL
    rw [List.length_map, List.length_take]
    exact Nat.min_le_left _ _
  have okt : ∀ n ∈ teL hs p t, okS n := fun n hn => nm_okS I.S (teL_mem n hn)
  by_cases h4 : (teL hs p t).length = 4
  · obtain ⟨μ1, e1, S1, W1, K1⟩ := p_take I.W I.S (t := t) (abc_ok hp) (by omega)
    have c4 : decide (((teL hs p t).length : Int) = 4) = true := decide_eq_true (by omega)
    have q121 : q_law_121 [some x, some (.obj d), some (.obj s), some (.obj o), some (tmD tm), some (.int t), o6, o7, o8, o9, o10, some (.str p), some (.lst ((teL hs p t).map .str)), o13, o14, o15, o16, o17, o18, o19, o20, o21] lk00 μ = some (.nx, [some x, some (.obj d), some (.obj s), some (.obj o), some (tmD tm), some (.int t), o6, o7, o8, o9, o10, some (.str p), some (.lst ((teL hs p t).map .str)), o13, o14, o15, o16, o17, o18, o19, o20, o21], μ1) := by
      unfold q_law_121
      have q := ne_tups (μ := μ1) okt
      have le : ∀ μ, lenN μ [.lst ((teL hs p t).map .str)] = some (.int (teL hs p t).length) := fun μ => by simp [lenN, itL]
      have tu : ∀ μ, tupN μ [.lst ((teL hs p t).map .str)] = some (.tup ((teL hs p t).map .str)) := fun μ => by simp [tupN, itL, itT]
      rw [v_ifS, v_op2, v_told]
      simp only [v_oe, v_meth, v_vr, List.getElem?_cons_succ, List.getElem?_cons_zero, v_getS, isC_s I.S, if_true, v_consA, v_nilA, List.length_cons, List.length_nil, e1, v_if, v_op2, v_cal, le, v_ret, eqD_ii, c4, tu, q, v_nx]
    have q125 : q_law_125 [some x, some (.obj d), some (.obj s), some (.obj o), some (tmD tm), some (.int t), o6, o7, o8, o9, o10, some (.str p), some (.lst ((teL hs p t).map .str)), o13, o14, o15, o16, o17, o18, o19, o20, o21] lk00 μ1 = some (.nx, [some x, some (.obj d), some (.obj s), some (.obj o), some (tmD (tm ++ [teL hs p t])), some (.int t), o6, o7, o8, o9, o10, some (.str p), some (.lst ((teL hs p t).map .str)), o13, o14, o15, o16, o17, o18, o19, o20, o21], μ1) := by
      unfold q_law_125
      have ad : addD μ1 (tmD tm) (.lst [.lst ((teL hs p t).map .str)]) = some (tmD (tm ++ [teL hs p t])) := by
        have hle : (tm.map fun t => D.lst (t.map .str)).length + [D.lst ((teL hs p t).map .str)].length ≤ 16777216 := by simp; omega
        simp only [addD, orOp, tmD, iAdd, opII, sAdd, tAddF, itT, lAddF, itLx, hle, if_true]
        rw [List.map_append]; rfl
      simp [ad]
    have O1 : Ow μ1 o hs lo := I.O.keep fun n c e z => K1.ce n c e z
    obtain ⟨ρ2, μ2, lo2, e2, ⟨o7', rfl⟩, O2, W2, K2⟩ := loop_own (o := o) (gb := gbS (nameG 7) k_law_127) (f := goF) (fun _ => rfl) (fun ρ => ∃ o7, ρ = [some x, some (.obj d), some (.obj s), some (.obj o), some (tmD (tm ++ [teL hs p t])), some (.int t), o6, o7, o8, o9, o10, some (.str p), some (.lst ((teL hs p t).map .str)), o13, o14, o15, o16, o17, o18, o19, o20, o21])
      (fun μ hs' lo' r ρ W O nd hl hr j => by
        obtain ⟨o7, rfl⟩ := j
        have c := O.ce r hr
        have pu : putSub lk00 μ (.obj (lo' r.nm)) (.int 1) .non = some (μ.put (lo' r.nm) (OF (goF r))) := by simp [putSub, c, OF, ixN, goF, plD]
        refine ⟨_, μ.put (lo' r.nm) (OF (goF r)), lo', ?_, ⟨some (.str r.nm), rfl⟩, ?_, W.put c, fun k c' e n z => ?_⟩
        · simp [k_law_127, q_law_127, ix_o O (mem_nm hr), pu]
        · have mem : ∀ x ∈ upd1 goF r.nm hs', ∃ y ∈ hs', x.nm = y.nm ∧ (y.nm = r.nm → x = goF r) ∧ (y.nm ≠ r.nm → x = y) := fun x hx => by
            obtain ⟨y, hy, rfl⟩ := List.mem_map.mp hx
            refine ⟨y, hy, ?_, fun e => ?_, fun e => if_neg e⟩
            · show (if y.nm = r.nm then goF y else y).nm = y.nm
              split <;> rfl
            · rw [if_pos e, nm_inj nd hy hr e]
          refine ⟨?_, fun x hx => ?_, fun x hx y hy e => ?_⟩
          · have e : (upd1 goF r.nm hs').map (fun x => (D.str x.nm, D.obj (lo' x.nm))) = hs'.map fun x => (D.str x.nm, D.obj (lo' x.nm)) := by
              have := congrArg (List.map fun n : List Nat => (D.str n, D.obj (lo' n))) (upd1_nm (f := goF) (fun _ => rfl) r.nm hs')
              rw [List.map_map, List.map_map] at this
              exact this
            rw [e, put_ce]
            split
            · rename_i z
              rw [← z, O.dc] at c
              cases c
            · exact O.dc
          · obtain ⟨y, hy, e1, e2, e3⟩ := mem x hx
            rw [put_ce]
            by_cases q : y.nm = r.nm
            · rw [e2 q]; exact if_pos rfl
            · rw [e3 q, if_neg fun z => q (O.inj y hy r hr z)]
              exact O.ce y hy
          · obtain ⟨x', hx', e1, _, _⟩ := mem x hx
            obtain ⟨y', hy', e2, _, _⟩ := mem y hy
            rw [e1, e2] at e ⊢
            exact O.inj x' hx' y' hy' e
        · rw [put_ce]
          split
          · rename_i q
            rw [q, c] at e
            cases e
            exact absurd rfl (z r)
          · exact e) (teL hs p t) μ1 hs lo [some x, some (.obj d), some (.obj s), some (.obj o), some (tmD (tm ++ [teL hs p t])), some (.int t), o6, o7, o8, o9, o10, some (.str p), some (.lst ((teL hs p t).map .str)), o13, o14, o15, o16, o17, o18, o19, o20, o21] W1 O1 I.S.nd I.S.len teL_mem ⟨_, rfl⟩
    have q126 : q_law_126 [some x, some (.obj d), some (.obj s), some (.obj o), some (tmD (tm ++ [teL hs p t])), some (.int t), o6, o7, o8, o9, o10, some (.str p), some (.lst ((teL hs p t).map .str)), o13, o14, o15, o16, o17, o18, o19, o20, o21] lk00 μ1 = some (.nx, [some x, some (.obj d), some (.obj s), some (.obj o), some (tmD (tm ++ [teL hs p t])), some (.int t), o6, o7', o8, o9, o10, some (.str p), some (.lst ((teL hs p t).map .str)), o13, o14, o15, o16, o17, o18, o19, o20, o21], μ2) := by
      unfold q_law_126
      rw [lockS_none (prb_of (d := .lst ((teL hs p t).map .str)) (μ' := μ1) rfl (fun n z => by cases z))]
      simp only [v_for, v_itE, v_vr, List.getElem?_cons_succ, List.getElem?_cons_zero, v_getS, walk_lst, e2]
    have q124 : q_law_124 [some x, some (.obj d), some (.obj s), some (.obj o), some (tmD tm), some (.int t), o6, o7, o8, o9, o10, some (.str p), some (.lst ((teL hs p t).map .str)), o13, o14, o15, o16, o17, o18, o19, o20, o21] lk00 μ1 = some (.nx, [some x, some (.obj d), some (.obj s), some (.obj o), some (tmD (tm ++ [teL hs p t])), some (.int t), o6, o7', o8, o9, o10, some (.str p), some (.lst ((teL hs p t).map .str)), o13, o14, o15, o16, o17, o18, o19, o20, o21], μ2) := by
      unfold q_law_124
      have le : lenN μ1 [.lst ((teL hs p t).map .str)] = some (.int (teL hs p t).length) := by simp [lenN, itL]
      rw [v_ifS]
      simp only [v_op2, v_cal, v_consA, v_nilA, v_vr, List.getElem?_cons_succ, List.getElem?_cons_zero, v_getS, le, v_ret, eqD_ii, c4]
      unfold k_law_125
      simp only [v_seq, q125, q126, v_nx]
    obtain ⟨a0, b0, c0, hd⟩ := I.D
    have hd1 := K1.ce _ _ hd (fun fs z => by cases z)
    have S2 : St1 μ2 s h (updL goF (teL hs p t) hs) la := ⟨K2 _ _ S1.st (fun z => by have := S1.st; rw [z, O1.dc] at this; cases this) (fun r z => by unfold OF at z; cases z), K2 _ _ S1.dc I.oh.symm (fun r z => by unfold OF at z; cases z), fun r hr => K2 _ _ (S1.ce r hr) (fun z => by have := S1.ce r hr; rw [z, O1.dc] at this; cases this) (fun r z => by unfold OF HF at z; cases z), S1.inj, S1.nd, S1.ok, S1.len⟩
    refine ⟨_, μ2, _, lo2, tm ++ [teL hs p t], ?_, ⟨o6, o7', o8, o9, o10, some (.str p), some (.lst ((teL hs p t).map .str)), o13, o14, o15, o16, o17, o18, o19, o20, o21, rfl, rfl⟩, linv_take I W2 S2 O2 ⟨a0, b0, c0, K2 _ _ hd1 (fun z => by rw [z, O1.dc] at hd1; cases hd1) (fun r z => by unfold OF at z; cases z)⟩, by rw [List.length_append]; exact Nat.le_refl _⟩
    unfold k_law_120
    simp only [v_seq, q120, q121, q124, v_nx]
  · have tb := p_take_bad I.W I.S (t := t) (abc_ok hp) (by omega)
    have c4 : decide (((teL hs p t).length : Int) = 4) = false := decide_eq_false (by omega)
    have le : ∀ μ, lenN μ [.lst ((teL hs p t).map .str)] = some (.int (teL hs p t).length) := fun μ => by simp [lenN, itL]
    have q121 : q_law_121 [some x, some (.obj d), some (.obj s), some (.obj o), some (tmD tm), some (.int t), o6, o7, o8, o9, o10, some (.str p), some (.lst ((teL hs p t).map .str)), o13, o14, o15, o16, o17, o18, o19, o20, o21] lk00 μ = some (.nx, [some x, some (.obj d), some (.obj s), some (.obj o), some (tmD tm), some (.int t), o6, o7, o8, o9, o10, some (.str p), some (.lst ((teL hs p t).map .str)), o13, o14, o15, o16, o17, o18, o19, o20, o21], μ) := by
      unfold q_law_121
      have q : neD μ (.str HE) (.str HE) = some (.bl false) := by have := neD_ss (μ := μ) okHE okHE; simpa using this
      rw [v_ifS, v_op2, v_told]
      simp only [v_oe, v_meth, v_vr, List.getElem?_cons_succ, List.getElem?_cons_zero, v_getS, isC_s I.S, if_true, v_consA, v_nilA, List.length_cons, List.length_nil, tb, v_if, v_op2, v_cal, le, v_ret, eqD_ii, c4, decide_true, q, v_nx]
    have q124 : q_law_124 [some x, some (.obj d), some (.obj s), some (.obj o), some (tmD tm), some (.int t), o6, o7, o8, o9, o10, some (.str p), some (.lst ((teL hs p t).map .str)), o13, o14, o15, o16, o17, o18, o19, o20, o21] lk00 μ = some (.nx, [some x, some (.obj d), some (.obj s), some (.obj o), some (tmD tm), some (.int t), o6, o7, o8, o9, o10, some (.str p), some (.lst ((teL hs p t).map .str)), o13, o14, o15, o16, o17, o18, o19, o20, o21], μ) := by
      unfold q_law_124
      rw [v_ifS]
      simp only [v_op2, v_cal, v_consA, v_nilA, v_vr, List.getElem?_cons_succ, List.getElem?_cons_zero, v_getS, le, v_ret, eqD_ii, c4, v_nx]
    refine ⟨_, μ, hs, lo, tm, ?_, ⟨o6, o7, o8, o9, o10, some (.str p), some (.lst ((teL hs p t).map .str)), o13, o14, o15, o16, o17, o18, o19, o20, o21, rfl, rfl⟩, I, Nat.le_succ _⟩
    unfold k_law_120
    simp only [v_seq, q120, q121, q124, v_nx]
end
end K02

end
section
set_option Elab.async false
set_option linter.all false
set_option maxRecDepth 100000
set_option maxHeartbeats 1000000
/-! k02: a team comes; the first half of a step -/
namespace K02
open PySem PyProof.Rows L2 GXP MP
section
variable {μ : Sto} {d s h o : Nat} {hs : List Ho} {la lo : List Nat → Nat} {tm : List (List (List Nat))} {x : D} {t : Int} {p : List Nat}
theorem eq_nil {μ : Sto} {α : Type} (g : α → D) (k : α → PyData) (l : List α) (h : ∀ a ∈ l, snap 11 μ (g a) = some (k a) ∧ PyData.canLay0 (k a) = true ∧ PyData.depth (k a) ≤ 60) : eqD μ (.lst (l.map g)) (.lst []) = some (.bl l.isEmpty) := by
  have e1 : snapD μ (.lst (l.map g)) = some (.list (l.map k)) := by
    show optL .list (mapO (snap 11 μ) (l.map g)) = _
    rw [mapO_map (f := snap 11 μ) g k l fun a ha => (h a ha).1]; rfl
  have e2 : snapD μ (.lst []) = some (.list []) := rfl
  unfold eqD
  rw [e1, e2]
  simp only [shaped_map k l fun a ha => (h a ha).2]
  have e3 : SeqAt.shaped (.list []) = true := by decide
  cases l <;> simp [e3, PyData.eqv, PyData.eqvAll]
theorem eq_tm (I : LInv μ d s h o hs la lo tm) {μ' : Sto} : eqD μ' (tmD tm) (.lst []) = some (.bl tm.isEmpty) := by
  refine eq_nil (fun t => D.lst (t.map .str)) (fun t => PyData.list (t.map fun n => .str ⟨n.toArray⟩)) tm fun u hu => ⟨?_, ?_, ?_⟩
  · show optL .list (mapO (snap 10 μ') (u.map .str)) = _
    rw [mapO_map (f := snap 10 μ') D.str (fun n => PyData.str ⟨n.toArray⟩) u fun _ _ => rfl]; rfl
  · exact lay_map _ u fun n hn => okS_lay (nm_okS I.S ((I.tm1 u hu).2.2 n hn))
  · show PyData.depthAll _ + 1 ≤ 60
    have := depth_map (fun n : List Nat => PyData.str ⟨n.toArray⟩) 0 u fun n _ => by simp [PyData.depth]
    omega
/-- where teams[spot] stands no more -/
def tmX (tm : List (List (List Nat))) (i : Nat) : List (List (List Nat)) := tm.take i ++ tm.drop (i + 1)
theorem linv_come (I : LInv μ d s h o hs la lo tm) {i : Nat} {t0 : List (List Nat)} (hi : tm[i]? = some t0) (hp : p ∈ abc) {m : Int} {μ' : Sto} {lo' : List Nat → Nat} (W' : Wf μ') (S' : St1 μ' s h (updL (coF p t m) t0 hs) la) (O' : Ow μ' o (updL (coF p t m) t0 hs) lo') (D' : ∃ a b c : Int, μ'.ce d = some (.lst [.int a, .int b, .int c])) :
    LInv μ' d s h o (updL (coF p t m) t0 hs) la lo' (tmX tm i) := by
  have mem := updL_mem (f := coF p t m) (fun _ => rfl) (fun _ => rfl) t0 hs
  have hil : i < tm.length := (List.getElem?_eq_some_iff.mp hi).1
  have split : tm = tm.take i ++ t0 :: tm.drop (i + 1) := by
    have e1 : tm[i] = t0 := (List.getElem?_eq_some_iff.mp hi).2
    rw [← e1, List.getElem_cons_drop, List.take_append_drop]
  have sub : ∀ u ∈ tmX tm i, u ∈ tm := fun u hu => by
    rcases List.mem_append.mp hu with z | z
    · exact List.mem_of_mem_take z
    · exact List.mem_of_mem_drop z
  have ht0 : t0 ∈ tm := List.mem_of_getElem? hi
  have pw := I.tm3
  rw [split] at pw
  obtain ⟨p1, p2, p3⟩ := List.pairwise_append.mp pw
  obtain ⟨p4, p5⟩ := List.pairwise_cons.mp p2
  have dis : ∀ u ∈ tmX tm i, ∀ n ∈ u, n ∉ t0 := fun u hu n hn hn' => by
    rcases List.mem_append.mp hu with z | z
    · exact p3 u z t0 List.mem_cons_self n hn hn'
    · exact p4 u z n hn' hn
  refine ⟨W', S', O', D', I.oh, fun r' hr' => ?_, fun u hu => ?_, fun u hu r' hr' hn => ?_, ?_⟩
  · obtain ⟨r, hr, e1, e2, e3, e4⟩ := mem r' hr'
    refine ⟨e2 ▸ (I.pa r hr).1, fun q e => ?_⟩
    by_cases z : r.nm ∈ t0
    · obtain ⟨r0, rfl⟩ := e4 z
      cases e
      exact hp
    · rw [e3 z] at e
      exact (I.pa r hr).2 q e
  · rw [updL_nm (f := coF p t m) (fun _ => rfl)]
    exact I.tm1 u (sub u hu)
  · obtain ⟨r, hr, e1, e2, e3, e4⟩ := mem r' hr'
    have z : r.nm ∉ t0 := by rw [← e1]; exact dis u hu _ hn
    rw [e3 z] at hn ⊢
    exact I.tm2 u (sub u hu) r hr hn
  · exact List.pairwise_append.mpr ⟨p1, p5, fun a ha b hb => p3 a ha b (List.mem_cons_of_mem _ hb)⟩
theorem cut_lo (l : List D) (i : Nat) (hi : i ≤ l.length) : MP.cutD l none (some (i : Int)) = l.take i := by
  unfold MP.cutD
  rw [HT.sIx_nat]
  show (l.drop 0).take (min i l.length - 0) = _
  rw [List.drop_zero, Nat.sub_zero, Nat.min_eq_left hi]
theorem cut_hi (l : List D) (i : Nat) (hi : i ≤ l.length) : MP.cutD l (some (i : Int)) none = l.drop i := by
  unfold MP.cutD
  rw [HT.sIx_nat, Nat.min_eq_left hi]
  show (l.drop i).take (l.length - i) = _
  rw [List.take_of_length_le (by rw [List.length_drop]; omega)]
/-- own[name] = its new list -/
theorem own_new {μ : Sto} {r : Ho} (W : Wf μ) (O : Ow μ o hs lo) (nd : (hs.map Ho.nm).Nodup) (hl : hs.length ≤ 1000) (hr : r ∈ hs) {f : Ho → Ho} (hf : ∀ x, (f x).nm = x.nm) :
    ∃ μ' lo', putSub lk00 (μ.add (OF (f r))) (.obj o) (.str r.nm) (.obj μ.nx) = some μ' ∧ Ow μ' o (upd1 f r.nm hs) lo' ∧ Wf μ' ∧ KeepX o μ μ' := by
  have hon : o ≠ μ.nx := W.ne O.dc
  obtain ⟨lo', hlo⟩ : ∃ lo' : List Nat → Nat, lo' = fun k => if k = r.nm then μ.nx else lo k := ⟨_, rfl⟩
  have lo1 : ∀ n, n ≠ r.nm → lo' n = lo n := fun n hn => by rw [hlo]; exact if_neg hn
  have lo2 : lo' r.nm = μ.nx := by rw [hlo]; exact if_pos rfl
  have pd : putD (hs.map fun r => (D.str r.nm, D.obj (lo r.nm))) (.str r.nm) (.obj μ.nx) = (upd1 f r.nm hs).map fun x => (D.str x.nm, D.obj (lo' x.nm)) := by
    have e1 : (hs.map fun r => (D.str r.nm, D.obj (lo r.nm))) = (hs.map Ho.nm).map fun k => (D.str k, D.obj (lo k)) := by rw [List.map_map]; rfl
    have e2 : (upd1 f r.nm hs).map (fun x => (D.str x.nm, D.obj (lo' x.nm))) = (hs.map Ho.nm).map fun k => (D.str k, D.obj (lo' k)) := by
      rw [← upd1_nm hf r.nm hs, List.map_map]; rfl
    rw [e1, e2, putD_txt (fun k => D.obj (lo k)), if_pos (mem_nm hr)]
    refine List.map_congr_left fun k _ => ?_
    by_cases q : k = r.nm
    · rw [if_pos q, q, lo2]
    · rw [if_neg q, lo1 k q]
  have dc : (μ.add (OF (f r))).ce o = some (.dct false (hs.map fun r => (.str r.nm, .obj (lo r.nm)))) := W.add O.dc
  have hl' : (hs.map fun r => (D.str r.nm, D.obj (lo r.nm))).length < 16777216 := by rw [List.length_map]; omega
  have kp : KeepX o μ ((μ.add (OF (f r))).put o (.dct false ((upd1 f r.nm hs).map fun x => (D.str x.nm, D.obj (lo' x.nm))))) := fun k c e n z => by
    rw [put_ce, if_neg n]; exact W.add e
  have mem : ∀ x ∈ upd1 f r.nm hs, ∃ y ∈ hs, x.nm = y.nm ∧ (y.nm = r.nm → x = f r) ∧ (y.nm ≠ r.nm → x = y) := fun x hx => by
    obtain ⟨y, hy, rfl⟩ := List.mem_map.mp hx
    refine ⟨y, hy, ?_, fun e => ?_, fun e => if_neg e⟩
    · show (if y.nm = r.nm then f y else y).nm = y.nm
      split
      · exact hf y
      · rfl
    · rw [if_pos e, nm_inj nd hy hr e]
  have key : ∀ r ∈ hs, lo r.nm ≠ μ.nx := fun r hr => W.ne (O.ce r hr)
  refine ⟨(μ.add (OF (f r))).put o (.dct false ((upd1 f r.nm hs).map fun x => (D.str x.nm, D.obj (lo' x.nm)))), lo', ?_, ⟨put_same _ _ _, fun x hx => ?_, fun x hx y hy e => ?_⟩, (W.add').put dc, kp⟩
  · simp only [putSub, dc, okKey, toKey, Option.isSome_some, Bool.true_and, Bool.false_eq_true, if_false, hl', decide_true, if_true, pd]
  · obtain ⟨y, hy, e1, e2, e3⟩ := mem x hx
    by_cases q : y.nm = r.nm
    · rw [e2 q, hf, lo2, put_ce, if_neg hon.symm]
      exact add_same _ _
    · rw [e3 q, lo1 _ q, put_ce, if_neg (fun z => by have h1 := O.ce y hy; rw [z, O.dc] at h1; cases h1)]
      exact W.add (O.ce y hy)
  · obtain ⟨x', hx', e1, _, _⟩ := mem x hx
    obtain ⟨y', hy', e2, _, _⟩ := mem y hy
    rw [e1, e2] at e ⊢
    by_cases q1 : x'.nm = r.nm <;> by_cases q2 : y'.nm = r.nm
    · rw [q1, q2]
    · rw [q1, lo2, lo1 _ q2] at e
      exact absurd e.symm (key y' hy')
    · rw [q2, lo2, lo1 _ q1] at e
      exact absurd e (key x' hx')
    · rw [lo1 _ q1, lo1 _ q2] at e
      exact O.inj x' hx' y' hy' e
theorem ph_come (I : LInv μ d s h o hs la lo tm) (hp : p ∈ abc) (hl : tm.length ≤ 1000) (hne : tm ≠ []) (o6 o7 o8 o9 o10 o11 o12 o13 o14 o15 o16 o17 o18 o19 o20 o21 : Option D) (h11 : o11 = some (.str p)) :
    ∃ ρ' μ' hs' lo' tm', k_law_129 [some x, some (.obj d), some (.obj s), some (.obj o), some (tmD tm), some (.int t), o6, o7, o8, o9, o10, o11, o12, o13, o14, o15, o16, o17, o18, o19, o20, o21] lk00 μ = some (.nx, ρ', μ') ∧ (∃ o6 o7 o8 o9 o10 o11 o12 o13 o14 o15 o16 o17 o18 o19 o20 o21, o11 = some (.str p) ∧ ρ' = [some x, some (.obj d), some (.obj s), some (.obj o), some (tmD tm'), some (.int t), o6, o7, o8, o9, o10, o11, o12, o13, o14, o15, o16, o17, o18, o19, o20, o21]) ∧ LInv μ' d s h o hs' la lo' tm' ∧ tm'.length ≤ tm.length := by
  subst h11
  have hpos : 0 < tm.length := List.length_pos_iff.mpr hne
  obtain ⟨r1, μ1, e1, a1, b1, I1⟩ := roll_f I (many := (tm.length : Int)) (by omega) (by omega)
  obtain ⟨r2, μ2, e2, a2, b2, I2⟩ := roll_f I1 (many := 30) (by decide) (by decide)
  obtain ⟨i, rfl⟩ : ∃ i : Nat, r1 = i := ⟨r1.toNat, by omega⟩
  have hi : i < tm.length := by omega
  obtain ⟨t0, ht0⟩ : ∃ t0, tm[i]? = some t0 := ⟨tm[i], List.getElem?_eq_getElem hi⟩
  obtain ⟨n1, n2, n3⟩ := I2.tm1 t0 (List.mem_of_getElem? ht0)
  have n4 := I2.tm2 t0 (List.mem_of_getElem? ht0)
  have ixt : ∀ μ, ixD μ (tmD tm) (.int i) = some (.lst (t0.map .str)) := fun μ => by
    have := atn (tm.map fun t => D.lst (t.map .str)) i (.lst (t0.map .str)) (by rw [List.getElem?_map, ht0]; rfl)
    simp [ixD, orOp, ixL, tmD, itL, ixA, this]
  have lt : lenN μ [tmD tm] = some (.int tm.length) := by simp [lenN, tmD, itL]
  have ad1 : ∀ μ : Sto, ∀ i j : Int, addD μ (.int i) (.int j) = some (.int (i + j)) := fun _ _ _ => rfl
  have q129 : q_law_129 [some x, some (.obj d), some (.obj s), some (.obj o), some (tmD tm), some (.int t), o6, o7, o8, o9, o10, some (.str p), o12, o13, o14, o15, o16, o17, o18, o19, o20, o21] lk00 μ = some (.nx, [some x, some (.obj d), some (.obj s), some (.obj o), some (tmD tm), some (.int t), o6, o7, o8, o9, o10, some (.str p), o12, some (.int i), some (.int (1 + r2)), o15, o16, o17, o18, o19, o20, o21], μ2) := by
    unfold q_law_129
    simp [lt, e1, e2, ad1]
  obtain ⟨μ3, e3, S3, W3, K3⟩ := p_arrive I2.W I2.S (T := .lst (t0.map .str)) (.inl rfl) (by omega) (abc_ok hp) n1 n3 n4 (t := t) (m := 1 + r2)
  have q130 : q_law_130 [some x, some (.obj d), some (.obj s), some (.obj o), some (tmD tm), some (.int t), o6, o7, o8, o9, o10, some (.str p), o12, some (.int i), some (.int (1 + r2)), o15, o16, o17, o18, o19, o20, o21] lk00 μ2 = some (.nx, [some x, some (.obj d), some (.obj s), some (.obj o), some (tmD tm), some (.int t), o6, o7, o8, o9, o10, some (.str p), o12, some (.int i), some (.int (1 + r2)), o15, o16, o17, o18, o19, o20, o21], μ3) := by
    unfold q_law_130
    simp [isC_s I2.S, ixt, e3]
  have O3 : Ow μ3 o hs lo := I2.O.keep fun n c e z => K3.ce n c e z
  obtain ⟨ρ4, μ4, lo4, e4, ⟨o7', rfl⟩, O4, W4, K4⟩ := loop_own (o := o) (gb := gbS (nameG 7) k_law_132) (f := coF p t (1 + r2)) (fun _ => rfl) (fun ρ => ∃ o7, ρ = [some x, some (.obj d), some (.obj s), some (.obj o), some (tmD tm), some (.int t), o6, o7, o8, o9, o10, some (.str p), o12, some (.int i), some (.int (1 + r2)), o15, o16, o17, o18, o19, o20, o21])
    (fun μ hs' lo' r ρ W O nd hl hr j => by
      obtain ⟨o7, rfl⟩ := j
      have c := O.ce r hr
      obtain ⟨μ', lo'', pu, O', W', K'⟩ := own_new W O nd hl hr (f := coF p t (1 + r2)) (fun _ => rfl)
      refine ⟨_, μ', lo'', ?_, ⟨some (.str r.nm), rfl⟩, O', W', K'⟩
      have pu' : putSub lk00 (μ.add (.lst [.str r.ho, .str p, .int (t + 360), .int (r.mi + (1 + r2))])) (.obj o) (.str r.nm) (.obj μ.nx) = some μ' := pu
      simp [k_law_132, q_law_132, ix_o O (mem_nm hr), o0 c, o3 c, ad1, pu']) t0 μ3 hs lo [some x, some (.obj d), some (.obj s), some (.obj o), some (tmD tm), some (.int t), o6, o7, o8, o9, o10, some (.str p), o12, some (.int i), some (.int (1 + r2)), o15, o16, o17, o18, o19, o20, o21] W3 O3 I.S.nd I.S.len n3 ⟨_, rfl⟩
  have q131 : q_law_131 [some x, some (.obj d), some (.obj s), some (.obj o), some (tmD tm), some (.int t), o6, o7, o8, o9, o10, some (.str p), o12, some (.int i), some (.int (1 + r2)), o15, o16, o17, o18, o19, o20, o21] lk00 μ3 = some (.nx, [some x, some (.obj d), some (.obj s), some (.obj o), some (tmD tm), some (.int t), o6, o7', o8, o9, o10, some (.str p), o12, some (.int i), some (.int (1 + r2)), o15, o16, o17, o18, o19, o20, o21], μ4) := by
    unfold q_law_131
    rw [lockS_none (prb_of (d := .lst (t0.map .str)) (μ' := μ3) (by simp [ixt]) (fun n z => by cases z))]
    simp only [v_for, v_itE, v_op2, v_vr, List.getElem?_cons_succ, List.getElem?_cons_zero, v_getS, ixt, walk_lst, e4]
  have q133 : q_law_133 [some x, some (.obj d), some (.obj s), some (.obj o), some (tmD tm), some (.int t), o6, o7', o8, o9, o10, some (.str p), o12, some (.int i), some (.int (1 + r2)), o15, o16, o17, o18, o19, o20, o21] lk00 μ4 = some (.nx, [some x, some (.obj d), some (.obj s), some (.obj o), some (tmD (tmX tm i)), some (.int t), o6, o7', o8, o9, o10, some (.str p), o12, some (.int i), some (.int (1 + r2)), o15, o16, o17, o18, o19, o20, o21], μ4) := by
    unfold q_law_133
    have s1 : slD μ4 (tmD tm) none (some (i : Int)) = some (.lst ((tm.map fun t => D.lst (t.map .str)).take i)) := by
      unfold slD tmD
      simp only [itL]
      rw [cut_lo _ i (by rw [List.length_map]; omega)]
    have s2 : slD μ4 (tmD tm) (some ((i : Int) + 1)) none = some (.lst ((tm.map fun t => D.lst (t.map .str)).drop (i + 1))) := by
      unfold slD tmD
      simp only [itL]
      have := cut_hi (tm.map fun t => D.lst (t.map .str)) (i + 1) (by rw [List.length_map]; omega)
      rw [← this]; rfl
    have s3 : addD μ4 (.lst ((tm.map fun t => D.lst (t.map .str)).take i)) (.lst ((tm.map fun t => D.lst (t.map .str)).drop (i + 1))) = some (tmD (tmX tm i)) := by
      have hle : ((tm.map fun t => D.lst (t.map .str)).take i).length + ((tm.map fun t => D.lst (t.map .str)).drop (i + 1)).length ≤ 16777216 := by
        rw [List.length_take, List.length_drop, List.length_map]; omega
      simp only [addD, orOp, iAdd, opII, sAdd, tAddF, itT, lAddF, itLx, hle, if_true, tmD, tmX]
      rw [List.map_append, List.map_take, List.map_drop]
    simp [s1, s2, s3, ad1]
  obtain ⟨a0, b0, c0, hd⟩ := I2.D
  have hd1 := K3.ce _ _ hd (fun fs z => by cases z)
  have S4 : St1 μ4 s h (updL (coF p t (1 + r2)) t0 hs) la := ⟨K4 _ _ S3.st (fun z => by have := S3.st; rw [z, O3.dc] at this; cases this) (fun r z => by unfold OF at z; cases z), K4 _ _ S3.dc I.oh.symm (fun r z => by unfold OF at z; cases z), fun r hr => K4 _ _ (S3.ce r hr) (fun z => by have := S3.ce r hr; rw [z, O3.dc] at this; cases this) (fun r z => by unfold OF HF at z; cases z), S3.inj, S3.nd, S3.ok, S3.len⟩
  refine ⟨_, μ4, _, lo4, tmX tm i, ?_, ⟨o6, o7', o8, o9, o10, some (.str p), o12, some (.int i), some (.int (1 + r2)), o15, o16, o17, o18, o19, o20, o21, rfl, rfl⟩, linv_come I2 ht0 hp W4 S4 O4 ⟨a0, b0, c0, K4 _ _ hd1 (fun z => by rw [z, O3.dc] at hd1; cases hd1) (fun r z => by unfold OF at z; cases z)⟩, ?_⟩
  · unfold k_law_129
    simp only [v_seq, q129, q130, q131, q133, v_nx]
  · unfold tmX
    rw [List.length_append, List.length_take, List.length_drop]; omega
/-- time, place; a team goes or comes -/
theorem ph_deed (I : LInv μ d s h o hs la lo tm) (hl : tm.length < 1000) (o6 o7 o8 o9 o10 o11 o12 o13 o14 o15 o16 o17 o18 o19 o20 o21 : Option D) :
    ∃ p ∈ abc, ∃ ρ1 μ1 ρ' μ' hs' lo' tm' t', q_law_118 [some x, some (.obj d), some (.obj s), some (.obj o), some (tmD tm), some (.int t), o6, o7, o8, o9, o10, o11, o12, o13, o14, o15, o16, o17, o18, o19, o20, o21] lk00 μ = some (.nx, ρ1, μ1) ∧ q_law_119 ρ1 lk00 μ1 = some (.nx, ρ', μ') ∧ (∃ o6 o7 o8 o9 o10 o11 o12 o13 o14 o15 o16 o17 o18 o19 o20 o21, ρ' = [some x, some (.obj d), some (.obj s), some (.obj o), some (tmD tm'), some (.int t'), o6, o7, o8, o9, o10, o11, o12, o13, o14, o15, o16, o17, o18, o19, o20, o21]) ∧ LInv μ' d s h o hs' la lo' tm' ∧ tm'.length ≤ tm.length + 1 := by
  obtain ⟨r1, μ1, e1, a1, b1, I1⟩ := roll_f I (many := 200) (by decide) (by decide)
  obtain ⟨r2, μ2, e2, a2, b2, I2⟩ := roll_f I1 (many := 3) (by decide) (by decide)
  obtain ⟨p, hp, ip⟩ := ix_abc (μ := μ2) a2 b2
  have ad1 : ∀ μ : Sto, ∀ i j : Int, addD μ (.int i) (.int j) = some (.int (i + j)) := fun _ _ _ => rfl
  have q118 : q_law_118 [some x, some (.obj d), some (.obj s), some (.obj o), some (tmD tm), some (.int t), o6, o7, o8, o9, o10, o11, o12, o13, o14, o15, o16, o17, o18, o19, o20, o21] lk00 μ = some (.nx, [some x, some (.obj d), some (.obj s), some (.obj o), some (tmD tm), some (.int (t + r1)), o6, o7, o8, o9, o10, some (.str p), o12, o13, o14, o15, o16, o17, o18, o19, o20, o21], μ2) := by
    unfold q_law_118
    simp [e1, e2, ad1, ip]
  obtain ⟨r3, μ3, e3, a3, b3, I3⟩ := roll_f I2 (many := 2) (by decide) (by decide)
  have et := eq_tm I3 (μ' := μ3)
  refine ⟨p, hp, [some x, some (.obj d), some (.obj s), some (.obj o), some (tmD tm), some (.int (t + r1)), o6, o7, o8, o9, o10, some (.str p), o12, o13, o14, o15, o16, o17, o18, o19, o20, o21], μ2, ?_⟩
  have cnd : (orQ (op2E eqD (callE 2 f_law_roll (consA (varE 1) (consA (retE (.int 2)) nilA))) (retE (.int 0))) (op2E eqD (varE 4) (lstE nilA))) [some x, some (.obj d), some (.obj s), some (.obj o), some (tmD tm), some (.int (t + r1)), o6, o7, o8, o9, o10, some (.str p), o12, o13, o14, o15, o16, o17, o18, o19, o20, o21] lk00 μ2 = some (.ok (.bl (decide (r3 = 0) || tm.isEmpty)), μ3) := by
    rw [v_orQ]
    simp only [v_op2, v_call, v_consA, v_nilA, v_vr, List.getElem?_cons_succ, List.getElem?_cons_zero, v_getS, v_ret, List.length_cons, List.length_nil, if_true, e3, eqD_ii, v_lstE]
    cases decide (r3 = 0) with
    | true => rfl
    | false =>
      simp only [Bool.false_or, Nat.zero_le, if_true, et]
  cases hc : decide (r3 = 0) || tm.isEmpty with
  | true =>
    obtain ⟨ρ', μ', hs', lo', tm', e, F', I', hl'⟩ := ph_take I3 hp (x := x) (t := t + r1) (by omega) o6 o7 o8 o9 o10 (some (.str p)) o12 o13 o14 o15 o16 o17 o18 o19 o20 o21 rfl
    obtain ⟨o6', o7', o8', o9', o10', o11', o12', o13', o14', o15', o16', o17', o18', o19', o20', o21', h11, rfl⟩ := F'
    have g : q_law_119 [some x, some (.obj d), some (.obj s), some (.obj o), some (tmD tm), some (.int (t + r1)), o6, o7, o8, o9, o10, some (.str p), o12, o13, o14, o15, o16, o17, o18, o19, o20, o21] lk00 μ2 = some (.nx, [some x, some (.obj d), some (.obj s), some (.obj o), some (tmD tm'), some (.int (t + r1)), o6', o7', o8', o9', o10', o11', o12', o13', o14', o15', o16', o17', o18', o19', o20', o21'], μ') := by
      unfold q_law_119
      rw [v_ifS, cnd, hc]
      exact e
    exact ⟨_, μ', hs', lo', tm', t + r1, q118, g, ⟨o6', o7', o8', o9', o10', o11', o12', o13', o14', o15', o16', o17', o18', o19', o20', o21', rfl⟩, I', hl'⟩
  | false =>
    have hne : tm ≠ [] := fun z => by rw [z] at hc; simp at hc
    obtain ⟨ρ', μ', hs', lo', tm', e, F', I', hl'⟩ := ph_come I3 hp (x := x) (t := t + r1) (by omega) hne o6 o7 o8 o9 o10 (some (.str p)) o12 o13 o14 o15 o16 o17 o18 o19 o20 o21 rfl
    obtain ⟨o6', o7', o8', o9', o10', o11', o12', o13', o14', o15', o16', o17', o18', o19', o20', o21', h11, rfl⟩ := F'
    have g : q_law_119 [some x, some (.obj d), some (.obj s), some (.obj o), some (tmD tm), some (.int (t + r1)), o6, o7, o8, o9, o10, some (.str p), o12, o13, o14, o15, o16, o17, o18, o19, o20, o21] lk00 μ2 = some (.nx, [some x, some (.obj d), some (.obj s), some (.obj o), some (tmD tm'), some (.int (t + r1)), o6', o7', o8', o9', o10', o11', o12', o13', o14', o15', o16', o17', o18', o19', o20', o21'], μ') := by
      unfold q_law_119
      rw [v_ifS, cnd, hc]
      exact e
    exact ⟨_, μ', hs', lo', tm', t + r1, q118, g, ⟨o6', o7', o8', o9', o10', o11', o12', o13', o14', o15', o16', o17', o18', o19', o20', o21', rfl⟩, I', (by omega)⟩
end
end K02

end
section
set_option Elab.async false
set_option linter.all false
set_option maxRecDepth 100000
set_option maxHeartbeats 1000000
/-! k02: what is asked behind each deed -/
namespace K02
open PySem PyProof.Rows L2 GXP MP
section
variable {μ : Sto} {d s h o : Nat} {hs : List Ho} {la lo : List Nat → Nat} {tm : List (List (List Nat))} {x : D} {t : Int} {p : List Nat}
/-! each horse -/
def hoP (r : Ho) : List PyData := [.str ⟨r.ho.toArray⟩, plP r.pl, .int r.re, .int r.mi]
theorem shaped_ho {r : Ho} (g : Good r) : SeqAt.shaped (.list (hoP r)) = true ∧ PyData.eqv (.list (hoP r)) (.list (hoP r)) = true := by
  have h1 := okS_lay g.ho
  have h2 : PyData.canLay0 (plP r.pl) = true ∧ PyData.depth (plP r.pl) = 0 := by
    cases e : r.pl with
    | none => exact ⟨rfl, rfl⟩
    | some q => exact ⟨okS_lay (g.pl q e), rfl⟩
  refine ⟨?_, ?_⟩
  · unfold SeqAt.shaped
    refine Bool.and_eq_true_iff.mpr ⟨?_, decide_eq_true ?_⟩
    · show PyData.canLayAll0 (hoP r) = true
      show (PyData.canLay0 (.str ⟨r.ho.toArray⟩) && (PyData.canLay0 (plP r.pl) && true)) = true
      rw [h1, h2.1]; rfl
    · show PyData.depthAll (hoP r) + 1 ≤ 64
      simp only [hoP, PyData.depthAll, h2.2, PyData.depth]
      decide
  · show PyData.eqvAll (hoP r) (hoP r) = true
    simp only [hoP, PyData.eqvAll, eqv_pl, PyData.eqv, decide_true, beq_self_eq_true, Bool.and_self]
theorem ne_own {l : Nat} {r : Ho} (g : Good r) (e : μ.ce l = some (OF r)) : neD μ (.lst [.str r.ho, plD r.pl, .int r.re, .int r.mi]) (.obj l) = some (.bl false) := by
  have e1 : ∀ k, snap (k + 1) μ (plD r.pl) = some (plP r.pl) := fun k => by cases r.pl <;> rfl
  have e2 : snapD μ (.lst [.str r.ho, plD r.pl, .int r.re, .int r.mi]) = some (.list (hoP r)) := by
    show optL .list (mapO (snap 11 μ) [.str r.ho, plD r.pl, .int r.re, .int r.mi]) = _
    simp only [mapO, e1]
    rfl
  have e3 : snapD μ (.obj l) = some (.list (hoP r)) := by
    show (match lstOf (μ.ce l) with | some l => optL .list (mapO (snap 11 μ) l) | none => none) = _
    rw [e]
    exact e2
  exact ne_same e2 e3 (shaped_ho g).1 (shaped_ho g).2
theorem ph_134 (I : LInv μ d s h o hs la lo tm) {ρ : Fr} (F : IsF x d s o tm t ρ) : ∃ ρ', q_law_134 ρ lk00 μ = some (.nx, ρ', μ) ∧ IsF x d s o tm t ρ' := by
  obtain ⟨ρ', e, F'⟩ := loopM_pure (lk := lkp o lk00) (μ := μ) (gb := gbS (nameG 7) k_law_135) (fun r : Ho => D.str r.nm) (IsF x d s o tm t) hs ρ F (fun r hr ρ F => by
    obtain ⟨o6, o7, o8, o9, o10, o11, o12, o13, o14, o15, o16, o17, o18, o19, o20, o21, rfl⟩ := F
    have g := I.S.ok r hr
    have hh := p_horse (lk := lkp o lk00) I.S r.nm
    rw [if_pos (mem_nm hr)] at hh
    have c := I.S.ce r hr
    have n1 := ne_own (μ := μ) g (I.O.ce r hr)
    have n2 : neD μ (.str r.nm) (.str r.nm) = some (.bl false) := by have := neD_ss (μ := μ) g.nm g.nm; simpa using this
    refine ⟨[some x, some (.obj d), some (.obj s), some (.obj o), some (tmD tm), some (.int t), o6, some (.str r.nm), o8, o9, o10, o11, o12, o13, o14, some (.obj (la r.nm)), o16, o17, o18, o19, o20, o21], ?_, ⟨o6, some (.str r.nm), o8, o9, o10, o11, o12, o13, o14, some (.obj (la r.nm)), o16, o17, o18, o19, o20, o21, rfl⟩⟩
    simp [k_law_135, q_law_135, q_law_136, isC_s I.S, hh, f_home c, f_place c, f_ready c, f_miles c, f_name c, ix_o I.O (mem_nm hr), n1, n2])
  refine ⟨ρ', ?_, F'⟩
  unfold q_law_134
  obtain ⟨o6, o7, o8, o9, o10, o11, o12, o13, o14, o15, o16, o17, o18, o19, o20, o21, rfl⟩ := F
  rw [lockS_dct (n := o) (μ' := μ) rfl I.O.dc]
  have w := walk_o I.O (lk := lkp o lk00) (by simp [lkp])
  simp only [v_for, v_itE, v_vr, List.getElem?_cons_succ, List.getElem?_cons_zero, v_getS, w, e]
  rfl
/-! each place -/
theorem ne_ea (μ : Sto) (l : List Int) (t : Int) : neD μ (eaD l t) (eaD l t) = some (.bl false) := by
  unfold eaD
  split
  · exact ne_same (q := .int _) rfl rfl rfl (by simp [PyData.eqv])
  · exact ne_same (q := .none) rfl rfl rfl rfl
theorem ph_139 (I : LInv μ d s h o hs la lo tm) (hp : p ∈ abc) {ρ : Fr} (F : IsF x d s o tm t ρ) : ∃ ρ', gbS (nameG 11) k_law_139 (.str p) ρ lk00 μ = some (.nx, ρ', μ) ∧ IsF x d s o tm t ρ' := by
  obtain ⟨o6, o7, o8, o9, o10, o11, o12, o13, o14, o15, o16, o17, o18, o19, o20, o21, rfl⟩ := F
  have okp := abc_ok hp
  have lc : lockE (varE 3) (lcE false [7] (itE (varE 3)) (cName 7) (op2E eqD (op2E ixD (op2E ixD (varE 3) (varE 7)) (retE (.int 1))) (varE 11)) (op2E ixD (op2E ixD (varE 3) (varE 7)) (retE (.int 2)))) [some x, some (.obj d), some (.obj s), some (.obj o), some (tmD tm), some (.int t), o6, o7, o8, o9, o10, some (.str p), o12, o13, o14, o15, o16, o17, o18, o19, o20, o21] lk00 μ = some (.ok (.lst (((hs.filter (atP p)).map Ho.re).map .int)), μ) := by
    rw [lockE_dct (n := o) (μ' := μ) rfl I.O.dc]
    have w := walk_o I.O (lk := lkp o lk00) (by simp [lkp])
    simp only [v_lc, v_itE, v_vr, List.getElem?_cons_succ, List.getElem?_cons_zero, v_getS, w]
    rw [lcL_map (fun r : Ho => D.str r.nm) (atP p) (fun r => .int r.re) hs 0 (by have := I.S.len; omega) fun r hm => ⟨[some x, some (.obj d), some (.obj s), some (.obj o), some (tmD tm), some (.int t), o6, some (.str r.nm), o8, o9, o10, some (.str p), o12, o13, o14, o15, o16, o17, o18, o19, o20, o21], rfl, by
      have g := I.S.ok r hm
      have q : eqD μ (plD r.pl) (.str p) = some (.bl (atP p r)) := eqD_ps g.pl okp
      simp [ix_o I.O (mem_nm hm), o1 (I.O.ce r hm), q], fun _ => by
      simp [ix_o I.O (mem_nm hm), o2 (I.O.ce r hm)]⟩, List.map_map]
    rfl
  have q139 : q_law_139 [some x, some (.obj d), some (.obj s), some (.obj o), some (tmD tm), some (.int t), o6, o7, o8, o9, o10, some (.str p), o12, o13, o14, o15, o16, o17, o18, o19, o20, o21] lk00 μ = some (.nx, [some x, some (.obj d), some (.obj s), some (.obj o), some (tmD tm), some (.int t), o6, o7, o8, o9, o10, some (.str p), o12, o13, o14, o15, some (.lst ((sI ((hs.filter (atP p)).map Ho.re)).map .int)), o17, o18, o19, o20, o21], μ) := by
    unfold q_law_139
    rw [v_asg, v_cal, v_consA, lc]
    simp only [v_nilA, sort_ints itAny_lst]
    rfl
  have q140 : q_law_140 [some x, some (.obj d), some (.obj s), some (.obj o), some (tmD tm), some (.int t), o6, o7, o8, o9, o10, some (.str p), o12, o13, o14, o15, some (.lst ((sI ((hs.filter (atP p)).map Ho.re)).map .int)), o17, o18, o19, o20, o21] lk00 μ = some (.nx, [some x, some (.obj d), some (.obj s), some (.obj o), some (tmD tm), some (.int t), o6, o7, o8, o9, o10, some (.str p), o12, o13, o14, o15, some (.lst ((sI ((hs.filter (atP p)).map Ho.re)).map .int)), some (eaD ((hs.filter (atP p)).map Ho.re) t), o18, o19, o20, o21], μ) := by
    unfold q_law_140
    generalize hl : sI ((hs.filter (atP p)).map Ho.re) = l
    have e : eaD ((hs.filter (atP p)).map Ho.re) t = match l[3]? with | some x => .int (if x > t then x else t) | none => .non := by unfold eaD; rw [hl] <;> rfl
    rw [e]
    cases e3 : l[3]? with
    | none =>
      have hl3 : l.length ≤ 3 := List.getElem?_eq_none_iff.mp e3
      have c : decide ((3 : Int) < (l.length : Int)) = false := decide_eq_false (by omega)
      simp [lenN, itL, iGt, opII, c]
    | some y =>
      have hl3 : 3 < l.length := (List.getElem?_eq_some_iff.mp e3).1
      have c : decide ((3 : Int) < (l.length : Int)) = true := decide_eq_true (by omega)
      simp [lenN, itL, iGt, opII, c, ixD, orOp, ixL, ixA, at3 e3, orN, max2N]
  have li : ∀ l : List D, listN μ [.tup l] = some (.lst l) := fun l => rfl
  have q141 : q_law_141 [some x, some (.obj d), some (.obj s), some (.obj o), some (tmD tm), some (.int t), o6, o7, o8, o9, o10, some (.str p), o12, o13, o14, o15, some (.lst ((sI ((hs.filter (atP p)).map Ho.re)).map .int)), some (eaD ((hs.filter (atP p)).map Ho.re) t), o18, o19, o20, o21] lk00 μ = some (.nx, [some x, some (.obj d), some (.obj s), some (.obj o), some (tmD tm), some (.int t), o6, o7, o8, o9, o10, some (.str p), o12, o13, o14, o15, some (.lst ((sI ((hs.filter (atP p)).map Ho.re)).map .int)), some (eaD ((hs.filter (atP p)).map Ho.re) t), o18, o19, o20, o21], μ) := by
    have e1 := p_at I.W I.S okp (lk := lk00) rfl
    have e2 := p_rested I.W I.S (t := t) okp (lk := lk00) rfl
    have e3 := p_earliest I.W I.S (t := t) okp (lk := lk00) rfl
    have e4 := p_lawat (lk := lk00) I.O I.S.ok I.S.len okp
    have pm : sI ((atL hs p).map Ho.re) = sI ((hs.filter (atP p)).map Ho.re) := sI_perm ((atL_perm hs p).map Ho.re)
    have ea : eaD ((atL hs p).map Ho.re) t = eaD ((hs.filter (atP p)).map Ho.re) t := by unfold eaD; rw [pm]
    rw [ea] at e3
    have n1 : neD μ (.lst ((atL hs p).map fun r => .str r.nm)) (.lst ((atL hs p).map fun r => .str r.nm)) = some (.bl false) := by
      have := ne_lsts (μ := μ) (l := (atL hs p).map Ho.nm) fun n hn => by
        obtain ⟨r, hr, rfl⟩ := List.mem_map.mp hn
        exact (I.S.ok r (atL_mem hr)).nm
      rw [List.map_map] at this
      exact this
    have n2 : neD μ (.lst ((reL hs p t).map fun r => .str r.nm)) (.lst ((reL hs p t).map fun r => .str r.nm)) = some (.bl false) := by
      have := ne_lsts (μ := μ) (l := (reL hs p t).map Ho.nm) fun n hn => by
        obtain ⟨r, hr, rfl⟩ := List.mem_map.mp hn
        exact (I.S.ok r (reL_mem hr)).nm
      rw [List.map_map] at this
      exact this
    have n3 := ne_ea μ ((hs.filter (atP p)).map Ho.re) t
    have orr := own_rested (lk := lk00) (ρ := [some x, some (.obj d), some (.obj s), some (.obj o), some (tmD tm), some (.int t), o6, o7, o8, o9, o10, some (.str p), o12, o13, o14, o15, some (.lst ((sI ((hs.filter (atP p)).map Ho.re)).map .int)), some (eaD ((hs.filter (atP p)).map Ho.re) t), o18, o19, o20, o21]) I hp rfl rfl rfl rfl
    have e2' : f_Stables_rested [.obj s, .str p, .int t] lk00 μ = some (.ok (.tup ((reL hs p t).map fun r => .str r.nm)), μ) := e2
    unfold q_law_141
    rw [v_ifS]
    simp only [v_orQ, v_op2, orr, v_cal, v_consA, v_nilA, v_oe, v_meth, v_call, v_vr, List.getElem?_cons_succ, List.getElem?_cons_zero, v_getS, isC_s I.S, if_true, List.length_cons, List.length_nil, e1, e2', e3, e4, li, n1, n2, n3, v_nx]
  refine ⟨[some x, some (.obj d), some (.obj s), some (.obj o), some (tmD tm), some (.int t), o6, o7, o8, o9, o10, some (.str p), o12, o13, o14, o15, some (.lst ((sI ((hs.filter (atP p)).map Ho.re)).map .int)), some (eaD ((hs.filter (atP p)).map Ho.re) t), o18, o19, o20, o21], ?_, ⟨o6, o7, o8, o9, o10, some (.str p), o12, o13, o14, o15, some (.lst ((sI ((hs.filter (atP p)).map Ho.re)).map .int)), some (eaD ((hs.filter (atP p)).map Ho.re) t), o18, o19, o20, o21, rfl⟩⟩
  simp only [v_gb, v_thru, v_nameG, List.set_cons_succ, List.set_cons_zero, k_law_139, v_seq, q139, q140, q141, v_nx]
theorem ph_138 (I : LInv μ d s h o hs la lo tm) {ρ : Fr} (F : IsF x d s o tm t ρ) : ∃ ρ', q_law_138 ρ lk00 μ = some (.nx, ρ', μ) ∧ IsF x d s o tm t ρ' := by
  obtain ⟨ρ', e, F'⟩ := loopM_pure (lk := lk00) (μ := μ) (gb := gbS (nameG 11) k_law_139) D.str (IsF x d s o tm t) abc ρ F (fun p hp ρ F => ph_139 I hp F)
  refine ⟨ρ', ?_, F'⟩
  unfold q_law_138
  rw [lockS_none (prb_of (d := .str [97, 98, 99]) (μ' := μ) rfl (fun n z => by cases z))]
  have w : walkV none lk00 μ (.str [97, 98, 99]) = some (abc.map .str) := rfl
  simp only [v_for, v_itE, v_ret, w, e]
/-! places, counts, away, tiredest -/
theorem eqF_pl (q : Option (List Nat)) (k : List Nat) : eqF (plD q) (.str k) = decide (q = some k) := by
  cases q with
  | none => rfl
  | some a =>
    show (a == k) = _
    by_cases e : a = k <;> simp [e]
theorem flat_pl (q : Option (List Nat)) : flatD (plD q) = true := by cases q <;> rfl
theorem perm_of {α : Type} [DecidableEq α] {l l' : List α} (h : l.Nodup) (h' : l'.Nodup) (m : ∀ a, a ∈ l ↔ a ∈ l') : l.Perm l' := by
  refine List.perm_iff_count.mpr fun a => ?_
  by_cases z : a ∈ l
  · have z' := (m a).mp z
    rw [List.Nodup.count h, List.Nodup.count h', if_pos z, if_pos z']
  · have z' := fun q => z ((m a).mpr q)
    rw [List.Nodup.count h, List.Nodup.count h', if_neg z, if_neg z']
theorem counts_eq (I : LInv μ d s h o hs la lo tm) {ks : List (List Nat)} (h1 : ks.Nodup) (h2 : ks.Pairwise fun a b => leS a b = true) (h3 : ∀ k, k ∈ ks ↔ ∃ r ∈ hs, r.pl = some k) : ks = abc.filter fun k => hs.any (atP k) := by
  refine srt_uniq (le := fun a b => leS a b = true) anti_S _ _ h2 ?_ ?_
  · exact List.Pairwise.filter _ (by decide)
  · refine perm_of h1 ((show abc.Nodup by decide).sublist List.filter_sublist) fun k => ?_
    rw [h3, List.mem_filter, List.any_eq_true]
    constructor
    · rintro ⟨r, hr, e⟩
      exact ⟨(I.pa r hr).2 k e, r, hr, decide_eq_true e⟩
    · rintro ⟨_, r, hr, e⟩
      exact ⟨r, hr, of_decide_eq_true e⟩
def coD (hs : List Ho) (k : List Nat) : D := .tup [.str k, .int (cntP hs k)]
theorem ph_144 (I : LInv μ d s h o hs la lo tm) {ρ : Fr} (F : IsF x d s o tm t ρ) : ∃ ρ1 ρ', q_law_143 ρ lk00 μ = some (.nx, ρ1, μ) ∧ q_law_144 ρ1 lk00 μ = some (.nx, ρ', μ) ∧ IsF x d s o tm t ρ' := by
  obtain ⟨o6, o7, o8, o9, o10, o11, o12, o13, o14, o15, o16, o17, o18, o19, o20, o21, rfl⟩ := F
  have q143 : q_law_143 [some x, some (.obj d), some (.obj s), some (.obj o), some (tmD tm), some (.int t), o6, o7, o8, o9, o10, o11, o12, o13, o14, o15, o16, o17, o18, o19, o20, o21] lk00 μ = some (.nx, [some x, some (.obj d), some (.obj s), some (.obj o), some (tmD tm), some (.int t), o6, o7, o8, o9, o10, o11, o12, o13, o14, o15, o16, o17, some (.lst (hs.map fun r => plD r.pl)), o19, o20, o21], μ) := by
    unfold q_law_143
    rw [v_asg, lockE_dct (n := o) (μ' := μ) rfl I.O.dc]
    have w := walk_o I.O (lk := lkp o lk00) (by simp [lkp])
    simp only [v_lc, v_itE, v_vr, List.getElem?_cons_succ, List.getElem?_cons_zero, v_getS, w]
    rw [lcL_mapT (fun r : Ho => D.str r.nm) (fun r => plD r.pl) hs 0 (by have := I.S.len; omega) fun r hm => ⟨[some x, some (.obj d), some (.obj s), some (.obj o), some (tmD tm), some (.int t), o6, some (.str r.nm), o8, o9, o10, o11, o12, o13, o14, o15, o16, o17, o18, o19, o20, o21], rfl, rfl, by
      simp [ix_o I.O (mem_nm hm), o1 (I.O.ce r hm)]⟩]
    rfl
  refine ⟨_, _, q143, ?_, ⟨o6, o7, o8, o9, o10, o11, o12, o13, o14, o15, o16, o17, some (.lst (hs.map fun r => plD r.pl)), o19, o20, o21, rfl⟩⟩
  obtain ⟨ks, k1, k2, k3, k4⟩ := p_counts I.W I.S (lk := lk00) rfl
  have ke := counts_eq I k1 k2 k3
  have li : ∀ l : List D, listN μ [.tup l] = some (.lst l) := fun l => rfl
  have nn : neD μ (.lst (ks.map (coD hs))) (.lst (ks.map (coD hs))) = some (.bl false) := by
    have e : snapD μ (.lst (ks.map (coD hs))) = some (.list (ks.map fun k => .tuple [.str ⟨k.toArray⟩, .int (cntP hs k)])) := by
      show optL .list (mapO (snap 11 μ) (ks.map (coD hs))) = _
      rw [mapO_map (f := snap 11 μ) (coD hs) (fun k => PyData.tuple [.str ⟨k.toArray⟩, .int (cntP hs k)]) ks fun _ _ => rfl]; rfl
    have okk : ∀ k ∈ ks, okS k := fun k hk => by
      rw [ke] at hk
      exact abc_ok (List.mem_filter.mp hk).1
    refine ne_same e e (shaped_map _ ks fun k hk => ⟨?_, ?_⟩) ?_
    · show PyData.canLayAll0 _ = true
      simp only [PyData.canLayAll0, okS_lay (okk k hk), Bool.true_and]; rfl
    · show PyData.depthAll _ + 1 ≤ 60
      simp [PyData.depthAll, PyData.depth]
    · show PyData.eqvAll _ _ = true
      refine eqv_all _ ks fun k hk => ?_
      show PyData.eqvAll _ _ = true
      simp [PyData.eqvAll, PyData.eqv]
  have co : lockE (retE (.str [97, 98, 99])) (lcE false [11] (itE (retE (.str [97, 98, 99]))) (cName 11) (op2E inD (varE 11) (varE 18)) (tupE (consA (varE 11) (consA (orE (fun _ _ _ => none) (bmE "list" cntN (varE 18) (consA (varE 11) nilA))) nilA)))) [some x, some (.obj d), some (.obj s), some (.obj o), some (tmD tm), some (.int t), o6, o7, o8, o9, o10, o11, o12, o13, o14, o15, o16, o17, some (.lst (hs.map fun r => plD r.pl)), o19, o20, o21] lk00 μ = some (.ok (.lst (ks.map (coD hs))), μ) := by
    rw [lockE_none (prb_of (d := .str [97, 98, 99]) (μ' := μ) rfl (fun n z => by cases z))]
    have w : walkV none lk00 μ (.str [97, 98, 99]) = some (abc.map .str) := rfl
    simp only [v_lc, v_itE, v_ret, w]
    have fl : (hs.map fun r => plD r.pl).all flatD = true := by
      rw [List.all_map]; exact List.all_eq_true.mpr fun r _ => flat_pl r.pl
    rw [lcL_map D.str (fun k => hs.any (atP k)) (coD hs) abc 0 (by decide) fun k hk => ⟨[some x, some (.obj d), some (.obj s), some (.obj o), some (tmD tm), some (.int t), o6, o7, o8, o9, o10, some (.str k), o12, o13, o14, o15, o16, o17, some (.lst (hs.map fun r => plD r.pl)), o19, o20, o21], rfl, by
      have q : inD μ (.str k) (.lst (hs.map fun r => plD r.pl)) = some (.bl (hs.any (atP k))) := by
        have fk : flatD (.str k) = true := rfl
        have sg : inSg false μ (.str k) (.lst (hs.map fun r => plD r.pl)) = none := by unfold inSg; split <;> simp_all
        simp only [inD, orOp, inDc, getD, dctOf, sg, inFl, itL, fk, fl, Bool.and_self, if_true, Bool.false_eq_true, if_false]
        rw [List.any_map]
        congr 3
        funext r
        exact eqF_pl r.pl k
      simp [q], fun _ => by
      have q : cntN lk00 μ (.lst (hs.map fun r => plD r.pl)) [.str k] = some (.int (cntP hs k), μ) := by
        have fk : flatD (.str k) = true := rfl
        simp only [cntN, itL, fk, fl, Bool.and_self, if_true]
        have ee : ((fun z => eqF z (D.str k)) ∘ fun r : Ho => plD r.pl) = atP k := funext fun r => eqF_pl r.pl k
        rw [List.countP_map, ee]
        rfl
      simp [bmE, tyD, itL, q, coD]⟩, ← ke]
    rfl
  have aw := p_away (lk := lk00) I.S
  have ow : calE sortN (consA (lockE (varE 3) (lcE false [7] (itE (varE 3)) (cName 7) (op2E neD (op2E ixD (op2E ixD (varE 3) (varE 7)) (retE (.int 0))) (op2E ixD (op2E ixD (varE 3) (varE 7)) (retE (.int 1)))) (varE 7))) nilA) [some x, some (.obj d), some (.obj s), some (.obj o), some (tmD tm), some (.int t), o6, o7, o8, o9, o10, o11, o12, o13, o14, o15, o16, o17, some (.lst (hs.map fun r => plD r.pl)), o19, o20, o21] lk00 μ = some (.ok (.lst (((hs.mergeSort leN).filter awP).map fun r => .str r.nm)), μ) := by
    have lc : lockE (varE 3) (lcE false [7] (itE (varE 3)) (cName 7) (op2E neD (op2E ixD (op2E ixD (varE 3) (varE 7)) (retE (.int 0))) (op2E ixD (op2E ixD (varE 3) (varE 7)) (retE (.int 1)))) (varE 7)) [some x, some (.obj d), some (.obj s), some (.obj o), some (tmD tm), some (.int t), o6, o7, o8, o9, o10, o11, o12, o13, o14, o15, o16, o17, some (.lst (hs.map fun r => plD r.pl)), o19, o20, o21] lk00 μ = some (.ok (.lst ((hs.filter awP).map fun r => .str r.nm)), μ) := by
      rw [lockE_dct (n := o) (μ' := μ) rfl I.O.dc]
      have w := walk_o I.O (lk := lkp o lk00) (by simp [lkp])
      simp only [v_lc, v_itE, v_vr, List.getElem?_cons_succ, List.getElem?_cons_zero, v_getS, w]
      rw [lcL_map (fun r : Ho => D.str r.nm) awP (fun r => .str r.nm) hs 0 (by have := I.S.len; omega) fun r hm => ⟨[some x, some (.obj d), some (.obj s), some (.obj o), some (tmD tm), some (.int t), o6, some (.str r.nm), o8, o9, o10, o11, o12, o13, o14, o15, o16, o17, some (.lst (hs.map fun r => plD r.pl)), o19, o20, o21], rfl, by
        have g := I.S.ok r hm
        have q : neD μ (.str r.ho) (plD r.pl) = some (.bl (awP r)) := by
          have := neD_pl (μ := μ) (x := some r.ho) (y := r.pl) (okO g.ho) g.pl
          rw [show plD (some r.ho) = D.str r.ho from rfl] at this
          rw [this]
          unfold awP
          by_cases e : r.pl = some r.ho
          · simp [e]
          · have e' : ¬ some r.ho = r.pl := fun z => e z.symm
            rw [decide_eq_false e, decide_eq_false e']
        simp [ix_o I.O (mem_nm hm), o0 (I.O.ce r hm), o1 (I.O.ce r hm), q], fun _ => by simp⟩]
      rfl
    rw [v_cal, v_consA, lc]
    simp only [v_nilA, sort_nms itAny_lst]
    have e := congrArg (List.map D.str) (sort_filter awP hs)
    rw [List.map_map, List.map_map] at e
    have e' : ((hs.filter awP).mergeSort leN).map (fun r => D.str r.nm) = ((hs.mergeSort leN).filter awP).map fun r => D.str r.nm := e.symm
    rw [e']
  have n2 : neD μ (.lst (((hs.mergeSort leN).filter awP).map fun r => .str r.nm)) (.lst (((hs.mergeSort leN).filter awP).map fun r => .str r.nm)) = some (.bl false) := by
    have := ne_lsts (μ := μ) (l := ((hs.mergeSort leN).filter awP).map Ho.nm) fun n hn => by
      obtain ⟨r, hr, rfl⟩ := List.mem_map.mp hn
      exact (I.S.ok r (List.mem_mergeSort.mp (List.mem_filter.mp hr).1)).nm
    rw [List.map_map] at this
    exact this
  have k4' : f_Stables_counts [.obj s] lk00 μ = some (.ok (.tup (ks.map (coD hs))), μ) := k4
  unfold q_law_144
  rw [v_ifS]
  simp only [v_orQ, v_op2, co, ow, v_cal, v_consA, v_nilA, v_oe, v_meth, v_vr, List.getElem?_cons_succ, List.getElem?_cons_zero, v_getS, isC_s I.S, if_true, List.length_nil, Nat.zero_add, k4', aw, li, nn, n2, v_nx]
theorem sort_ti {μ : Sto} {y : D} {l : List Ho} (e : itAny μ y = some (l.map tiD)) : sortN μ [y] = some (.lst ((l.mergeSort fun a b => PySem.W.dataLe false tiP a b).map tiD)) := by
  unfold sortN
  simp only [e]
  rw [mapO_map (f := snapD μ) tiD tiP l fun _ _ => rfl]
  have ok : srtOk (l.map tiP) = true := by
    unfold srtOk alikeB
    simp only [Bool.and_eq_true, List.all_eq_true, List.mem_map, forall_exists_index, and_imp, forall_apply_eq_imp_iff₂, Bool.or_eq_true]
    exact ⟨⟨fun a _ b _ => rfl, .inl fun a _ => rfl⟩, fun a _ => rfl⟩
  simp only [ok, if_true]
  rw [srtD_map]
theorem ph_147 (I : LInv μ d s h o hs la lo tm) {ρ : Fr} (F : IsF x d s o tm t ρ) : ∃ ρ1 ρ', q_law_146 ρ lk00 μ = some (.nx, ρ1, μ) ∧ q_law_147 ρ1 lk00 μ = some (.nx, ρ', μ) ∧ IsF x d s o tm t ρ' := by
  obtain ⟨o6, o7, o8, o9, o10, o11, o12, o13, o14, o15, o16, o17, o18, o19, o20, o21, rfl⟩ := F
  generalize hS : (hs.mergeSort fun a b => PySem.W.dataLe false tiP a b) = L
  have q146 : q_law_146 [some x, some (.obj d), some (.obj s), some (.obj o), some (tmD tm), some (.int t), o6, o7, o8, o9, o10, o11, o12, o13, o14, o15, o16, o17, o18, o19, o20, o21] lk00 μ = some (.nx, [some x, some (.obj d), some (.obj s), some (.obj o), some (tmD tm), some (.int t), o6, o7, o8, o9, o10, o11, o12, o13, o14, o15, o16, o17, o18, some (.lst (L.map tiD)), o20, o21], μ) := by
    have lc : lockE (varE 3) (lcE false [7] (itE (varE 3)) (cName 7) (retE (.bl true)) (tupE (consA (op1E negD (op2E ixD (op2E ixD (varE 3) (varE 7)) (retE (.int 3)))) (consA (varE 7) nilA)))) [some x, some (.obj d), some (.obj s), some (.obj o), some (tmD tm), some (.int t), o6, o7, o8, o9, o10, o11, o12, o13, o14, o15, o16, o17, o18, o19, o20, o21] lk00 μ = some (.ok (.lst (hs.map tiD)), μ) := by
      rw [lockE_dct (n := o) (μ' := μ) rfl I.O.dc]
      have w := walk_o I.O (lk := lkp o lk00) (by simp [lkp])
      simp only [v_lc, v_itE, v_vr, List.getElem?_cons_succ, List.getElem?_cons_zero, v_getS, w]
      rw [lcL_mapT (fun r : Ho => D.str r.nm) tiD hs 0 (by have := I.S.len; omega) fun r hm => ⟨[some x, some (.obj d), some (.obj s), some (.obj o), some (tmD tm), some (.int t), o6, some (.str r.nm), o8, o9, o10, o11, o12, o13, o14, o15, o16, o17, o18, o19, o20, o21], rfl, rfl, by
        simp [ix_o I.O (mem_nm hm), o3 (I.O.ce r hm), negD, tiD]⟩]
      rfl
    unfold q_law_146
    rw [v_asg, v_cal, v_consA, lc]
    simp only [v_nilA, sort_ti itAny_lst, hS]
    rfl
  have ok : ∀ r ∈ L, r ∈ hs := fun r hr => by rw [← hS] at hr; exact List.mem_mergeSort.mp hr
  have n1 : neD μ (.lst (L.map tiD)) (.lst []) = some (.bl (!L.isEmpty)) := ne_nil tiD tiP L fun r hr => ⟨rfl, lay_ti (I.S.ok r (ok r hr)), by simp [tiP, PyData.depth, PyData.depthAll]⟩
  refine ⟨_, _, q146, ?_, ⟨o6, o7, o8, o9, o10, o11, o12, o13, o14, o15, o16, o17, o18, some (.lst (L.map tiD)), o20, o21, rfl⟩⟩
  unfold q_law_147
  rcases p_tiredest (lk := lk00) I.S with ⟨he, e⟩ | ⟨r, hr, hmin, e⟩
  · have hL : L = [] := by rw [← hS, he]; simp
    subst hL
    have nn : neD μ .non .non = some (.bl false) := ne_same (q := .none) rfl rfl rfl rfl
    have n1' : neD μ (.lst []) (.lst []) = some (.bl false) := n1
    simp [isC_s I.S, e, n1', nn]
  · cases hL : L with
    | nil =>
      have : hs.length = 0 := by rw [← List.length_mergeSort (le := fun a b => PySem.W.dataLe false tiP a b) hs, hS, hL]; rfl
      rw [List.length_eq_zero_iff.mp this] at hr
      cases hr
    | cons r0 rs =>
      obtain ⟨m1, m2⟩ := leT_sort hs r0 rs (hS.trans hL)
      have enm : r.nm = r0.nm := ltT_anti (m2 r hr) (hmin r0 m1)
      rw [hL] at n1
      have n1' : neD μ (.lst ((r0 :: rs).map tiD)) (.lst []) = some (.bl true) := n1
      have g := I.S.ok r0 m1
      have n2 : neD μ (.str r0.nm) (.str r0.nm) = some (.bl false) := by have := neD_ss (μ := μ) g.nm g.nm; simpa using this
      have i0 : ixD μ (.lst ((r0 :: rs).map tiD)) (.int 0) = some (tiD r0) := by simp [ixD, orOp, ixL, itL, ixA, atI, ixN]
      have i1 : ixD μ (tiD r0) (.int 1) = some (.str r0.nm) := rfl
      rw [enm] at e
      rw [v_ifS]
      simp only [v_op2, v_if, v_oe, v_meth, v_vr, List.getElem?_cons_succ, List.getElem?_cons_zero, v_getS, isC_s I.S, if_true, v_nilA, v_lstE, List.length_nil, Nat.zero_add, Nat.zero_le, e, v_ret, n1', i0, i1, n2, v_nx]
/-- one step -/
theorem ph_step (I : LInv μ d s h o hs la lo tm) (hl : tm.length < 1000) {ρ : Fr} (F : IsF x d s o tm t ρ) (k : D) :
    ∃ ρ' μ' hs' lo' tm' t', gbS (nameG 10) k_law_118 k ρ lk00 μ = some (.nx, ρ', μ') ∧ IsF x d s o tm' t' ρ' ∧ LInv μ' d s h o hs' la lo' tm' ∧ tm'.length ≤ tm.length + 1 := by
  obtain ⟨o6, o7, o8, o9, o10, o11, o12, o13, o14, o15, o16, o17, o18, o19, o20, o21, rfl⟩ := F
  obtain ⟨p, hp, ρ1, μ1, ρ2, μ2, hs', lo', tm', t', e1, e2, ⟨a6, a7, a8, a9, a10, a11, a12, a13, a14, a15, a16, a17, a18, a19, a20, a21, F2⟩, I2, hl2⟩ := ph_deed I hl (x := x) (t := t) o6 o7 o8 o9 (some (k)) o11 o12 o13 o14 o15 o16 o17 o18 o19 o20 o21
  have F2' : IsF x d s o tm' t' ρ2 := ⟨a6, a7, a8, a9, a10, a11, a12, a13, a14, a15, a16, a17, a18, a19, a20, a21, F2⟩
  obtain ⟨ρ3, e3, F3⟩ := ph_134 I2 F2'
  obtain ⟨ρ4, e4, F4⟩ := ph_138 I2 F3
  obtain ⟨ρ5, ρ6, e5, e6, F6⟩ := ph_144 I2 F4
  obtain ⟨ρ7, ρ8, e7, e8, F8⟩ := ph_147 I2 F6
  refine ⟨ρ8, μ2, hs', lo', tm', t', ?_, F8, I2, hl2⟩
  simp only [v_gb, v_thru, v_nameG, List.set_cons_succ, List.set_cons_zero, k_law_118, v_seq, e1, e2, e3, e4, e5, e6, e7, e8, v_nx]
end
end K02

end
section
set_option Elab.async false
set_option linter.all false
set_option maxRecDepth 100000
set_option maxHeartbeats 1000000
/-! k02: the first part's loops; the last part -/
namespace K02
open PySem PyProof.Rows L2 GXP MP
theorem upto_len (i : Int) : ∀ n : Nat, (upto i n).length = n
  | 0 => rfl
  | n + 1 => by unfold upto; rw [List.length_cons, upto_len]
theorem rng_of {ρ : Fr} {lk : Lk} {μ μ1 : Sto} {a : MA} {j : Int} {z : Option Nat} (e : a ρ lk μ = some (.inl [.int j], μ1)) (h0 : 0 ≤ j) (h1 : j < 1000) : rng1E a z ρ lk μ = some (.inl (upto 0 j.toNat), μ1) := by
  unfold rng1E
  rw [e]
  have a1 : decide (-p62 ≤ j) = true := decide_eq_true (by unfold p62; omega)
  have a2 : decide (j < p62) = true := decide_eq_true (by unfold p62; omega)
  simp [a1, a2]
section
variable {μ : Sto} {d s h o : Nat} {x : D}
theorem ph_109 (I : ∀ la lo, LInv μ d s h o [] la lo []) {ρ : Fr} (F : IsF x d s o [] 0 ρ) : ∃ ρ' μ' hs la lo, q_law_109 ρ lk00 μ = some (.nx, ρ', μ') ∧ IsF x d s o [] 0 ρ' ∧ LInv μ' d s h o hs la lo [] := by
  obtain ⟨r, μ1, e1, a1, b1, I1⟩ := roll_f (I (fun _ => 0) (fun _ => 0)) (many := 15) (by decide) (by decide)
  obtain ⟨ρ', μ', e, F', hs, la, lo, I', _⟩ := loopM_inv (lk := lk00) (gb := gbS (nameG 6) k_law_110) (fun n ρ μ => IsF x d s o [] 0 ρ ∧ ∃ hs la lo, LInv μ d s h o hs la lo [] ∧ hs.length ≤ n) (upto 0 r.toNat) 0 ρ μ1 (fun i k ρ μ hk ⟨F, hs, la, lo, I, hl⟩ => by
    have hi : i < (upto 0 r.toNat).length := (List.getElem?_eq_some_iff.mp hk).1
    rw [upto_len] at hi
    obtain ⟨ρ', μ', hs', la', lo', e, F', I', hl'⟩ := ph_B I (by omega) F k
    exact ⟨ρ', μ', e, F', hs', la', lo', I', by omega⟩) ⟨F, [], _, _, I1, Nat.zero_le _⟩
  refine ⟨ρ', μ', hs, la, lo, ?_, F', I'⟩
  unfold q_law_109
  have a : (consA (callE 2 f_law_roll (consA (varE 1) (consA (retE (.int 15)) nilA))) nilA) ρ lk00 μ = some (.inl [.int r], μ1) := by
    obtain ⟨o6, o7, o8, o9, o10, o11, o12, o13, o14, o15, o16, o17, o18, o19, o20, o21, rfl⟩ := F
    simp [e1]
  rw [lockS_noP, v_for, rng_of a a1 (by omega)]
  exact e
theorem ph_117 {hs : List Ho} {la lo : List Nat → Nat} (I : LInv μ d s h o hs la lo []) {ρ : Fr} (F : IsF x d s o [] 0 ρ) : ∃ ρ' μ' tm t, q_law_117 ρ lk00 μ = some (.nx, ρ', μ') ∧ IsF x d s o tm t ρ' ∧ Wf μ' := by
  obtain ⟨r, μ1, e1, a1, b1, I1⟩ := roll_f I (many := 31) (by decide) (by decide)
  obtain ⟨ρ', μ', e, hs', lo', tm, t, F', I', _⟩ := loopM_inv (lk := lk00) (gb := gbS (nameG 10) k_law_118) (fun n ρ μ => ∃ hs lo tm t, IsF x d s o tm t ρ ∧ LInv μ d s h o hs la lo tm ∧ tm.length ≤ n) (upto 0 r.toNat) 0 ρ μ1 (fun i k ρ μ hk ⟨hs, lo, tm, t, F, I, hl⟩ => by
    have hi : i < (upto 0 r.toNat).length := (List.getElem?_eq_some_iff.mp hk).1
    rw [upto_len] at hi
    obtain ⟨ρ', μ', hs', lo', tm', t', e, F', I', hl'⟩ := ph_step I (by omega) F k
    exact ⟨ρ', μ', e, hs', lo', tm', t', F', I', by omega⟩) ⟨hs, lo, [], 0, F, I1, Nat.le_refl _⟩
  refine ⟨ρ', μ', tm, t, ?_, F', I'.W⟩
  unfold q_law_117
  have a : (consA (callE 2 f_law_roll (consA (varE 1) (consA (retE (.int 31)) nilA))) nilA) ρ lk00 μ = some (.inl [.int r], μ1) := by
    obtain ⟨o6, o7, o8, o9, o10, o11, o12, o13, o14, o15, o16, o17, o18, o19, o20, o21, rfl⟩ := F
    simp [e1]
  rw [lockS_noP, v_for, rng_of a a1 (by omega)]
  exact e
def IsG (x : D) (ρ : Fr) : Prop := ∃ o1 o2 o3 o4 o5 o6 o7 o8 o9 o10 o11 o12 o13 o14 o15 o16 o17 o18 o19 o20 o21 : Option D, ρ = [some x, o1, o2, o3, o4, o5, o6, o7, o8, o9, o10, o11, o12, o13, o14, o15, o16, o17, o18, o19, o20, o21]
/-- the first part -/
theorem ph_107 (ns : List Int) : ∃ ρ' μ', q_law_107 (startF 22 [.kl (ns.map .int)]) lk00 ⟨0, fun _ => none⟩ = some (.nx, ρ', μ') ∧ IsG (.kl (ns.map .int)) ρ' ∧ Wf μ' := by
  obtain ⟨a, b, c, er⟩ := p_rounds ns
  generalize D.kl (ns.map .int) = x at er ⊢
  have hW0 : Wf ⟨0, fun _ => none⟩ := fun k c e => by cases e
  have e0 : startF 22 [x] = [some x, none, none, none, none, none, none, none, none, none, none, none, none, none, none, none, none, none, none, none, none, none] := rfl
  rw [e0]
  have W1 : Wf ((⟨0, fun _ => none⟩ : Sto).add (.lst [.int a, .int b, .int c])) := hW0.add'
  obtain ⟨ρ1, μ1, s, h, o, e1, F1, I1⟩ := ph_A (d := 0) (x := x) W1 ⟨a, b, c, add_same ⟨0, fun _ => none⟩ _⟩ none none none none none none none none none none none none none none none none none none none none
  obtain ⟨ρ2, μ2, hs, la, lo, e2, F2, I2⟩ := ph_109 I1 F1
  obtain ⟨ρ3, μ3, tm, t, e3, ⟨o6, o7, o8, o9, o10, o11, o12, o13, o14, o15, o16, o17, o18, o19, o20, o21, rfl⟩, W3⟩ := ph_117 I2 F2
  refine ⟨[some x, some (.obj 0), some (.obj s), some (.obj o), some (tmD tm), some (.int t), o6, o7, o8, o9, o10, o11, o12, o13, o14, o15, o16, o17, o18, o19, o20, o21], μ3, ?_, ⟨some (.obj 0), some (.obj s), some (.obj o), some (tmD tm), some (.int t), o6, o7, o8, o9, o10, o11, o12, o13, o14, o15, o16, o17, o18, o19, o20, o21, rfl⟩, W3⟩
  unfold q_law_107
  have ca : callE 2 f_law_rounds (consA (varE 0) (consA (retE (.int 1)) nilA)) [some x, none, none, none, none, none, none, none, none, none, none, none, none, none, none, none, none, none, none, none, none, none] lk00 ⟨0, fun _ => none⟩ = some (.ok (.lst [.obj 0]), (⟨0, fun _ => none⟩ : Sto).add (.lst [.int a, .int b, .int c])) := by
    simp [er]
  rw [lockS_none (prb_of ca (fun n z => by cases z)), v_for, v_itE, ca]
  simp only [walk_lst]
  unfold loopM
  simp only [v_gb, v_thru, v_nameG, List.set_cons_succ, List.set_cons_zero, k_law_108, v_seq, e1, e2, e3, v_nx]
  rfl
/-! the last part -/
def nmk (k : Nat) : List Nat := [104, 48 + k]
def hz (n : Nat) : List Ho := (List.range n).map fun k => ⟨nmk k, [97], some [97], 0, 0⟩
theorem hz_succ (n : Nat) : hz (n + 1) = hz n ++ [⟨nmk n, [97], some [97], 0, 0⟩] := by
  unfold hz
  rw [List.range_succ, List.map_append]; rfl
theorem hz_nm {n k : Nat} (h : nmk k ∈ (hz n).map Ho.nm) : k < n := by
  unfold hz at h
  rw [List.map_map] at h
  obtain ⟨j, hj, e⟩ := List.mem_map.mp h
  have e : nmk j = nmk k := e
  unfold nmk at e
  injection e with _ e
  injection e with e _
  have := List.mem_range.mp hj
  omega
theorem a_ok : okS [97] := ⟨by decide, by decide⟩
theorem b_ok : okS [98] := ⟨by decide, by decide⟩
theorem nmk_ok {k : Nat} (h : k < 10) : okS (nmk k) := ⟨by unfold nmk; simp, fun c hc => by
  unfold nmk at hc
  rcases List.mem_cons.mp hc with rfl | hc
  · decide
  · rw [List.mem_singleton.mp hc]; omega⟩
theorem dg_k {k : Nat} (h : k < 4) : 104 :: dg (k : Int) = nmk k := by
  have : ∀ k : Fin 4, 104 :: dg ((k.val : Nat) : Int) = nmk k.val := by decide +kernel
  exact this ⟨k, h⟩
theorem ph_150 (W : Wf μ) (S : ∀ la, St1 μ s h [] la) (o1 o2 o3 o4 o5 o6 o7 o8 o9 o10 o11 o12 o13 o14 o15 o16 o17 o18 o19 o20 o21 : Option D) : ∃ o6' μ' la, q_law_150 [some x, o1, some (.obj s), o3, o4, o5, o6, o7, o8, o9, o10, o11, o12, o13, o14, o15, o16, o17, o18, o19, o20, o21] lk00 μ = some (.nx, [some x, o1, some (.obj s), o3, o4, o5, o6', o7, o8, o9, o10, o11, o12, o13, o14, o15, o16, o17, o18, o19, o20, o21], μ') ∧ St1 μ' s h (hz 4) la ∧ Wf μ' := by
  obtain ⟨ρ', μ', e, ⟨o6', rfl⟩, la, S', W'⟩ := loopM_inv (lk := lk00) (gb := gbS (nameG 6) k_law_151) (fun n ρ μ => (∃ o6, ρ = [some x, o1, some (.obj s), o3, o4, o5, o6, o7, o8, o9, o10, o11, o12, o13, o14, o15, o16, o17, o18, o19, o20, o21]) ∧ ∃ la, St1 μ s h (hz n) la ∧ Wf μ) (upto 0 4) 0 [some x, o1, some (.obj s), o3, o4, o5, o6, o7, o8, o9, o10, o11, o12, o13, o14, o15, o16, o17, o18, o19, o20, o21] μ (fun i k ρ μ hk ⟨F, la, S, W⟩ => by
    obtain ⟨o6, rfl⟩ := F
    rw [Nat.zero_add] at S ⊢
    have hi : i < 4 := (List.getElem?_eq_some_iff.mp hk).1
    have ek : k = .int (i : Int) := by
      have : i = 0 ∨ i = 1 ∨ i = 2 ∨ i = 3 := by omega
      rcases this with rfl | rfl | rfl | rfl <;> cases hk <;> rfl
    subst ek
    obtain ⟨s1, s2⟩ := str_nm (μ := μ) (i := (i : Int)) (by omega) (by omega)
    rw [dg_k hi] at s2
    obtain ⟨μ', e, S', W', _, _⟩ := p_add W S (n := nmk i) (ho := [97]) (nmk_ok (k := i) (by omega)) a_ok (fun z => by have := hz_nm z; omega) (by unfold nmk; simp) (by unfold hz; rw [List.length_map, List.length_range]; omega)
    refine ⟨[some x, o1, some (.obj s), o3, o4, o5, some (.int (i : Int)), o7, o8, o9, o10, o11, o12, o13, o14, o15, o16, o17, o18, o19, o20, o21], μ', ?_, ⟨_, rfl⟩, _, by rw [hz_succ]; exact S', W'⟩
    simp [k_law_151, q_law_151, isC_s S, s1, s2, e]) ⟨⟨_, rfl⟩, fun _ => 0, S _, W⟩
  refine ⟨o6', μ', la, ?_, S', W'⟩
  unfold q_law_150
  rw [lockS_noP, v_for, rng_of (j := 4) (μ1 := μ) rfl (by decide) (by decide)]
  exact e
/-- they stand as they go -/
theorem row_le {p : List Nat} {a b : Ho} (h1 : a.ho = b.ho) (h2 : a.re = b.re) (h3 : a.nm < b.nm) : PySem.W.dataLe false (rowP p) a b = true := by
  show (!PySem.W.dataLt (rowP p b) (rowP p a)) = true
  unfold rowP
  rw [h1, h2, PySem.W.dataLt_tuple, PySem.W.dataLt_cons rfl, if_pos (by simp [PyData.eqv]), PySem.W.dataLt_cons rfl, if_pos (by simp [PyData.eqv]), PySem.W.dataLt_cons rfl]
  have e : PyData.eqv (.str ⟨b.nm.toArray⟩) (.str ⟨a.nm.toArray⟩) = false := by
    simp only [PyData.eqv, str_eq]
    exact decide_eq_false fun z => by rw [z] at h3; exact List.lt_irrefl _ h3
  rw [if_neg (by rw [e]; exact Bool.false_ne_true), PySem.W.dataLt_str]
  simp only [Bool.not_eq_true', decide_eq_false_iff_not]
  exact fun z => List.lt_irrefl _ (List.lt_trans h3 z)
def hA : List Ho := [⟨[104, 48], [97], none, 0, 0⟩, ⟨[104, 49], [97], none, 0, 0⟩, ⟨[104, 50], [97], none, 0, 0⟩, ⟨[104, 51], [97], none, 0, 0⟩]
def hB : List Ho := [⟨[104, 48], [97], some [98], 410, 10⟩, ⟨[104, 49], [97], some [98], 410, 10⟩, ⟨[104, 50], [97], some [98], 410, 10⟩, ⟨[104, 51], [97], some [98], 410, 10⟩]
def tn : List (List Nat) := [[104, 48], [104, 49], [104, 50], [104, 51]]
theorem atL_id {p : List Nat} {l : List Ho} (h : l.Pairwise fun a b => a.ho = b.ho ∧ a.re = b.re ∧ a.nm < b.nm) (h2 : ∀ r ∈ l, atP p r = true) : atL l p = l := by
  unfold atL
  rw [List.filter_eq_self.mpr h2]
  exact List.mergeSort_of_pairwise (h.imp fun q => row_le q.1 q.2.1 q.2.2)
theorem te_hz : teL (hz 4) [97] 0 = tn := by
  unfold teL reL
  rw [atL_id (by decide) (by decide)]
  rfl
theorem up_A : updL goF tn (hz 4) = hA := rfl
theorem up_B : updL (coF [98] 50 10) tn hA = hB := rfl
theorem te_A : teL hA [97] 0 = [] := by
  unfold teL reL atL
  rw [show hA.filter (atP [97]) = [] from rfl]
  simp
theorem ea_B : eaD ((atL hB [98]).map Ho.re) 0 = .int 410 := by
  rw [atL_id (by decide) (by decide)]
  unfold eaD
  have : sI (hB.map Ho.re) = [410, 410, 410, 410] := by
    unfold sI
    exact List.mergeSort_of_pairwise (by decide)
  rw [this]
  rfl
end
end K02

end
section
set_option Elab.async false
set_option linter.all false
set_option maxRecDepth 100000
set_option maxHeartbeats 1000000
/-! k02: the last part; the plain law -/
namespace K02
open PySem PyProof.Rows L2 GXP MP
section
variable {μ : Sto} {s h : Nat} {la : List Nat → Nat} {x : D}
theorem nmA {n : List Nat} (h : n ∈ tn) : n ∈ hA.map Ho.nm := h
theorem nn_HE (μ : Sto) : neD μ (.str HE) (.str HE) = some (.bl false) := by have := neD_ss (μ := μ) okHE okHE; simpa using this
theorem z_ok : okS [122] := ⟨by decide, by decide⟩
theorem ph_159 (W : Wf μ) (S : St1 μ s h hA la) (o1 o2 o3 o4 o5 o6 o7 o8 o9 o10 o11 o12 o13 o14 o15 o16 o17 o18 o19 o20 o21 : Option D) : q_law_159 [some x, o1, some (.obj s), o3, o4, o5, o6, o7, o8, o9, o10, o11, some (.tup (tn.map .str)), o13, o14, o15, o16, o17, o18, o19, some (.lst [.lam 0, .lam 1, .lam 2, .lam 3, .lam 4]), o21] lk00 μ = some (.nx, [some x, o1, some (.obj s), o3, o4, o5, o6, o7, o8, o9, o10, o11, some (.tup (tn.map .str)), o13, o14, o15, o16, o17, o18, o19, some (.lst [.lam 0, .lam 1, .lam 2, .lam 3, .lam 4]), o21], μ) := by
  have a0 := p_add_bad S (n := [104, 48]) (ho := [97]) ⟨by decide, by decide⟩ (.inl (by decide))
  have a1 := p_add_bad S (n := []) (ho := [97]) okS_nil (.inr rfl)
  have a2 := p_horse (lk := lk00) S [122]
  rw [if_neg (by decide)] at a2
  have a3 := p_take_bad W S (p := [97]) (t := 0) a_ok (by rw [te_A]; decide)
  have a4 := p_arrive_bad S (T := .lst [.str [122]]) (ns := [[122]]) (p := [97]) (t := 0) (m := 1) (.inl rfl) (by decide) (.inr (by decide))
  have a5 := p_arrive_bad S (T := .lst [.str [104, 48], .str [104, 48]]) (ns := [[104, 48], [104, 48]]) (p := [97]) (t := 0) (m := 1) (.inl rfl) (by decide) (.inl (by decide))
  obtain ⟨ks, k1, k2, k3, k4⟩ := p_counts W S (lk := lk00) rfl
  have ke : ks = [] := by
    cases hk : ks with
    | nil => rfl
    | cons k ks' =>
      obtain ⟨r, hr, e⟩ := (k3 k).mp (by rw [hk]; exact List.mem_cons_self)
      have : ∀ r ∈ hA, r.pl = none := by decide
      rw [this r hr] at e
      cases e
  subst ke
  have nl : neD μ (.lst []) (.lst []) = some (.bl false) := rfl
  have nt : neD μ (.tup []) (.tup []) = some (.bl false) := rfl
  have hq := nn_HE μ
  unfold q_law_159
  rw [v_ifS, v_orQ, v_op2, lockE_none (prb_of (d := .lst [.lam 0, .lam 1, .lam 2, .lam 3, .lam 4]) (μ' := μ) rfl (fun n z => by cases z))]
  have w : ([.lam 0, .lam 1, .lam 2, .lam 3, .lam 4] : List D) = [0, 1, 2, 3, 4].map fun j : Nat => D.lam j := rfl
  simp only [v_lc, v_itE, v_vr, List.getElem?_cons_succ, List.getElem?_cons_zero, v_getS, walk_lst, w]
  rw [lcL_map (fun j : Nat => D.lam j) (fun _ => false) (fun _ => D.int 1) [0, 1, 2, 3, 4] 0 (by decide) fun j hj => ⟨[some x, o1, some (.obj s), o3, o4, o5, o6, o7, o8, o9, o10, o11, some (.tup (tn.map .str)), o13, o14, o15, o16, o17, o18, o19, some (.lst [.lam 0, .lam 1, .lam 2, .lam 3, .lam 4]), some (.lam j)], rfl, by
    simp only [List.mem_cons, List.not_mem_nil, or_false] at hj
    rcases hj with rfl | rfl | rfl | rfl | rfl
    · simp [toldF, bmL, wipeF, isC_s S, a0, hq]
    · simp [toldF, bmL, wipeF, isC_s S, a1, hq]
    · simp [toldF, bmL, wipeF, isC_s S, a2, hq]
    · simp [toldF, bmL, wipeF, isC_s S, a3, hq]
    · simp [toldF, bmL, wipeF, isC_s S, a4, hq], fun z => by cases z⟩]
  have fl : ((([0, 1, 2, 3, 4] : List Nat).filter fun _ => false).map fun _ => D.int 1) = [] := rfl
  simp only [fl, v_lcEndF, v_lstE, v_nilA, List.length_nil, Nat.zero_le, if_true, nl, v_orQ, v_op2, v_told, v_oe, v_meth, v_vr, List.getElem?_cons_succ, List.getElem?_cons_zero, v_getS, isC_s S, v_consA, v_ret, List.length_cons]
  simp [a5, hq, k4, nt, isC_s S]
theorem ph_end (W : Wf μ) (S : St1 μ s h hA la) (o1 o2 o3 o4 o5 o6 o7 o8 o9 o10 o11 o12 o13 o14 o15 o16 o17 o18 o19 o20 o21 : Option D) : ∃ ρ' μ', seqS q_law_162 (seqS q_law_163 nxS) [some x, o1, some (.obj s), o3, o4, o5, o6, o7, o8, o9, o10, o11, some (.tup (tn.map .str)), o13, o14, o15, o16, o17, o18, o19, some (.lst [.lam 0, .lam 1, .lam 2, .lam 3, .lam 4]), o21] lk00 μ = some (.ret (.bl true), ρ', μ') := by
  obtain ⟨μ1, e1, S1, W1, K1⟩ := p_arrive W S (T := .tup (tn.map .str)) (ns := tn) (p := [98]) (t := 50) (m := 10) (.inr rfl) (by decide) b_ok (by decide) (fun n hn => hn) (by decide)
  rw [up_B] at S1
  have q162 : q_law_162 [some x, o1, some (.obj s), o3, o4, o5, o6, o7, o8, o9, o10, o11, some (.tup (tn.map .str)), o13, o14, o15, o16, o17, o18, o19, some (.lst [.lam 0, .lam 1, .lam 2, .lam 3, .lam 4]), o21] lk00 μ = some (.nx, [some x, o1, some (.obj s), o3, o4, o5, o6, o7, o8, o9, o10, o11, some (.tup (tn.map .str)), o13, o14, o15, o16, o17, o18, o19, some (.lst [.lam 0, .lam 1, .lam 2, .lam 3, .lam 4]), o21], μ1) := by
    unfold q_law_162
    simp [isC_s S, e1]
  have e2 := p_arrive_bad S1 (T := .tup (tn.map .str)) (ns := tn) (p := [98]) (t := 50) (m := 10) (.inr rfl) (by decide) (.inr (by decide))
  have e3 := p_earliest W1 S1 (p := [98]) (t := 0) (lk := lk00) b_ok rfl
  rw [ea_B] at e3
  have e4 : f_Stables_tiredest [.obj s] lk00 μ1 = some (.ok (.str [104, 48]), μ1) := by
    rcases p_tiredest (lk := lk00) S1 with ⟨z, _⟩ | ⟨r, hr, hm, e⟩
    · cases z
    · have : r.nm = [104, 48] := by
        have first : (⟨[104, 48], [97], some [98], 410, 10⟩ : Ho) ∈ hB := List.mem_cons_self
        have hm := hm _ first
        simp only [hB, List.mem_cons, List.not_mem_nil, or_false] at hr
        rcases hr with rfl | rfl | rfl | rfl
        · rfl
        · exact absurd (by decide) hm
        · exact absurd (by decide) hm
        · exact absurd (by decide) hm
      rw [this] at e
      exact e
  obtain ⟨μ2, e5, W2, n2, k2, S2⟩ := mk_stables (ρ := [some x, o1, some (.obj s), o3, o4, o5, o6, o7, o8, o9, o10, o11, some (.tup (tn.map .str)), o13, o14, o15, o16, o17, o18, o19, some (.lst [.lam 0, .lam 1, .lam 2, .lam 3, .lam 4]), o21]) W1
  have e6 : f_Stables_tiredest [.obj μ1.nx] lk00 μ2 = some (.ok .non, μ2) := by
    rcases p_tiredest (lk := lk00) (S2 fun _ => 0) with ⟨_, e⟩ | ⟨r, hr, _, _⟩
    · exact e
    · cases hr
  have c1 : eqD μ1 (.str HE) (.str HE) = some (.bl true) := by have := eqD_ss (μ := μ1) okHE okHE; simpa using this
  have c2 : eqD μ1 (.int 410) (.int 410) = some (.bl true) := by rw [eqD_ii]; rfl
  have c3 : eqD μ1 (.tup [.int 360, .int 4]) (.tup [.int 360, .int 4]) = some (.bl true) := rfl
  have c4 : eqD μ1 (.str [104, 48]) (.str [104, 48]) = some (.bl true) := by
    have := eqD_ss (μ := μ1) (x := [104, 48]) (y := [104, 48]) ⟨by decide, by decide⟩ ⟨by decide, by decide⟩
    simpa using this
  have c5 : isN μ2 .non .non = some (.bl true) := rfl
  have tr : ∀ μ : Sto, truD μ (.bl true) = some true := fun _ => rfl
  have q163 : q_law_163 [some x, o1, some (.obj s), o3, o4, o5, o6, o7, o8, o9, o10, o11, some (.tup (tn.map .str)), o13, o14, o15, o16, o17, o18, o19, some (.lst [.lam 0, .lam 1, .lam 2, .lam 3, .lam 4]), o21] lk00 μ1 = some (.ret (.bl true), [some x, o1, some (.obj s), o3, o4, o5, o6, o7, o8, o9, o10, o11, some (.tup (tn.map .str)), o13, o14, o15, o16, o17, o18, o19, some (.lst [.lam 0, .lam 1, .lam 2, .lam 3, .lam 4]), o21], μ2) := by
    unfold q_law_163
    rw [v_retS, v_andE, v_op2, v_told]
    simp only [v_oe, v_meth, v_vr, List.getElem?_cons_succ, List.getElem?_cons_zero, v_getS, isC_s S1, if_true, v_consA, v_nilA, v_ret, List.length_cons, List.length_nil, Nat.zero_add, e2, decide_true, c1, tr, v_andE, v_op2, e3, c2, v_tupE, c3, e4, c4, e5, isC_s (S2 fun _ => 0), e6, c5]
    simp [-v_make, c3, tr, e4, c4, e5, isC_s S1, isC_s (S2 fun _ => 0), e6, c5]
  refine ⟨[some x, o1, some (.obj s), o3, o4, o5, o6, o7, o8, o9, o10, o11, some (.tup (tn.map .str)), o13, o14, o15, o16, o17, o18, o19, some (.lst [.lam 0, .lam 1, .lam 2, .lam 3, .lam 4]), o21], μ2, ?_⟩
  rw [v_seq, q162]
  simp only [v_seq, q163]
end
theorem plain_law (ns : List Int) : ∃ μ', f_law [.kl (ns.map .int)] lk00 ⟨0, fun _ => none⟩ = some (.ok (.bl true), μ') := by
  obtain ⟨ρ1, μ1, e1, ⟨o1, o2, o3, o4, o5, o6, o7, o8, o9, o10, o11, o12, o13, o14, o15, o16, o17, o18, o19, o20, o21, rfl⟩, W1⟩ := ph_107 ns
  generalize hx : D.kl (ns.map .int) = x at e1
  obtain ⟨μ2, e2, W2, _, _, S2⟩ := mk_stables (ρ := [some x, o1, o2, o3, o4, o5, o6, o7, o8, o9, o10, o11, o12, o13, o14, o15, o16, o17, o18, o19, o20, o21]) W1
  obtain ⟨o6', μ3, la, e3, S3, W3⟩ := ph_150 (x := x) W2 S2 o1 o2 o3 o4 o5 o6 o7 o8 o9 o10 o11 o12 o13 o14 o15 o16 o17 o18 o19 o20 o21
  obtain ⟨μ4, e4, S4, W4, K4⟩ := p_take W3 S3 (p := [97]) (t := 0) a_ok (by rw [te_hz]; decide)
  rw [te_hz] at e4 S4
  rw [up_A] at S4
  have q149 : q_law_149 [some x, o1, o2, o3, o4, o5, o6, o7, o8, o9, o10, o11, o12, o13, o14, o15, o16, o17, o18, o19, o20, o21] lk00 μ1 = some (.nx, [some x, o1, some (.obj μ1.nx), o3, o4, o5, o6, o7, o8, o9, o10, o11, o12, o13, o14, o15, o16, o17, o18, o19, o20, o21], μ2) := by
    unfold q_law_149
    rw [v_asg, e2]
    rfl
  have q152 : q_law_152 [some x, o1, some (.obj μ1.nx), o3, o4, o5, o6', o7, o8, o9, o10, o11, o12, o13, o14, o15, o16, o17, o18, o19, o20, o21] lk00 μ3 = some (.nx, [some x, o1, some (.obj μ1.nx), o3, o4, o5, o6', o7, o8, o9, o10, o11, some (.tup (tn.map .str)), o13, o14, o15, o16, o17, o18, o19, o20, o21], μ4) := by
    unfold q_law_152
    simp [isC_s S3, e4]
  have q153 : q_law_153 [some x, o1, some (.obj μ1.nx), o3, o4, o5, o6', o7, o8, o9, o10, o11, some (.tup (tn.map .str)), o13, o14, o15, o16, o17, o18, o19, o20, o21] lk00 μ4 = some (.nx, [some x, o1, some (.obj μ1.nx), o3, o4, o5, o6', o7, o8, o9, o10, o11, some (.tup (tn.map .str)), o13, o14, o15, o16, o17, o18, o19, some (.lst [.lam 0, .lam 1, .lam 2, .lam 3, .lam 4]), o21], μ4) := by
    unfold q_law_153
    simp
  have q159 := ph_159 (x := x) W4 S4 o1 o2 o3 o4 o5 o6' o7 o8 o9 o10 o11 o12 o13 o14 o15 o16 o17 o18 o19 o20 o21
  obtain ⟨ρ5, μ5, e5⟩ := ph_end (x := x) W4 S4 o1 o2 o3 o4 o5 o6' o7 o8 o9 o10 o11 o12 o13 o14 o15 o16 o17 o18 o19 o20 o21
  refine ⟨μ5, ?_⟩
  unfold f_law
  rw [x_law]
  unfold mfOf k_law_107
  rw [v_seq, e1]
  simp only [v_seq, q149, e3, q152, q153, q159]
  have e5' := e5
  rw [v_seq] at e5'
  simp only [v_seq] at e5'
  rw [e5']
  rfl
end K02

end
section
theorem PySem.Challenge.cw_coachstack_k02_horses_that_go_in_turn_holds : PySem.Challenge.rw_coachstack_k02_horses_that_go_in_turn.Holds :=
  k02_of fun ns _ _ => K02.plain_law ns

end
