import PyProof.Rows.All
import Wide.All
import OpenK.AllK
import Wide.FinOn
import HandS.ForMost
import HandS.AnyAll
import HandS.GenOver
import PyProof.GenQ
import PyProof.SumAny
import HandS.Zip
import KE.GoesEnum
import KE.GoesMore
import HandS.IsInst
import HandS.Deep
import HandS.TupAny
import HandS.Gcd
import KE.DataMinMax
import KE.SortData
import HandS.Small
import HandS.Style
import HandS.Exc
import HandS.Words
import HandS.Star
import HandS.EndTab
import PySem.Challenge.RW_tollroads_k46_whole_buildings
set_option Elab.async false
set_option linter.all false
set_option maxRecDepth 100000
set_option maxHeartbeats 2000000
/-! a generator expression over anything that PI serves: its frame's context, its loop -/
namespace Gx
open PySem PySem.Spec PyProof.Rows L2 GenW
open Sem (wp)

structure GnOk (N : List Str) (sc scope : Scope) (own : List (Str × Nat)) : Prop where
  kind : scope.kind = .function
  co : scope.isCoroutine = false
  nocell : ∀ y ∈ scope.names, y.2 ≠ .cell
  dot : scope.names.lookup (".0" : Str) = some NameKind.local
  uniq : ∀ y ∈ scope.names, scope.names.lookup y.1 = some y.2
  ix : ∀ p ∈ own, N[p.2]? = some p.1
  free : ∀ y ∈ scope.names, y.2 = .free → sc.names.lookup y.1 = some .cell ∨ sc.names.lookup y.1 = some .free
  own : ∀ y ∈ scope.names, y.2 = .local → y.1 ∈ own.map (·.1) ∨ y.1 ∉ N

def gnC (N : List Str) (sc scope : Scope) (own : List (Str × Nat)) : Bool :=
  scope.kind == .function && (!scope.isCoroutine) && scope.names.all (fun y => y.2 != .cell) && (scope.names.lookup (".0" : Str) == some NameKind.local) &&
  scope.names.all (fun y => scope.names.lookup y.1 == some y.2) && own.all (fun p => N[p.2]? == some p.1) &&
  scope.names.all (fun y => y.2 != .free || sc.names.lookup y.1 == some .cell || sc.names.lookup y.1 == some .free) &&
  scope.names.all (fun y => y.2 != .local || decide (y.1 ∈ own.map (·.1)) || decide (y.1 ∉ N))
theorem gnOk_by {N : List Str} {sc scope : Scope} {own : List (Str × Nat)} (h : gnC N sc scope own = true) : GnOk N sc scope own := by
  unfold gnC at h
  simp only [Bool.and_eq_true, List.all_eq_true, beq_iff_eq, bne_iff_ne, Bool.or_eq_true, decide_eq_true_eq, Bool.not_eq_true', ne_eq] at h
  obtain ⟨⟨⟨⟨⟨⟨⟨h1, h2⟩, h3⟩, h4⟩, h5⟩, h6⟩, h7⟩, h8⟩ := h
  refine ⟨h1, h2, h3, h4, h5, h6, fun y hy e => ?_, fun y hy e => ?_⟩
  · rcases h7 y hy with (z | z) | z
    · exact absurd e z
    · exact .inl z
    · exact .inr z
  · rcases h8 y hy with (z | z) | z
    · exact absurd e z
    · exact .inl z
    · exact .inr z

/-- the context of a generator expression's frame -/
abbrev genCx (X : Cx) (s : Shared) (H : Hp) (cenv : Env) (fp : List Addr) (pn : List (Addr × Obj)) : Cx :=
  { X with A := X.A.in1.in1.deeper cenv, s_0 := s, H_0 := H, env := cenv, outer := X.stack, stack := cenv :: X.stack, ex := fp, fn := fun _ => false, calm := true, pn := pn, xe := fun _ _ => False }

section
variable {X : Cx} {pins : List (Addr × Obj)} {σ : L2.St} {H : Hp} {s : Shared}
theorem Inv_gens {G : Array GenState} (I : Inv X pins σ H s) (hG : AllBare G) : Inv X pins σ H { s with gens := G } :=
  ⟨I.ok, I.os, hG, I.base, I.loc, I.cell, I.free, I.freeC, I.pin, I.hok, I.len⟩
theorem gen_start {scope : Scope} {own : List (Str × Nat)} {fp : List Addr} {code : Value} {it : Value} {h' : Heap} {gobj : Obj} {G : Array GenState} {tk : Nat} (I : Inv X pins σ H s) (hc : X.calm = true) (ok : GnOk X.N X.env.scope scope own) (hN : X.N.Nodup)
    (hfp : ∀ b ∈ fp, FpOk X pins H b ∧ b < s.heap.objs.size) (hn : h'.Ns s.heap.objs.size (fun y => if y = (".0" : Str) then some it else none)) (hs : Heap.SameBut s.heap.objs.size (s.heap.push { cls := .type "frame", data := .dict #[] }) h') (hG : AllBare G) (hgo : ∀ v, gobj.data ≠ .cell v)
    (hfree2 : gobj.isFreed = false := by rfl) :
    Inv (genCx X s H (genEnv scope (cloFrom X.env.cells scope.names []) s.heap.objs.size code builtinsNs X.env) fp [(h'.objs.size, gobj)]) [] (wipe σ (own.map (·.2))) H { s with gens := G, toks := tk, heap := h'.push gobj } := by
  have hfree : ∀ y ∈ scope.names, y.2 = .free → ∃ c, X.env.cells.lookup y.1 = some c := fun y hy e => by
    rcases ok.free y hy e with k | k
    · exact I.ok.has _ (.inl k)
    · exact I.ok.has _ (.inr k)
  generalize hcenv : genEnv scope (cloFrom X.env.cells scope.names []) s.heap.objs.size code builtinsNs X.env = cenv
  have hsz : h'.objs.size = s.heap.objs.size + 1 := by rw [hs.1, Heap.size_push]
  have kp0 : ∀ b o, s.heap.get? b = some o → h'.get? b = some o := fun b o e => hs.extBut b o (Nat.ne_of_lt (Heap.lt_size e)) (Heap.get?_push_of_some _ e)
  have kp : ∀ b o, s.heap.get? b = some o → (h'.push gobj).get? b = some o := fun b o e => Heap.get?_push_of_some _ (kp0 b o e)
  have hL : cenv.locals = s.heap.objs.size := by rw [← hcenv]; rfl
  have hcl : cenv.cells = cloFrom X.env.cells scope.names [] := by rw [← hcenv]; rfl
  have hsc : cenv.scope = scope := by rw [← hcenv]; rfl
  have cm : ∀ {y c}, (y, c) ∈ cloFrom X.env.cells scope.names [] → X.env.cells.lookup y = some c ∧ c < s.heap.objs.size := fun {y c} hm => by
    rcases cloFrom_mem hm with hm | ⟨h1, rfl⟩
    · cases hm
    · obtain ⟨c, hc⟩ := hfree _ h1 rfl
      rw [hc]
      obtain ⟨w, z⟩ := I.cell _ _ hc
      exact ⟨rfl, z.lt⟩
  have mem : ∀ {y c}, cenv.cells.lookup y = some c → X.env.cells.lookup y = some c ∧ c < s.heap.objs.size := fun {y c} e => by
    rw [hcl] at e
    exact cm (PySem.mem_of_lookup e)
  have look : ∀ {y}, scope.names.lookup y = some .free → ∃ c, cenv.cells.lookup y = some c ∧ X.env.cells.lookup y = some c := fun {y} hl => by
    have hy : (y, NameKind.free) ∈ scope.names := PySem.mem_of_lookup hl
    obtain ⟨c', e'⟩ := mem_lookup (cloFrom_has (cells := X.env.cells) (acc := []) hy)
    rw [← hcl] at e'
    exact ⟨c', e', (mem e').1⟩
  have okB : (genCx X s H cenv fp [(h'.objs.size, gobj)]).Ok := by
    refine ⟨I.ok.mod, by show cenv.scope.kind = _; rw [hsc]; exact ok.kind, by show cenv.globals = _; rw [← hcenv]; exact I.ok.glob, by show cenv.builtins = _; rw [← hcenv]; rfl, by show s.heap.objs.size ≤ cenv.locals; rw [hL]; exact Nat.le_refl _,
      fun y z c e1 e2 => I.ok.inj y z c (mem e1).1 (mem e2).1, fun y hy => ?_, (fun y c z e => by cases z), fun _ => ?_, ?_, .inr ⟨rfl, ?_⟩, fun b hb => ⟨?_, fun y c e z => ?_⟩, I.bs, Nat.le_trans I.ok.bsz I.sz, fun b o e hb => ?_, fun b hb z => ?_, I.stack, I.stkFree⟩
    · show ∃ c, cenv.cells.lookup y = some c
      have hy : cenv.kindOf y = some .cell ∨ cenv.kindOf y = some .free := hy
      unfold Env.kindOf at hy
      rw [hsc] at hy
      rcases hy with hy | hy
      · exact absurd rfl (ok.nocell _ (PySem.mem_of_lookup hy))
      · obtain ⟨c, h1, _⟩ := look hy
        exact ⟨c, h1⟩
    · exact I.ok.hd hc
    · exact Around.frames_deeper (A := X.A.in1.in1) I.ok.frames
    · show cenv.frame = some cenv.locals
      rw [← hcenv]; rfl
    · show b ≠ cenv.locals
      rw [hL]; exact Nat.ne_of_lt (hfp b hb).2
    · exact (hfp b hb).1.2.2.2.2.1 y c (mem e).1 z
    · rcases (hfp b hb).1.2.2.2.1 with z | z
      · exact I.ok.noex b o e z
      · exact absurd (Nat.lt_of_lt_of_le (Heap.lt_size e) (Nat.le_trans I.ok.bsz z)) (Nat.lt_irrefl _)
    · rcases List.mem_cons.mp (I.stkSub b z) with z | z
      · exact (hfp b hb).1.2.1 z
      · exact (hfp b hb).1.2.2.1 z
  refine ⟨okB, rfl, hG, Un.kept kp, ⟨fun y => if y = (".0" : Str) then some it else none, ?_, fun i y av e1 e2 e3 => ?_⟩, fun y c e => ?_, ?_, fun y c e => ?_, fun p hp => ?_, I.hok.kept kp, by rw [wipe_length]; exact I.len⟩
  · show Heap.Ns _ cenv.locals _
    rw [hL]
    exact hn.push _
  · obtain ⟨e2, hne⟩ := wipe_some e2
    have e3 : Vis cenv.scope y := e3
    rw [hsc] at e3
    have hfr : scope.names.lookup y = some .free := by
      rcases e3 with e3 | e3 | e3
      · exfalso
        rcases ok.own _ (PySem.mem_of_lookup e3) rfl with e' | e'
        · obtain ⟨p, hp, hpy⟩ := List.mem_map.mp e'
          have e4 := ok.ix p hp
          have hpy' : p.1 = y := hpy
          rw [hpy'] at e4
          exact hne (List.mem_map.mpr ⟨p, hp, nodup_ix hN e4 e1⟩)
        · exact e' (List.mem_of_getElem? e1)
      · exact absurd rfl (ok.nocell _ (PySem.mem_of_lookup e3))
      · exact e3
    obtain ⟨m, hn, hl⟩ := I.loc
    have hvis : Vis X.env.scope y := (ok.free _ (PySem.mem_of_lookup hfr) rfl).elim (fun k => .inr (.inl k)) (fun k => .inr (.inr k))
    obtain ⟨w, r, q⟩ := hl i y av e1 e2 hvis
    obtain ⟨c, h1, h2⟩ := look hfr
    refine ⟨w, r, .inr ⟨.inr ?_, c, h1, ?_⟩⟩
    · show cenv.scope.names.lookup y = _
      rw [hsc]; exact hfr
    · rcases q with ⟨k, _⟩ | ⟨_, c', e', z⟩
      · have k : X.env.scope.names.lookup y = some .local := k
        rcases ok.free _ (PySem.mem_of_lookup hfr) rfl with k' | k' <;> rw [show X.env.scope.names.lookup y = _ from k'] at k <;> cases k
      · rw [h2] at e'; cases e'
        exact z.keeps kp
  · have e : cenv.cells.lookup y = some c := e
    obtain ⟨w, z⟩ := I.cell y c (mem e).1
    exact ⟨w, z.keeps kp⟩
  · show H cenv.locals = none
    rw [hL]; exact I.hok.fresh (Nat.le_refl _)
  · have e : cenv.cells.lookup y = some c := e
    exact I.freeC y c (mem e).1
  · have hp' : p = (h'.objs.size, gobj) := by simpa using hp
    subst hp'
    refine ⟨Heap.get?_push_size _ hfree2, I.hok.fresh (by rw [hsz]; exact Nat.le_succ _), ?_, ?_, hgo⟩
    · show h'.objs.size ≠ cenv.locals
      rw [hL, hsz]; exact Nat.succ_ne_self _
    · intro z
      have hb : h'.objs.size ∈ frs X.stack := z
      rcases List.mem_cons.mp (I.stkSub _ hb) with z | z
      · have h9 : (h'.objs.size : Nat) < s.heap.objs.size := by rw [z]; exact I.lt
        omega
      · exact I.nofs (by rw [hsz]; exact Nat.le_succ _) z
end
end Gx
set_option Elab.async false
set_option linter.all false
set_option maxRecDepth 100000
set_option maxHeartbeats 4000000
namespace Gx
open PySem PySem.Spec PyProof.Rows L2 GenW
open Sem (wp)

/-- what a walk in a generator's frame is: its frame X, its iterator, its invariant W by (accumulator, turn, measure, heap), what its consumer wants (Cns), its end (Qs) -/
structure GPar (α : Type) where
  X : Cx
  it : Addr
  fp : List Addr
  tn : Nat → Heap → Prop
  J : It
  g : TG
  tt : TT
  te : TE
  AccAt : Shared → α → Prop
  Sx : List Addr
  vs : List Nat
  σw : L2.St
  W : α → Nat → Nat → Hp → Prop
  Cns : α → V → Hp → (α → Hp → Prop) → Prop
  Qs : α → Hp → Prop

variable {α : Type}
def GPar.At (G : GPar α) (i : Nat) (H : Hp) (s : Shared) (ps : List (Addr × Obj)) : Prop :=
  Inv G.X ps G.σw H s ∧ G.tn i s.heap ∧ ∀ b ∈ G.fp, H b = none
def GPar.Y (G : GPar α) : Protocol := fun n s₀ v s kap => ∀ acc, G.AccAt s₀ acc → ∃ (y : V) (i : Nat) (H : Hp) (N : α → Hp → Prop), RelV y v ∧ G.At (i + 1) H s (pinsAt G.Sx s₀.heap) ∧ G.Cns acc y H N ∧
  ∀ s'' acc'', G.At (i + 1) H s'' (pinsAt G.Sx s''.heap) → G.AccAt s'' acc'' → N acc'' H → kap (.send .none) s''
def GPar.R (G : GPar α) : GenEnd := fun n s₀ r s => r = .ok .next ∧ ∀ acc, G.AccAt s₀ acc → ∃ H, Inv G.X (pinsAt G.Sx s₀.heap) G.σw H s ∧ G.Qs acc H
structure GPar.Ok (G : GPar α) (elt tg : Expr) (ifs : List Expr) : Prop where
  calm : G.X.calm = true
  T : Turn G.X.prog G.X.w G.X.K tg G.J G.fp G.it G.tn
  st : ∀ b ∈ G.fp, b ≠ G.X.env.locals ∧ b ∉ G.X.fs ∧ (b ∈ G.X.ex ∨ G.X.s_0.heap.objs.size ≤ b) ∧ (∀ x c, G.X.env.cells.lookup x = some c → c ≠ b) ∧ (∀ p ∈ G.X.pn, p.1 ≠ b) ∧ b ∉ G.Sx
  pg : PG G.X tg G.g
  pt : PTs G.X ifs G.tt
  pe : PE G.X elt G.te
  fn : ∀ s a b, G.AccAt s a → G.AccAt s b → a = b
  co : G.X.env.scope.isCoroutine = false
  turn : ∀ acc i m H, G.W acc i m H → (G.J.stop i H ∧ G.Qs acc H) ∨ (G.J.go i H ∧ ∃ N : α → Hp → Prop, (∀ acc' H', N acc' H' → ∃ m', m' < m ∧ G.W acc' (i + 1) m' H') ∧
    ∀ x H', G.J.yld i H x H' → G.g x G.σw H' fun σ2 H2 => wipe σ2 G.vs = G.σw ∧ G.tt σ2 H2 fun b H3 => if b = true then G.te σ2 H3 fun y H4 => G.Cns acc y H4 N else N acc H3)

theorem pinsAt_mem {Sx : List Addr} {h : Heap} {p : Addr × Obj} (hp : p ∈ pinsAt Sx h) : p.1 ∈ Sx := (of_pinsAt hp).1
theorem GPar.Ok.stat {G : GPar α} {elt tg : Expr} {ifs : List Expr} (K : G.Ok elt tg ifs) {H : Hp} {h : Heap} (hn : ∀ b ∈ G.fp, H b = none) : ∀ b ∈ G.fp, FpOk G.X (pinsAt G.Sx h) H b := fun b hb => by
  obtain ⟨a1, a2, a3, a4, a5, a6⟩ := K.st b hb
  refine ⟨hn b hb, a1, a2, a3, a4, fun p hp => ?_⟩
  rcases List.mem_append.mp hp with hp | hp
  · exact a5 p hp
  · exact fun z => a6 (z ▸ pinsAt_mem hp)

theorem seg_bw {M : Model} {A A' : Around} {R : GenEnd} {Y : Protocol} {n : Nat} {s₀ : Shared} {c : Code} {fs : List Frame} {s : Shared} {β γ : Type} {m : Sem β} {K : β → Sem γ} {K' : γ → Sem PySem.Fin} {H' : Value → Sem PySem.Fin} {gd lv} (hA : A.over c fs = A')
    (h : wpAny M A' m (fun a s' => Seg M A R Y n s₀ c ((K a).wrap K' H' gd lv) fs s') (fun _ _ => False) s) : Seg M A R Y n s₀ c ((m >>= K).wrap K' H' gd lv) fs s := by
  subst hA
  exact seg_bind_wrap (wpAny_mono h (fun _ _ x => x) fun _ _ z => z.elim)
theorem seg_wr {M : Model} {A A' : Around} {R : GenEnd} {Y : Protocol} {n : Nat} {s₀ : Shared} {c : Code} {fs : List Frame} {s : Shared} {β : Type} {m : Sem β} {K : β → Sem PySem.Fin} {H : Value → Sem PySem.Fin} {gd lv} (hA : A.over c fs = A')
    (h : wpAny M A' m (fun a s' => Seg M A R Y n s₀ c (K a) fs s') (fun _ _ => False) s) : Seg M A R Y n s₀ c (m.wrap K H gd lv) fs s := by
  subst hA
  exact seg_wrap (wpAny_mono h (fun _ _ x => x) fun _ _ z => z.elim)

theorem gen_loop (G : GPar α) {elt tg iter : Expr} {ifs : List Expr} {scope : Scope} {pos : Pos} {A : Around} (K : G.Ok elt tg ifs) (hxe : G.X.xe = fun _ _ => False)
    (hA : A.over (.compLoop (.GeneratorExp elt [⟨tg, iter, ifs, 0⟩] scope pos) 0 (.ref G.it) .none G.X.env) [] = G.X.A) :
    ∀ (m n i : Nat) (acc : α) (H : Hp) (s₀ s : Shared), m < n → G.W acc i m H → G.AccAt s₀ acc → G.At i H s (pinsAt G.Sx s₀.heap) →
      Seg (model G.X.prog G.X.w) A G.R G.Y n s₀ (.compLoop (.GeneratorExp elt [⟨tg, iter, ifs, 0⟩] scope pos) 0 (.ref G.it) .none G.X.env)
        ((model G.X.prog G.X.w).den (.compLoop (.GeneratorExp elt [⟨tg, iter, ifs, 0⟩] scope pos) 0 (.ref G.it) .none G.X.env)) [] s := by
  intro m
  induction m using Nat.strongRecOn with
  | ind m ih =>
  intro n i acc H s₀ s hmn hw hacc hat
  obtain ⟨I, hst, hfr⟩ := hat
  obtain ⟨n', rfl⟩ : ∃ n', n = n' + 1 := ⟨n - 1, by omega⟩
  show Seg _ A _ _ _ s₀ _ ((compTurn (.GeneratorExp elt [⟨tg, iter, ifs, 0⟩] scope pos) 0 (.ref G.it) .none G.X.env).onRaise (leaving G.X.env)) [] s
  rw [compTurn_gen, Sem.onRaise_eq_wrap]
  refine seg_bind_wrap (wpAny_standAt ?_)
  rcases K.turn acc i m H hw with ⟨stop, qs⟩ | ⟨go, N, hN, step⟩
  · refine seg_bw hA (thnF (K.T.done G.X rfl rfl rfl K.calm i _ s G.σw H (fun _ _ => False) I (K.stat hfr) hst stop) fun r s1 ⟨hr, I1⟩ => ?_)
    subst hr
    exact seg_end (.ok .next) ⟨rfl, fun acc' h' => ⟨H, I1, by rw [K.fn _ _ _ h' hacc]; exact qs⟩⟩
  · refine seg_bw hA (thnF (K.T.item G.X rfl rfl rfl K.calm i _ s G.σw H (fun _ _ => False) I (K.stat hfr) hst go) fun r s1 ⟨u, hr, h1⟩ => ?_)
    subst hr
    refine seg_bw hA (thnF h1 fun _ s2 ⟨x, H2, I2, r2, y2, st2, n2⟩ => ?_)
    have I2' := I2.pinned (K.stat n2) (K.T.obj _ _ st2)
    have pg := K.pg.run _ s2 _ H2 x u _ I2' r2 (step x H2 y2)
    rw [hxe] at pg
    refine seg_bw hA (thnF pg fun _ s3 ⟨σ3, H3, I3, hw3, q3⟩ => ?_)
    have pt := K.pt.run _ s3 σ3 H3 _ I3 q3
    rw [hxe] at pt
    refine seg_bw hA (thnF pt fun b s4 ⟨H4, I4, q4⟩ => ?_)
    -- from any later state: asleep at turn i + 1
    have fin : ∀ {σ' : L2.St} {H' : Hp} {s' : Shared}, σ' = σ3 → Inv G.X (pinsAt G.Sx s₀.heap ++ pinsAt G.fp s2.heap) σ' H' s' → G.At (i + 1) H' s' (pinsAt G.Sx s₀.heap) := fun {σ' H' s'} e I' => by
      subst e
      have pin' : ∀ b ∈ G.fp, ∀ o, s2.heap.get? b = some o → s'.heap.get? b = some o ∧ H' b = none := fun b hb o e =>
        let z := I'.pin (b, o) (List.mem_append_right _ (List.mem_append_right _ (mem_pinsAt hb e)))
        ⟨z.1, z.2.1⟩
      refine ⟨I'.unpinned.weak (by rw [← hw3, wipe_length]) fun j v e => ?_, K.T.keep _ _ _ st2 fun b hb o e => (pin' b hb o e).1, fun b hb => ?_⟩
      · rw [← hw3] at e
        exact (wipe_some e).1
      · obtain ⟨o, e, _⟩ := K.T.obj _ _ st2 b hb
        exact (pin' b hb o e).2
    cases b with
    | false =>
      simp only [Bool.false_eq_true, if_false] at q4 ⊢
      obtain ⟨m', hm, w'⟩ := hN _ _ q4
      exact seg_again rfl (ih m' hm (n' + 1) (i + 1) acc H4 s₀ s4 (by omega) w' hacc (fin rfl I4))
    | true =>
      simp only [if_true] at q4 ⊢
      have hy : ∀ v, yieldOut G.X.env v = yieldValue v := fun v => by simp only [yieldOut, K.co, Bool.false_eq_true, if_false]
      simp only [hy]
      rw [Sem.bind_eq_wrap', Sem.bind_eq_wrap', Sem.wrap_wrap, Sem.wrap_wrap]
      have pe := K.pe.run _ s4 σ3 H4 _ I4 q4
      rw [hxe] at pe
      refine seg_wr hA (thnF pe fun v s5 ⟨y, H5, I5, r5, q5⟩ => ?_)
      refine seg_at (seg_yield rfl rfl rfl fun acc' h' => ?_)
      have ea := K.fn _ _ _ h' hacc
      subst ea
      refine ⟨y, i, H5, N, r5, fin rfl I5, q5, fun s'' acc'' hat'' hacc'' hn => ?_⟩
      obtain ⟨m', hm, w'⟩ := hN _ _ hn
      exact seg_again rfl (ih m' hm n' (i + 1) acc'' H5 s'' s'' (by omega) w' hacc'' hat'')

theorem gen_first (G : GPar α) {elt tg iter : Expr} {ifs : List Expr} {scope : Scope} {pos : Pos} {A : Around} (K : G.Ok elt tg ifs) (hxe : G.X.xe = fun _ _ => False)
    (hA : A.over (.compLoop (.GeneratorExp elt [⟨tg, iter, ifs, 0⟩] scope pos) 0 (.ref G.it) .none G.X.env) [] = G.X.A)
    {m n : Nat} {acc : α} {H : Hp} {s : Shared} (hmn : m < n) (hw : G.W acc 0 m H) (hacc : G.AccAt s acc) (hat : G.At 0 H s (pinsAt G.Sx s.heap)) :
      Seg (model G.X.prog G.X.w) A G.R G.Y n s (.compStart (.GeneratorExp elt [⟨tg, iter, ifs, 0⟩] scope pos) 0 (.ref G.it) .none G.X.env)
        ((model G.X.prog G.X.w).den (.compStart (.GeneratorExp elt [⟨tg, iter, ifs, 0⟩] scope pos) 0 (.ref G.it) .none G.X.env)) [] s := by
  have loop := gen_loop G (iter := iter) (scope := scope) (pos := pos) K hxe hA m n 0 acc H s s hmn hw hacc hat
  show Seg _ A _ _ _ s _ ((compStart (.GeneratorExp elt [⟨tg, iter, ifs, 0⟩] scope pos) 0 (.ref G.it) .none G.X.env).onRaise (leaving G.X.env)) [] s
  unfold compStart
  rw [Sem.onRaise_eq_wrap]
  show Seg _ A _ _ _ s _ ((ask >>= _).wrap _ _ _ _) [] s
  refine seg_bind_wrap (wpAny_askSetting ?_)
  split
  · exact seg_again rfl loop
  · first
      | exact seg_bind_wrap (wpAny_rule (seg_bind_wrap (wpAny_standAt (seg_bind_wrap (K.T.self _ 0 s _ _ hat.2.1 (seg_again rfl loop))))))
      | (refine seg_bind_wrap (wpAny_rule ?_); show Seg _ A _ _ _ s _ ((standAt iter.pos >>= _).wrap _ _ _ _) [] s; exact seg_bind_wrap (wpAny_standAt (seg_bind_wrap (K.T.self _ 0 s _ _ hat.2.1 (seg_again rfl loop)))))
end Gx
set_option Elab.async false
set_option linter.all false
set_option maxRecDepth 100000
set_option maxHeartbeats 4000000
namespace Gx
open PySem PySem.Spec PyProof.Rows L2 GenW
open Sem (wp)
variable {α : Type}

theorem bare_set {G : Array GenState} {g : Nat} {x : GenState} (h : AllBare G) (hx : x.bare = true) : AllBare (G.setIfInBounds g x) := fun y hy => by
  rcases Array.mem_or_eq_of_mem_setIfInBounds hy with z | z
  · exact h y z
  · rw [z]; exact hx
theorem set_get {G : Array GenState} {g : Nat} {x : GenState} (h : g < G.size) : (G.setIfInBounds g x)[g]? = some x := by simp [h]

/-- asleep at turn i, heap H: woken where N holds it goes on, n items at most -/
def GPar.Slp (G : GPar α) (A : Around) (g n i : Nat) (H : Hp) (N : α → Hp → Prop) (s : Shared) : Prop :=
  ∃ gs, s.gens[g]? = some gs ∧ ∀ s'' acc'', G.At i H s'' (pinsAt G.Sx s''.heap) → G.AccAt s'' acc'' → N acc'' H → gs.Goes (model G.X.prog G.X.w) A.in1 G.R G.Y n (.send .none) s''
def GPar.Nxt (G : GPar α) (A : Around) (g n i : Nat) (H : Hp) (N : α → Hp → Prop) (s : Shared) : Prop :=
  match n with
  | 0 => ∀ s'' acc'', G.At i H s'' (pinsAt G.Sx s''.heap) → G.AccAt s'' acc'' → N acc'' H → False
  | k + 1 => G.Slp A g k i H N s

theorem At_gens {G : GPar α} {i : Nat} {H : Hp} {s : Shared} {ps : List (Addr × Obj)} {gs : Array GenState} (h : G.At i H s ps) (hG : AllBare gs) : G.At i H { s with gens := gs } ps := ⟨Inv_gens h.1 hG, h.2⟩

theorem gen_next (G : GPar α) {A : Around} {E : Value → Shared → Prop} {a : Addr} {g n i : Nat} {H : Hp} {N : α → Hp → Prop} {s : Shared} {acc : α} {nm qn : Value} (hh : A.handled = none) (hroom : A.depth < recursionLimit)
    (hpn : (a, { cls := .type "generator", data := .fields #[.int g 0, nm, qn] }) ∈ G.X.pn) (hAh : ∀ s s' a, s.heap = s'.heap → G.AccAt s a → G.AccAt s' a)
    (hat : G.At i H s (pinsAt G.Sx s.heap)) (hacc : G.AccAt s acc) (hN : N acc H) (slp : G.Slp A g n i H N s) :
    wpAny (model G.X.prog G.X.w) A (pyNext (.ref a)) (fun r s' => (r = none ∧ ∃ H', Inv G.X (pinsAt G.Sx s.heap) G.σw H' s' ∧ G.Qs acc H') ∨
      ∃ y v i' H' N', r = some v ∧ RelV y v ∧ G.At i' H' s' (pinsAt G.Sx s.heap) ∧ G.Cns acc y H' N' ∧ G.Nxt A g n i' H' N' s') E s := by
  obtain ⟨gs, hgs, hgo⟩ := slp
  have hgl : g + 1 ≤ s.gens.size := (Array.getElem?_eq_some_iff.mp hgs).1
  have I := hat.1
  have hg : s.heap.IsGen a g := ⟨_, nm, qn, (I.pin _ (List.mem_append_left _ hpn)).1, rfl, rfl, rfl⟩
  refine wpAny_gsz hgl ?_
  refine wpAny_pyNext_genexpQ (P := fun n s₀ s₁ => ∀ acc, G.AccAt s₀ acc → ∃ H, Inv G.X (pinsAt G.Sx s₀.heap) G.σw H s₁ ∧ G.Qs acc H) hh I.nolimit hroom hg hgs
    (hgo _ acc (At_gens hat (bare_set I.bare rfl)) (hAh s _ acc rfl hacc) hN) (fun v s₁ gs' hb hv hsz => ?_) (fun s₁ hp h' hk hsz => ?_)
  · obtain ⟨y, i', H', N', r, hat', hc, hk⟩ := hv acc (hAh s _ acc rfl hacc)
    have hsz1 : g < s₁.gens.size := by
      have : g + 1 ≤ (s₁.gens.setIfInBounds g gs').size := hsz
      rw [Array.size_setIfInBounds] at this
      exact this
    refine .inr ⟨y, v, i' + 1, H', N', rfl, r, At_gens hat' (bare_set hat'.1.bare hb), hc, ?_⟩
    cases n with
    | zero => exact fun s'' acc'' a1 a2 a3 => hk s'' acc'' a1 a2 a3
    | succ k => exact ⟨gs', set_get hsz1, fun s'' acc'' a1 a2 a3 => hk s'' acc'' a1 a2 a3⟩
  · obtain ⟨H', I', q⟩ := hp acc (hAh s _ acc rfl hacc)
    refine .inl ⟨rfl, H', ?_, q⟩
    have I2 := Inv_gens I' (bare_set (g := g) (x := .finished) I'.bare rfl)
    exact I2.kept (t' := s₁.toks) hk

/-! ### any, all -/
theorem any_loop (G : GPar Unit) {A : Around} {a : Addr} {g : Nat} {nm qn : Value} {R : Result → Shared → Prop} {Qt : Hp → Prop} (hh : A.handled = none) (hroom : A.depth < recursionLimit)
    (hpn : (a, { cls := .type "generator", data := .fields #[.int g 0, nm, qn] }) ∈ G.X.pn) (hSx : G.Sx = []) (hA : ∀ s a, G.AccAt s a) (hC : ∀ y H N, G.Cns () y H N → ∃ c, y = .bl c ∧ if c = true then Qt H else N () H)
    (hR : ∀ c H' s', Inv G.X [] G.σw H' s' → (c = true → Qt H') → (c = false → G.Qs () H') → R (.ok (.ret (.bool c))) s') :
    ∀ (n i : Nat) (H : Hp) (N : Unit → Hp → Prop) (s : Shared), G.At i H s [] → N () H → G.Slp A.in1 g n i H N s → codeAny (model G.X.prog G.X.w) A (.builtin "any.loop" ⟨[.ref a], []⟩) R s := by
  intro n
  induction n with
  | zero =>
    intro i H N s hat hN slp
    refine codeAny_builtin F.entry_any_loop ?_
    rw [Around.under_plainId F.plain_any_loop _]
    show wpAny _ A.in1 (pyNext (.ref a) >>= _) _ _ s
    refine wpAny_bind (thnF (gen_next G (A := A.in1) (acc := ()) (E := fun _ _ => False) hh hroom hpn (fun _ s' a _ _ => hA s' a) (by rw [hSx]; exact hat) (hA s ()) hN slp) fun r s' hr => ?_)
    rw [hSx] at hr
    rcases hr with ⟨rfl, H', I', q⟩ | ⟨y, v, i', H', N', rfl, r, hat', hc, hx⟩
    · exact wpAny_bind (wpAny_rule (wpAny_pure (hR false H' s' I' (fun z => nomatch z) fun _ => q)))
    · obtain ⟨c, rfl, hc2⟩ := hC _ _ _ hc
      cases r
      refine wpAny_bind (wpAny_holding (wpAny_truthy_bool ?_))
      refine wpAny_bind (wpAny_letGo ?_)
      cases c with
      | false =>
        simp only [Bool.false_eq_true, if_false] at hc2
        exact (hx s' () (by rw [hSx]; exact hat') (hA s' ()) hc2).elim
      | true =>
        simp only [if_true] at hc2 ⊢
        exact wpAny_bind (wpAny_rule (wpAny_pure (hR true H' s' hat'.1 (fun _ => hc2) (fun z => nomatch z))))
  | succ n ih =>
    intro i H N s hat hN slp
    refine codeAny_builtin F.entry_any_loop ?_
    rw [Around.under_plainId F.plain_any_loop _]
    show wpAny _ A.in1 (pyNext (.ref a) >>= _) _ _ s
    refine wpAny_bind (thnF (gen_next G (A := A.in1) (acc := ()) (E := fun _ _ => False) hh hroom hpn (fun _ s' a _ _ => hA s' a) (by rw [hSx]; exact hat) (hA s ()) hN slp) fun r s' hr => ?_)
    rw [hSx] at hr
    rcases hr with ⟨rfl, H', I', q⟩ | ⟨y, v, i', H', N', rfl, r, hat', hc, hx⟩
    · exact wpAny_bind (wpAny_rule (wpAny_pure (hR false H' s' I' (fun z => nomatch z) fun _ => q)))
    · obtain ⟨c, rfl, hc2⟩ := hC _ _ _ hc
      cases r
      refine wpAny_bind (wpAny_holding (wpAny_truthy_bool ?_))
      refine wpAny_bind (wpAny_letGo ?_)
      cases c with
      | false =>
        simp only [Bool.false_eq_true, if_false] at hc2 ⊢
        exact wpAny_pure ⟨plainId_quiet F.plain_any_loop _, ih i' H' N' s' hat' hc2 hx⟩
      | true =>
        simp only [if_true] at hc2 ⊢
        exact wpAny_bind (wpAny_rule (wpAny_pure (hR true H' s' hat'.1 (fun _ => hc2) (fun z => nomatch z))))
theorem all_loop (G : GPar Unit) {A : Around} {a : Addr} {g : Nat} {nm qn : Value} {R : Result → Shared → Prop} {Qt : Hp → Prop} (hh : A.handled = none) (hroom : A.depth < recursionLimit)
    (hpn : (a, { cls := .type "generator", data := .fields #[.int g 0, nm, qn] }) ∈ G.X.pn) (hSx : G.Sx = []) (hA : ∀ s a, G.AccAt s a) (hC : ∀ y H N, G.Cns () y H N → ∃ c, y = .bl c ∧ if c = true then N () H else Qt H)
    (hR : ∀ c H' s', Inv G.X [] G.σw H' s' → (c = false → Qt H') → (c = true → G.Qs () H') → R (.ok (.ret (.bool c))) s') :
    ∀ (n i : Nat) (H : Hp) (N : Unit → Hp → Prop) (s : Shared), G.At i H s [] → N () H → G.Slp A.in1 g n i H N s → codeAny (model G.X.prog G.X.w) A (.builtin "all.loop" ⟨[.ref a], []⟩) R s := by
  intro n
  induction n with
  | zero =>
    intro i H N s hat hN slp
    refine codeAny_builtin F.entry_all_loop ?_
    rw [Around.under_plainId F.plain_all_loop _]
    show wpAny _ A.in1 (pyNext (.ref a) >>= _) _ _ s
    refine wpAny_bind (thnF (gen_next G (A := A.in1) (acc := ()) (E := fun _ _ => False) hh hroom hpn (fun _ s' a _ _ => hA s' a) (by rw [hSx]; exact hat) (hA s ()) hN slp) fun r s' hr => ?_)
    rw [hSx] at hr
    rcases hr with ⟨rfl, H', I', q⟩ | ⟨y, v, i', H', N', rfl, r, hat', hc, hx⟩
    · exact wpAny_bind (wpAny_rule (wpAny_pure (hR true H' s' I' (fun z => nomatch z) fun _ => q)))
    · obtain ⟨c, rfl, hc2⟩ := hC _ _ _ hc
      cases r
      refine wpAny_bind (wpAny_holding (wpAny_truthy_bool ?_))
      refine wpAny_bind (wpAny_letGo ?_)
      cases c with
      | true =>
        simp only [if_true] at hc2
        exact (hx s' () (by rw [hSx]; exact hat') (hA s' ()) hc2).elim
      | false =>
        simp only [Bool.false_eq_true, if_false] at hc2 ⊢
        exact wpAny_bind (wpAny_rule (wpAny_pure (hR false H' s' hat'.1 (fun _ => hc2) (fun z => nomatch z))))
  | succ n ih =>
    intro i H N s hat hN slp
    refine codeAny_builtin F.entry_all_loop ?_
    rw [Around.under_plainId F.plain_all_loop _]
    show wpAny _ A.in1 (pyNext (.ref a) >>= _) _ _ s
    refine wpAny_bind (thnF (gen_next G (A := A.in1) (acc := ()) (E := fun _ _ => False) hh hroom hpn (fun _ s' a _ _ => hA s' a) (by rw [hSx]; exact hat) (hA s ()) hN slp) fun r s' hr => ?_)
    rw [hSx] at hr
    rcases hr with ⟨rfl, H', I', q⟩ | ⟨y, v, i', H', N', rfl, r, hat', hc, hx⟩
    · exact wpAny_bind (wpAny_rule (wpAny_pure (hR true H' s' I' (fun z => nomatch z) fun _ => q)))
    · obtain ⟨c, rfl, hc2⟩ := hC _ _ _ hc
      cases r
      refine wpAny_bind (wpAny_holding (wpAny_truthy_bool ?_))
      refine wpAny_bind (wpAny_letGo ?_)
      cases c with
      | true =>
        simp only [if_true] at hc2 ⊢
        exact wpAny_pure ⟨plainId_quiet F.plain_all_loop _, ih i' H' N' s' hat' hc2 hx⟩
      | false =>
        simp only [Bool.false_eq_true, if_false] at hc2 ⊢
        exact wpAny_bind (wpAny_rule (wpAny_pure (hR false H' s' hat'.1 (fun _ => hc2) (fun z => nomatch z))))
end Gx
set_option Elab.async false
set_option linter.all false
set_option maxRecDepth 100000
set_option maxHeartbeats 4000000
namespace Gx
open PySem PySem.Spec PyProof.Rows L2 GenW
open Sem (wp)

abbrev accObj (acc : Int) (t : Tok) (c : Nat) : Obj := { cls := .type "list", dict := none, data := .seq #[.int acc t] c, slots := #[] }
theorem pinsAt_one {S : Addr} {h : Heap} {o : Obj} (e : h.get? S = some o) : pinsAt [S] h = [(S, o)] := by
  unfold pinsAt
  simp [e]
/-- the place S: younger than the entry, none of the frame's -/
structure Apt (X : Cx) (S : Addr) : Prop where
  above : X.s_0.heap.objs.size ≤ S
  nl : S ≠ X.env.locals
  nc : ∀ x c, X.env.cells.lookup x = some c → c ≠ S
  np : ∀ p ∈ X.pn, p.1 ≠ S
theorem repin {X : Cx} {σ : L2.St} {H : Hp} {s : Shared} {S : Addr} {o o' : Obj} {h' : Heap} {tk : Nat} (I : Inv X [(S, o)] σ H s) (hA : Apt X S) (k : ∀ b u, b ≠ S → s.heap.get? b = some u → h'.get? b = some u) (hS : h'.get? S = some o') (hd : ∀ v, o'.data ≠ .cell v) :
    Inv X [(S, o')] σ H { s with heap := h', toks := tk } := by
  obtain ⟨p1, p2, p3, p4, _⟩ := I.pin (S, o) (List.mem_append_right _ List.mem_cons_self)
  have I0 : Inv X [] σ H s := I.pins_of fun p hp => absurd hp (by simp)
  have J : Inv X [] σ H { s with heap := h', toks := tk } := I0.turned k p2 p3 (.inr hA.above) hA.nc (fun p hp => hA.np p (by simpa using hp))
  refine J.pins_of fun p hp => ?_
  have e : p = (S, o') := by simpa using hp
  subst e
  exact ⟨hS, p2, p3, p4, hd⟩
theorem seq_nc {n : String} {vs : Array Value} {c : Nat} : ∀ v : Option Value, ({ cls := .type n, data := .seq vs c } : Obj).data ≠ .cell v := fun v z => by cases z

theorem sum_loop (G : GPar Int) {A : Around} {a S : Addr} {g : Nat} {nm qn : Value} {R : Result → Shared → Prop} {elt tg : Expr} {ifs : List Expr} (K : G.Ok elt tg ifs) (hh : A.handled = none) (hroom : A.depth < recursionLimit)
    (hpn : (a, { cls := .type "generator", data := .fields #[.int g 0, nm, qn] }) ∈ G.X.pn) (hSx : G.Sx = [S]) (hS : Apt G.X S) (hA : ∀ s acc, G.AccAt s acc ↔ ∃ t c, s.heap.get? S = some (accObj acc t c)) (hC : ∀ acc y H N, G.Cns acc y H N → ∃ z, y = .int z ∧ N (acc + z) H)
    (hR : ∀ acc H' s' t, Inv G.X [] G.σw H' s' → G.Qs acc H' → R (.ok (.ret (.int acc t))) s') :
    ∀ (n i : Nat) (H : Hp) (N : Int → Hp → Prop) (s : Shared) (st acc : Int) (t : Tok) (c : Nat), (st = 0 ∨ st = 2) → s.heap.get? S = some (accObj acc t c) → G.At i H s [(S, accObj acc t c)] → N acc H → G.Slp A.in1 g n i H N s →
      codeAny (model G.X.prog G.X.w) A (.builtin "sum.loop" ⟨[.ref a, .ref S, rawInt st, rawInt 0], []⟩) R s := by
  intro n
  induction n with
  | zero =>
    intro i H N s st acc t c hst2 eS hat hN slp
    have ep : pinsAt G.Sx s.heap = [(S, accObj acc t c)] := by rw [hSx]; exact pinsAt_one eS
    refine codeAny_builtin F.entry_sum_loop ?_
    rw [Around.under_plainId F.plain_sum_loop _]
    show wpAny _ A.in1 (seqItems? (.ref S) >>= _) _ _ s
    refine wpAny_bind (wpAny_seqItems eS rfl ?_)
    show wpAny _ A.in1 (tryCatch (pyNext (.ref a)) _ >>= _) _ _ s
    refine wpAny_bind (wpAny_tryCatch (thnF (gen_next G (A := A.in1) (acc := acc) (E := fun _ _ => False) hh hroom hpn (fun s s' a e h => (hA s' a).mpr (by rw [← e]; exact (hA s a).mp h)) (by rw [ep]; exact hat) ((hA s acc).mpr ⟨t, c, eS⟩) hN slp) fun r s' hr => ?_))
    rw [ep] at hr
    rcases hr with ⟨rfl, H', I', q⟩ | ⟨y, v, i', H', N', rfl, r, hat', hc, hx⟩
    · exact wpAny_pure (hR acc H' s' t (I'.pins_of fun p hp => absurd hp (by simp)) q)
    · obtain ⟨z, rfl, hc2⟩ := hC _ _ _ _ hc
      exfalso
      -- the state with the sum laid
      have eS' : s'.heap.get? S = some (accObj acc t c) := (hat'.1.pin _ (List.mem_append_right _ List.mem_cons_self)).1
      have hS2 := Heap.get?_update_self (Obj.mapSeq fun _ => #[Value.int (acc + z) t]) eS' rfl
      have J := repin (tk := s'.toks) hat'.1 hS (h' := s'.heap.update S (Obj.mapSeq fun _ => #[Value.int (acc + z) t])) (fun b u hb e => (Heap.get?_update_other _ _ (Ne.symm hb)).trans e) hS2 (fun v z => by cases z)
      refine hx { s' with heap := s'.heap.update S (Obj.mapSeq fun _ => #[Value.int (acc + z) t]) } (acc + z) ⟨?_, ?_, hat'.2.2⟩ ((hA _ _).mpr ⟨t, _, hS2⟩) hc2
      · rw [hSx, pinsAt_one hS2]; exact J
      · exact K.T.keep _ _ _ hat'.2.1 fun b hb o e => (Heap.get?_update_other _ _ (fun z => (K.st b hb).2.2.2.2.2 (by rw [hSx, ← z]; exact List.mem_cons_self))).trans e
  | succ n ih =>
    intro i H N s st acc t c hst2 eS hat hN slp
    have ep : pinsAt G.Sx s.heap = [(S, accObj acc t c)] := by rw [hSx]; exact pinsAt_one eS
    refine codeAny_builtin F.entry_sum_loop ?_
    rw [Around.under_plainId F.plain_sum_loop _]
    show wpAny _ A.in1 (seqItems? (.ref S) >>= _) _ _ s
    refine wpAny_bind (wpAny_seqItems eS rfl ?_)
    show wpAny _ A.in1 (tryCatch (pyNext (.ref a)) _ >>= _) _ _ s
    refine wpAny_bind (wpAny_tryCatch (thnF (gen_next G (A := A.in1) (acc := acc) (E := fun _ _ => False) hh hroom hpn (fun s s' a e h => (hA s' a).mpr (by rw [← e]; exact (hA s a).mp h)) (by rw [ep]; exact hat) ((hA s acc).mpr ⟨t, c, eS⟩) hN slp) fun r s' hr => ?_))
    rw [ep] at hr
    rcases hr with ⟨rfl, H', I', q⟩ | ⟨y, v, i', H', N', rfl, r, hat', hc, hx⟩
    · exact wpAny_pure (hR acc H' s' t (I'.pins_of fun p hp => absurd hp (by simp)) q)
    · obtain ⟨z, rfl, hc2⟩ := hC _ _ _ _ hc
      obtain ⟨tz, rfl⟩ := (show ∃ t, v = Value.int z t from r)
      have eS' : s'.heap.get? S = some (accObj acc t c) := (hat'.1.pin _ (List.mem_append_right _ List.mem_cons_self)).1
      have fin : ∀ (h' : Heap) (tk : Nat) (t' : Tok) (c' : Nat) (st' : Int), (st' = 0 ∨ st' = 2) → (∀ b u, b ≠ S → s'.heap.get? b = some u → h'.get? b = some u) → h'.get? S = some (accObj (acc + z) t' c') →
          codeAny (model G.X.prog G.X.w) A (.builtin "sum.loop" ⟨[.ref a, .ref S, rawInt st', rawInt 0], []⟩) R { s' with heap := h', toks := tk } := fun h' tk t' c' st' hs' kp e' => by
        have J := repin (tk := tk) hat'.1 hS kp e' (fun v z => by cases z)
        refine ih i' H' N' _ st' (acc + z) t' c' hs' e' ⟨J, ?_, hat'.2.2⟩ hc2 ?_
        · exact K.T.keep _ _ _ hat'.2.1 fun b hb o e => kp b o (fun z => (K.st b hb).2.2.2.2.2 (by rw [hSx, z]; exact List.mem_cons_self)) e
        · obtain ⟨gs, h1, h2⟩ := hx
          exact ⟨gs, h1, h2⟩
      rcases hst2 with rfl | rfl
      · show wpAny _ A.in1 (if (_ : Bool) = true then (mkInt (acc + z) >>= _) else _) _ _ _
        split
        · refine wpAny_bind (wpAny_mkInt ?_)
          show wpAny _ A.in1 (updateSeq S (fun _ => #[.int (acc + z) s'.toks]) >>= _) _ _ _
          refine wpAny_bind ?_
          exact wpAny_updateSeq eS' rfl (wpAny_pure ⟨plainId_quiet F.plain_sum_loop _, fin _ _ s'.toks _ 0 (.inl rfl) (fun b u hb e => (Heap.get?_update_other _ _ (Ne.symm hb)).trans e) (Heap.get?_update_self _ eS' rfl)⟩)
        · refine wpAny_bind (wpAny_rule ?_)
          refine wpAny_bind (wpAny_attempt (wpAny_holding (wpAny_add_int ?_)))
          show wpAny _ A.in1 (updateSeq S (fun _ => #[.int (acc + z) s'.toks]) >>= _) _ _ _
          refine wpAny_bind (wpAny_updateSeq eS' rfl ?_)
          have hS₂ := Heap.get?_update_self (Obj.mapSeq fun _ => #[Value.int (acc + z) s'.toks]) eS' rfl
          refine wpAny_bind (wpAny_letGo ?_)
          exact wpAny_bind (wpAny_updateSeq hS₂ rfl (wpAny_pure ⟨plainId_quiet F.plain_sum_loop _, fin _ _ s'.toks _ 2 (.inr rfl) (fun b u hb e => (Heap.get?_update_other _ _ (Ne.symm hb)).trans ((Heap.get?_update_other _ _ (Ne.symm hb)).trans e)) (Heap.get?_update_self _ hS₂ rfl)⟩))
      · show wpAny _ A.in1 ((holding [Value.int z tz] (binaryOp .Add (.int acc t) (.int z tz))).attempt >>= _) _ _ _
        refine wpAny_bind (wpAny_attempt (wpAny_holding (wpAny_add_int ?_)))
        show wpAny _ A.in1 (updateSeq S (fun _ => #[.int (acc + z) s'.toks]) >>= _) _ _ _
        refine wpAny_bind (wpAny_updateSeq eS' rfl ?_)
        have hS₂ := Heap.get?_update_self (Obj.mapSeq fun _ => #[Value.int (acc + z) s'.toks]) eS' rfl
        refine wpAny_bind (wpAny_letGo ?_)
        exact wpAny_bind (wpAny_updateSeq hS₂ rfl (wpAny_pure ⟨plainId_quiet F.plain_sum_loop _, fin _ _ s'.toks _ 2 (.inr rfl) (fun b u hb e => (Heap.get?_update_other _ _ (Ne.symm hb)).trans ((Heap.get?_update_other _ _ (Ne.symm hb)).trans e)) (Heap.get?_update_self _ hS₂ rfl)⟩))
end Gx
set_option Elab.async false
set_option linter.all false
set_option maxRecDepth 100000
set_option maxHeartbeats 4000000
namespace Gx
open PySem PySem.Spec PyProof.Rows L2 GenW
open Sem (wp)

/-- a generator expression's frame, made in the def's state s at C -/
abbrev gEnv (X : Cx) (scope : Scope) (C : Addr) (code : Value) : Env := genEnv scope (cloFrom X.env.cells scope.names []) C code builtinsNs X.env
section
variable {X : Cx} {pins : List (Addr × Obj)} {σ : L2.St} {H : Hp} {s : Shared}

/-- the generator a (number gn) made in s4, standing in s5 -/
structure Made (X : Cx) (pins : List (Addr × Obj)) (σ : L2.St) (H2 : Hp) (scope : Scope) (own : List (Str × Nat)) (elt tg iter : Expr) (ifs : List Expr) (gpos : Pos) (J : It) (it : Addr) (fp : List Addr) (tn : Nat → Heap → Prop) (s4 : Shared) (code : Value) (a : Addr) (gn : Nat) (nm qn : Value) (s5 : Shared) : Prop where
  T : Turn X.prog X.w X.K tg J fp it tn
  st : ∀ b ∈ fp, FpOk X pins H2 b ∧ b < s4.heap.objs.size
  tn0 : tn 0 s5.heap
  I4 : Inv X pins σ H2 s4
  I5 : Inv (genCx X s4 H2 (gEnv X scope s4.heap.objs.size code) fp [(a, { cls := .type "generator", data := .fields #[.int gn 0, nm, qn] })]) [] (wipe σ (own.map (·.2))) H2 s5
  gens : s5.gens[gn]? = some (.fresh (.compStart (.GeneratorExp elt [⟨tg, iter, ifs, 0⟩] scope gpos) 0 (.ref it) .none (gEnv X scope s4.heap.objs.size code)))
  ha : s4.heap.objs.size < a
  sz : s5.heap.objs.size = a + 1

theorem gen_make {c P : Addr} {elt tg iter : Expr} {ifs : List Expr} {scope : Scope} {own : List (Str × Nat)} {gpos : Pos} {wi : TI} {k : Nat} {Q' : Value → Shared → Prop} {R : It → Hp → Prop}
    (hr : Room k X.A) (hc : X.calm = true) (TB : GxR.TabB X.base X.mg c P) (hcode : X.env.code = .ref c) (ok : GnOk X.N X.env.scope scope own) (hN : X.N.Nodup) (hi : PI X tg iter wi)
    (hs : ∀ v, genFold iter X.env v = pure v) (I : Inv X pins σ H s) (h : wi σ H fun J H1 => GxR.TabG H1 P ∧ R J H1)
    (hQ : ∀ J H1 H2 it fp tn s4 code a gn nm qn s5, R J H1 → GxR.Tabbed P H1 H2 → Made X pins σ H2 scope own elt tg iter ifs gpos J it fp tn s4 code a gn nm qn s5 → Q' (.ref a) s5) :
    wpAny (model X.prog X.w) X.A (eval (.GeneratorExp elt [⟨tg, iter, ifs, 0⟩] scope gpos) X.env) Q' X.xe s := by
  have hfree : ∀ y ∈ scope.names, y.2 = .free → ∃ c, X.env.cells.lookup y.1 = some c := fun y hy e => by
    rcases ok.free y hy e with k | k
    · exact I.ok.has _ (.inl k)
    · exact I.ok.has _ (.inr k)
  refine wpAny_GeneratorExp_make ok.co (closure_ok hfree) ok.nocell ok.dot ok.kind hr.depth ?_ hs
  refine thn (hi.run pins s σ H _ I h) fun v s1 h1 => thn h1 fun itv s2 h2 => ?_
  obtain ⟨it, fp, tn, J, H1, e, I2, T, st2, f2, ⟨ps, hP, ht⟩, hR⟩ := h2
  subst e
  refine ⟨I2.nolimit, ?_⟩
  have hPs : s2.heap.get? P = some { cls := .none, data := .fields ps } := I2.hok P _ hP
  have cd : PySem.W.CodeHd s2.heap c P := TB.code.keeps fun b u e => I2.bk b u e
  have nP : ∀ b ∈ fp, b ≠ P := fun b hb z => by
    have e := (f2 b hb).1
    rw [z, hP] at e
    cases e
  have cont : ∀ (code : Value) (h3 : Heap) (tk : Nat) (more : Array Value), Heap.ExtBut P s2.heap h3 → h3.get? P = some { cls := .none, data := .fields (ps ++ more) } → TriplesOk (ps ++ more).toList →
      wpAny (model X.prog X.w) X.A (builtinsFor X.env.globals X.env.builtins) (fun bi s₄ =>
        ∀ h', h'.Ns s₄.heap.objs.size (fun y => if y = ".0" then some (.ref it) else none) → Heap.SameBut s₄.heap.objs.size (s₄.heap.push { cls := .type "frame", data := .dict #[] }) h' →
          Q' (.ref h'.objs.size) { s₄ with
            gens := s₄.gens.push (.fresh (.compStart (.GeneratorExp elt [⟨tg, iter, ifs, 0⟩] scope gpos) 0 (.ref it) .none (genEnv scope (cloFrom X.env.cells scope.names []) s₄.heap.objs.size code bi X.env))),
            toks := s₄.toks + 1 + 1 + 1,
            heap := h'.push { cls := .type "generator", data := .fields #[.int s₄.gens.size 0, .str "<genexpr>" (s₄.toks + 1), .str (X.env.qual ++ "<genexpr>") (s₄.toks + 1 + 1)] } }) X.xe { s2 with heap := h3, toks := tk } := by
    intro code h3 tk more hx hP3 ht3
    obtain ⟨bm, ob, e1, e2, e3, e4, e5, e6, e7, e8⟩ := TB.bm
    have keep3 : ∀ b u, b ≠ P → s2.heap.get? b = some u → h3.get? b = some u := fun b u hb e => hx b u hb e
    have I4 : Inv X pins σ (upd H1 P (.tbl (ps ++ more))) { s2 with heap := h3, toks := tk } :=
      GxR.inv_tab (h' := h3) (g' := s2.gens) (d' := s2.drawn) (t' := tk) I2 hP keep3 hP3 I2.bare
    refine wpAny_builtinsFor (m := X.mg) (by rw [I.ok.glob]; exact (I2.mod.glob.keeps I2.bk).extBut hx TB.gP) e1 e2 (keep3 _ _ e4 (I2.bk _ _ e5)) e6 e7 e8 ?_
    intro h' hn' hs'
    have hsz : h'.objs.size = h3.objs.size + 1 := by rw [hs'.1, Heap.size_push]
    have st4 : ∀ b ∈ fp, FpOk X pins (upd H1 P (.tbl (ps ++ more))) b ∧ b < h3.objs.size := fun b hb => by
      obtain ⟨o, eo, _⟩ := T.obj _ _ st2 b hb
      exact ⟨⟨by rw [upd_ne (nP b hb)]; exact (f2 b hb).1, (f2 b hb).2⟩, Heap.lt_size (keep3 b o (nP b hb) eo)⟩
    have k5 : ∀ b u (o : Obj), h3.get? b = some u → (h'.push o).get? b = some u := fun b u o e => Heap.get?_push_of_some _ (hs'.extBut b u (Nat.ne_of_lt (Heap.lt_size e)) (Heap.get?_push_of_some _ e))
    refine hQ J H1 (upd H1 P (.tbl (ps ++ more))) it fp tn { s2 with heap := h3, toks := tk } code h'.objs.size s2.gens.size (.str "<genexpr>" (tk + 1)) (.str (X.env.qual ++ "<genexpr>") (tk + 1 + 1)) _ hR ⟨⟨ps ++ more, upd_same, ht3⟩, fun b hb => upd_ne hb⟩ ⟨T, st4, ?_, I4, ?_, ?_, ?_, ?_⟩
    · exact T.keep _ _ _ st2 fun b hb o e => k5 b o _ (keep3 b o (nP b hb) e)
    · exact gen_start (s := { s2 with heap := h3, toks := tk }) I4 hc ok hN st4 hn' hs' (I2.bare.push rfl) (fun v z => by cases z)
    · exact Array.getElem?_push_size ..
    · show h3.objs.size < h'.objs.size
      rw [hsz]; exact Nat.lt_succ_self _
    · show (h'.push _).objs.size = h'.objs.size + 1
      rw [Heap.size_push]
  cases hf : codeAmong gpos ps.toList with
  | none =>
    refine wpAny_genexprCodeX hcode (cd.code hPs ht) (cd.tab hPs) hf fun c' h' tk hx hge hlt hco' _ htab' _ => ?_
    obtain ⟨o1, vs, f1, tf, fl, tg, inF, tx, tt, op, _, _, _, _, _, _, _, _, _, htr, _⟩ := hco'
    exact cont _ h' tk _ hx htab'.2 htr
  | some cv =>
    refine wpAny_genexprCode_hit hcode (cd.code hPs ht) hf ?_
    exact cont cv s2.heap s2.toks #[] (Heap.ExtBut.refl _ _) (by simpa using hPs) (by simpa using ht)

/-- back in the def's context -/
theorem Made.back {H2 : Hp} {scope : Scope} {own : List (Str × Nat)} {elt tg iter : Expr} {ifs : List Expr} {gpos : Pos} {J : It} {it : Addr} {fp : List Addr} {tn : Nat → Heap → Prop} {s4 : Shared} {code : Value} {a : Addr} {gn : Nat} {nm qn : Value} {s5 s' : Shared} {H' : Hp} {σ' : L2.St} {ps : List (Addr × Obj)}
    (M : Made X pins σ H2 scope own elt tg iter ifs gpos J it fp tn s4 code a gn nm qn s5)
    (I' : Inv (genCx X s4 H2 (gEnv X scope s4.heap.objs.size code) fp [(a, { cls := .type "generator", data := .fields #[.int gn 0, nm, qn] })]) ps σ' H' s') : Inv X pins σ H' s' :=
  M.I4.call' (ch := fp) I'.os I'.base I'.hok I'.bare fun b hb => ⟨(M.st b hb).1.2.2.2.1, (M.st b hb).1.2.1, (M.st b hb).1.2.2.2.2.1, (M.st b hb).1.2.2.2.2.2⟩
end

section
variable {X : Cx}
/-- any(..), all(..), sum(..) of a generator expression, by the walked thing's reading -/
def tAnyG (P : Addr) (wi : TI) (g : TG) (tt : TT) (te : TE) (vs : List Nat) : TE := fun σ H Q => wi σ H fun J H1 => GxR.TabG H1 P ∧ ∀ H2, GxR.Tabbed P H1 H2 → ∃ W : Nat → Nat → Hp → Prop, (∃ m, W 0 m H2) ∧ ∀ i m H, W i m H →
  (J.stop i H ∧ Q (.bl false) H) ∨ (J.go i H ∧ ∃ N : Hp → Prop, (∀ H', N H' → ∃ m', m' < m ∧ W (i + 1) m' H') ∧
    ∀ x H', J.yld i H x H' → g x (wipe σ vs) H' fun σ2 H2 => wipe σ2 vs = wipe σ vs ∧ tt σ2 H2 fun b H3 => if b = true then te σ2 H3 fun y H4 => ∃ c, y = .bl c ∧ if c = true then Q (.bl true) H4 else N H4 else N H3)
def tAllG (P : Addr) (wi : TI) (g : TG) (tt : TT) (te : TE) (vs : List Nat) : TE := fun σ H Q => wi σ H fun J H1 => GxR.TabG H1 P ∧ ∀ H2, GxR.Tabbed P H1 H2 → ∃ W : Nat → Nat → Hp → Prop, (∃ m, W 0 m H2) ∧ ∀ i m H, W i m H →
  (J.stop i H ∧ Q (.bl true) H) ∨ (J.go i H ∧ ∃ N : Hp → Prop, (∀ H', N H' → ∃ m', m' < m ∧ W (i + 1) m' H') ∧
    ∀ x H', J.yld i H x H' → g x (wipe σ vs) H' fun σ2 H2 => wipe σ2 vs = wipe σ vs ∧ tt σ2 H2 fun b H3 => if b = true then te σ2 H3 fun y H4 => ∃ c, y = .bl c ∧ if c = true then N H4 else Q (.bl false) H4 else N H3)
def tSumG (P : Addr) (wi : TI) (g : TG) (tt : TT) (te : TE) (vs : List Nat) : TE := fun σ H Q => wi σ H fun J H1 => GxR.TabG H1 P ∧ ∀ H2, GxR.Tabbed P H1 H2 → ∃ W : Int → Nat → Nat → Hp → Prop, (∃ m, W 0 0 m H2) ∧ ∀ acc i m H, W acc i m H →
  (J.stop i H ∧ Q (.int acc) H) ∨ (J.go i H ∧ ∃ N : Int → Hp → Prop, (∀ acc' H', N acc' H' → ∃ m', m' < m ∧ W acc' (i + 1) m' H') ∧
    ∀ x H', J.yld i H x H' → g x (wipe σ vs) H' fun σ2 H2 => wipe σ2 vs = wipe σ vs ∧ tt σ2 H2 fun b H3 => if b = true then te σ2 H3 fun y H4 => ∃ z, y = .int z ∧ N (acc + z) H4 else N acc H3)

theorem over_gen {A : Around} {elt tg iter : Expr} {ifs : List Expr} {scope : Scope} {pos : Pos} {it acc : Value} {env : Env} : A.over (.compLoop (.GeneratorExp elt [⟨tg, iter, ifs, 0⟩] scope pos) 0 it acc env) [] = A.deeper env := by
  first
    | rfl
    | (obtain ⟨hd, d, fr, gs, u⟩ := A; simp [Around.over, Around.deeper, marksOver, frameCount, unitsOf, envsOf, guardsOf, pushEnvs, pushGuards, Code.envs, Code.env?, Code.isFrame, Code.guards, Code.isGuard, Code.weight, Code.frames, Code.isCreation, Code.isCaller, Code.cUnits])

section
variable {pins : List (Addr × Obj)} {σ : L2.St} {H2 : Hp} {scope : Scope} {own : List (Str × Nat)} {elt tg iter : Expr} {ifs : List Expr} {gpos : Pos} {J : It} {it : Addr} {fp : List Addr} {tn : Nat → Heap → Prop} {s4 : Shared} {code : Value} {a : Addr} {gn : Nat} {nm qn : Value} {s5 : Shared} {α : Type}
/-- the walk's parameters over a generator that was made -/
theorem Made.ok (M : Made X pins σ H2 scope own elt tg iter ifs gpos J it fp tn s4 code a gn nm qn s5) (hco : scope.isCoroutine = false) {g : TG} {tt : TT} {te : TE} {AccAt : Shared → α → Prop} {Sx : List Addr} {W : α → Nat → Nat → Hp → Prop} {Cns : α → V → Hp → (α → Hp → Prop) → Prop} {Qs : α → Hp → Prop}
    (pg : PG (genCx X s4 H2 (gEnv X scope s4.heap.objs.size code) fp [(a, { cls := .type "generator", data := .fields #[.int gn 0, nm, qn] })]) tg g)
    (pt : PTs (genCx X s4 H2 (gEnv X scope s4.heap.objs.size code) fp [(a, { cls := .type "generator", data := .fields #[.int gn 0, nm, qn] })]) ifs tt)
    (pe : PE (genCx X s4 H2 (gEnv X scope s4.heap.objs.size code) fp [(a, { cls := .type "generator", data := .fields #[.int gn 0, nm, qn] })]) elt te)
    (fn : ∀ s a b, AccAt s a → AccAt s b → a = b) (hSx : ∀ b ∈ fp, b ∉ Sx)
    (turn : ∀ acc i m H, W acc i m H → (J.stop i H ∧ Qs acc H) ∨ (J.go i H ∧ ∃ N : α → Hp → Prop, (∀ acc' H', N acc' H' → ∃ m', m' < m ∧ W acc' (i + 1) m' H') ∧
    ∀ x H', J.yld i H x H' → g x (wipe σ (own.map (·.2))) H' fun σ2 H2 => wipe σ2 (own.map (·.2)) = wipe σ (own.map (·.2)) ∧ tt σ2 H2 fun b H3 => if b = true then te σ2 H3 fun y H4 => Cns acc y H4 N else N acc H3)) :
    GPar.Ok ⟨genCx X s4 H2 (gEnv X scope s4.heap.objs.size code) fp [(a, { cls := .type "generator", data := .fields #[.int gn 0, nm, qn] })], it, fp, tn, J, g, tt, te, AccAt, Sx, own.map (·.2), wipe σ (own.map (·.2)), W, Cns, Qs⟩ elt tg ifs where
  calm := rfl
  T := M.T
  st := fun b hb => by
    obtain ⟨⟨h1, h2, h3, h4, h5, h6⟩, hlt⟩ := M.st b hb
    refine ⟨(M.I5.ok.exf b hb).1, M.I5.ok.exfs b hb, .inl hb, (M.I5.ok.exf b hb).2, fun p hp => ?_, hSx b hb⟩
    have e : p.1 = a := by
      have e2 := List.mem_singleton.mp hp
      rw [e2]
    rw [e]
    exact fun z => Nat.lt_asymm hlt (z ▸ M.ha)
  pg := pg
  pt := pt
  pe := pe
  fn := fn
  co := hco
  turn := turn
theorem Made.slp (M : Made X pins σ H2 scope own elt tg iter ifs gpos J it fp tn s4 code a gn nm qn s5) {g : TG} {tt : TT} {te : TE} {AccAt : Shared → α → Prop} {Sx : List Addr} {W : α → Nat → Nat → Hp → Prop} {Cns : α → V → Hp → (α → Hp → Prop) → Prop} {Qs : α → Hp → Prop}
    (K : GPar.Ok ⟨genCx X s4 H2 (gEnv X scope s4.heap.objs.size code) fp [(a, { cls := .type "generator", data := .fields #[.int gn 0, nm, qn] })], it, fp, tn, J, g, tt, te, AccAt, Sx, own.map (·.2), wipe σ (own.map (·.2)), W, Cns, Qs⟩ elt tg ifs) (m : Nat) {s6 : Shared} (hg : s6.gens = s5.gens) :
    GPar.Slp ⟨genCx X s4 H2 (gEnv X scope s4.heap.objs.size code) fp [(a, { cls := .type "generator", data := .fields #[.int gn 0, nm, qn] })], it, fp, tn, J, g, tt, te, AccAt, Sx, own.map (·.2), wipe σ (own.map (·.2)), W, Cns, Qs⟩ X.A.in1 gn (m + 1) 0 H2 (fun acc H => W acc 0 m H) s6 :=
  ⟨.fresh (.compStart (.GeneratorExp elt [⟨tg, iter, ifs, 0⟩] scope gpos) 0 (.ref it) .none (gEnv X scope s4.heap.objs.size code)), by rw [hg]; exact M.gens, fun s'' acc'' hat hacc hw => And.intro rfl (gen_first (A := X.A.in1.in1) _ K rfl over_gen (Nat.lt_succ_self m) hw hacc hat)⟩
end

theorem pe_anyG {c P : Addr} {elt tg iter : Expr} {ifs : List Expr} {scope : Scope} {own : List (Str × Nat)} {p pos gpos : Pos} {wi : TI} {g : TG} {tt : TT} {te : TE} {k : Nat}
    (hr : Room k X.A) (hc : X.calm = true) (hgl : Gl X "any") (hm : X.mg "any" = none) (TB : GxR.TabB X.base X.mg c P) (hcode : X.env.code = .ref c) (ok : GnOk X.N X.env.scope scope own) (hN : X.N.Nodup) (hi : PI X tg iter wi)
    (hg : ∀ (s : Shared) (H : Hp) (C : Addr) (code : Value) (fp : List Addr) (pn : List (Addr × Obj)), PG (genCx X s H (gEnv X scope C code) fp pn) tg g)
    (ht : ∀ (s : Shared) (H : Hp) (C : Addr) (code : Value) (fp : List Addr) (pn : List (Addr × Obj)), PTs (genCx X s H (gEnv X scope C code) fp pn) ifs tt)
    (hel : ∀ (s : Shared) (H : Hp) (C : Addr) (code : Value) (fp : List Addr) (pn : List (Addr × Obj)), PE (genCx X s H (gEnv X scope C code) fp pn) elt te)
    (hs : ∀ v, genFold iter X.env v = pure v)
    (he : starEach [.GeneratorExp elt [⟨tg, iter, ifs, 0⟩] scope gpos] X.env = (false, eval (.GeneratorExp elt [⟨tg, iter, ifs, 0⟩] scope gpos) X.env) :: starEach [] X.env := by rfl) :
    PE X (.Call (.Name "any" p) [.GeneratorExp elt [⟨tg, iter, ifs, 0⟩] scope gpos] [] pos) (tAnyG P wi g tt te (own.map (·.2))) := by
  refine ⟨fun pins s σ H Q I h => ?_⟩
  refine wpAny_Call_Name_kw (ld_blt I hgl hm boot_any ?_)
  refine PyProof.Rows.callWith_builtin1 ?_ he (by rfl)
  rw [he]
  show wpAny _ _ (spliced ((false, eval (.GeneratorExp elt [⟨tg, iter, ifs, 0⟩] scope gpos) X.env) :: backTo pos (starEach [] X.env))) _ _ s
  refine Calls.spliced_cons (gen_make hr hc TB hcode ok hN hi hs I h fun J H1 H2 it fp tn s4 code a gn nm qn s5 hR hT M => ?_)
  obtain ⟨W, ⟨m0, w0⟩, turn⟩ := hR H2 hT
  refine Calls.spliced_nil ?_
  have K := M.ok (α := Unit) (AccAt := fun _ _ => True) (Sx := []) (W := fun _ => W) (Cns := fun _ y H4 N => ∃ c, y = .bl c ∧ if c = true then Q (.bl true) H4 else N () H4) (Qs := fun _ H => Q (.bl false) H) ok.co (hg s4 H2 _ code fp _) (ht s4 H2 _ code fp _) (hel s4 H2 _ code fp _)
    (fun _ _ _ _ _ => rfl) (fun _ _ z => nomatch z) (fun _ i m H hw => by
      rcases turn i m H hw with z | ⟨go, N, hN, step⟩
      · exact .inl z
      · exact .inr ⟨go, fun _ => N, fun _ => hN, step⟩)
  have hpn := M.I5.pin (a, _) (List.mem_append_left _ List.mem_cons_self)
  refine call_function_tree F.kind_any F.plain_any F.entry_any (F.args_any1 _) ?_
  unfold Builtin.«any»
  refine wpAny_bind (m := oneArg "any" _) (wpAny_pure ?_)
  refine wpAny_bind (wpAny_pyIter_gen (g := gn) ⟨_, nm, qn, hpn.1, rfl, rfl, rfl⟩ ?_)
  refine wpAny_pure ⟨plainId_quiet F.plain_any_loop _, any_loop _ (A := X.A) (a := a) (g := gn) (nm := nm) (qn := qn) (Qt := fun H => Q (.bl true) H) (hr.hd) hr.depth List.mem_cons_self rfl (fun _ _ => trivial) (fun y H N z => z) ?_ (m0 + 1) 0 H2 (fun _ H => W 0 m0 H) s5 ⟨M.I5, M.tn0, fun b hb => (M.st b hb).1.1⟩ w0 (M.slp K m0 rfl)⟩
  intro c H' s' I' q1 q2
  refine ⟨.bl c, H', M.back I', rfl, ?_⟩
  cases c with
  | true => exact q1 rfl
  | false => exact q2 rfl
theorem pe_allG {c P : Addr} {elt tg iter : Expr} {ifs : List Expr} {scope : Scope} {own : List (Str × Nat)} {p pos gpos : Pos} {wi : TI} {g : TG} {tt : TT} {te : TE} {k : Nat}
    (hr : Room k X.A) (hc : X.calm = true) (hgl : Gl X "all") (hm : X.mg "all" = none) (hb : bootBuiltins "all" = some (.builtin "all")) (TB : GxR.TabB X.base X.mg c P) (hcode : X.env.code = .ref c) (ok : GnOk X.N X.env.scope scope own) (hN : X.N.Nodup) (hi : PI X tg iter wi)
    (hg : ∀ (s : Shared) (H : Hp) (C : Addr) (code : Value) (fp : List Addr) (pn : List (Addr × Obj)), PG (genCx X s H (gEnv X scope C code) fp pn) tg g)
    (ht : ∀ (s : Shared) (H : Hp) (C : Addr) (code : Value) (fp : List Addr) (pn : List (Addr × Obj)), PTs (genCx X s H (gEnv X scope C code) fp pn) ifs tt)
    (hel : ∀ (s : Shared) (H : Hp) (C : Addr) (code : Value) (fp : List Addr) (pn : List (Addr × Obj)), PE (genCx X s H (gEnv X scope C code) fp pn) elt te)
    (hs : ∀ v, genFold iter X.env v = pure v)
    (he : starEach [.GeneratorExp elt [⟨tg, iter, ifs, 0⟩] scope gpos] X.env = (false, eval (.GeneratorExp elt [⟨tg, iter, ifs, 0⟩] scope gpos) X.env) :: starEach [] X.env := by rfl) :
    PE X (.Call (.Name "all" p) [.GeneratorExp elt [⟨tg, iter, ifs, 0⟩] scope gpos] [] pos) (tAllG P wi g tt te (own.map (·.2))) := by
  refine ⟨fun pins s σ H Q I h => ?_⟩
  refine wpAny_Call_Name_kw (ld_blt I hgl hm hb ?_)
  refine PyProof.Rows.callWith_builtin1 ?_ he (by rfl)
  rw [he]
  show wpAny _ _ (spliced ((false, eval (.GeneratorExp elt [⟨tg, iter, ifs, 0⟩] scope gpos) X.env) :: backTo pos (starEach [] X.env))) _ _ s
  refine Calls.spliced_cons (gen_make hr hc TB hcode ok hN hi hs I h fun J H1 H2 it fp tn s4 code a gn nm qn s5 hR hT M => ?_)
  obtain ⟨W, ⟨m0, w0⟩, turn⟩ := hR H2 hT
  refine Calls.spliced_nil ?_
  have K := M.ok (α := Unit) (AccAt := fun _ _ => True) (Sx := []) (W := fun _ => W) (Cns := fun _ y H4 N => ∃ c, y = .bl c ∧ if c = true then N () H4 else Q (.bl false) H4) (Qs := fun _ H => Q (.bl true) H) ok.co (hg s4 H2 _ code fp _) (ht s4 H2 _ code fp _) (hel s4 H2 _ code fp _)
    (fun _ _ _ _ _ => rfl) (fun _ _ z => nomatch z) (fun _ i m H hw => by
      rcases turn i m H hw with z | ⟨go, N, hN, step⟩
      · exact .inl z
      · exact .inr ⟨go, fun _ => N, fun _ => hN, step⟩)
  have hpn := M.I5.pin (a, _) (List.mem_append_left _ List.mem_cons_self)
  refine call_function_tree F.kind_all F.plain_all F.entry_all (F.args_all1 _) ?_
  unfold Builtin.«all»
  refine wpAny_bind (m := oneArg "all" _) (wpAny_pure ?_)
  refine wpAny_bind (wpAny_pyIter_gen (g := gn) ⟨_, nm, qn, hpn.1, rfl, rfl, rfl⟩ ?_)
  refine wpAny_pure ⟨plainId_quiet F.plain_all_loop _, all_loop _ (A := X.A) (a := a) (g := gn) (nm := nm) (qn := qn) (Qt := fun H => Q (.bl false) H) (hr.hd) hr.depth List.mem_cons_self rfl (fun _ _ => trivial) (fun y H N z => z) ?_ (m0 + 1) 0 H2 (fun _ H => W 0 m0 H) s5 ⟨M.I5, M.tn0, fun b hb => (M.st b hb).1.1⟩ w0 (M.slp K m0 rfl)⟩
  intro c H' s' I' q1 q2
  refine ⟨.bl c, H', M.back I', rfl, ?_⟩
  cases c with
  | true => exact q2 rfl
  | false => exact q1 rfl
theorem pe_sumG {c P : Addr} {elt tg iter : Expr} {ifs : List Expr} {scope : Scope} {own : List (Str × Nat)} {p pos gpos : Pos} {wi : TI} {g : TG} {tt : TT} {te : TE} {k : Nat}
    (hr : Room k X.A) (hc : X.calm = true) (hgl : Gl X "sum") (hm : X.mg "sum" = none) (TB : GxR.TabB X.base X.mg c P) (hcode : X.env.code = .ref c) (ok : GnOk X.N X.env.scope scope own) (hN : X.N.Nodup) (hi : PI X tg iter wi)
    (hg : ∀ (s : Shared) (H : Hp) (C : Addr) (code : Value) (fp : List Addr) (pn : List (Addr × Obj)), PG (genCx X s H (gEnv X scope C code) fp pn) tg g)
    (ht : ∀ (s : Shared) (H : Hp) (C : Addr) (code : Value) (fp : List Addr) (pn : List (Addr × Obj)), PTs (genCx X s H (gEnv X scope C code) fp pn) ifs tt)
    (hel : ∀ (s : Shared) (H : Hp) (C : Addr) (code : Value) (fp : List Addr) (pn : List (Addr × Obj)), PE (genCx X s H (gEnv X scope C code) fp pn) elt te)
    (hs : ∀ v, genFold iter X.env v = pure v)
    (he : starEach [.GeneratorExp elt [⟨tg, iter, ifs, 0⟩] scope gpos] X.env = (false, eval (.GeneratorExp elt [⟨tg, iter, ifs, 0⟩] scope gpos) X.env) :: starEach [] X.env := by rfl) :
    PE X (.Call (.Name "sum" p) [.GeneratorExp elt [⟨tg, iter, ifs, 0⟩] scope gpos] [] pos) (tSumG P wi g tt te (own.map (·.2))) := by
  refine ⟨fun pins s σ H Q I h => ?_⟩
  refine wpAny_Call_Name_kw (ld_blt I hgl hm boot_sum ?_)
  refine PyProof.Rows.callWith_builtin1 ?_ he (by rfl)
  rw [he]
  show wpAny _ _ (spliced ((false, eval (.GeneratorExp elt [⟨tg, iter, ifs, 0⟩] scope gpos) X.env) :: backTo pos (starEach [] X.env))) _ _ s
  refine Calls.spliced_cons (gen_make hr hc TB hcode ok hN hi hs I h fun J H1 H2 it fp tn s4 code a gn nm qn s5 hR hT M => ?_)
  obtain ⟨W, ⟨m0, w0⟩, turn⟩ := hR H2 hT
  refine Calls.spliced_nil ?_
  have hpn := M.I5.pin (a, _) (List.mem_append_left _ List.mem_cons_self)
  refine call_function_tree F.kind_sum F.plain_sum F.entry_sum (F.args_sum1 _) ?_
  unfold Builtin.«sum»
  simp only [List.length_cons, List.length_nil]
  rw [if_neg (by decide)]
  refine wpAny_bind (wpAny_of_eq (show Builtin.Builtins.bindParams "sum" ["start"] 0 { } = pure [none] from rfl) ?_)
  refine wpAny_bind (wpAny_pyIter_gen (g := gn) ⟨_, nm, qn, hpn.1, rfl, rfl, rfl⟩ ?_)
  refine wpAny_bind (wpAny_mkInt ?_)
  refine wpAny_bind (wpAny_pure ?_)
  simp only [List.forIn_cons, List.forIn_nil]
  refine wpAny_bind (wpAny_bind (wpAny_bind (wpAny_isInstance (T := "int") (b := false) (typeIs_int _ _ _) PySem.sub_int_str ?_)))
  simp only [Bool.false_eq_true, if_false]
  refine wpAny_pure (wpAny_bind (wpAny_bind (wpAny_isInstance (T := "int") (b := false) (typeIs_int _ _ _) PySem.sub_int_bytes ?_)))
  simp only [Bool.false_eq_true, if_false]
  refine wpAny_pure (wpAny_bind (wpAny_bind (wpAny_isInstance (T := "int") (b := false) (typeIs_int _ _ _) PySem.sub_int_bytearray ?_)))
  simp only [Bool.false_eq_true, if_false]
  refine wpAny_pure (wpAny_pure ?_)
  refine wpAny_bind (wpAny_newObj_type ?_)
  have hSlt : ∀ b ∈ fp, b ∉ [s5.heap.objs.size] := fun b hb z => by
    have e : b = s5.heap.objs.size := by simpa using z
    have h1 : (b : Nat) < s4.heap.objs.size := (M.st b hb).2
    have h2 : (s4.heap.objs.size : Nat) < a := M.ha
    have h3 := M.sz
    have h4 : (s5.heap.objs.size : Nat) < s4.heap.objs.size := by rw [← e]; exact h1
    omega
  have K := M.ok (α := Int) (AccAt := fun s acc => ∃ t c, s.heap.get? s5.heap.objs.size = some (accObj acc t c)) (Sx := [s5.heap.objs.size]) (W := W) (Cns := fun acc y H4 N => ∃ z, y = .int z ∧ N (acc + z) H4) (Qs := fun acc H => Q (.int acc) H) ok.co (hg s4 H2 _ code fp _) (ht s4 H2 _ code fp _) (hel s4 H2 _ code fp _)
    (fun s x y hx hy => by
      obtain ⟨t, c, e⟩ := hx
      obtain ⟨t', c', e'⟩ := hy
      rw [e] at e'
      have z := congrArg Obj.data (Option.some.inj e')
      injection z with z1 _
      have z2 := congrArg Array.toList z1
      injection z2 with z3 _
      injection z3) hSlt turn
  have apt : Apt (genCx X s4 H2 (gEnv X scope s4.heap.objs.size code) fp [(a, { cls := .type "generator", data := .fields #[.int gn 0, nm, qn] })]) s5.heap.objs.size := by
    have h2 := M.ha
    have h3 := M.sz
    refine ⟨?_, ?_, fun x c e z => ?_, fun p hp => ?_⟩
    · show s4.heap.objs.size ≤ s5.heap.objs.size
      omega
    · show s5.heap.objs.size ≠ s4.heap.objs.size
      omega
    · obtain ⟨v, q⟩ := M.I5.cell x c e
      exact absurd q.lt (by rw [z]; exact Nat.lt_irrefl _)
    · have e : p.1 = a := by
        have e2 := List.mem_singleton.mp hp
        rw [e2]
      rw [e]
      intro z
      have h4 : (s5.heap.objs.size : Nat) = s5.heap.objs.size + 1 := by rw [← z]; exact z ▸ h3
      omega
  have J6 := (M.I5.kept (h' := s5.heap.push (accObj 0 s5.toks 0)) (t' := s5.toks + 1) fun b o e => Heap.get?_push_of_some _ e)
  have eS : (s5.heap.push (accObj 0 s5.toks 0)).get? s5.heap.objs.size = some (accObj 0 s5.toks 0) := Heap.get?_push_size _ rfl
  have J7 : Inv _ [(s5.heap.objs.size, accObj 0 s5.toks 0)] _ _ _ := J6.pins_of fun p hp => by
    have e : p = (s5.heap.objs.size, accObj 0 s5.toks 0) := by simpa using hp
    subst e
    exact ⟨eS, M.I5.hok.fresh (Nat.le_refl _), apt.nl, M.I5.nofs (Nat.le_refl _), fun v z => by cases z⟩
  refine wpAny_pure ⟨plainId_quiet F.plain_sum_loop _, sum_loop _ (A := X.A) (a := a) (g := gn) (nm := nm) (qn := qn) K hr.hd hr.depth List.mem_cons_self rfl apt (fun _ _ => Iff.rfl) (fun acc y H N z => z) ?_ (m0 + 1) 0 H2 (fun acc H => W acc 0 m0 H) _ 0 0 s5.toks 0 (.inl rfl) eS ⟨J7, M.T.keep _ _ _ M.tn0 fun b _ o e => Heap.get?_push_of_some _ e, fun b hb => (M.st b hb).1.1⟩ w0 (M.slp K m0 rfl)⟩
  intro acc H' s' t I' q
  exact ⟨.int acc, H', M.back I', ⟨t, rfl⟩, q⟩
end
end Gx
set_option Elab.async false
set_option linter.all false
set_option maxRecDepth 100000
set_option maxHeartbeats 4000000
/-! enumerate and zip of lists and tuples in any mix, for PI -/
namespace Gi
open PySem PySem.Spec PyProof.Rows L2
open Sem (wp)

def SqB (K : PySem.W.Frag) (H : Hp) (b : Bool) (a : Addr) (xs : List V) : Prop := if b = true then SqT K H a xs else SqL K H a xs
def ItB (h : Heap) (b : Bool) (it a : Addr) (i : Nat) : Prop := if b = true then h.IsTupleIter it a i else h.IsListIter it a i
def HsB (h : Heap) (b : Bool) (a : Addr) (items : Array Value) : Prop := if b = true then h.IsTuple a items else h.IsList a items
def obB (b : Bool) (a : Addr) : Obj := if b = true then { cls := .type "tuple_iterator", data := .fields #[.ref a, .int 0 0] } else { cls := .type "list_iterator", data := .fields #[.ref a, .int 0 0] }
theorem ItB.at {h h' : Heap} {b : Bool} {it a : Addr} {i : Nat} (x : ItB h b it a i) (k : ∀ o, h.get? it = some o → h'.get? it = some o) : ItB h' b it a i := by
  cases b with
  | true => exact (show h.IsTupleIter it a i from x).at k
  | false => exact (show h.IsListIter it a i from x).at k
theorem ItB.obj {h : Heap} {b : Bool} {it a : Addr} {i : Nat} (x : ItB h b it a i) : ∃ o, h.get? it = some o ∧ ∀ v, o.data ≠ .cell v := by
  cases b with
  | true => obtain ⟨o, e, c, d⟩ := (show h.IsTupleIter it a i from x); exact ⟨o, e, fun v z => by rw [d] at z; cases z⟩
  | false => obtain ⟨o, e, c, d⟩ := (show h.IsListIter it a i from x); exact ⟨o, e, fun v z => by rw [d] at z; cases z⟩
theorem HsB.at {h h' : Heap} {b : Bool} {a : Addr} {items : Array Value} (x : HsB h b a items) (k : ∀ o, h.get? a = some o → h'.get? a = some o) : HsB h' b a items := by
  cases b with
  | true => exact (show h.IsTuple a items from x).at k
  | false => exact (show h.IsList a items from x).at k
theorem HsB.lt {h : Heap} {b : Bool} {a : Addr} {items : Array Value} (x : HsB h b a items) : a < h.objs.size := by
  cases b with
  | true => obtain ⟨o, e, _⟩ := (show h.IsTuple a items from x); exact Heap.lt_size e
  | false => obtain ⟨o, e, _⟩ := (show h.IsList a items from x); exact Heap.lt_size e
theorem itB_new {h : Heap} {b : Bool} {it a : Addr} (e : h.get? it = some (obB b a)) : ItB h b it a 0 := by
  cases b with
  | true => exact (show h.IsTupleIter it a 0 from ⟨_, e, rfl, rfl⟩)
  | false => exact (show h.IsListIter it a 0 from ⟨_, e, rfl, rfl⟩)
theorem beginsB (b : Bool) (a : Addr) (items : Array Value) : Begins (.ref a) (obB b a) fun h => HsB h b a items := by
  cases b with
  | true => exact begins_tuple a items
  | false => exact begins_list a items
theorem drawsB {prog : Program} {w : World} {A : Around} (hh : A.handled = none) (b : Bool) (it l : Addr) (hne : l ≠ it) (items : Array Value) :
    Draws prog w A it [it, l] items.size (fun i v => items[i]? = some v) (fun i h => ItB h b it l i ∧ HsB h b l items) := by
  cases b with
  | true => exact Draws.tuple hh it l hne items
  | false => exact Draws.list hh it l hne items
section
variable {X : Cx} {pins : List (Addr × Obj)} {σ : L2.St} {H : Hp} {s : Shared} {a : Addr} {xs ys : List V} {b : Bool}
theorem inv_seqB (I : Inv X pins σ H s) (h : SqB X.K H b a xs) : ∃ its : List Value, Vals xs its ∧ HsB s.heap b a its.toArray := by
  cases b with
  | true => obtain ⟨its, r, p, _⟩ := I.tuple (show SqT X.K H a xs from h); exact ⟨its, r, p⟩
  | false => obtain ⟨its, r, p, _⟩ := I.list (show SqL X.K H a xs from h); exact ⟨its, r, p.isList⟩
theorem inv_seqB_inj (I : Inv X pins σ H s) (h : SqB X.K H b a xs) (h' : SqB X.K H b a ys) : xs = ys := by
  cases b with
  | true => exact I.tuple_inj (show SqT X.K H a xs from h) h'
  | false => exact I.list_inj (show SqL X.K H a xs from h) h'
end

/-! ### enumerate -/
def IteB (K : PySem.W.Frag) (b : Bool) (a : Addr) : It :=
  ⟨fun i H => ∃ (xs : List V) (x : V), SqB K H b a xs ∧ xs[i]? = some x, fun i H v H' => ∃ T x, v = .ref T ∧ H T = none ∧ H' = upd H T (.tup [.int (i : Nat), x]) ∧ ∀ xs, SqB K H b a xs → xs[i]? = some x, fun i H => ∃ xs : List V, SqB K H b a xs ∧ xs.length = i⟩
theorem turn_enumB {P : Program} {w : World} {K : PySem.W.Frag} {elts : List Expr} {kk : Nat} {tpos : Pos} (b : Bool) (a e it : Addr) :
    Turn P w K (.Tuple elts kk tpos) (IteB K b a) [e, it] e (fun i h => (∃ old, IsEnum h e it ((i : Nat) : Int) old) ∧ ItB h b it a i ∧ e ≠ it ∧ a ≠ it ∧ e ≠ a) where
  mem := by simp
  obj := fun i h st c hb => by
    obtain ⟨⟨old, he⟩, hi, _⟩ := st
    have e' : c = e ∨ c = it := by simpa using hb
    rcases e' with z | z
    · rw [z]; exact ⟨_, he, fun v q => nomatch q⟩
    · rw [z]; exact hi.obj
  keep := fun i h h' st k => let ⟨⟨old, he⟩, hi, hne⟩ := st; ⟨⟨old, k e (by simp) _ he⟩, hi.at fun o q => k it (by simp) o q, hne⟩
  item := by
    intro X hP hw hK hc i pins s σ H E I hf st hg
    subst hP hw hK
    obtain ⟨⟨old, he⟩, hit, hne, hne2, hne3⟩ := st
    obtain ⟨xs, x, hq, hx⟩ := hg
    obtain ⟨its, rv, p⟩ := inv_seqB I hq
    obtain ⟨u, hu, ru⟩ := rv.get hx
    have hel : e < s.heap.objs.size := Heap.lt_size he
    have hil : it < s.heap.objs.size := by obtain ⟨_, q, _⟩ := hit.obj; exact Heap.lt_size q
    have hlt : i < its.toArray.size := by
      have := (List.getElem?_eq_some_iff.mp hu).1
      simpa using this
    refine wpAny_pyNext_enum_itemD (drawsB (A := X.A.in1) (I.ok.hd hc) b it a hne2 its.toArray) he ⟨hit, p⟩ hlt hne (by simp [hne, hne3]) fun x' h' tk hx' ho hst' hT hsz hk => ?_
    have ex : x' = u := by
      have hx'' : its.toArray[i]? = some x' := hx'
      rw [List.getElem?_toArray, hu] at hx''
      exact (Option.some.inj hx'').symm
    subst ex
    refine ⟨_, rfl, wpAny_letOwnedTupleGo_enum (s := { s with heap := h', toks := tk + 1 }) ho fun h'' he' sb => ?_⟩
    have hT2 : h''.get? s.heap.objs.size = some { cls := .type "tuple", data := .seq #[.int i tk, x'] } := (sb.2 _ (Nat.ne_of_gt hel)).trans hT
    have new : ObjOk X.prog X.w (upd H s.heap.objs.size (.tup [.int (i : Nat), x])) h'' s.heap.objs.size (.tup [.int (i : Nat), x]) :=
      ⟨by show 2 ≤ sizeLine; decide, [.int i tk, x'], .cons ⟨_, rfl⟩ (.cons ru .nil), ⟨_, hT2, rfl, _, rfl⟩⟩
    have I1 : Inv X pins σ (upd H s.heap.objs.size (.tup [.int (i : Nat), x])) { s with heap := h'', toks := tk + 1 } :=
      I.turnedNew (ch := [e, it]) (fun c ob hb q => (sb.2 c (fun z => hb (by simp [z]))).trans (hk c ob (fun z => hb (by simp [z])) (fun z => hb (by simp [z])) q)) hf (Nat.le_refl _) new
    refine ⟨.ref s.heap.objs.size, _, I1, rfl, ⟨_, x, rfl, I.hok.fresh (Nat.le_refl _), rfl, fun ys hy => by rw [inv_seqB_inj I hy hq]; exact hx⟩, ⟨⟨x', ?_⟩, hst'.1.at fun o q => (sb.2 it (Ne.symm hne)).trans q, hne, hne2, hne3⟩, fun c hb => ?_⟩
    · have e1 : ((i + 1 : Nat) : Int) = (i : Int) + 1 := by omega
      rw [e1]; exact he'
    · have hb' : c < s.heap.objs.size := by
        have e' : c = e ∨ c = it := by simpa using hb
        rcases e' with z | z
        · rw [z]; exact hel
        · rw [z]; exact hil
      rw [upd_ne (Nat.ne_of_lt hb')]
      exact (hf c hb).1
  done := by
    intro X hP hw hK hc i pins s σ H E I hf st hg
    subst hP hw hK
    obtain ⟨⟨old, he⟩, hit, hne, hne2, hne3⟩ := st
    obtain ⟨xs, hq, hx⟩ := hg
    obtain ⟨its, rv, p⟩ := inv_seqB I hq
    obtain ⟨f0, f1, f2, f3, f4, f5⟩ := hf it (by simp)
    have hl := rv.length
    have hi : i = its.toArray.size := by simp only [List.size_toArray]; omega
    exact wpAny_pyNext_enum_endD (drawsB (A := X.A.in1) (I.ok.hd hc) b it a hne2 its.toArray) he ⟨by rw [← hi]; exact hit, p⟩ fun h' eb => ⟨rfl, I.turned (t' := s.toks) (fun b o hb q => eb b o hb q) f0 f1 f3 f4 f5⟩
  self := fun A i s Q E st h => let ⟨⟨_, he⟩, _⟩ := st; wpAny_pyIter_enum he h

set_option maxHeartbeats 1000000 in
theorem meets_enumerate_newB1 {v : Value} {o : Obj} {H : Heap → Prop} (B : Begins v o H) :
    Meets (Builtin.«enumerate.__new__» ⟨[.type "enumerate", v], []⟩) (fun _ R s => H s.heap ∧
      R (.ok (.ret (.ref (s.heap.push o).objs.size))) { s with heap := (s.heap.push o).push { cls := .type "enumerate", data := .fields #[.none, .bool false, .ref s.heap.objs.size, rawInt 0, .none, .none] } }) :=
  .of_wp fun prog w A R s h => by
    obtain ⟨hp, g, d, tk, os⟩ := s; obtain ⟨h1, h⟩ := h
    have hsub := sub_enumerate
    have q1 : ∀ {A' : Around} {E : Value → Shared → Prop} {Q : Value → Shared → Prop}, Q (.ref hp.objs.size) ⟨hp.push o, g, d, tk, os⟩ → wpAny (model prog w) A' (pyIter v) Q E ⟨hp, g, d, tk, os⟩ :=
      fun q => B.iter prog w _ _ ⟨hp, g, d, tk, os⟩ _ h1 q
    wp_walk using q1
    refine wpAny_stack_any fun st => wpAny_pure ?_
    split
    · rename_i c _ _ _ _ _
      cases (c == Value.type "enumerate")
      · wp_walk using q1
        exact ⟨_, rfl, h⟩
      · wp_walk using q1
        exact ⟨_, rfl, h⟩
    · wp_walk using q1
      exact ⟨_, rfl, h⟩
section
variable {prog : Program} {w : World} {A : Around} {E : Value → Shared → Prop} {s : Shared}
theorem enum_begins1 {v : Value} {o : Obj} {H : Heap → Prop} {Q : Value → Shared → Prop} (B : Begins v o H) (h1 : H s.heap)
    (h : ∀ h', IsEnum h' (s.heap.objs.size + 1) s.heap.objs.size 0 .none → h'.get? s.heap.objs.size = some o → h'.objs.size = s.heap.objs.size + 2 →
      (∀ b o, s.heap.get? b = some o → h'.get? b = some o) → Q (.ref (s.heap.objs.size + 1)) { s with heap := h' }) :
    wpAny (model prog w) A (call (.type "enumerate") [v]) Q E s := by
  refine callType_new F.called_enumerate (by decide) (F.typeCall_enumerate_1 _) (F.newCall_enumerate_1 _) (fun obj => F.args_object_init_2 obj _) F.entry_enumerate_new
    (meets_enumerate_newB1 B) ⟨h1, ?_⟩
  have hz : (s.heap.push o).objs.size = s.heap.objs.size + 1 := Heap.size_push ..
  show _ ∧ _
  rw [hz]
  have he : IsEnum ((s.heap.push o).push { cls := .type "enumerate", data := .fields #[.none, .bool false, .ref s.heap.objs.size, rawInt 0, .none, .none] }) (s.heap.objs.size + 1) s.heap.objs.size 0 .none := by
    have := Heap.get?_push_size (s.heap.push o) (o := { cls := .type "enumerate", data := .fields #[.none, .bool false, .ref s.heap.objs.size, rawInt 0, .none, .none] }) rfl
    rw [hz] at this; exact this
  refine ⟨⟨_, he, rfl⟩, h _ he (Heap.get?_push_of_some _ (Heap.get?_push_size _ B.free)) (by rw [Heap.size_push, hz]) fun b o x => Heap.get?_push_of_some _ (Heap.get?_push_of_some _ x)⟩
end
def iEnumB (K : PySem.W.Frag) (ta : TA) : TI := fun σ H R => ta σ H fun vs H1 => ∃ b a xs, vs = [.ref a] ∧ SqB K H1 b a xs ∧ R (IteB K b a) H1
theorem pi_enumB {X : Cx} {e : Expr} {ta : TA} {p pos tpos : Pos} {elts : List Expr} {kk : Nat} (hg : Gl X "enumerate") (hm : X.mg "enumerate" = none) (ha : PA X [e] ta) (hs : starEach [e] X.env = [(false, eval e X.env)] := by rfl) :
    PI X (.Tuple elts kk tpos) (.Call (.Name "enumerate" p) [e] [] pos) (iEnumB X.K ta) := by
  refine ⟨fun pins s σ H R I h => ?_⟩
  refine Call_ (ld_blt I hg hm boot_enumerate (PyProof.Rows.callWith_type1 (thn (ha.run pos pins s σ H _ I h) fun us s1 ⟨vs, H1, I1, r1, q1⟩ => ?_) hs rfl))
  obtain ⟨b, a, xs, ex, hq, q⟩ := q1
  subst ex
  cases r1 with
  | cons r rr =>
    cases rr
    cases r
    obtain ⟨its, rv, p'⟩ := inv_seqB I1 hq
    refine enum_begins1 (beginsB b a its.toArray) p' fun h' he hit hsz hk => wpAny_pyIter_enum he ?_
    have I2 : Inv X pins σ H1 { s1 with heap := h' } := I1.kept (t' := s1.toks) hk
    have hal := p'.lt
    refine ⟨s1.heap.objs.size + 1, [s1.heap.objs.size + 1, s1.heap.objs.size], _, _, H1, rfl, I2, turn_enumB b a (s1.heap.objs.size + 1) s1.heap.objs.size, ⟨⟨.none, he⟩, itB_new hit, Nat.succ_ne_self _, Nat.ne_of_lt hal, Nat.ne_of_gt (Nat.lt_succ_of_lt hal)⟩, fun c hb => ?_, q⟩
    have e' : c = s1.heap.objs.size + 1 ∨ c = s1.heap.objs.size := by simpa using hb
    have hle : s1.heap.objs.size ≤ c := by
      rcases e' with z | z
      · rw [z]; exact Nat.le_add_right _ _
      · rw [z]; exact Nat.le_refl _
    exact I1.fpOk hle (I1.hok.fresh hle)

/-! ### zip of two -/
def ItzB (K : PySem.W.Frag) (b1 b2 : Bool) (a b : Addr) : It :=
  ⟨fun i H => ∃ (xs ys : List V) (x y : V), SqB K H b1 a xs ∧ SqB K H b2 b ys ∧ xs[i]? = some x ∧ ys[i]? = some y,
    fun i H v H' => ∃ T x y, v = .ref T ∧ H T = none ∧ H' = upd H T (.tup [x, y]) ∧ (∀ xs, SqB K H b1 a xs → xs[i]? = some x) ∧ ∀ ys, SqB K H b2 b ys → ys[i]? = some y,
    fun i H => ∃ xs ys : List V, SqB K H b1 a xs ∧ SqB K H b2 b ys ∧ i ≤ xs.length ∧ i ≤ ys.length ∧ (i = xs.length ∨ i = ys.length)⟩
theorem turn_zipB {P : Program} {w : World} {K : PySem.W.Frag} {elts : List Expr} {kk : Nat} {tpos : Pos} {b1 b2 : Bool} {a b z TI TO i1 i2 : Addr} (S : ZipSep2 z TI TO i1 i2 [i1, a] [i2, b]) (n1 : a ≠ i1) (n2 : b ≠ i2) :
    Turn P w K (.Tuple elts kk tpos) (ItzB K b1 b2 a b) [z, TI, TO, i1, i2] z (fun i h => IsZip h z TI TO .none ∧ IsPair h TI (.ref i1) (.ref i2) ∧ (∃ x y, IsPair h TO x y) ∧ ItB h b1 i1 a i ∧ ItB h b2 i2 b i) where
  mem := by simp
  obj := fun i h st c hc => by
    obtain ⟨hz, hTI, ⟨x, y, hTO⟩, h1, h2⟩ := st
    have e' : c = z ∨ c = TI ∨ c = TO ∨ c = i1 ∨ c = i2 := by simpa using hc
    rcases e' with q | q | q | q | q
    · rw [q]; exact ⟨_, hz, fun v q => nomatch q⟩
    · rw [q]; exact ⟨_, hTI, fun v q => nomatch q⟩
    · rw [q]; exact ⟨_, hTO, fun v q => nomatch q⟩
    · rw [q]; exact h1.obj
    · rw [q]; exact h2.obj
  keep := fun i h h' st k => by
    obtain ⟨hz, hTI, ⟨x, y, hTO⟩, h1, h2⟩ := st
    exact ⟨k z (by simp) _ hz, k TI (by simp) _ hTI, ⟨x, y, k TO (by simp) _ hTO⟩, h1.at fun o q => k i1 (by simp) o q, h2.at fun o q => k i2 (by simp) o q⟩
  item := by
    intro X hP hw hK hc i pins s σ H E I hf st hg
    subst hP hw hK
    obtain ⟨hz, hTI, ⟨x0, y0, hTO⟩, h1, h2⟩ := st
    obtain ⟨xs, ys, x, y, hqx, hqy, hx, hy⟩ := hg
    obtain ⟨its, rv, p⟩ := inv_seqB I hqx
    obtain ⟨its2, rv2, p2⟩ := inv_seqB I hqy
    obtain ⟨u, hu, ru⟩ := rv.get hx
    obtain ⟨u2, hu2, ru2⟩ := rv2.get hy
    have hzl : z < s.heap.objs.size := Heap.lt_size hz
    have lt1 : i < its.toArray.size := by simpa using (List.getElem?_eq_some_iff.mp hu).1
    have lt2 : i < its2.toArray.size := by simpa using (List.getElem?_eq_some_iff.mp hu2).1
    refine wpAny_pyNext_zipD2_item S (drawsB (A := X.A.in1) (I.ok.hd hc) b1 i1 a n1 its.toArray) (drawsB (A := X.A.in1) (I.ok.hd hc) b2 i2 b n2 its2.toArray) hz hTI hTO ⟨h1, p⟩ ⟨h2, p2⟩ lt1 lt2 fun v1 v2 h' tk e1 e2 z' TO' h1' h2' hT hsz hk => ?_
    have ev1 : v1 = u := by
      have e1' : its.toArray[i]? = some v1 := e1
      rw [List.getElem?_toArray, hu] at e1'; exact (Option.some.inj e1').symm
    have ev2 : v2 = u2 := by
      have e2' : its2.toArray[i]? = some v2 := e2
      rw [List.getElem?_toArray, hu2] at e2'; exact (Option.some.inj e2').symm
    subst ev1 ev2
    refine ⟨_, rfl, wpAny_letOwnedTupleGo_zip (s := { s with heap := h', toks := tk }) z' fun h'' z'' sb => ?_⟩
    have hT2 : h''.get? s.heap.objs.size = some { cls := .type "tuple", data := .seq #[v1, v2] } := (sb.2 _ (Nat.ne_of_gt hzl)).trans hT
    have new : ObjOk X.prog X.w (upd H s.heap.objs.size (.tup [x, y])) h'' s.heap.objs.size (.tup [x, y]) :=
      ⟨by show 2 ≤ sizeLine; decide, [v1, v2], .cons ru (.cons ru2 .nil), ⟨_, hT2, rfl, _, rfl⟩⟩
    have I1 : Inv X pins σ (upd H s.heap.objs.size (.tup [x, y])) { s with heap := h'', toks := tk } :=
      I.turnedNew (ch := [z, TI, TO, i1, i2]) (fun c o hb q => (sb.2 c (fun q' => hb (by simp [q']))).trans (hk c o (fun q' => hb (by simp [q'])) (fun q' => hb (by simp [q'])) (fun q' => hb (by simp [q'])) (fun q' => hb (by simp [q'])) q)) hf (Nat.le_refl _) new
    refine ⟨.ref s.heap.objs.size, _, I1, rfl, ⟨_, x, y, rfl, I.hok.fresh (Nat.le_refl _), rfl, fun l hl => by rw [inv_seqB_inj I hl hqx]; exact hx, fun l hl => by rw [inv_seqB_inj I hl hqy]; exact hy⟩, ⟨z'', ?_, ⟨v1, v2, ?_⟩, ?_, ?_⟩, fun c hcm => ?_⟩
    · exact (sb.2 _ S.TIz).trans (hk _ _ S.TIz S.TITO S.TIi1 S.TIi2 hTI)
    · exact (sb.2 _ S.TOz).trans TO'
    · exact h1'.1.at fun o q => (sb.2 _ (Ne.symm S.zi1)).trans q
    · exact h2'.1.at fun o q => (sb.2 _ (Ne.symm S.zi2)).trans q
    · have hlt : c < s.heap.objs.size := by
        have e' : c = z ∨ c = TI ∨ c = TO ∨ c = i1 ∨ c = i2 := by simpa using hcm
        rcases e' with q | q | q | q | q
        · rw [q]; exact hzl
        · rw [q]; exact Heap.lt_size hTI
        · rw [q]; exact Heap.lt_size hTO
        · rw [q]; obtain ⟨_, e1, _⟩ := h1.obj; exact Heap.lt_size e1
        · rw [q]; obtain ⟨_, e2, _⟩ := h2.obj; exact Heap.lt_size e2
      rw [upd_ne (Nat.ne_of_lt hlt)]
      exact (hf c hcm).1
  done := by
    intro X hP hw hK hc i pins s σ H E I hf st hg
    subst hP hw hK
    obtain ⟨hz, hTI, ⟨x0, y0, hTO⟩, h1, h2⟩ := st
    obtain ⟨xs, ys, hqx, hqy, hle1, hle2, hend⟩ := hg
    obtain ⟨its, rv, p⟩ := inv_seqB I hqx
    obtain ⟨its2, rv2, p2⟩ := inv_seqB I hqy
    have l1 := rv.length
    have l2 := rv2.length
    refine wpAny_pyNext_zipD2_end S (drawsB (A := X.A.in1) (I.ok.hd hc) b1 i1 a n1 its.toArray) (drawsB (A := X.A.in1) (I.ok.hd hc) b2 i2 b n2 its2.toArray) hz hTI hTO ⟨h1, p⟩ ⟨h2, p2⟩ (by simp only [List.size_toArray]; omega) (by simp only [List.size_toArray]; omega) (by simp only [List.size_toArray]; omega) fun h' tk hk => ⟨rfl, ?_⟩
    exact I.turnedL (t' := tk) (ch := [z, TI, TO, i1, i2]) (fun c o hb q => hk c o (fun q' => hb (by simp [q'])) (fun q' => hb (by simp [q'])) (fun q' => hb (by simp [q'])) (fun q' => hb (by simp [q'])) q) hf
  self := fun A i s Q E st h => wpAny_pyIter_zip st.1 h
def iZipB (K : PySem.W.Frag) (ta : TA) : TI := fun σ H R => ta σ H fun vs H1 => ∃ b1 b2 a b xs ys, vs = [.ref a, .ref b] ∧ SqB K H1 b1 a xs ∧ SqB K H1 b2 b ys ∧ R (ItzB K b1 b2 a b) H1
theorem pi_zipB {X : Cx} {e e2 : Expr} {ta : TA} {p pos tpos : Pos} {elts : List Expr} {kk : Nat} (hg : Gl X "zip") (hm : X.mg "zip" = none) (ha : PA X [e, e2] ta)
    (hs : starEach [e, e2] X.env = (false, eval e X.env) :: starEach [e2] X.env := by rfl) (hpl : (backTo pos (starEach [e2] X.env)).any (·.1) = false := by rfl) :
    PI X (.Tuple elts kk tpos) (.Call (.Name "zip" p) [e, e2] [] pos) (iZipB X.K ta) := by
  refine ⟨fun pins s σ H R I h => ?_⟩
  refine Call_ (ld_blt I hg hm PyProof.Rows.boot_zip (PyProof.Rows.callWith_type1 (thn (ha.run pos pins s σ H _ I h) fun us s1 ⟨vs, H1, I1, r1, q1⟩ => ?_) hs hpl))
  obtain ⟨b1, b2, a, b, xs, ys, ex, hqx, hqy, q⟩ := q1
  subst ex
  cases r1 with
  | cons r rr =>
    cases rr with
    | cons r' rr =>
      cases rr
      cases r
      cases r'
      obtain ⟨its, rv, p1⟩ := inv_seqB I1 hqx
      obtain ⟨its2, rv2, p2⟩ := inv_seqB I1 hqy
      have la := p1.lt
      have lb := p2.lt
      refine zip_begins2 (beginsB b1 a its.toArray) (beginsB b2 b its2.toArray) p1 p2 fun h' hz hTI hTO h1 h2 hsz hk => wpAny_pyIter_zip hz ?_
      have I2 : Inv X pins σ H1 { s1 with heap := h' } := I1.kept (t' := s1.toks) hk
      have Sp : ZipSep2 (s1.heap.objs.size + 4) (s1.heap.objs.size + 2) (s1.heap.objs.size + 3) s1.heap.objs.size (s1.heap.objs.size + 1) [s1.heap.objs.size, a] [s1.heap.objs.size + 1, b] :=
        zip_sep2 (fp1 := [a]) (fp2 := [b]) (fun c hc => by rw [List.mem_singleton.mp hc]; exact la) (fun c hc => by rw [List.mem_singleton.mp hc]; exact lb)
      refine ⟨s1.heap.objs.size + 4, [s1.heap.objs.size + 4, s1.heap.objs.size + 2, s1.heap.objs.size + 3, s1.heap.objs.size, s1.heap.objs.size + 1], _, _, H1, rfl, I2, turn_zipB Sp (Nat.ne_of_lt la) (Nat.ne_of_lt (Nat.lt_succ_of_lt lb)), ⟨hz, hTI, ⟨_, _, hTO⟩, itB_new h1, itB_new h2⟩, fun c hcm => ?_, q⟩
      have e' : c = s1.heap.objs.size + 4 ∨ c = s1.heap.objs.size + 2 ∨ c = s1.heap.objs.size + 3 ∨ c = s1.heap.objs.size ∨ c = s1.heap.objs.size + 1 := by simpa using hcm
      have hle : s1.heap.objs.size ≤ c := by
        rcases e' with z | z | z | z | z
        · rw [z]; exact Nat.le_add_right _ _
        · rw [z]; exact Nat.le_add_right _ _
        · rw [z]; exact Nat.le_add_right _ _
        · rw [z]; exact Nat.le_refl _
        · rw [z]; exact Nat.le_add_right _ _
      exact I1.fpOk hle (I1.hok.fresh hle)
end Gi
set_option Elab.async false
set_option linter.all false
set_option maxRecDepth 100000
set_option maxHeartbeats 4000000
/-! the ghost layer: locals hold pure data, no heap in sight -/
namespace Gh
open PySem PySem.Spec PyProof.Rows L2

structure Kit where
  P : Program
  w : World
  K : PySem.W.Frag
  mg : Str → Option Value
  base : Heap
  T : List Addr
structure RowS where
  r : Addr
  sa : Addr
  ns : List Int
  i : Int
  sd : Int
  rs : Int
inductive SV where
  | non | dat (d : PyData) | mu (m : Addr) (ds : List PyData) | row
structure GS where
  env : List SV
  row : Option RowS
def GS.set (g : GS) (i : Nat) (x : SV) : GS := { g with env := g.env.set i x }
def rowV (ρ : RowS) : List V := [.ref ρ.sa, .int ρ.i, .int ρ.sd, .int ρ.rs]

def Ex (H H' : Hp) : Prop := ∀ a o, H a = some o → H' a = some o
def View (H : Hp) : Prop := ∀ a ps, H a ≠ some (.tbl ps)
def Tabs (T : List Addr) (H : Hp) : Prop := ∀ P ∈ T, GxR.TabG H P
def ExT (R : Option Addr) (H H' : Hp) : Prop := ∀ a o, H a = some o → (∀ ps, o ≠ .tbl ps) → R ≠ some a → H' a = some o
def Frsh (H0 H H0' : Hp) : Prop := ∀ a o, H0' a = some o → H0 a = some o ∨ H a = none
theorem Ex.refl (H : Hp) : Ex H H := fun _ _ h => h
theorem Ex.trans {H H1 H2 : Hp} (a : Ex H H1) (b : Ex H1 H2) : Ex H H2 := fun x o h => b x o (a x o h)
theorem Ex.upd {H : Hp} {p : Addr} {o : HO} (h : H p = none) : Ex H (L2.upd H p o) := fun a u e => by
  rw [upd_ne (ne_of_none e h)]; exact e
theorem Ex.none {H H' : Hp} (e : Ex H H') {p : Addr} (h : H' p = none) : H p = none := by
  cases q : H p with
  | none => rfl
  | some o => rw [e p o q] at h; cases h
theorem Ex.seqL {K : PySem.W.Frag} {H H' : Hp} {a : Addr} {xs : List V} (e : Ex H H') (h : SqL K H a xs) : SqL K H' a xs := by
  rcases h with (h | ⟨o, h⟩) | h
  · exact .inl (.inl (e _ _ h))
  · exact .inl (.inr ⟨o, e _ _ h⟩)
  · exact .inr h
theorem Ex.seqT {K : PySem.W.Frag} {H H' : Hp} {a : Addr} {xs : List V} (e : Ex H H') (h : SqT K H a xs) : SqT K H' a xs := by
  rcases h with (h | ⟨o, h⟩) | h
  · exact .inl (.inl (e _ _ h))
  · exact .inl (.inr ⟨o, e _ _ h⟩)
  · exact .inr h
/-! a value v that is data d, all its lists and tuples tracked -/
mutual
inductive Dq (H : Hp) : V → PyData → Prop
  | non : Dq H .non .none
  | bl (b : Bool) : Dq H (.bl b) (.bool b)
  | int (i : Int) : Dq H (.int i) (.int i)
  | lst {a : Addr} {xs : List V} {ds : List PyData} : H a = some (.lst xs) → DqAll H xs ds → Dq H (.ref a) (.list ds)
  | tup {a : Addr} {xs : List V} {ds : List PyData} : H a = some (.tup xs) → DqAll H xs ds → Dq H (.ref a) (.tuple ds)
inductive DqAll (H : Hp) : List V → List PyData → Prop
  | nil : DqAll H [] []
  | cons {v : V} {vs : List V} {d : PyData} {ds : List PyData} : Dq H v d → DqAll H vs ds → DqAll H (v :: vs) (d :: ds)
end
mutual
theorem Dq_ex {H H' : Hp} (e : Ex H H') : ∀ (d : PyData) (v : V), Dq H v d → Dq H' v d
  | .none, _, h => by cases h; exact .non
  | .bool b, _, h => by cases h; exact .bl b
  | .int i, _, h => by cases h; exact .int i
  | .str x, _, h => by cases h
  | .list ds, _, h => by
    cases h with
    | lst h1 h2 => exact .lst (e _ _ h1) (DqAll_ex e ds _ h2)
  | .tuple ds, _, h => by
    cases h with
    | tup h1 h2 => exact .tup (e _ _ h1) (DqAll_ex e ds _ h2)
  | .dict _, _, h => by cases h
theorem DqAll_ex {H H' : Hp} (e : Ex H H') : ∀ (ds : List PyData) (vs : List V), DqAll H vs ds → DqAll H' vs ds
  | [], _, h => by cases h; exact .nil
  | d :: ds, _, h => by
    cases h with
    | cons h1 h2 => exact .cons (Dq_ex e d _ h1) (DqAll_ex e ds _ h2)
end
mutual
theorem Dq.dp {K : PySem.W.Frag} {H : Hp} : ∀ (d : PyData) (v : V), Dq H v d → Dp K H v d
  | .none, _, h => by cases h; exact .non
  | .bool b, _, h => by cases h; exact .bl b
  | .int i, _, h => by cases h; exact .int i
  | .str x, _, h => by cases h
  | .list ds, _, h => by
    cases h with
    | lst h1 h2 => exact .lst (SqL.of h1) (DqAll.dp ds _ h2)
  | .tuple ds, _, h => by
    cases h with
    | tup h1 h2 => exact .tup (SqT.of h1) (DqAll.dp ds _ h2)
  | .dict _, _, h => by cases h
theorem DqAll.dp {K : PySem.W.Frag} {H : Hp} : ∀ (ds : List PyData) (vs : List V), DqAll H vs ds → DpAll K H vs ds
  | [], _, h => by cases h; exact .nil
  | d :: ds, _, h => by
    cases h with
    | cons h1 h2 => exact .cons (Dq.dp d _ h1) (DqAll.dp ds _ h2)
end
section
variable {H : Hp}
theorem da_length : ∀ {vs : List V} {ds : List PyData}, DqAll H vs ds → vs.length = ds.length
  | _, [], h => by cases h; rfl
  | _, d :: ds, h => by
    cases h with
    | cons h1 h2 => simp [da_length h2]
theorem da_get : ∀ {vs : List V} {ds : List PyData} {i : Nat} {d : PyData}, DqAll H vs ds → ds[i]? = some d → ∃ v, vs[i]? = some v ∧ Dq H v d
  | _, [], _, _, h, e => by simp at e
  | _, x :: ds, 0, d, h, e => by
    cases h with
    | cons h1 h2 => simp at e; subst e; exact ⟨_, rfl, h1⟩
  | _, x :: ds, i + 1, d, h, e => by
    cases h with
    | cons h1 h2 =>
      obtain ⟨v, e1, e2⟩ := da_get (i := i) h2 (by simpa using e)
      exact ⟨v, by simpa using e1, e2⟩
theorem da_get2 : ∀ {vs : List V} {ds : List PyData} {i : Nat} {v : V}, DqAll H vs ds → vs[i]? = some v → ∃ d, ds[i]? = some d ∧ Dq H v d
  | [], _, _, _, h, e => by simp at e
  | x :: vs, _, 0, v, h, e => by
    cases h with
    | cons h1 h2 => simp at e; subst e; exact ⟨_, rfl, h1⟩
  | x :: vs, _, i + 1, v, h, e => by
    cases h with
    | cons h1 h2 =>
      obtain ⟨d, e1, e2⟩ := da_get2 (i := i) h2 (by simpa using e)
      exact ⟨d, by simpa using e1, e2⟩
theorem da_append : ∀ {vs ws : List V} {ds es : List PyData}, DqAll H vs ds → DqAll H ws es → DqAll H (vs ++ ws) (ds ++ es)
  | _, _, [], _, h, h' => by cases h; exact h'
  | _, _, d :: ds, _, h, h' => by
    cases h with
    | cons h1 h2 => exact .cons h1 (da_append h2 h')
theorem da_take : ∀ {vs : List V} {ds : List PyData} (n : Nat), DqAll H vs ds → DqAll H (vs.take n) (ds.take n)
  | _, _, 0, _ => .nil
  | _, [], n + 1, h => by cases h; exact .nil
  | _, d :: ds, n + 1, h => by
    cases h with
    | cons h1 h2 => exact .cons h1 (da_take n h2)
theorem da_drop : ∀ {vs : List V} {ds : List PyData} (n : Nat), DqAll H vs ds → DqAll H (vs.drop n) (ds.drop n)
  | _, _, 0, h => h
  | _, [], n + 1, h => by cases h; exact .nil
  | _, d :: ds, n + 1, h => by
    cases h with
    | cons h1 h2 => exact da_drop n h2
theorem da_atI {vs : List V} {ds : List PyData} {i : Int} {d : PyData} (h : DqAll H vs ds) (e : L2.atI ds i = some d) : ∃ v, L2.atI vs i = some v ∧ Dq H v d := by
  unfold L2.atI at e ⊢
  rw [da_length h]
  cases q : ixN ds.length i with
  | none => rw [q] at e; cases e
  | some j =>
    rw [q] at e
    exact da_get h e
theorem da_ints : ∀ (ns : List Int), DqAll H (ns.map V.int) (ns.map PyData.int)
  | [] => .nil
  | n :: ns => .cons (.int n) (da_ints ns)
end

/-- the entry of a def: its view, its heap -/
structure Ent where
  H0 : Hp
  He : Hp
structure At (k : Kit) (n : Ent) (g : GS) (σ : L2.St) (H H0 : Hp) : Prop where
  view : View H0
  sub : Ex H0 H
  e0 : Ex n.H0 H0
  eH : ExT (g.row.map RowS.r) n.He H
  fr : Frsh n.H0 n.He H0
  eK : ∀ a, H a = none → n.He a = none
  tabs : Tabs k.T H
  len : g.env.length = σ.length
  dat : ∀ (i : Nat) d, g.env[i]? = some (SV.dat d) → ∃ v, σ[i]? = some (some v) ∧ Dq H0 v d
  mt : ∀ (i : Nat) m ds, g.env[i]? = some (SV.mu m ds) → σ[i]? = some (some (.ref m)) ∧ H0 m = none ∧ n.He m = none ∧ (∀ ρ, g.row = some ρ → ρ.r ≠ m) ∧ ∃ vs, H m = some (.lst vs) ∧ DqAll H0 vs ds
  dist : ∀ (i j : Nat) m ds es, g.env[i]? = some (SV.mu m ds) → g.env[j]? = some (SV.mu m es) → i = j
  rowS : ∀ (i : Nat), g.env[i]? = some SV.row → ∃ ρ, g.row = some ρ ∧ σ[i]? = some (some (.ref ρ.r))
  row : ∀ ρ, g.row = some ρ → H ρ.r = some (.lst (rowV ρ)) ∧ H0 ρ.r = none ∧ SqL k.K H0 ρ.sa (ρ.ns.map .int)
/-- from one state of an expression's run to a later one -/
structure Stp (g : GS) (H H0 : Hp) (g' : GS) (H' H0' : Hp) : Prop where
  ex : Ex H0 H0'
  fr : Frsh H0 H H0'
  kp : ∀ a, H' a = none → H a = none
  exH : ExT (g.row.map RowS.r) H H'
  env : g'.env = g.env
  rr : g'.row.map RowS.r = g.row.map RowS.r
theorem Stp.refl (g : GS) (H H0 : Hp) : Stp g H H0 g H H0 := ⟨Ex.refl _, fun _ _ h => .inl h, fun _ h => h, fun _ _ h _ _ => h, rfl, rfl⟩
theorem Stp.trans {g g1 g2 : GS} {H H0 H1 H01 H2 H02 : Hp} (a : Stp g H H0 g1 H1 H01) (b : Stp g1 H1 H01 g2 H2 H02) : Stp g H H0 g2 H2 H02 where
  ex := a.ex.trans b.ex
  fr := fun x o e => by
    rcases b.fr x o e with h | h
    · exact a.fr x o h
    · exact .inr (a.kp x h)
  kp := fun x h => a.kp x (b.kp x h)
  exH := fun x o e h1 h2 => b.exH x o (a.exH x o e h1 h2) h1 (by rw [a.rr]; exact h2)
  env := b.env.trans a.env
  rr := b.rr.trans a.rr
/-- a new object that is part of the view -/
theorem At.new {k : Kit} {n : Ent} {g : GS} {σ : L2.St} {H H0 : Hp} {p : Addr} {o : HO} (A : At k n g σ H H0) (hp : H p = none) (ho : ∀ ps, o ≠ HO.tbl ps) :
    At k n g σ (upd H p o) (upd H0 p o) ∧ Stp g H H0 g (upd H p o) (upd H0 p o) := by
  have hp0 : H0 p = none := A.sub.none hp
  have kpH : ∀ a u, H a = some u → upd H p o a = some u := Ex.upd hp
  refine ⟨⟨fun a ps e => ?_, fun a u e => ?_, A.e0.trans (Ex.upd hp0), fun a u e h1 h2 => kpH a u (A.eH a u e h1 h2), fun a u e => ?_, fun a e => ?_, fun P hP => ?_, A.len, fun i d e => ?_, fun i m ds e => ?_, A.dist, A.rowS, fun ρ e => ?_⟩, ⟨Ex.upd hp0, fun a u e => ?_, fun a e => ?_, fun a u e _ _ => kpH a u e, rfl, rfl⟩⟩
  · by_cases h : a = p
    · subst h; rw [upd_same] at e; exact ho ps (Option.some.inj e)
    · rw [upd_ne h] at e; exact A.view a ps e
  · by_cases h : a = p
    · subst h; rw [upd_same] at e ⊢; exact e
    · rw [upd_ne h] at e ⊢; exact A.sub a u e
  · by_cases h : a = p
    · subst h; exact .inr (A.eK a hp)
    · rw [upd_ne h] at e; exact A.fr a u e
  · by_cases h : a = p
    · subst h; rw [upd_same] at e; cases e
    · rw [upd_ne h] at e; exact A.eK a e
  · obtain ⟨ps, e, t⟩ := A.tabs P hP
    exact ⟨ps, kpH _ _ e, t⟩
  · obtain ⟨v, e1, e2⟩ := A.dat i d e
    exact ⟨v, e1, Dq_ex (Ex.upd hp0) _ _ e2⟩
  · obtain ⟨h1, h2, h3, h4, vs, h5, h6⟩ := A.mt i m ds e
    have hne : m ≠ p := ne_of_none h5 hp
    exact ⟨h1, by rw [upd_ne hne]; exact h2, h3, h4, vs, kpH _ _ h5, DqAll_ex (Ex.upd hp0) _ _ h6⟩
  · obtain ⟨h1, h2, h3⟩ := A.row ρ e
    have hne : ρ.r ≠ p := ne_of_none h1 hp
    exact ⟨kpH _ _ h1, by rw [upd_ne hne]; exact h2, (Ex.upd hp0).seqL h3⟩
  · by_cases h : a = p
    · subst h; exact .inr hp
    · rw [upd_ne h] at e; exact .inl e
  · by_cases h : a = p
    · subst h; rw [upd_same] at e; cases e
    · rw [upd_ne h] at e; exact e
end Gh
set_option Elab.async false
set_option linter.all false
set_option maxRecDepth 100000
set_option maxHeartbeats 4000000
namespace Gh
open PySem PySem.Spec PyProof.Rows L2

structure Cd where
  N : List Str
  sc : Scope
  lv : Nat
  code : Option Value
  stn : List Str
structure Cd.In (k : Kit) (c : Cd) (X : Cx) : Prop where
  P : X.prog = k.P
  w : X.w = k.w
  K : X.K = k.K
  mg : X.mg = k.mg
  base : X.base = k.base
  N : X.N = c.N
  sc : X.env.scope = c.sc
  room : Room c.lv X.A
  calm : X.calm = true
  nd : X.N.Nodup
  code : ∀ v, c.code = some v → X.env.code = v
  xe : X.xe = fun _ _ => False
  st : ∀ x ∈ c.stn, X.fn x = true ∨ X.env.scope.names.lookup x = some .local
  loc : ∀ x ∈ c.stn, Loc c.sc x

/-! ### what a run gives, in any of the contexts -/
section
variable (k : Kit) (c : Cd)
def RunE (e : Expr) : TE := fun σ H Q => ∀ X, c.In k X → ∀ pins s, Inv X pins σ H s → wpAny (model X.prog X.w) X.A (eval e X.env) (EP X pins σ Q) X.xe s
def RunT (e : Expr) : TT := fun σ H Q => ∀ X, c.In k X → ∀ pins s, Inv X pins σ H s → wpAny (model X.prog X.w) X.A (isTrue e X.env (eval e X.env)) (TP X pins σ Q) X.xe s
def RunW (e : Expr) : TT := fun σ H Q => ∀ X, c.In k X → ∀ (wh : Sem Value) pins s, Inv X pins σ H s → wpAny (model X.prog X.w) X.A (isTrue e X.env wh) (TP X pins σ Q) X.xe s
def RunA (es : List Expr) : TA := fun σ H Q => ∀ X, c.In k X → ∀ pos pins s, Inv X pins σ H s → wpAny (model X.prog X.w) X.A (spliced (backTo pos (starEach es X.env))) (AP X pins σ Q) X.xe s
def RunS (st : Stmt) : TS := fun D σ H => ∀ X, c.In k X → ∀ pins s, Inv X pins σ H s → wpAny (model X.prog X.w) X.A (exec st X.env) (SP X pins D) X.xe s
def RunSs (st : List Stmt) : TS := fun D σ H => ∀ X, c.In k X → ∀ pins s, Inv X pins σ H s → wpAny (model X.prog X.w) X.A (execs st X.env) (SP X pins D) X.xe s
def RunG (tg : Expr) : TG := fun v σ H Q => ∀ X, c.In k X → ∀ pins s u, Inv X pins σ H s → RelV v u → wpAny (model X.prog X.w) X.A (assign tg X.env u) (fun _ s' => ∃ σ' H', Inv X pins σ' H' s' ∧ Q σ' H') X.xe s
def RunGs (ts : List Expr) : TGs := fun vs σ H Q => ∀ X, c.In k X → ∀ pins s us, Inv X pins σ H s → Vals vs us → wpAny (model X.prog X.w) X.A (assignInOrder ((assignEach ts X.env).map (·.2)) us) (fun _ s' => ∃ σ' H', Inv X pins σ' H' s' ∧ Q σ' H') X.xe s
def RunI (tg iter : Expr) : TI := fun σ H R => ∀ X, c.In k X → ∀ pins s, Inv X pins σ H s → wpAny (model X.prog X.w) X.A (eval iter X.env) (fun v s1 => wpAny (model X.prog X.w) X.A (pyIter v) (PIE X pins σ tg R) X.xe s1) X.xe s
def RunPs (ifs : List Expr) : TT := fun σ H Q => ∀ X, c.In k X → ∀ pins s, Inv X pins σ H s → wpAny (model X.prog X.w) X.A (forIn ifs true fun c r => if r = true then do let ok ← isTrue c X.env (eval c X.env); pure (ForInStep.yield ok) else pure (ForInStep.yield r)) (TP X pins σ Q) X.xe s
end
section
variable {k : Kit} {c : Cd} {X : Cx}
theorem pe_run {e : Expr} (hX : c.In k X) : PE X e (RunE k c e) := ⟨fun pins s σ H Q I h => h X hX pins s I⟩
theorem pt_run {e : Expr} (hX : c.In k X) : PT X e (RunT k c e) := ⟨fun pins s σ H Q I h => h X hX pins s I⟩
theorem pw_run {e : Expr} (hX : c.In k X) : PW X e (RunW k c e) := ⟨fun wh pins s σ H Q I h => h X hX wh pins s I⟩
theorem pa_run {es : List Expr} (hX : c.In k X) : PA X es (RunA k c es) := ⟨fun pos pins s σ H Q I h => h X hX pos pins s I⟩
theorem ps_run {st : Stmt} (hX : c.In k X) : PS X st (RunS k c st) := ⟨fun pins s σ H D I h => h X hX pins s I⟩
theorem pss_run {st : List Stmt} (hX : c.In k X) : PSs X st (RunSs k c st) := ⟨fun pins s σ H D I h => h X hX pins s I⟩
theorem pg_run {tg : Expr} (hX : c.In k X) : PG X tg (RunG k c tg) := ⟨fun pins s σ H v u Q I r h => h X hX pins s u I r⟩
theorem pgs_run {ts : List Expr} (hX : c.In k X) : PGs X ts (RunGs k c ts) := ⟨fun pins s σ H vs us Q I r h => h X hX pins s us I r⟩
theorem pi_run {tg iter : Expr} (hX : c.In k X) : PI X tg iter (RunI k c tg iter) := ⟨fun pins s σ H R I h => h X hX pins s I⟩
theorem pts_run {ifs : List Expr} (hX : c.In k X) : PTs X ifs (RunPs k c ifs) := ⟨fun pins s σ H Q I h => h X hX pins s I⟩
end
section
variable {k : Kit} {c : Cd} {σ : L2.St} {H : Hp}
theorem runE_of {e : Expr} {Q : VK} (h : ∀ X, c.In k X → ∃ te, PE X e te ∧ te σ H Q) : RunE k c e σ H Q := fun X hX pins s I => by
  obtain ⟨te, h1, h2⟩ := h X hX
  exact h1.run pins s σ H Q I h2
theorem runT_of {e : Expr} {Q : Bool → Hp → Prop} (h : ∀ X, c.In k X → ∃ te, PT X e te ∧ te σ H Q) : RunT k c e σ H Q := fun X hX pins s I => by
  obtain ⟨te, h1, h2⟩ := h X hX
  exact h1.run pins s σ H Q I h2
theorem runW_of {e : Expr} {Q : Bool → Hp → Prop} (h : ∀ X, c.In k X → ∃ te, PW X e te ∧ te σ H Q) : RunW k c e σ H Q := fun X hX wh pins s I => by
  obtain ⟨te, h1, h2⟩ := h X hX
  exact h1.run wh pins s σ H Q I h2
theorem runA_of {e : List Expr} {Q : List V → Hp → Prop} (h : ∀ X, c.In k X → ∃ te, PA X e te ∧ te σ H Q) : RunA k c e σ H Q := fun X hX pos pins s I => by
  obtain ⟨te, h1, h2⟩ := h X hX
  exact h1.run pos pins s σ H Q I h2
theorem runS_of {e : Stmt} {D : Ends} (h : ∀ X, c.In k X → ∃ te, PS X e te ∧ te D σ H) : RunS k c e D σ H := fun X hX pins s I => by
  obtain ⟨te, h1, h2⟩ := h X hX
  exact h1.run pins s σ H D I h2
theorem runSs_of {e : List Stmt} {D : Ends} (h : ∀ X, c.In k X → ∃ te, PSs X e te ∧ te D σ H) : RunSs k c e D σ H := fun X hX pins s I => by
  obtain ⟨te, h1, h2⟩ := h X hX
  exact h1.run pins s σ H D I h2
theorem runG_of {e : Expr} {v : V} {Q : L2.St → Hp → Prop} (h : ∀ X, c.In k X → ∃ te, PG X e te ∧ te v σ H Q) : RunG k c e v σ H Q := fun X hX pins s u I r => by
  obtain ⟨te, h1, h2⟩ := h X hX
  exact h1.run pins s σ H v u Q I r h2
theorem runGs_of {e : List Expr} {v : List V} {Q : L2.St → Hp → Prop} (h : ∀ X, c.In k X → ∃ te, PGs X e te ∧ te v σ H Q) : RunGs k c e v σ H Q := fun X hX pins s u I r => by
  obtain ⟨te, h1, h2⟩ := h X hX
  exact h1.run pins s σ H v u Q I r h2
theorem runI_of {tg iter : Expr} {R : It → Hp → Prop} (h : ∀ X, c.In k X → ∃ te, PI X tg iter te ∧ te σ H R) : RunI k c tg iter σ H R := fun X hX pins s I => by
  obtain ⟨te, h1, h2⟩ := h X hX
  exact h1.run pins s σ H R I h2
theorem runPs_of {e : List Expr} {Q : Bool → Hp → Prop} (h : ∀ X, c.In k X → ∃ te, PTs X e te ∧ te σ H Q) : RunPs k c e σ H Q := fun X hX pins s I => by
  obtain ⟨te, h1, h2⟩ := h X hX
  exact h1.run pins s σ H Q I h2
theorem runE_mono {e : Expr} {Q Q' : VK} (h : RunE k c e σ H Q) (hq : ∀ v H', Q v H' → Q' v H') : RunE k c e σ H Q' := fun X hX pins s I =>
  thn (h X hX pins s I) fun u s' ⟨v, H', I', r, q⟩ => ⟨v, H', I', r, hq v H' q⟩
theorem runT_mono {e : Expr} {Q Q' : Bool → Hp → Prop} (h : RunT k c e σ H Q) (hq : ∀ v H', Q v H' → Q' v H') : RunT k c e σ H Q' := fun X hX pins s I =>
  thn (h X hX pins s I) fun u s' ⟨H', I', q⟩ => ⟨H', I', hq u H' q⟩
theorem runW_mono {e : Expr} {Q Q' : Bool → Hp → Prop} (h : RunW k c e σ H Q) (hq : ∀ v H', Q v H' → Q' v H') : RunW k c e σ H Q' := fun X hX wh pins s I =>
  thn (h X hX wh pins s I) fun u s' ⟨H', I', q⟩ => ⟨H', I', hq u H' q⟩
theorem runA_mono {e : List Expr} {Q Q' : List V → Hp → Prop} (h : RunA k c e σ H Q) (hq : ∀ v H', Q v H' → Q' v H') : RunA k c e σ H Q' := fun X hX pos pins s I =>
  thn (h X hX pos pins s I) fun u s' ⟨v, H', I', r, q⟩ => ⟨v, H', I', r, hq v H' q⟩
theorem runPs_mono {e : List Expr} {Q Q' : Bool → Hp → Prop} (h : RunPs k c e σ H Q) (hq : ∀ v H', Q v H' → Q' v H') : RunPs k c e σ H Q' := fun X hX pins s I =>
  thn (h X hX pins s I) fun u s' ⟨H', I', q⟩ => ⟨H', I', hq u H' q⟩
end

/-! ### the ghost judgements -/
section
variable (k : Kit) (n : Ent) (c : Cd)
def Post (σ : L2.St) (g : GS) (H H0 : Hp) (Q : PyData → GS → Prop) : VK := fun v H' => ∃ d g' H0', Stp g H H0 g' H' H0' ∧ At k n g' σ H' H0' ∧ Dq H0' v d ∧ Q d g'
def PostT (σ : L2.St) (g : GS) (H H0 : Hp) (Q : Bool → GS → Prop) : Bool → Hp → Prop := fun b H' => ∃ g' H0', Stp g H H0 g' H' H0' ∧ At k n g' σ H' H0' ∧ Q b g'
def PostA (σ : L2.St) (g : GS) (H H0 : Hp) (Q : List PyData → GS → Prop) : List V → Hp → Prop := fun vs H' => ∃ ds g' H0', Stp g H H0 g' H' H0' ∧ At k n g' σ H' H0' ∧ DqAll H0' vs ds ∧ Q ds g'
def GE (e : Expr) (g : GS) (Q : PyData → GS → Prop) : Prop := ∀ σ H H0, At k n g σ H H0 → RunE k c e σ H (Post k n σ g H H0 Q)
def GT (e : Expr) (g : GS) (Q : Bool → GS → Prop) : Prop := ∀ σ H H0, At k n g σ H H0 → RunT k c e σ H (PostT k n σ g H H0 Q)
def GW (e : Expr) (g : GS) (Q : Bool → GS → Prop) : Prop := ∀ σ H H0, At k n g σ H H0 → RunW k c e σ H (PostT k n σ g H H0 Q)
def GA (es : List Expr) (g : GS) (Q : List PyData → GS → Prop) : Prop := ∀ σ H H0, At k n g σ H H0 → RunA k c es σ H (PostA k n σ g H H0 Q)
def GPs (ifs : List Expr) (g : GS) (Q : Bool → GS → Prop) : Prop := ∀ σ H H0, At k n g σ H H0 → RunPs k c ifs σ H (PostT k n σ g H H0 Q)
end
section
variable {k : Kit} {n : Ent} {c : Cd} {g : GS}
theorem ge_mono {e : Expr} {Q Q' : PyData → GS → Prop} (h : GE k n c e g Q) (hq : ∀ d g', Q d g' → Q' d g') : GE k n c e g Q' := fun σ H H0 A =>
  runE_mono (h σ H H0 A) fun v H' ⟨d, g', H0', s, a, q, r⟩ => ⟨d, g', H0', s, a, q, hq d g' r⟩
theorem gt_mono {e : Expr} {Q Q' : Bool → GS → Prop} (h : GT k n c e g Q) (hq : ∀ d g', Q d g' → Q' d g') : GT k n c e g Q' := fun σ H H0 A =>
  runT_mono (h σ H H0 A) fun v H' ⟨g', H0', s, a, r⟩ => ⟨g', H0', s, a, hq v g' r⟩

/-- one thing made, or nothing -/
def One (H H0 H' H0' : Hp) : Prop := (H' = H ∧ H0' = H0) ∨ ∃ p o, H p = none ∧ (∀ ps, o ≠ HO.tbl ps) ∧ H' = upd H p o ∧ H0' = upd H0 p o
theorem One.same {H H0 : Hp} : One H H0 H H0 := .inl ⟨rfl, rfl⟩
theorem One.tup {H H0 : Hp} {p : Addr} {xs : List V} (h : H p = none) : One H H0 (upd H p (.tup xs)) (upd H0 p (.tup xs)) := .inr ⟨p, _, h, (fun _ z => by cases z), rfl, rfl⟩
theorem One.lst {H H0 : Hp} {p : Addr} {xs : List V} (h : H p = none) : One H H0 (upd H p (.lst xs)) (upd H0 p (.lst xs)) := .inr ⟨p, _, h, (fun _ z => by cases z), rfl, rfl⟩
theorem At.one {σ : L2.St} {H H0 H' H0' : Hp} (A : At k n g σ H H0) (o : One H H0 H' H0') : At k n g σ H' H0' ∧ Stp g H H0 g H' H0' := by
  rcases o with ⟨rfl, rfl⟩ | ⟨p, u, h1, h2, rfl, rfl⟩
  · exact ⟨A, Stp.refl _ _ _⟩
  · exact A.new h1 h2
theorem One.ex {H H0 H' H0' : Hp} (o : One H H0 H' H0') (s : Ex H0 H) : Ex H0 H0' := by
  rcases o with ⟨rfl, rfl⟩ | ⟨p, u, h1, h2, rfl, rfl⟩
  · exact Ex.refl _
  · exact Ex.upd (s.none h1)
theorem At.post {σ : L2.St} {H H0 : Hp} {Q : PyData → GS → Prop} {v : V} {d : PyData} (A : At k n g σ H H0) (hd : Dq H0 v d) (q : Q d g) : Post k n σ g H H0 Q v H := ⟨d, g, H0, Stp.refl _ _ _, A, hd, q⟩
theorem At.post1 {σ : L2.St} {H H0 H' H0' : Hp} {Q : PyData → GS → Prop} {v : V} {d : PyData} (A : At k n g σ H H0) (o : One H H0 H' H0') (hd : Dq H0' v d) (q : Q d g) : Post k n σ g H H0 Q v H' :=
  ⟨d, g, H0', (A.one o).2, (A.one o).1, hd, q⟩

/-! ### two-place things by values -/
def BinR (r : R2) (x y z : PyData) : Prop := ∀ (H H0 : Hp) (v u : V) (Q : VK), Ex H0 H → Dq H0 v x → Dq H0 u y → (∀ w H' H0', One H H0 H' H0' → Dq H0' w z → Q w H') → r v u H Q
def UnaR (r : V → Hp → VK → Prop) (x z : PyData) : Prop := ∀ (H H0 : Hp) (v : V) (Q : VK), Ex H0 H → Dq H0 v x → (∀ w H' H0', One H H0 H' H0' → Dq H0' w z → Q w H') → r v H Q
def CalR (r : List V → Hp → VK → Prop) (xs : List PyData) (z : PyData) : Prop := ∀ (H H0 : Hp) (vs : List V) (Q : VK), Ex H0 H → DqAll H0 vs xs → (∀ w H' H0', One H H0 H' H0' → Dq H0' w z → Q w H') → r vs H Q

theorem ge_bin {e a b : Expr} {r : R2} {Q : PyData → GS → Prop} (pe : ∀ X, c.In k X → ∀ ta tb, PE X a ta → PE X b tb → PE X e (tOp r ta tb))
    (h : GE k n c a g fun x g1 => GE k n c b g1 fun y g2 => ∃ z, BinR r x y z ∧ Q z g2) : GE k n c e g Q := fun σ H H0 A => runE_of fun X hX =>
  ⟨_, pe X hX _ _ (pe_run hX) (pe_run hX), runE_mono (h σ H H0 A) fun v H1 ⟨x, g1, H01, s1, A1, q1, h1⟩ => runE_mono (h1 σ H1 H01 A1) fun u H2 ⟨y, g2, H02, s2, A2, q2, z, hb, hq⟩ =>
    hb H2 H02 v u _ A2.sub (Dq_ex s2.ex _ _ q1) q2 fun w H' H0' o dq => ⟨z, g2, H0', (s1.trans s2).trans (A2.one o).2, (A2.one o).1, dq, hq⟩⟩
theorem gt_bin {e a b : Expr} {r : R2} {Q : Bool → GS → Prop} (pe : ∀ X, c.In k X → ∀ ta tb, PE X a ta → PE X b tb → PT X e (tTest (tOp r ta tb)))
    (h : GE k n c a g fun x g1 => GE k n c b g1 fun y g2 => ∃ z, BinR r x y (.bool z) ∧ Q z g2) : GT k n c e g Q := fun σ H H0 A => runT_of fun X hX =>
  ⟨_, pe X hX _ _ (pe_run hX) (pe_run hX), runE_mono (h σ H H0 A) fun v H1 ⟨x, g1, H01, s1, A1, q1, h1⟩ => runE_mono (h1 σ H1 H01 A1) fun u H2 ⟨y, g2, H02, s2, A2, q2, z, hb, hq⟩ =>
    hb H2 H02 v u _ A2.sub (Dq_ex s2.ex _ _ q1) q2 fun w H' H0' o dq => by
      cases dq
      exact ⟨z, rfl, g2, H0', (s1.trans s2).trans (A2.one o).2, (A2.one o).1, hq⟩⟩
theorem ge_un {e a : Expr} {r : V → Hp → VK → Prop} {Q : PyData → GS → Prop} (pe : ∀ X, c.In k X → ∀ ta, PE X a ta → PE X e (tUn r ta))
    (h : GE k n c a g fun x g1 => ∃ z, UnaR r x z ∧ Q z g1) : GE k n c e g Q := fun σ H H0 A => runE_of fun X hX =>
  ⟨_, pe X hX _ (pe_run hX), runE_mono (h σ H H0 A) fun v H1 ⟨x, g1, H01, s1, A1, q1, z, hb, hq⟩ =>
    hb H1 H01 v _ A1.sub q1 fun w H' H0' o dq => ⟨z, g1, H0', s1.trans (A1.one o).2, (A1.one o).1, dq, hq⟩⟩
theorem ge_callr {e : Expr} {es : List Expr} {r : List V → Hp → VK → Prop} {Q : PyData → GS → Prop} (pe : ∀ X, c.In k X → ∀ ta, PA X es ta → PE X e (tCB r ta))
    (h : GA k n c es g fun xs g1 => ∃ z, CalR r xs z ∧ Q z g1) : GE k n c e g Q := fun σ H H0 A => runE_of fun X hX =>
  ⟨_, pe X hX _ (pa_run hX), runA_mono (h σ H H0 A) fun vs H1 ⟨xs, g1, H01, s1, A1, q1, z, hb, hq⟩ =>
    hb H1 H01 vs _ A1.sub q1 fun w H' H0' o dq => ⟨z, g1, H0', s1.trans (A1.one o).2, (A1.one o).1, dq, hq⟩⟩

/-! ### names, constants -/
theorem ge_nm (i : Nat) {x : Str} {pos : Pos} {d : PyData} {Q : PyData → GS → Prop} (hi : c.N[i]? = some x) (hv : Vis c.sc x) (he : g.env[i]? = some (SV.dat d)) (q : Q d g)
    (hd : (x == ("__debug__" : Str)) = false := by decide) (hcd : (x == ("__classdict__" : Str)) = false := by decide) : GE k n c (.Name x pos) g Q := fun σ H H0 A => runE_of fun X hX =>
  ⟨_, pe_var (i := i) (by rw [hX.N]; exact hi) (by rw [hX.sc]; exact hv) hd hcd, by
    obtain ⟨v, e1, e2⟩ := A.dat i d he
    exact ⟨v, e1, A.post e2 q⟩⟩
theorem ge_int {i j pos} {Q : PyData → GS → Prop} (q : Q (.int i) g) : GE k n c (.Constant (.int i) j pos) g Q := fun σ H H0 A => runE_of fun X hX => ⟨_, pe_int, A.post (.int i) q⟩
theorem ge_bl {b j pos} {Q : PyData → GS → Prop} (q : Q (.bool b) g) : GE k n c (.Constant (.bool b) j pos) g Q := fun σ H H0 A => runE_of fun X hX => ⟨_, pe_bl, A.post (.bl b) q⟩
theorem ge_non {j pos} {Q : PyData → GS → Prop} (q : Q .none g) : GE k n c (.Constant .none j pos) g Q := fun σ H H0 A => runE_of fun X hX => ⟨_, pe_non, A.post .non q⟩
theorem ge_glI {x : Str} {pos : Pos} {i : Int} {t : Tok} {Q : PyData → GS → Prop} (hg : c.sc.names.lookup x = some .globalImplicit) (hm : k.mg x = some (.int i t)) (q : Q (.int i) g) (hd : (x == ("__debug__" : Str)) = false := by decide) : GE k n c (.Name x pos) g Q := fun σ H H0 A => runE_of fun X hX =>
  ⟨_, pe_glob (v := .int i) (by show X.env.scope.names.lookup x = _; rw [hX.sc]; exact hg) (by rw [hX.mg]; exact hm) ⟨t, rfl⟩ hd, A.post (.int i) q⟩

/-! ### arguments, tuples, lists -/
theorem ga_nil {Q : List PyData → GS → Prop} (q : Q [] g) : GA k n c [] g Q := fun σ H H0 A => runA_of fun X hX => ⟨_, pa_nil, ⟨[], g, H0, Stp.refl _ _ _, A, .nil, q⟩⟩
theorem ga_cons {e : Expr} {es : List Expr} {Q : List PyData → GS → Prop} (h : GE k n c e g fun x g1 => GA k n c es g1 fun xs g2 => Q (x :: xs) g2)
    (hs : ∀ env, starEach (e :: es) env = (false, eval e env) :: starEach es env := by intro _; rfl) : GA k n c (e :: es) g Q := fun σ H H0 A => runA_of fun X hX =>
  ⟨_, pa_cons (pe_run hX) (pa_run hX) (hs _), runE_mono (h σ H H0 A) fun v H1 ⟨x, g1, H01, s1, A1, q1, h1⟩ => runA_mono (h1 σ H1 H01 A1) fun vs H2 ⟨xs, g2, H02, s2, A2, q2, hq⟩ =>
    ⟨x :: xs, g2, H02, s1.trans s2, A2, .cons (Dq_ex s2.ex _ _ q1) q2, hq⟩⟩
theorem ge_tup {es : List Expr} {x1 pos} {Q : PyData → GS → Prop} (h : GA k n c es g fun xs g1 => xs.length ≤ sizeLine ∧ Q (.tuple xs) g1) : GE k n c (.Tuple es x1 pos) g Q := fun σ H H0 A => runE_of fun X hX =>
  ⟨_, pe_tup (pa_run hX), runA_mono (h σ H H0 A) fun vs H1 ⟨xs, g1, H01, s1, A1, q1, hl, hq⟩ => ⟨by rw [da_length q1]; exact hl, fun p hp =>
    have o : One H1 H01 (upd H1 p (.tup vs)) (upd H01 p (.tup vs)) := One.tup hp
    ⟨_, g1, _, s1.trans (A1.one o).2, (A1.one o).1, .tup upd_same (DqAll_ex (o.ex A1.sub) _ _ q1), hq⟩⟩⟩
theorem ge_lst {es : List Expr} {pos} {Q : PyData → GS → Prop} (h : GA k n c es g fun xs g1 => xs.length ≤ sizeLine ∧ Q (.list xs) g1) : GE k n c (.List es pos) g Q := fun σ H H0 A => runE_of fun X hX =>
  ⟨_, pe_lst (pa_run hX), runA_mono (h σ H H0 A) fun vs H1 ⟨xs, g1, H01, s1, A1, q1, hl, hq⟩ => ⟨by rw [da_length q1]; exact hl, fun p hp =>
    have o : One H1 H01 (upd H1 p (.lst vs)) (upd H01 p (.lst vs)) := One.lst hp
    ⟨_, g1, _, s1.trans (A1.one o).2, (A1.one o).1, .lst upd_same (DqAll_ex (o.ex A1.sub) _ _ q1), hq⟩⟩⟩
end
end Gh
set_option Elab.async false
set_option linter.all false
set_option maxRecDepth 100000
set_option maxHeartbeats 4000000
namespace Gh
open PySem PySem.Spec PyProof.Rows L2

theorem glx {k : Kit} {c : Cd} {X : Cx} (hX : c.In k X) {x : Str} (h : c.sc.names.lookup x = some .globalImplicit) : Gl X x := by
  show X.env.scope.names.lookup x = _
  rw [hX.sc]; exact h
theorem mgx {k : Kit} {c : Cd} {X : Cx} (hX : c.In k X) {x : Str} {v : Option Value} (h : k.mg x = v) : X.mg x = v := by rw [hX.mg]; exact h

/-! ### what the operators do on data -/
theorem binI0 {f : Int → Int → Int} {i j : Int} : BinR (rI0 fun i j => .int (f i j)) (.int i) (.int j) (.int (f i j)) := fun H H0 v u Q s d1 d2 h => by
  cases d1; cases d2; exact ⟨i, j, rfl, rfl, h _ _ _ One.same (.int _)⟩
theorem binB0 {f : Int → Int → Bool} {i j : Int} : BinR (rI0 fun i j => .bl (f i j)) (.int i) (.int j) (.bool (f i j)) := fun H H0 v u Q s d1 d2 h => by
  cases d1; cases d2; exact ⟨i, j, rfl, rfl, h _ _ _ One.same (.bl _)⟩
theorem binI {C : Int → Int → Prop} {f : Int → Int → Int} {i j : Int} (hc : C i j) : BinR (rI C fun i j => .int (f i j)) (.int i) (.int j) (.int (f i j)) := fun H H0 v u Q s d1 d2 h => by
  cases d1; cases d2; exact ⟨i, j, rfl, rfl, hc, h _ _ _ One.same (.int _)⟩
theorem binIxT {K : PySem.W.Frag} {ds : List PyData} {i : Int} {z : PyData} (h : atI ds i = some z) : BinR (rIxT K) (.tuple ds) (.int i) z := fun H H0 v u Q s d1 d2 q => by
  cases d2
  cases d1 with
  | tup h1 h2 =>
    obtain ⟨w, e1, e2⟩ := da_atI h2 h
    exact ⟨_, _, i, w, rfl, rfl, SqT.of (s _ _ h1), e1, q _ _ _ One.same e2⟩
theorem binIxL {K : PySem.W.Frag} {ds : List PyData} {i : Int} {z : PyData} (h : atI ds i = some z) : BinR (rIxL K) (.list ds) (.int i) z := fun H H0 v u Q s d1 d2 q => by
  cases d2
  cases d1 with
  | lst h1 h2 =>
    obtain ⟨w, e1, e2⟩ := da_atI h2 h
    exact ⟨_, _, i, w, rfl, rfl, SqL.of (s _ _ h1), e1, q _ _ _ One.same e2⟩
theorem binEq {K : PySem.W.Frag} {x y : PyData} (hx : SeqAt.shaped x = true) (hy : SeqAt.shaped y = true) : BinR (rEqD K) x y (.bool (PyData.eqv x y)) := fun H H0 v u Q s d1 d2 q =>
  ⟨x, y, (Dq_ex s _ _ d1).dp, (Dq_ex s _ _ d2).dp, hx, hy, q _ _ _ One.same (.bl _)⟩
theorem binNe {K : PySem.W.Frag} {x y : PyData} (hx : SeqAt.shaped x = true) (hy : SeqAt.shaped y = true) : BinR (rNeD K) x y (.bool (!PyData.eqv x y)) := fun H H0 v u Q s d1 d2 q =>
  ⟨x, y, (Dq_ex s _ _ d1).dp, (Dq_ex s _ _ d2).dp, hx, hy, q _ _ _ One.same (.bl _)⟩
theorem binNotInD {K : PySem.W.Frag} {x : PyData} {ds : List PyData} (hx : SeqAt.shaped x = true) (hy : SeqAt.shaped (.list ds) = true) : BinR (rNotInD K) x (.list ds) (.bool (!ds.any fun z => PyData.eqv z x)) := fun H H0 v u Q s d1 d2 q =>
  ⟨x, ds, (Dq_ex s _ _ d1).dp, (Dq_ex s _ _ d2).dp, hx, hy, q _ _ _ One.same (.bl _)⟩
theorem da_unint : ∀ {H : Hp} {vs : List V} {ns : List Int}, DqAll H vs (ns.map .int) → vs = ns.map V.int
  | _, _, [], h => by cases h; rfl
  | _, _, n :: ns, h => by
    cases h with
    | cons h1 h2 =>
      cases h1
      rw [da_unint h2]; rfl
theorem inV_ints (i : Int) : ∀ ns : List Int, inV (.int i) (ns.map V.int) = decide (i ∈ ns)
  | [] => by simp [inV]
  | n :: ns => by
    have ih := inV_ints i ns
    unfold inV at ih ⊢
    rw [List.map_cons, List.any_cons, ih]
    by_cases h : n = i
    · subst h; simp [eqV]
    · have h' : ¬ i = n := fun z => h z.symm
      simp [eqV, h, h']
theorem flat_ints : ∀ ns : List Int, (ns.map V.int).all flatV = true
  | [] => rfl
  | n :: ns => by rw [List.map_cons, List.all_cons, flat_ints ns]; rfl
theorem binInT {K : PySem.W.Frag} {i : Int} {ns : List Int} : BinR (rIn K false) (.int i) (.tuple (ns.map .int)) (.bool (decide (i ∈ ns))) := fun H H0 v u Q s d1 d2 q => by
  cases d1
  cases d2 with
  | tup h1 h2 =>
    have e := da_unint h2
    subst e
    refine ⟨_, _, rfl, .inr (SqT.of (s _ _ h1)), rfl, flat_ints ns, ?_⟩
    rw [inV_ints]
    exact q _ _ _ One.same (.bl _)
theorem binNiT {K : PySem.W.Frag} {i : Int} {ns : List Int} : BinR (rIn K true) (.int i) (.tuple (ns.map .int)) (.bool (!decide (i ∈ ns))) := fun H H0 v u Q s d1 d2 q => by
  cases d1
  cases d2 with
  | tup h1 h2 =>
    have e := da_unint h2
    subst e
    refine ⟨_, _, rfl, .inr (SqT.of (s _ _ h1)), rfl, flat_ints ns, ?_⟩
    rw [inV_ints]
    exact q _ _ _ One.same (.bl _)
theorem binCatT {K : PySem.W.Frag} {xs ys : List PyData} (hl : xs.length + ys.length ≤ sizeLine) : BinR (rCatA K) (.tuple xs) (.tuple ys) (.tuple (xs ++ ys)) := fun H H0 v u Q s d1 d2 q => by
  cases d1 with
  | @tup a1 vs1 _ h1 h2 =>
  cases d2 with
  | @tup a2 vs2 _ h3 h4 =>
    have l1 := da_length h2
    have l2 := da_length h4
    refine ⟨_, _, _, _, rfl, rfl, SqT.of (s _ _ h1), SqT.of (s _ _ h3), by omega, fun e => ?_, fun e e' => ?_, fun e e' p hp => ?_⟩
    · have e2 : xs = [] := List.eq_nil_of_length_eq_zero (by rw [← l1, e]; rfl)
      subst e2
      exact q _ _ _ One.same (.tup h3 h4)
    · have e2 : ys = [] := List.eq_nil_of_length_eq_zero (by rw [← l2, e']; rfl)
      subst e2
      rw [List.append_nil] at q
      exact q _ _ _ One.same (.tup h1 h2)
    · have o := One.tup (H := H) (H0 := H0) (xs := vs1 ++ vs2) hp
      exact q _ _ _ o (.tup upd_same (da_append (DqAll_ex (o.ex s) _ _ h2) (DqAll_ex (o.ex s) _ _ h4)))
theorem binCatL {xs ys : List PyData} (hl : xs.length + ys.length ≤ sizeLine) : BinR rCat (.list xs) (.list ys) (.list (xs ++ ys)) := fun H H0 v u Q s d1 d2 q => by
  cases d1 with
  | @lst a1 vs1 _ h1 h2 =>
  cases d2 with
  | @lst a2 vs2 _ h3 h4 =>
    have l1 := da_length h2
    have l2 := da_length h4
    refine ⟨_, _, _, _, rfl, rfl, s _ _ h1, s _ _ h3, by omega, fun p hp => ?_⟩
    have o := One.lst (H := H) (H0 := H0) (xs := vs1 ++ vs2) hp
    exact q _ _ _ o (.lst upd_same (da_append (DqAll_ex (o.ex s) _ _ h2) (DqAll_ex (o.ex s) _ _ h4)))
theorem da_rep {H : Hp} {vs : List V} {ds : List PyData} (h : DqAll H vs ds) : ∀ n : Nat, DqAll H (List.replicate n vs).flatten (List.replicate n ds).flatten
  | 0 => .nil
  | n + 1 => by
    rw [List.replicate_succ, List.replicate_succ, List.flatten_cons, List.flatten_cons]
    exact da_append h (da_rep h n)
theorem binRepL {xs : List PyData} {j : Int} (h0 : 0 ≤ j) (h1 : j < 100) (hl : xs.length * j.toNat ≤ sizeLine) : BinR rRep (.list xs) (.int j) (.list (List.replicate j.toNat xs).flatten) := fun H H0 v u Q s d1 d2 q => by
  cases d2
  cases d1 with
  | @lst a1 vs1 _ h1 h2 =>
    have l1 := da_length h2
    refine ⟨_, _, _, rfl, rfl, s _ _ h1, by omega, by omega, by rw [l1]; exact hl, fun p hp => ?_⟩
    have o := One.lst (H := H) (H0 := H0) (xs := (List.replicate j.toNat vs1).flatten) hp
    exact q _ _ _ o (.lst upd_same (da_rep (DqAll_ex (o.ex s) _ _ h2) _))

section
variable {k : Kit} {n : Ent} {c : Cd} {g : GS} {a b : Expr} {pos : Pos}
theorem ge_add {Q : PyData → GS → Prop} (h : GE k n c a g fun x g1 => GE k n c b g1 fun y g2 => ∃ i j, x = .int i ∧ y = .int j ∧ Q (.int (i + j)) g2) : GE k n c (.BinOp a .Add b pos) g Q :=
  ge_bin (fun X hX ta tb ha hb => pe_op op_add ha hb) (ge_mono h fun x g1 h1 => ge_mono h1 fun y g2 ⟨i, j, e1, e2, q⟩ => by subst e1; subst e2; exact ⟨_, binI0, q⟩)
theorem ge_sub {Q : PyData → GS → Prop} (h : GE k n c a g fun x g1 => GE k n c b g1 fun y g2 => ∃ i j, x = .int i ∧ y = .int j ∧ Q (.int (i - j)) g2) : GE k n c (.BinOp a .Sub b pos) g Q :=
  ge_bin (fun X hX ta tb ha hb => pe_op op_sub ha hb) (ge_mono h fun x g1 h1 => ge_mono h1 fun y g2 ⟨i, j, e1, e2, q⟩ => by subst e1; subst e2; exact ⟨_, binI0, q⟩)
theorem ge_mul {Q : PyData → GS → Prop} (h : GE k n c a g fun x g1 => GE k n c b g1 fun y g2 => ∃ i j, x = .int i ∧ y = .int j ∧ CMul i j ∧ Q (.int (i * j)) g2) : GE k n c (.BinOp a .Mult b pos) g Q :=
  ge_bin (fun X hX ta tb ha hb => pe_op op_mul ha hb) (ge_mono h fun x g1 h1 => ge_mono h1 fun y g2 ⟨i, j, e1, e2, hc, q⟩ => by subst e1; subst e2; exact ⟨_, binI hc, q⟩)
theorem ge_fdiv {Q : PyData → GS → Prop} (h : GE k n c a g fun x g1 => GE k n c b g1 fun y g2 => ∃ i j, x = .int i ∧ y = .int j ∧ CDiv i j ∧ Q (.int (i / j)) g2) : GE k n c (.BinOp a .FloorDiv b pos) g Q :=
  ge_bin (fun X hX ta tb ha hb => pe_op op_fdiv ha hb) (ge_mono h fun x g1 h1 => ge_mono h1 fun y g2 ⟨i, j, e1, e2, hc, q⟩ => by subst e1; subst e2; exact ⟨_, binI hc, q⟩)
theorem ge_mod {Q : PyData → GS → Prop} (h : GE k n c a g fun x g1 => GE k n c b g1 fun y g2 => ∃ i j, x = .int i ∧ y = .int j ∧ 0 < j ∧ Q (.int (i % j)) g2) : GE k n c (.BinOp a .Mod b pos) g Q :=
  ge_bin (fun X hX ta tb ha hb => pe_op op_mod ha hb) (ge_mono h fun x g1 h1 => ge_mono h1 fun y g2 ⟨i, j, e1, e2, hc, q⟩ => by subst e1; subst e2; exact ⟨_, binI hc, q⟩)
theorem ge_pow {Q : PyData → GS → Prop} (h : GE k n c a g fun x g1 => GE k n c b g1 fun y g2 => ∃ i j, x = .int i ∧ y = .int j ∧ CPow i j ∧ Q (.int (i ^ j.toNat)) g2) : GE k n c (.BinOp a .Pow b pos) g Q :=
  ge_bin (fun X hX ta tb ha hb => pe_op op_pow ha hb) (ge_mono h fun x g1 h1 => ge_mono h1 fun y g2 ⟨i, j, e1, e2, hc, q⟩ => by subst e1; subst e2; exact ⟨_, binI hc, q⟩)
theorem ge_catT {Q : PyData → GS → Prop} (h : GE k n c a g fun x g1 => GE k n c b g1 fun y g2 => ∃ xs ys, x = .tuple xs ∧ y = .tuple ys ∧ xs.length + ys.length ≤ sizeLine ∧ Q (.tuple (xs ++ ys)) g2) : GE k n c (.BinOp a .Add b pos) g Q :=
  ge_bin (r := rCatA k.K) (fun X hX ta tb ha hb => pe_op (hX.K ▸ op_catA) ha hb) (ge_mono h fun x g1 h1 => ge_mono h1 fun y g2 ⟨i, j, e1, e2, hc, q⟩ => by subst e1; subst e2; exact ⟨_, binCatT hc, q⟩)
theorem ge_catL {Q : PyData → GS → Prop} (h : GE k n c a g fun x g1 => GE k n c b g1 fun y g2 => ∃ xs ys, x = .list xs ∧ y = .list ys ∧ xs.length + ys.length ≤ sizeLine ∧ Q (.list (xs ++ ys)) g2) : GE k n c (.BinOp a .Add b pos) g Q :=
  ge_bin (fun X hX ta tb ha hb => pe_op op_cat ha hb) (ge_mono h fun x g1 h1 => ge_mono h1 fun y g2 ⟨i, j, e1, e2, hc, q⟩ => by subst e1; subst e2; exact ⟨_, binCatL hc, q⟩)
theorem ge_repL {Q : PyData → GS → Prop} (h : GE k n c a g fun x g1 => GE k n c b g1 fun y g2 => ∃ xs j, x = .list xs ∧ y = .int j ∧ 0 ≤ j ∧ j < 100 ∧ xs.length * j.toNat ≤ sizeLine ∧ Q (.list (List.replicate j.toNat xs).flatten) g2) : GE k n c (.BinOp a .Mult b pos) g Q :=
  ge_bin (fun X hX ta tb ha hb => pe_op op_rep ha hb) (ge_mono h fun x g1 h1 => ge_mono h1 fun y g2 ⟨i, j, e1, e2, h0, h3, hc, q⟩ => by subst e1; subst e2; exact ⟨_, binRepL h0 h3 hc, q⟩)

/-! ### comparisons -/
theorem ge_cmpI {op : CmpOp} {f : Int → Int → Bool} {Q : PyData → GS → Prop} (ho : ∀ X : Cx, OpR X (compareOp op) (rI0 fun i j => .bl (f i j))) (hm : behindInMarks op b = false) (h : GE k n c a g fun x g1 => GE k n c b g1 fun y g2 => ∃ i j, x = .int i ∧ y = .int j ∧ Q (.bool (f i j)) g2) : GE k n c (.Compare a [op] [b] pos) g Q :=
  ge_bin (fun X hX ta tb ha hb => pe_cmpR (ho X) ha hb hm) (ge_mono h fun x g1 h1 => ge_mono h1 fun y g2 ⟨i, j, e1, e2, q⟩ => by subst e1; subst e2; exact ⟨_, binB0, q⟩)
theorem gt_cmpI {op : CmpOp} {f : Int → Int → Bool} {Q : Bool → GS → Prop} (ho : ∀ X : Cx, OpR X (compareOp op) (rI0 fun i j => .bl (f i j))) (hm : behindInMarks op b = false) (h : GE k n c a g fun x g1 => GE k n c b g1 fun y g2 => ∃ i j, x = .int i ∧ y = .int j ∧ Q (f i j) g2) : GT k n c (.Compare a [op] [b] pos) g Q :=
  gt_bin (fun X hX ta tb ha hb => pt_cmpR (ho X) ha hb hm) (ge_mono h fun x g1 h1 => ge_mono h1 fun y g2 ⟨i, j, e1, e2, q⟩ => by subst e1; subst e2; exact ⟨_, binB0, q⟩)
theorem ge_lt {Q : PyData → GS → Prop} (h : GE k n c a g fun x g1 => GE k n c b g1 fun y g2 => ∃ i j, x = .int i ∧ y = .int j ∧ Q (.bool (decide (i < j))) g2) : GE k n c (.Compare a [.Lt] [b] pos) g Q := ge_cmpI (fun _ => op_lt) (nomark _) h
theorem ge_le {Q : PyData → GS → Prop} (h : GE k n c a g fun x g1 => GE k n c b g1 fun y g2 => ∃ i j, x = .int i ∧ y = .int j ∧ Q (.bool (decide (i ≤ j))) g2) : GE k n c (.Compare a [.LtE] [b] pos) g Q := ge_cmpI (fun _ => op_le) (nomark _) h
theorem ge_gt {Q : PyData → GS → Prop} (h : GE k n c a g fun x g1 => GE k n c b g1 fun y g2 => ∃ i j, x = .int i ∧ y = .int j ∧ Q (.bool (decide (j < i))) g2) : GE k n c (.Compare a [.Gt] [b] pos) g Q := ge_cmpI (fun _ => op_gt) (nomark _) h
theorem gt_lt {Q : Bool → GS → Prop} (h : GE k n c a g fun x g1 => GE k n c b g1 fun y g2 => ∃ i j, x = .int i ∧ y = .int j ∧ Q (decide (i < j)) g2) : GT k n c (.Compare a [.Lt] [b] pos) g Q := gt_cmpI (fun _ => op_lt) (nomark _) h
theorem gt_le {Q : Bool → GS → Prop} (h : GE k n c a g fun x g1 => GE k n c b g1 fun y g2 => ∃ i j, x = .int i ∧ y = .int j ∧ Q (decide (i ≤ j)) g2) : GT k n c (.Compare a [.LtE] [b] pos) g Q := gt_cmpI (fun _ => op_le) (nomark _) h
theorem gt_gt {Q : Bool → GS → Prop} (h : GE k n c a g fun x g1 => GE k n c b g1 fun y g2 => ∃ i j, x = .int i ∧ y = .int j ∧ Q (decide (j < i)) g2) : GT k n c (.Compare a [.Gt] [b] pos) g Q := gt_cmpI (fun _ => op_gt) (nomark _) h
theorem gt_ge {Q : Bool → GS → Prop} (h : GE k n c a g fun x g1 => GE k n c b g1 fun y g2 => ∃ i j, x = .int i ∧ y = .int j ∧ Q (decide (j ≤ i)) g2) : GT k n c (.Compare a [.GtE] [b] pos) g Q := gt_cmpI (fun _ => op_ge) (nomark _) h
theorem ge_eq {Q : PyData → GS → Prop} (h : GE k n c a g fun x g1 => GE k n c b g1 fun y g2 => SeqAt.shaped x = true ∧ SeqAt.shaped y = true ∧ Q (.bool (PyData.eqv x y)) g2) : GE k n c (.Compare a [.Eq] [b] pos) g Q :=
  ge_bin (r := rEqD k.K) (fun X hX ta tb ha hb => pe_cmpR (hX.K ▸ op_eqD hX.room.units) ha hb (nomark _)) (ge_mono h fun x g1 h1 => ge_mono h1 fun y g2 ⟨e1, e2, q⟩ => ⟨_, binEq e1 e2, q⟩)
theorem ge_ne {Q : PyData → GS → Prop} (h : GE k n c a g fun x g1 => GE k n c b g1 fun y g2 => SeqAt.shaped x = true ∧ SeqAt.shaped y = true ∧ Q (.bool (!PyData.eqv x y)) g2) : GE k n c (.Compare a [.NotEq] [b] pos) g Q :=
  ge_bin (r := rNeD k.K) (fun X hX ta tb ha hb => pe_cmpR (hX.K ▸ op_neD hX.room.units) ha hb (nomark _)) (ge_mono h fun x g1 h1 => ge_mono h1 fun y g2 ⟨e1, e2, q⟩ => ⟨_, binNe e1 e2, q⟩)
theorem gt_eq {Q : Bool → GS → Prop} (h : GE k n c a g fun x g1 => GE k n c b g1 fun y g2 => SeqAt.shaped x = true ∧ SeqAt.shaped y = true ∧ Q (PyData.eqv x y) g2) : GT k n c (.Compare a [.Eq] [b] pos) g Q :=
  gt_bin (r := rEqD k.K) (fun X hX ta tb ha hb => pt_cmpR (hX.K ▸ op_eqD hX.room.units) ha hb (nomark _)) (ge_mono h fun x g1 h1 => ge_mono h1 fun y g2 ⟨e1, e2, q⟩ => ⟨_, binEq e1 e2, q⟩)
theorem gt_ne {Q : Bool → GS → Prop} (h : GE k n c a g fun x g1 => GE k n c b g1 fun y g2 => SeqAt.shaped x = true ∧ SeqAt.shaped y = true ∧ Q (!PyData.eqv x y) g2) : GT k n c (.Compare a [.NotEq] [b] pos) g Q :=
  gt_bin (r := rNeD k.K) (fun X hX ta tb ha hb => pt_cmpR (hX.K ▸ op_neD hX.room.units) ha hb (nomark _)) (ge_mono h fun x g1 h1 => ge_mono h1 fun y g2 ⟨e1, e2, q⟩ => ⟨_, binNe e1 e2, q⟩)
theorem gt_inT {Q : Bool → GS → Prop} (h : GE k n c a g fun x g1 => GE k n c b g1 fun y g2 => ∃ (i : Int) (ns : List Int), x = .int i ∧ y = .tuple (ns.map PyData.int) ∧ Q (decide (i ∈ ns)) g2) (hm : behindInMarks .In b = false := by rfl) : GT k n c (.Compare a [.In] [b] pos) g Q :=
  gt_bin (r := rIn k.K false) (fun X hX ta tb ha hb => pt_cmpR (hX.K ▸ op_in_seq) ha hb hm) (ge_mono h fun x g1 h1 => ge_mono h1 fun y g2 ⟨i, ns, e1, e2, q⟩ => by subst e1; subst e2; exact ⟨_, binInT, q⟩)
theorem gt_niT {Q : Bool → GS → Prop} (h : GE k n c a g fun x g1 => GE k n c b g1 fun y g2 => ∃ (i : Int) (ns : List Int), x = .int i ∧ y = .tuple (ns.map PyData.int) ∧ Q (!decide (i ∈ ns)) g2) (hm : behindInMarks .NotIn b = false := by rfl) : GT k n c (.Compare a [.NotIn] [b] pos) g Q :=
  gt_bin (r := rIn k.K true) (fun X hX ta tb ha hb => pt_cmpR (hX.K ▸ op_notIn_seq) ha hb hm) (ge_mono h fun x g1 h1 => ge_mono h1 fun y g2 ⟨i, ns, e1, e2, q⟩ => by subst e1; subst e2; exact ⟨_, binNiT, q⟩)
theorem gt_niD {Q : Bool → GS → Prop} (hl : 1 ≤ c.lv) (h : GE k n c a g fun x g1 => GE k n c b g1 fun y g2 => ∃ ds, y = .list ds ∧ SeqAt.shaped x = true ∧ SeqAt.shaped (.list ds) = true ∧ Q (!ds.any fun z => PyData.eqv z x) g2) (hm : behindInMarks .NotIn b = false := by rfl) : GT k n c (.Compare a [.NotIn] [b] pos) g Q :=
  gt_bin (r := rNotInD k.K) (fun X hX ta tb ha hb => pt_cmpR (hX.K ▸ op_notInD (by have := hX.room.un; omega)) ha hb hm) (ge_mono h fun x g1 h1 => ge_mono h1 fun y g2 ⟨ds, e1, e2, e3, q⟩ => by subst e1; exact ⟨_, binNotInD e2 e3, q⟩)
def isNon : PyData → Bool
  | .none => true
  | _ => false
theorem dq_isNon {H : Hp} {v : V} {d : PyData} (h : Dq H v d) : decide (v = .non) = isNon d := by cases h <;> rfl
theorem ge_isN {j pos'} {Q : PyData → GS → Prop} (h : GE k n c a g fun x g1 => Q (.bool (isNon x)) g1) : GE k n c (.Compare a [.Is] [.Constant .none j pos'] pos) g Q := fun σ H H0 A => runE_of fun X hX =>
  ⟨_, pe_cmp (pc_isN (pe_run hX)) rfl, runE_mono (h σ H H0 A) fun v H1 ⟨x, g1, H01, s1, A1, q1, h1⟩ => by rw [dq_isNon q1]; exact ⟨_, g1, H01, s1, A1, .bl _, h1⟩⟩
theorem gt_isN {j pos'} {Q : Bool → GS → Prop} (h : GE k n c a g fun x g1 => Q (isNon x) g1) : GT k n c (.Compare a [.Is] [.Constant .none j pos'] pos) g Q := fun σ H H0 A => runT_of fun X hX =>
  ⟨_, pt_cmp (pc_isN (pe_run hX)) rfl, runE_mono (h σ H H0 A) fun v H1 ⟨x, g1, H01, s1, A1, q1, h1⟩ => by rw [dq_isNon q1]; exact ⟨_, rfl, g1, H01, s1, A1, h1⟩⟩
/-! ### chains of two -/
theorem ge_chainLL {b2 : Expr} {Q : PyData → GS → Prop} (h : GE k n c a g fun x g1 => GE k n c b g1 fun y g2 => ∃ i j, x = .int i ∧ y = .int j ∧ if i ≤ j then GE k n c b2 g2 (fun z g3 => ∃ l, z = .int l ∧ Q (.bool (decide (j ≤ l))) g3) else Q (.bool false) g2)
    (hm : lastMarks [.LtE, .LtE] [b, b2] = false := by with_unfolding_all rfl) : GE k n c (.Compare a [.LtE, .LtE] [b, b2] pos) g Q := fun σ H H0 A => runE_of fun X hX =>
  ⟨_, pe_chain op_le op_le (pe_run hX) (pe_run hX) (pe_run hX) hm, runE_mono (h σ H H0 A) fun v H1 ⟨x, g1, H01, s1, A1, q1, h1⟩ => runE_mono (h1 σ H1 H01 A1) fun u H2 ⟨y, g2, H02, s2, A2, q2, i, j, e1, e2, h2⟩ => by
    subst e1; subst e2
    cases q1; cases q2
    refine ⟨i, j, rfl, rfl, _, rfl, ?_⟩
    by_cases hij : i ≤ j
    · rw [if_pos hij] at h2
      rw [decide_eq_true hij, if_pos rfl]
      exact runE_mono (h2 σ H2 H02 A2) fun w H3 ⟨z, g3, H03, s3, A3, q3, l, e3, h3⟩ => by
        subst e3; cases q3
        exact ⟨j, l, rfl, rfl, _, g3, H03, (s1.trans s2).trans s3, A3, .bl _, h3⟩
    · rw [if_neg hij] at h2
      rw [decide_eq_false hij, if_neg Bool.false_ne_true]
      exact ⟨_, g2, H02, s1.trans s2, A2, .bl _, h2⟩⟩
theorem gt_chainLL {b2 : Expr} {Q : Bool → GS → Prop} (h : GE k n c a g fun x g1 => GE k n c b g1 fun y g2 => ∃ i j, x = .int i ∧ y = .int j ∧ if i ≤ j then GE k n c b2 g2 (fun z g3 => ∃ l, z = .int l ∧ Q (decide (j ≤ l)) g3) else Q false g2)
    (hm : lastMarks [.LtE, .LtE] [b, b2] = false := by with_unfolding_all rfl) : GT k n c (.Compare a [.LtE, .LtE] [b, b2] pos) g Q := fun σ H H0 A => runT_of fun X hX =>
  ⟨_, pt_chain op_le op_le (pe_run hX) (pe_run hX) (pe_run hX) hm, runE_mono (h σ H H0 A) fun v H1 ⟨x, g1, H01, s1, A1, q1, h1⟩ => runE_mono (h1 σ H1 H01 A1) fun u H2 ⟨y, g2, H02, s2, A2, q2, i, j, e1, e2, h2⟩ => by
    subst e1; subst e2
    cases q1; cases q2
    refine ⟨i, j, rfl, rfl, _, rfl, ?_⟩
    by_cases hij : i ≤ j
    · rw [if_pos hij] at h2
      rw [decide_eq_true hij, if_pos rfl]
      exact runE_mono (h2 σ H2 H02 A2) fun w H3 ⟨z, g3, H03, s3, A3, q3, l, e3, h3⟩ => by
        subst e3; cases q3
        exact ⟨j, l, rfl, rfl, _, rfl, g3, H03, (s1.trans s2).trans s3, A3, h3⟩
    · rw [if_neg hij] at h2
      rw [decide_eq_false hij, if_neg Bool.false_ne_true]
      exact ⟨_, rfl, g2, H02, s1.trans s2, A2, h2⟩⟩
end
end Gh
set_option Elab.async false
set_option linter.all false
set_option maxRecDepth 100000
set_option maxHeartbeats 4000000
namespace Gh
open PySem PySem.Spec PyProof.Rows L2

abbrev Cd.Gb (c : Cd) (x : Str) : Prop := c.sc.names.lookup x = some .globalImplicit
section
variable {k : Kit} {n : Ent} {c : Cd} {g : GS} {a b e : Expr} {pos p : Pos}
/-! ### and, or, not, if -/
theorem gt_not {Q : Bool → GS → Prop} (h : GT k n c a g fun x g1 => Q (!x) g1) : GT k n c (.UnaryOp .Not a pos) g Q := fun σ H H0 A => runT_of fun X hX => ⟨_, pt_not (pt_run hX), h σ H H0 A⟩
theorem gt_w {e : Expr} {Q : Bool → GS → Prop} (h : GW k n c e g Q) : GT k n c e g Q := fun σ H H0 A => runT_of fun X hX => ⟨_, (pw_run hX).pt, h σ H H0 A⟩
theorem gw_and1 {Q : Bool → GS → Prop} (h : GT k n c a g Q) : GW k n c (.BoolOp .And [a] pos) g Q := fun σ H H0 A => runW_of fun X hX => ⟨_, pw_and1 (pt_run hX), h σ H H0 A⟩
theorem gw_or1 {Q : Bool → GS → Prop} (h : GT k n c a g Q) : GW k n c (.BoolOp .Or [a] pos) g Q := fun σ H H0 A => runW_of fun X hX => ⟨_, pw_or1 (pt_run hX), h σ H H0 A⟩
theorem gw_and {rest : List Expr} {Q : Bool → GS → Prop} (h : GT k n c a g fun x g1 => if x = true then GW k n c (.BoolOp .And (b :: rest) pos) g1 Q else Q false g1) : GW k n c (.BoolOp .And (a :: b :: rest) pos) g Q := fun σ H H0 A => runW_of fun X hX =>
  ⟨_, pw_and (pt_run hX) (pw_run hX), runT_mono (h σ H H0 A) fun x H1 ⟨g1, H01, s1, A1, h1⟩ => by
    cases x with
    | true =>
      rw [if_pos rfl] at h1 ⊢
      exact runW_mono (h1 σ H1 H01 A1) fun y H2 ⟨g2, H02, s2, A2, h2⟩ => ⟨g2, H02, s1.trans s2, A2, h2⟩
    | false =>
      rw [if_neg Bool.false_ne_true] at h1 ⊢
      exact ⟨g1, H01, s1, A1, h1⟩⟩
theorem gw_or {rest : List Expr} {Q : Bool → GS → Prop} (h : GT k n c a g fun x g1 => if x = true then Q true g1 else GW k n c (.BoolOp .Or (b :: rest) pos) g1 Q) : GW k n c (.BoolOp .Or (a :: b :: rest) pos) g Q := fun σ H H0 A => runW_of fun X hX =>
  ⟨_, pw_or (pt_run hX) (pw_run hX), runT_mono (h σ H H0 A) fun x H1 ⟨g1, H01, s1, A1, h1⟩ => by
    cases x with
    | false =>
      rw [if_neg Bool.false_ne_true] at h1 ⊢
      exact runW_mono (h1 σ H1 H01 A1) fun y H2 ⟨g2, H02, s2, A2, h2⟩ => ⟨g2, H02, s1.trans s2, A2, h2⟩
    | true =>
      rw [if_pos rfl] at h1 ⊢
      exact ⟨g1, H01, s1, A1, h1⟩⟩
theorem ge_one {op} {Q : PyData → GS → Prop} (h : GE k n c a g Q) : GE k n c (.BoolOp op [a] pos) g Q := fun σ H H0 A => runE_of fun X hX => ⟨_, pe_one (pe_run hX), h σ H H0 A⟩
theorem ge_and {rest : List Expr} {Q : PyData → GS → Prop} (h : GE k n c a g fun x g1 => ∃ d, x = .bool d ∧ if d = true then GE k n c (.BoolOp .And (b :: rest) pos) g1 Q else Q (.bool false) g1) : GE k n c (.BoolOp .And (a :: b :: rest) pos) g Q := fun σ H H0 A => runE_of fun X hX =>
  ⟨_, pe_and (pe_run hX) (pe_run hX), runE_mono (h σ H H0 A) fun v H1 ⟨x, g1, H01, s1, A1, q1, d, e1, h1⟩ => by
    subst e1; cases q1
    refine ⟨d, rfl, ?_⟩
    cases d with
    | true =>
      rw [if_pos rfl] at h1 ⊢
      exact runE_mono (h1 σ H1 H01 A1) fun y H2 ⟨d, g2, H02, s2, A2, q2, h2⟩ => ⟨d, g2, H02, s1.trans s2, A2, q2, h2⟩
    | false =>
      rw [if_neg Bool.false_ne_true] at h1 ⊢
      exact ⟨_, g1, H01, s1, A1, .bl _, h1⟩⟩
theorem ge_notV {Q : PyData → GS → Prop} (h : GE k n c a g fun x g1 => ∃ d, x = .bool d ∧ Q (.bool (!d)) g1) : GE k n c (.UnaryOp .Not a pos) g Q := fun σ H H0 A => runE_of fun X hX =>
  ⟨_, pe_not (pe_run hX), runE_mono (h σ H H0 A) fun v H1 ⟨x, g1, H01, s1, A1, q1, d, e1, h1⟩ => by
    subst e1; cases q1
    exact ⟨d, rfl, _, g1, H01, s1, A1, .bl _, h1⟩⟩
theorem ge_if {t : Expr} {Q : PyData → GS → Prop} (h : GT k n c t g fun x g1 => if x = true then GE k n c a g1 Q else GE k n c b g1 Q) : GE k n c (.IfExp t a b pos) g Q := fun σ H H0 A => runE_of fun X hX =>
  ⟨_, pe_ifExp (pt_run hX) (pe_run hX) (pe_run hX), runT_mono (h σ H H0 A) fun x H1 ⟨g1, H01, s1, A1, h1⟩ => by
    cases x with
    | true =>
      rw [if_pos rfl] at h1 ⊢
      exact runE_mono (h1 σ H1 H01 A1) fun y H2 ⟨d, g2, H02, s2, A2, q2, h2⟩ => ⟨d, g2, H02, s1.trans s2, A2, q2, h2⟩
    | false =>
      rw [if_neg Bool.false_ne_true] at h1 ⊢
      exact runE_mono (h1 σ H1 H01 A1) fun y H2 ⟨d, g2, H02, s2, A2, q2, h2⟩ => ⟨d, g2, H02, s1.trans s2, A2, q2, h2⟩⟩
/-- a test that is a bool's value -/
theorem gt_val {Q : Bool → GS → Prop} (h : GE k n c e g fun x g1 => ∃ d, x = .bool d ∧ Q d g1) (he : ∀ env whole, isTrue e env whole = (do let v ← whole; standAt e.pos; holding [v] (truthy v)) := by intro _ _; rfl) : GT k n c e g Q := fun σ H H0 A => runT_of fun X hX =>
  ⟨_, pt_val (pe_run hX) (he _), runE_mono (h σ H H0 A) fun v H1 ⟨x, g1, H01, s1, A1, q1, d, e1, h1⟩ => by
    subst e1; cases q1
    exact ⟨d, rfl, g1, H01, s1, A1, h1⟩⟩
/-- the truth of a list -/
theorem gt_truL {Q : Bool → GS → Prop} (h : GE k n c e g fun x g1 => ∃ ds, x = .list ds ∧ Q (!ds.isEmpty) g1) (he : ∀ env whole, isTrue e env whole = (do let v ← whole; standAt e.pos; holding [v] (truthy v)) := by intro _ _; rfl) : GT k n c e g Q := fun σ H H0 A => runT_of fun X hX =>
  ⟨_, pt_truth (pe_run hX) (he _), runE_mono (h σ H H0 A) fun v H1 ⟨x, g1, H01, s1, A1, q1, d, e1, h1⟩ => by
    subst e1
    cases q1 with
    | @lst p xs _ h2 h3 =>
      have e : (!xs.isEmpty) = !d.isEmpty := by
        have l := da_length h3
        cases xs <;> cases d <;> first | rfl | simp at l
      exact ⟨_, .inl ⟨xs, SqL.of (A1.sub _ _ h2), rfl⟩, g1, H01, s1, A1, by rw [e]; exact h1⟩⟩

/-! ### subscripts -/
theorem ge_ixT {Q : PyData → GS → Prop} (h : GE k n c a g fun x g1 => GE k n c b g1 fun y g2 => ∃ ds i z, x = .tuple ds ∧ y = .int i ∧ atI ds i = some z ∧ Q z g2) (hp : PlainIx b := by intro _ _; rfl) : GE k n c (.Subscript a b pos) g Q :=
  ge_bin (r := rIxT k.K) (fun X hX ta tb ha hb => pe_ix (hX.K ▸ ix_tup) ha hb hp) (ge_mono h fun x g1 h1 => ge_mono h1 fun y g2 ⟨ds, i, z, e1, e2, hc, q⟩ => by subst e1; subst e2; exact ⟨_, binIxT hc, q⟩)
theorem ge_ixL {Q : PyData → GS → Prop} (h : GE k n c a g fun x g1 => GE k n c b g1 fun y g2 => ∃ ds i z, x = .list ds ∧ y = .int i ∧ atI ds i = some z ∧ Q z g2) (hp : PlainIx b := by intro _ _; rfl) : GE k n c (.Subscript a b pos) g Q :=
  ge_bin (r := rIxL k.K) (fun X hX ta tb ha hb => pe_ix (hX.K ▸ ix_list) ha hb hp) (ge_mono h fun x g1 h1 => ge_mono h1 fun y g2 ⟨ds, i, z, e1, e2, hc, q⟩ => by subst e1; subst e2; exact ⟨_, binIxL hc, q⟩)
theorem ge_neg {Q : PyData → GS → Prop} (h : GE k n c a g fun x g1 => ∃ i, x = .int i ∧ Q (.int (-i)) g1) : GE k n c (.UnaryOp .USub a pos) g Q :=
  ge_un (fun X hX ta ha => pe_un un_neg ha) (ge_mono h fun x g1 ⟨i, e1, q⟩ => by subst e1; exact ⟨_, fun H H0 v Q s d q => by cases d; exact ⟨i, rfl, q _ _ _ One.same (.int _)⟩, q⟩)
/-- the slice's reading: the whole is the thing itself -/
theorem slA_of {K : PySem.W.Frag} {H H0 : Hp} {v : V} {ds : List PyData} {lo hi : Option Int} {Q : VK} {es : List PyData} (s : Ex H0 H) (d : Dq H0 v (.tuple ds)) (hc : ∀ vs : List V, vs.length = ds.length → (DqAll H0 vs ds → DqAll H0 (cutV vs lo hi) es) ∧ (HT.sIx vs.length 0 lo = 0 ∧ HT.sIx vs.length vs.length hi = vs.length → es = ds))
    (q : ∀ w H' H0', One H H0 H' H0' → Dq H0' w (.tuple es) → Q w H') : rSlA K v lo hi H Q := by
  cases d with
  | @tup a xs _ h1 h2 =>
    obtain ⟨c1, c2⟩ := hc xs (da_length h2)
    refine ⟨a, xs, rfl, SqT.of (s _ _ h1), fun hw => ?_, fun _ p hp => ?_⟩
    · rw [c2 hw] at q
      exact q _ _ _ One.same (.tup h1 h2)
    · have o := One.tup (H := H) (H0 := H0) (xs := cutV xs lo hi) hp
      exact q _ _ _ o (.tup upd_same (DqAll_ex (o.ex s) _ _ (c1 h2)))
theorem ge_slTo {p2 : Pos} {Q : PyData → GS → Prop} (h : GE k n c a g fun x g1 => GE k n c b g1 fun y g2 => ∃ ds j, x = .tuple ds ∧ y = .int (j : Nat) ∧ Q (.tuple (ds.take j)) g2) : GE k n c (.Subscript a (.Slice none (some b) none p2) pos) g Q := fun σ H H0 A => runE_of fun X hX =>
  ⟨_, pe_slice (r := rSlA k.K) (hX.K ▸ sl_tupA) (pe_run hX) po_none (po_some (pe_run hX)), runE_mono (h σ H H0 A) fun v H1 ⟨x, g1, H01, s1, A1, q1, h1⟩ => runE_mono (h1 σ H1 H01 A1) fun u H2 ⟨y, g2, H02, s2, A2, q2, ds, j, e1, e2, h2⟩ => by
    subst e1; subst e2; cases q2
    refine ⟨_, rfl, slA_of A2.sub (Dq_ex s2.ex _ _ q1) (fun vs hl => ?_) fun w H' H0' o dq => ⟨_, g2, H0', (s1.trans s2).trans (A2.one o).2, (A2.one o).1, dq, h2⟩⟩
    unfold cutV
    rw [HT.sIx_none, HT.sIx_nat, Nat.sub_zero, List.drop_zero]
    refine ⟨fun hd => ?_, fun hw => ?_⟩
    · have : vs.take (min j vs.length) = vs.take j := by
        rw [← List.take_take, List.take_length]
      rw [this]
      exact da_take j hd
    · have : ds.length ≤ j := by
        have := hw.2
        omega
      exact List.take_of_length_le this⟩
theorem ge_slFrom {p2 : Pos} {Q : PyData → GS → Prop} (h : GE k n c a g fun x g1 => GE k n c b g1 fun y g2 => ∃ ds j, x = .tuple ds ∧ y = .int (j : Nat) ∧ Q (.tuple (ds.drop j)) g2) : GE k n c (.Subscript a (.Slice (some b) none none p2) pos) g Q := fun σ H H0 A => runE_of fun X hX =>
  ⟨_, pe_slice (r := rSlA k.K) (hX.K ▸ sl_tupA) (pe_run hX) (po_some (pe_run hX)) po_none, runE_mono (h σ H H0 A) fun v H1 ⟨x, g1, H01, s1, A1, q1, h1⟩ => runE_mono (h1 σ H1 H01 A1) fun u H2 ⟨y, g2, H02, s2, A2, q2, ds, j, e1, e2, h2⟩ => by
    subst e1; subst e2; cases q2
    refine ⟨_, rfl, slA_of A2.sub (Dq_ex s2.ex _ _ q1) (fun vs hl => ?_) fun w H' H0' o dq => ⟨_, g2, H0', (s1.trans s2).trans (A2.one o).2, (A2.one o).1, dq, h2⟩⟩
    unfold cutV
    rw [HT.sIx_none, HT.sIx_nat]
    refine ⟨fun hd => ?_, fun hw => ?_⟩
    · have e3 : (vs.drop (min j vs.length)).take (vs.length - min j vs.length) = vs.drop j := by
        rw [List.take_of_length_le (by rw [List.length_drop]; exact Nat.le_refl _)]
        by_cases hj : j ≤ vs.length
        · rw [Nat.min_eq_left hj]
        · rw [Nat.min_eq_right (by omega), List.drop_length, List.drop_of_length_le (by omega)]
      rw [e3]
      exact da_drop j hd
    · have : j = 0 ∨ ds.length = 0 := by
        have := hw.1
        omega
      rcases this with rfl | h0
      · rfl
      · rw [List.eq_nil_of_length_eq_zero h0]; simp⟩

/-! ### calls of built-in things -/
theorem ge_len {Q : PyData → GS → Prop} (hg : c.Gb "len") (hm : k.mg "len" = none) (h : GE k n c a g fun x g1 => ∃ ds, (x = .list ds ∨ x = .tuple ds) ∧ Q (.int (ds.length : Nat)) g1)
    (hs : ∀ env, starEach [a] env = (false, eval a env) :: starEach [] env := by intro _; rfl) : GE k n c (.Call (.Name "len" p) [a] [] pos) g Q :=
  ge_callr (r := fun xs H Q => ∃ p ys, xs = [.ref p] ∧ (SqL k.K H p ys ∨ SqT k.K H p ys) ∧ Q (.int ys.length) H) (fun X hX ta ha => pe_callB (hX.K ▸ call_len_seq) (glx hX hg) (mgx hX hm) PySem.boot_len ha (by decide) (by decide) (hs _) rfl)
    (ga_cons (ge_mono h fun x g1 ⟨ds, e, q⟩ => ga_nil ⟨.int (ds.length : Nat), fun H H0 vs Q s d q => by
      cases d with
      | cons d1 d2 =>
        cases d2
        rcases e with rfl | rfl
        · cases d1 with
          | lst h1 h2 =>
            refine ⟨_, _, rfl, .inl (SqL.of (s _ _ h1)), ?_⟩
            rw [da_length h2]
            exact q _ _ _ One.same (.int _)
        · cases d1 with
          | tup h1 h2 =>
            refine ⟨_, _, rfl, .inr (SqT.of (s _ _ h1)), ?_⟩
            rw [da_length h2]
            exact q _ _ _ One.same (.int _), q⟩) hs)
theorem ge_tupleOf {Q : PyData → GS → Prop} (hg : c.Gb "tuple") (hm : k.mg "tuple" = none) (h : GE k n c a g fun x g1 => ∃ ds, (x = .list ds ∨ x = .tuple ds) ∧ Q (.tuple ds) g1)
    (hs : ∀ env, starEach [a] env = (false, eval a env) :: starEach [] env := by intro _; rfl) : GE k n c (.Call (.Name "tuple" p) [a] [] pos) g Q :=
  ge_callr (r := fun xs H Q => ∃ p ys, xs = [.ref p] ∧ ((SqL k.K H p ys ∧ ∀ l, H l = none → Q (.ref l) (upd H l (.tup ys))) ∨ (SqT k.K H p ys ∧ Q (.ref p) H))) (fun X hX ta ha => pe_callTy (hX.K ▸ call_tuple_of) (glx hX hg) (mgx hX hm) PyProof.Rows.boot_tuple ha (by decide) (by decide) (hs _) rfl)
    (ga_cons (ge_mono h fun x g1 ⟨ds, e, q⟩ => ga_nil ⟨.tuple ds, fun H H0 vs Q s d q => by
      cases d with
      | cons d1 d2 =>
        cases d2
        rcases e with rfl | rfl
        · cases d1 with
          | @lst p xs _ h1 h2 =>
            refine ⟨_, _, rfl, .inl ⟨SqL.of (s _ _ h1), fun l hl => ?_⟩⟩
            have o := One.tup (H := H) (H0 := H0) (xs := xs) hl
            exact q _ _ _ o (.tup upd_same (DqAll_ex (o.ex s) _ _ h2))
        · cases d1 with
          | tup h1 h2 => exact ⟨_, _, rfl, .inr ⟨SqT.of (s _ _ h1), q _ _ _ One.same (.tup h1 h2)⟩⟩, q⟩) hs)
theorem ge_boolL {Q : PyData → GS → Prop} (hg : c.Gb "bool") (hm : k.mg "bool" = none) (h : GE k n c a g fun x g1 => ∃ ds, x = .list ds ∧ Q (.bool (!ds.isEmpty)) g1)
    (hs : ∀ env, starEach [a] env = (false, eval a env) :: starEach [] env := by intro _; rfl) : GE k n c (.Call (.Name "bool" p) [a] [] pos) g Q :=
  ge_callr (r := fun xs H Q => ∃ (a : Addr) (zs : List V), xs = [.ref a] ∧ SqL k.K H a zs ∧ Q (.bl (!zs.isEmpty)) H) (fun X hX ta ha => pe_callTy (hX.K ▸ call_boolL) (glx hX hg) (mgx hX hm) PyProof.Rows.boot_bool ha (by decide) (by decide) (hs _) rfl)
    (ga_cons (ge_mono h fun x g1 ⟨ds, e, q⟩ => ga_nil ⟨.bool (!ds.isEmpty), fun H H0 vs Q s d q => by
      subst e
      cases d with
      | cons d1 d2 =>
        cases d2
        cases d1 with
        | @lst p xs _ h1 h2 =>
          have e : (!xs.isEmpty) = !ds.isEmpty := by
            have l := da_length h2
            cases xs <;> cases ds <;> first | rfl | simp at l
          refine ⟨_, _, rfl, SqL.of (s _ _ h1), ?_⟩
          rw [e]
          exact q _ _ _ One.same (.bl _), q⟩) hs)
theorem ge_intI {Q : PyData → GS → Prop} (hg : c.Gb "int") (hm : k.mg "int" = none) (h : GE k n c a g fun x g1 => ∃ i, x = .int i ∧ Q (.int i) g1)
    (hs : ∀ env, starEach [a] env = (false, eval a env) :: starEach [] env := by intro _; rfl) : GE k n c (.Call (.Name "int" p) [a] [] pos) g Q :=
  ge_callr (fun X hX ta ha => pe_callTy call_int1 (glx hX hg) (mgx hX hm) PyProof.Rows.boot_int ha (by decide) (by decide) (hs _) rfl)
    (ga_cons (ge_mono h fun x g1 ⟨i, e, q⟩ => ga_nil ⟨.int i, fun H H0 vs Q s d q => by
      subst e
      cases d with
      | cons d1 d2 => cases d2; cases d1; exact .inl ⟨i, rfl, q _ _ _ One.same (.int _)⟩, q⟩) hs)
theorem ge_intB {Q : PyData → GS → Prop} (hg : c.Gb "int") (hm : k.mg "int" = none) (h : GE k n c a g fun x g1 => ∃ i, x = .bool i ∧ Q (.int (if i then 1 else 0)) g1)
    (hs : ∀ env, starEach [a] env = (false, eval a env) :: starEach [] env := by intro _; rfl) : GE k n c (.Call (.Name "int" p) [a] [] pos) g Q :=
  ge_callr (fun X hX ta ha => pe_callTy call_int1 (glx hX hg) (mgx hX hm) PyProof.Rows.boot_int ha (by decide) (by decide) (hs _) rfl)
    (ga_cons (ge_mono h fun x g1 ⟨i, e, q⟩ => ga_nil ⟨.int (if i then 1 else 0), fun H H0 vs Q s d q => by
      subst e
      cases d with
      | cons d1 d2 => cases d2; cases d1; exact .inr ⟨i, rfl, q _ _ _ One.same (.int _)⟩, q⟩) hs)
theorem ge_abs {Q : PyData → GS → Prop} (hg : c.Gb "abs") (hm : k.mg "abs" = none) (h : GE k n c a g fun x g1 => ∃ i, x = .int i ∧ Q (.int (if i < 0 then -i else i)) g1)
    (hs : ∀ env, starEach [a] env = (false, eval a env) :: starEach [] env := by intro _; rfl) : GE k n c (.Call (.Name "abs" p) [a] [] pos) g Q :=
  ge_callr (fun X hX ta ha => pe_callB call_abs (glx hX hg) (mgx hX hm) boot_abs ha (by decide) (by decide) (hs _) rfl)
    (ga_cons (ge_mono h fun x g1 ⟨i, e, q⟩ => ga_nil ⟨_, fun H H0 vs Q s d q => by
      subst e
      cases d with
      | cons d1 d2 => cases d2; cases d1; exact ⟨i, rfl, q _ _ _ One.same (.int _)⟩, q⟩) hs)
theorem ge_gcd {Q : PyData → GS → Prop} (hg : c.Gb "gcd") (hm : k.mg "gcd" = some (.builtin "math.gcd")) (h : GE k n c a g fun x g1 => GE k n c b g1 fun y g2 => ∃ i j, x = .int i ∧ y = .int j ∧ Q (.int (Nat.gcd i.natAbs j.natAbs : Nat)) g2)
    (hs : ∀ env, starEach [a, b] env = (false, eval a env) :: starEach [b] env := by intro _; rfl) (hs2 : ∀ env, starEach [b] env = (false, eval b env) :: starEach [] env := by intro _; rfl) : GE k n c (.Call (.Name "gcd" p) [a, b] [] pos) g Q :=
  ge_callr (fun X hX ta ha => pe_callBfun cr_gcd (glx hX hg) (mgx hX hm) ha (by decide) (hs _) (by rw [hs2]; rfl))
    (ga_cons (ge_mono h fun x g1 h1 => ga_cons (ge_mono h1 fun y g2 ⟨i, j, e, e2, q⟩ => ga_nil ⟨_, fun H H0 vs Q s d q => by
      subst e; subst e2
      cases d with
      | cons d1 d2 =>
        cases d1
        cases d2 with
        | cons d3 d4 => cases d4; cases d3; exact ⟨i, j, rfl, q _ _ _ One.same (.int _)⟩, q⟩) hs2) hs)
theorem ge_sumL {Q : PyData → GS → Prop} (hg : c.Gb "sum") (hm : k.mg "sum" = none) (h : GE k n c a g fun x g1 => ∃ ns : List Int, x = .list (ns.map .int) ∧ Q (.int ns.sum) g1)
    (hs : ∀ env, starEach [a] env = (false, eval a env) :: starEach [] env := by intro _; rfl) : GE k n c (.Call (.Name "sum" p) [a] [] pos) g Q :=
  ge_callr (r := rSum k.K) (fun X hX ta ha => pe_callB (hX.K ▸ cr_sum hX.calm) (glx hX hg) (mgx hX hm) boot_sum ha (by decide) (by decide) (hs _) rfl)
    (ga_cons (ge_mono h fun x g1 ⟨ns, e, q⟩ => ga_nil ⟨.int ns.sum, fun H H0 vs Q s d q => by
      subst e
      cases d with
      | cons d1 d2 =>
        cases d2
        cases d1 with
        | lst h1 h2 =>
          have e := da_unint h2
          subst e
          exact ⟨_, ns, rfl, SqL.of (s _ _ h1), q _ _ _ One.same (.int _)⟩, q⟩) hs)
theorem ge_maxL {Q : PyData → GS → Prop} (hg : c.Gb "max") (hm : k.mg "max" = none) (h : GE k n c a g fun x g1 => ∃ (ns : List Int) (z : Int), x = .list (ns.map .int) ∧ z ∈ ns ∧ (∀ y ∈ ns, y ≤ z) ∧ Q (.int z) g1)
    (hs : ∀ env, starEach [a] env = (false, eval a env) :: starEach [] env := by intro _; rfl) : GE k n c (.Call (.Name "max" p) [a] [] pos) g Q :=
  ge_callr (r := rMax k.K) (fun X hX ta ha => pe_callB (hX.K ▸ cr_max hX.calm) (glx hX hg) (mgx hX hm) boot_max ha (by decide) (by decide) (hs _) rfl)
    (ga_cons (ge_mono h fun x g1 ⟨ns, z, e, hz, hz2, q⟩ => ga_nil ⟨.int z, fun H H0 vs Q s d q => by
      subst e
      cases d with
      | cons d1 d2 =>
        cases d2
        cases d1 with
        | lst h1 h2 =>
          have e := da_unint h2
          subst e
          refine ⟨_, ns, rfl, SqL.of (s _ _ h1), List.length_pos_of_mem hz, fun m hm hle => ?_⟩
          have : m = z := by
            have a1 := hz2 m hm
            have a2 := hle z hz
            omega
          subst this
          exact q _ _ _ One.same (.int _), q⟩) hs)
theorem ge_minL {Q : PyData → GS → Prop} (hg : c.Gb "min") (hm : k.mg "min" = none) (h : GE k n c a g fun x g1 => ∃ (ns : List Int) (z : Int), x = .list (ns.map .int) ∧ z ∈ ns ∧ (∀ y ∈ ns, z ≤ y) ∧ Q (.int z) g1)
    (hs : ∀ env, starEach [a] env = (false, eval a env) :: starEach [] env := by intro _; rfl) : GE k n c (.Call (.Name "min" p) [a] [] pos) g Q :=
  ge_callr (r := rMin k.K) (fun X hX ta ha => pe_callB (hX.K ▸ cr_min hX.calm) (glx hX hg) (mgx hX hm) boot_min ha (by decide) (by decide) (hs _) rfl)
    (ga_cons (ge_mono h fun x g1 ⟨ns, z, e, hz, hz2, q⟩ => ga_nil ⟨.int z, fun H H0 vs Q s d q => by
      subst e
      cases d with
      | cons d1 d2 =>
        cases d2
        cases d1 with
        | lst h1 h2 =>
          have e := da_unint h2
          subst e
          refine ⟨_, ns, rfl, SqL.of (s _ _ h1), List.length_pos_of_mem hz, fun m hm hle => ?_⟩
          have : m = z := by
            have a1 := hz2 m hm
            have a2 := hle z hz
            omega
          subst this
          exact q _ _ _ One.same (.int _), q⟩) hs)
end
end Gh
set_option Elab.async false
set_option linter.all false
set_option maxRecDepth 100000
set_option maxHeartbeats 4000000
namespace Gh
open PySem PySem.Spec PyProof.Rows L2
open PySem.W (AlikeAll minD min_list_data readsAll_at alike_unique dataLt)

def sortD (ds : List PyData) : List PyData := ds.mergeSort (PySem.W.dataLe false fun d => d)
theorem sortD_perm (ds : List PyData) : (sortD ds).Perm ds := List.mergeSort_perm ds _

def rSortedD (K : PySem.W.Frag) : List V → Hp → VK → Prop := fun vs H Q => ∃ (a : Addr) (xs : List V) (ds : List PyData) (R : V → PyData → Prop), vs = [.ref a] ∧ H a = some (.lst xs) ∧ DpAll K H xs ds ∧ PySem.W.EachIs R xs ds ∧
  PySem.W.AllAlike ds ∧ PySem.W.Sortable ds ∧ (∀ d ∈ ds, d.depth ≤ 64) ∧ ∀ ys p, H p = none → PySem.W.EachIs R ys (sortD ds) → Q (.ref p) (upd H p (.lst ys))
theorem each_split {R : V → PyData → Prop} : ∀ {us : List Value} {ds : List PyData}, PySem.W.EachIs (fun u d => ∃ x, RelV x u ∧ R x d) us ds → ∃ ys, Vals ys us ∧ PySem.W.EachIs R ys ds
  | _, _, .nil => ⟨[], .nil, .nil⟩
  | _, _, .cons ⟨x, h1, h2⟩ t => by
    obtain ⟨ys, a, b⟩ := each_split t
    exact ⟨x :: ys, .cons h1 a, .cons h2 b⟩
theorem each_join {R : V → PyData → Prop} : ∀ {ys : List V} {us : List Value} {ds : List PyData}, Vals ys us → PySem.W.EachIs R ys ds → PySem.W.EachIs (fun u d => ∃ x, RelV x u ∧ R x d) us ds
  | _, _, _, .nil, .nil => .nil
  | _, _, _, .cons a t, .cons b t' => .cons ⟨_, a, b⟩ (each_join t t')
theorem cr_sortedD {X : Cx} (hu : X.A.units + 100 < cLine) : CallR X (.builtin "sorted") (rSortedD X.K) := by
  intro pins s σ H vs us Q I r h
  obtain ⟨a, xs, ds, R, rfl, ha, hd, he, hal, hk, hdep, q⟩ := h
  have hS : SqL X.K H a xs := SqL.of ha
  obtain ⟨its, rv, hl, hz⟩ := I.list hS
  rw [Vals.ref1 r]
  obtain ⟨as, hr⟩ := Dp.readsAll I ds xs its hd rv
  have er : PySem.W.EachIs (fun v b => ∃ as, Reads s.heap v b as) its ds := PySem.W.readsAll_each (fun d => d) (by simpa using hr)
  have hl2 := rv.length
  have hl3 := he.length
  refine PySem.W.sorted_data (enc := fun d => d) (R := fun u d => ∃ x, RelV x u ∧ R x d) (vs := its) (bs := ds) hl.isList (each_join rv he) er (by simpa using hal) (by simpa using hk) (by omega) (fun b hb => by have := hdep b hb; omega) fun out ho eo => ?_
  obtain ⟨ys, r2, e2⟩ := each_split eo
  obtain ⟨c, hc⟩ := sortedAll_at s.heap its out.toArray
  have hp : s.heap.objs.size ≤ s.heap.objs.size + 1 := Nat.le_succ _
  refine ⟨.ref (s.heap.objs.size + 1), upd H (s.heap.objs.size + 1) (.lst ys), I.laid (t' := s.toks) (fun b u e => sortedAll_old e) hp ?_, rfl, q ys _ (I.hok.fresh hp) e2⟩
  have l4 := r2.length
  exact ⟨by omega, out, c, r2, hc⟩
def rMinD (K : PySem.W.Frag) : List V → Hp → VK → Prop := fun vs H Q => ∃ (a : Addr) (xs : List V) (d : PyData) (ds : List PyData), vs = [.ref a] ∧ H a = some (.lst xs) ∧ DpAll K H xs (d :: ds) ∧ AlikeAll (d :: ds) ∧ PyData.depthAll (d :: ds) ≤ 64 ∧
  ∀ (i : Nat) y e, xs[i]? = some y → (d :: ds)[i]? = some e → e = minD d ds → Q y H
theorem cr_minD {X : Cx} (hc : X.calm = true) (hu : X.A.units + 100 < cLine) : CallR X (.builtin "min") (rMinD X.K) := by
  intro pins s σ H vs us Q I r h
  obtain ⟨a, xs, d, ds, rfl, ha, hd, hal, hdep, q⟩ := h
  have hS : SqL X.K H a xs := SqL.of ha
  obtain ⟨its, rv, hl, hz⟩ := I.list hS
  rw [Vals.ref1 r]
  obtain ⟨as, hr⟩ := Dp.readsAll I (d :: ds) xs its hd rv
  refine min_list_data (vs := its.toArray) (I.ok.hd hc) hl.isList (by simpa using hr) hal (by omega) fun i v h' tk bs hv hrd hk => ?_
  have hv2 : its[i]? = some v := by simpa using hv
  have hlen := rv.length
  have hi : i < its.length := (List.getElem?_eq_some_iff.mp hv2).1
  obtain ⟨y, hy⟩ : ∃ y, xs[i]? = some y := ⟨xs[i]'(by omega), List.getElem?_eq_getElem _⟩
  obtain ⟨u, hu2, ru⟩ := rv.get hy
  rw [hv2] at hu2
  cases hu2
  obtain ⟨bs2, hrd2, hlt, hmem, _⟩ := readsAll_at hr i v hv2
  have e1 : (d :: ds)[i]? = some ((d :: ds).getD i .none) := by
    rw [List.getD_eq_getElem?_getD, List.getElem?_eq_getElem hlt]; rfl
  have hmin : minD d ds ∈ d :: ds := by
    have key : ∀ (l : List PyData) (x : PyData), minD x l ∈ x :: l := by
      intro l
      induction l with
      | nil => intro x; exact List.mem_singleton.mpr rfl
      | cons y l ih =>
        intro x
        show minD (if dataLt y x then y else x) l ∈ _
        have := ih (if dataLt y x then y else x)
        rcases List.mem_cons.mp this with z | z
        · rw [z]
          split
          · exact List.mem_cons_of_mem _ List.mem_cons_self
          · exact List.mem_cons_self
        · exact List.mem_cons_of_mem _ (List.mem_cons_of_mem _ z)
    exact key ds d
  have e2 : (d :: ds).getD i .none = minD d ds := alike_unique _ _ _ _ _ (hal.1 _ hmem _ hmin) (PyProof.Rows.Reads.keeps hk hrd2) hrd
  exact ⟨y, H, I.kept hk, ru, q i y _ hy e1 e2⟩

theorem da_each {H : Hp} : ∀ {vs : List V} {ds : List PyData}, DqAll H vs ds → PySem.W.EachIs (fun v d => Dq H v d) vs ds
  | _, [], h => by cases h; exact .nil
  | _, d :: ds, h => by
    cases h with
    | cons h1 h2 => exact .cons h1 (da_each h2)
theorem each_da {H : Hp} : ∀ {vs : List V} {ds : List PyData}, PySem.W.EachIs (fun v d => Dq H v d) vs ds → DqAll H vs ds
  | _, _, .nil => .nil
  | _, _, .cons a t => .cons a (each_da t)
theorem each_mono2 {R R' : V → PyData → Prop} (h : ∀ v d, R v d → R' v d) : ∀ {vs : List V} {ds : List PyData}, PySem.W.EachIs R vs ds → PySem.W.EachIs R' vs ds
  | _, _, .nil => .nil
  | _, _, .cons a t => .cons (h _ _ a) (each_mono2 h t)

/-! ### isinstance -/
def tyN : PyData → String
  | .none => "NoneType" | .bool _ => "bool" | .int _ => "int" | .str _ => "str" | .list _ => "list" | .tuple _ => "tuple" | .dict _ => "dict"
def isTy (T : String) (d : PyData) : Bool := tyN d == T || (T == "int" && tyN d == "bool")
theorem tyx_of {K : PySem.W.Frag} {H H0 : Hp} {v : V} {d : PyData} (s : Ex H0 H) (h : Dq H0 v d) : TyX K H v (.type (tyN d)) := by
  cases h with
  | non => exact .base .non
  | bl b => exact .base (.bl b)
  | int i => exact .base (.int i)
  | lst h1 h2 => exact .base (.lst (s _ _ h1))
  | tup h1 h2 => exact .base (.tup (s _ _ h1))
theorem kit_one {K : PySem.W.Frag} {T : String} (hT : T = "int" ∨ T = "bool" ∨ T = "tuple" ∨ T = "list" ∨ T = "str") {d : PyData} (hd : tyN d ≠ "dict") : PySem.W.kitOne K (.type (tyN d)) (.type T) = some (isTy T d) := by
  refine kit_ty ?_
  have key : ∀ n, n ∈ ["NoneType", "bool", "int", "str", "list", "tuple"] → ∀ T, T ∈ ["int", "bool", "tuple", "list", "str"] → kitB n T = some (n == T || (T == "int" && n == "bool")) := by decide +kernel
  refine key (tyN d) ?_ T ?_
  · cases d <;> simp [tyN] at hd ⊢
  · rcases hT with rfl | rfl | rfl | rfl | rfl <;> decide
theorem dq_nodict {H : Hp} {v : V} {d : PyData} (h : Dq H v d) : tyN d ≠ "dict" := by cases h <;> (simp only [tyN]; decide)
section
variable {k : Kit} {n : Ent} {c : Cd} {g : GS} {a b e : Expr} {pos p : Pos}
theorem ge_sorted {Q : PyData → GS → Prop} (hg : c.Gb "sorted") (hm : k.mg "sorted" = none) (h : GE k n c a g fun x g1 => ∃ ds, x = .list ds ∧ PySem.W.AllAlike ds ∧ PySem.W.Sortable ds ∧ (∀ d ∈ ds, d.depth ≤ 64) ∧ Q (.list (sortD ds)) g1)
    (hs : ∀ env, starEach [a] env = (false, eval a env) :: starEach [] env := by intro _; rfl) : GE k n c (.Call (.Name "sorted" p) [a] [] pos) g Q :=
  ge_callr (r := rSortedD k.K) (fun X hX ta ha => pe_callB (hX.K ▸ cr_sortedD (by have := hX.room.un; omega)) (glx hX hg) (mgx hX hm) boot_sorted ha (by decide) (by decide) (hs _) rfl)
    (ga_cons (ge_mono h fun x g1 ⟨ds, e, h1, h2, h3, q⟩ => ga_nil ⟨.list (sortD ds), fun H H0 vs Q s d q => by
      subst e
      cases d with
      | cons d1 d2 =>
        cases d2
        cases d1 with
        | @lst a xs _ p1 p2 =>
          refine ⟨a, xs, ds, fun v d => Dq H0 v d, rfl, s _ _ p1, DqAll.dp ds _ (DqAll_ex s _ _ p2), da_each p2, h1, h2, h3, fun ys p hp he => ?_⟩
          have o := One.lst (H := H) (H0 := H0) (xs := ys) hp
          exact q _ _ _ o (.lst upd_same (DqAll_ex (o.ex s) _ _ (each_da he))), q⟩) hs)
theorem ge_minD {Q : PyData → GS → Prop} (hg : c.Gb "min") (hm : k.mg "min" = none) (h : GE k n c a g fun x g1 => ∃ d ds, x = .list (d :: ds) ∧ AlikeAll (d :: ds) ∧ PyData.depthAll (d :: ds) ≤ 64 ∧ Q (minD d ds) g1)
    (hs : ∀ env, starEach [a] env = (false, eval a env) :: starEach [] env := by intro _; rfl) : GE k n c (.Call (.Name "min" p) [a] [] pos) g Q :=
  ge_callr (r := rMinD k.K) (fun X hX ta ha => pe_callB (hX.K ▸ cr_minD hX.calm (by have := hX.room.un; omega)) (glx hX hg) (mgx hX hm) boot_min ha (by decide) (by decide) (hs _) rfl)
    (ga_cons (ge_mono h fun x g1 ⟨d, ds, e, h1, h2, q⟩ => ga_nil ⟨minD d ds, fun H H0 vs Q s dd q => by
      subst e
      cases dd with
      | cons d1 d2 =>
        cases d2
        cases d1 with
        | @lst a xs _ p1 p2 =>
          refine ⟨a, xs, d, ds, rfl, s _ _ p1, DqAll.dp _ _ (DqAll_ex s _ _ p2), h1, h2, fun i y e hy he hm => ?_⟩
          obtain ⟨y', e1, e2⟩ := da_get p2 he
          rw [hy] at e1
          cases e1
          rw [hm] at e2
          exact q _ _ _ One.same e2, q⟩) hs)
theorem ge_isi {T : Str} {Tn : String} {pT : Pos} {Q : PyData → GS → Prop} (hg : c.Gb "isinstance") (hm : k.mg "isinstance" = none) (hgT : c.Gb T) (hmT : k.mg T = none) (hbT : bootBuiltins T = some (.type Tn)) (hT : Tn = "int" ∨ Tn = "bool" ∨ Tn = "tuple" ∨ Tn = "list" ∨ Tn = "str")
    (h : GE k n c a g fun x g1 => Q (.bool (isTy Tn x)) g1) (hn : T ≠ "__name__" := by decide) (hd : (T == ("__debug__" : Str)) = false := by decide)
    (hs : ∀ env, starEach [a, .Name T pT] env = (false, eval a env) :: starEach [.Name T pT] env := by intro _; rfl) : GE k n c (.Call (.Name "isinstance" p) [a, .Name T pT] [] pos) g Q := fun σ H H0 A => runE_of fun X hX =>
  ⟨_, pe_callB call_isi (glx hX hg) (mgx hX hm) boot_isinstance (pa_cons (pe_run hX) (pa_cons (pe_bltn (v := .ty Tn) (glx hX hgT) (mgx hX hmT) hbT rfl hn hd) pa_nil rfl) (hs _)) (by decide) (by decide) (hs _) rfl,
    runE_mono (h σ H H0 A) fun v H1 ⟨x, g1, H01, s1, A1, q1, h1⟩ => ⟨v, .ty Tn, .type (tyN x), .type Tn, isTy Tn x, rfl, .ty Tn, tyx_of A1.sub q1, kit_one hT (dq_nodict q1), _, g1, H01, s1, A1, .bl _, h1⟩⟩
theorem ge_isi2 {T U : Str} {Tn Un : String} {pT pU pP : Pos} {kt : Nat} {Q : PyData → GS → Prop} (hg : c.Gb "isinstance") (hm : k.mg "isinstance" = none) (hgT : c.Gb T) (hmT : k.mg T = none) (hbT : bootBuiltins T = some (.type Tn)) (hT : Tn = "int" ∨ Tn = "bool" ∨ Tn = "tuple" ∨ Tn = "list" ∨ Tn = "str")
    (hgU : c.Gb U) (hmU : k.mg U = none) (hbU : bootBuiltins U = some (.type Un)) (hU : Un = "int" ∨ Un = "bool" ∨ Un = "tuple" ∨ Un = "list" ∨ Un = "str")
    (h : GE k n c a g fun x g1 => Q (.bool (isTy Tn x || isTy Un x)) g1) (hn : T ≠ "__name__" := by decide) (hd : (T == ("__debug__" : Str)) = false := by decide) (hn2 : U ≠ "__name__" := by decide) (hd2 : (U == ("__debug__" : Str)) = false := by decide)
    (hs : ∀ env, starEach [a, .Tuple [.Name T pT, .Name U pU] kt pP] env = (false, eval a env) :: starEach [.Tuple [.Name T pT, .Name U pU] kt pP] env := by intro _; rfl) : GE k n c (.Call (.Name "isinstance" p) [a, .Tuple [.Name T pT, .Name U pU] kt pP] [] pos) g Q := fun σ H H0 A => runE_of fun X hX =>
  ⟨_, pe_callB call_isiT (glx hX hg) (mgx hX hm) boot_isinstance (pa_cons (pe_run hX) (pa_cons (pe_tup (pa_cons (pe_bltn (v := .ty Tn) (glx hX hgT) (mgx hX hmT) hbT rfl hn hd) (pa_cons (pe_bltn (v := .ty Un) (glx hX hgU) (mgx hX hmU) hbU rfl hn2 hd2) pa_nil rfl) rfl)) pa_nil rfl) (hs _)) (by decide) (by decide) (hs _) rfl,
    runE_mono (h σ H H0 A) fun v H1 ⟨x, g1, H01, s1, A1, q1, h1⟩ => ⟨by show 2 ≤ sizeLine; decide, fun tp htp => by
      have o := One.tup (H := H1) (H0 := H01) (xs := [.ty Tn, .ty Un]) htp
      refine ⟨v, tp, [.ty Tn, .ty Un], .type (tyN x), [.type Tn, .type Un], isTy Tn x || isTy Un x, rfl, upd_same, .cons (.ty Tn) (.cons (.ty Un) .nil), tyx_of (A1.one o).1.sub (Dq_ex (o.ex A1.sub) _ _ q1), ?_, _, g1, _, s1.trans (A1.one o).2, (A1.one o).1, .bl _, h1⟩
      refine kitAny_cons (kit_one hT (dq_nodict q1)) (fun e => ?_) (fun e => by rw [e]; rfl)
      refine kitAny_cons (kit_one hU (dq_nodict q1)) (fun e2 => ?_) (fun e2 => by rw [e, e2]; rfl)
      rw [e, e2]
      rfl⟩⟩
end
end Gh
set_option Elab.async false
set_option linter.all false
set_option maxRecDepth 100000
set_option maxHeartbeats 4000000
namespace Gh
open PySem PySem.Spec PyProof.Rows L2

theorem set_get {α : Type} {l : List α} {i j : Nat} {x y : α} (h : (l.set i x)[j]? = some y) : (j = i ∧ x = y) ∨ (j ≠ i ∧ l[j]? = some y) := by
  by_cases e : j = i
  · subst e
    by_cases hl : j < l.length
    · rw [List.getElem?_set_self hl] at h; exact .inl ⟨rfl, Option.some.inj h⟩
    · rw [List.getElem?_eq_none (by simpa using hl)] at h; cases h
  · rw [List.getElem?_set_ne (Ne.symm e)] at h; exact .inr ⟨e, h⟩

section
variable {k : Kit} {n : Ent} {c : Cd} {g : GS} {σ : L2.St} {H H0 : Hp}
/-- only the slots change -/
theorem At.slots {g' : GS} {σ' : L2.St} (A : At k n g σ H H0) (hr : g'.row = g.row) (hl : g'.env.length = σ'.length)
    (dat : ∀ (i : Nat) d, g'.env[i]? = some (SV.dat d) → ∃ v, σ'[i]? = some (some v) ∧ Dq H0 v d)
    (mt : ∀ (i : Nat) m ds, g'.env[i]? = some (SV.mu m ds) → g.env[i]? = some (SV.mu m ds) ∧ σ'[i]? = σ[i]?) (rw' : ∀ (i : Nat), g'.env[i]? = some SV.row → g.env[i]? = some SV.row ∧ σ'[i]? = σ[i]?) : At k n g' σ' H H0 where
  view := A.view
  sub := A.sub
  e0 := A.e0
  eH := by rw [hr]; exact A.eH
  fr := A.fr
  eK := A.eK
  tabs := A.tabs
  len := hl
  dat := dat
  mt := fun i m ds e => by
    obtain ⟨h1, h2⟩ := mt i m ds e
    obtain ⟨a1, a2, a3, a4, a5⟩ := A.mt i m ds h1
    exact ⟨by rw [h2]; exact a1, a2, a3, by rw [hr]; exact a4, a5⟩
  dist := fun i j m ds es h1 h2 => A.dist i j m ds es (mt i m ds h1).1 (mt j m es h2).1
  rowS := fun i e => by
    obtain ⟨h1, h2⟩ := rw' i e
    obtain ⟨ρ, a1, a2⟩ := A.rowS i h1
    exact ⟨ρ, by rw [hr]; exact a1, by rw [h2]; exact a2⟩
  row := by rw [hr]; exact A.row
theorem At.set_dat {i : Nat} {v : V} {d : PyData} (A : At k n g σ H H0) (h : Dq H0 v d) : At k n (g.set i (.dat d)) (σ.set i (some v)) H H0 := by
  have hl := A.len
  refine A.slots rfl (by show (g.env.set i _).length = _; simp [hl]) (fun j d' e => ?_) (fun j m ds e => ?_) (fun j e => ?_)
  · rcases set_get (l := g.env) e with ⟨rfl, e'⟩ | ⟨hj, e'⟩
    · cases e'
      have hj : j < g.env.length := by
        have := (List.getElem?_eq_some_iff.mp e).1
        simpa [GS.set] using this
      exact ⟨v, List.getElem?_set_self (by omega), h⟩
    · obtain ⟨w, e1, e2⟩ := A.dat j d' e'
      exact ⟨w, by rw [List.getElem?_set_ne (Ne.symm hj)]; exact e1, e2⟩
  · rcases set_get (l := g.env) e with ⟨rfl, e'⟩ | ⟨hj, e'⟩
    · cases e'
    · exact ⟨e', List.getElem?_set_ne (Ne.symm hj)⟩
  · rcases set_get (l := g.env) e with ⟨rfl, e'⟩ | ⟨hj, e'⟩
    · cases e'
    · exact ⟨e', List.getElem?_set_ne (Ne.symm hj)⟩
theorem At.set_non {i : Nat} (A : At k n g σ H H0) : At k n (g.set i .non) (σ.set i none) H H0 := by
  have hl := A.len
  refine A.slots rfl (by show (g.env.set i _).length = _; simp [hl]) (fun j d' e => ?_) (fun j m ds e => ?_) (fun j e => ?_)
  · rcases set_get (l := g.env) e with ⟨rfl, e'⟩ | ⟨hj, e'⟩
    · cases e'
    · obtain ⟨w, e1, e2⟩ := A.dat j d' e'
      exact ⟨w, by rw [List.getElem?_set_ne (Ne.symm hj)]; exact e1, e2⟩
  · rcases set_get (l := g.env) e with ⟨rfl, e'⟩ | ⟨hj, e'⟩
    · cases e'
    · exact ⟨e', List.getElem?_set_ne (Ne.symm hj)⟩
  · rcases set_get (l := g.env) e with ⟨rfl, e'⟩ | ⟨hj, e'⟩
    · cases e'
    · exact ⟨e', List.getElem?_set_ne (Ne.symm hj)⟩
def GS.wp (g : GS) : List Nat → GS
  | [] => g
  | v :: vs => (g.wp vs).set v .non
theorem At.wp (A : At k n g σ H H0) : ∀ vs : List Nat, At k n (g.wp vs) (wipe σ vs) H H0
  | [] => A
  | v :: vs => (At.wp A vs).set_non
/-- an object of H that is not part of the view -/
theorem At.hid {p : Addr} {o : HO} (A : At k n g σ H H0) (hp : H p = none) (ho : ∀ ps, o ≠ HO.tbl ps) : At k n g σ (upd H p o) H0 := by
  have kpH : ∀ a u, H a = some u → upd H p o a = some u := Ex.upd hp
  refine ⟨A.view, fun a u e => kpH a u (A.sub a u e), A.e0, fun a u e h1 h2 => kpH a u (A.eH a u e h1 h2), A.fr, fun a e => ?_, fun P hP => ?_, A.len, A.dat, fun i m ds e => ?_, A.dist, A.rowS, fun ρ e => ?_⟩
  · by_cases h : a = p
    · subst h; rw [upd_same] at e; cases e
    · rw [upd_ne h] at e; exact A.eK a e
  · obtain ⟨ps, e, t⟩ := A.tabs P hP
    exact ⟨ps, kpH _ _ e, t⟩
  · obtain ⟨h1, h2, h3, h4, vs, h5, h6⟩ := A.mt i m ds e
    exact ⟨h1, h2, h3, h4, vs, kpH _ _ h5, h6⟩
  · obtain ⟨h1, h2, h3⟩ := A.row ρ e
    exact ⟨kpH _ _ h1, h2, h3⟩
/-- a hidden list becomes a slot's own -/
theorem At.set_mu {i : Nat} {p : Addr} {vs : List V} {ds : List PyData} (A : At k n g σ H H0) (h : H p = some (.lst vs)) (h0 : H0 p = none) (hE : n.He p = none) (hr : ∀ ρ, g.row = some ρ → ρ.r ≠ p) (hm : ∀ (j : Nat) es, g.env[j]? ≠ some (SV.mu p es)) (hd : DqAll H0 vs ds) :
    At k n (g.set i (.mu p ds)) (σ.set i (some (.ref p))) H H0 := by
  have hl := A.len
  refine ⟨A.view, A.sub, A.e0, A.eH, A.fr, A.eK, A.tabs, by show (g.env.set i _).length = _; simp [hl], fun j d' e => ?_, fun j m es e => ?_, fun j j' m ds' es h1 h2 => ?_, fun j e => ?_, A.row⟩
  · rcases set_get (l := g.env) e with ⟨rfl, e'⟩ | ⟨hj, e'⟩
    · cases e'
    · obtain ⟨w, e1, e2⟩ := A.dat j d' e'
      exact ⟨w, by rw [List.getElem?_set_ne (Ne.symm hj)]; exact e1, e2⟩
  · rcases set_get (l := g.env) e with ⟨rfl, e'⟩ | ⟨hj, e'⟩
    · cases e'
      have hj : j < g.env.length := by
        have := (List.getElem?_eq_some_iff.mp e).1
        simpa [GS.set] using this
      exact ⟨List.getElem?_set_self (by omega), h0, hE, hr, vs, h, hd⟩
    · obtain ⟨a1, a2, a3, a4, a5⟩ := A.mt j m es e'
      exact ⟨by rw [List.getElem?_set_ne (Ne.symm hj)]; exact a1, a2, a3, a4, a5⟩
  · rcases set_get (l := g.env) h1 with ⟨rfl, e1⟩ | ⟨hj, e1⟩ <;> rcases set_get (l := g.env) h2 with ⟨rfl, e2⟩ | ⟨hj', e2⟩
    · rfl
    · cases e1; exact absurd e2 (hm _ _)
    · cases e2; exact absurd e1 (hm _ _)
    · exact A.dist j j' m ds' es e1 e2
  · rcases set_get (l := g.env) e with ⟨rfl, e'⟩ | ⟨hj, e'⟩
    · cases e'
    · obtain ⟨ρ, a1, a2⟩ := A.rowS j e'
      exact ⟨ρ, a1, by rw [List.getElem?_set_ne (Ne.symm hj)]; exact a2⟩
/-- a new list that only a slot holds -/
theorem At.new_mu {i : Nat} {p : Addr} {vs : List V} {ds : List PyData} (A : At k n g σ H H0) (hp : H p = none) (hd : DqAll H0 vs ds) : At k n (g.set i (.mu p ds)) (σ.set i (some (.ref p))) (upd H p (.lst vs)) H0 := by
  refine (A.hid hp (fun ps z => by cases z)).set_mu upd_same (A.sub.none hp) (A.eK p hp) (fun ρ e z => ?_) (fun j es e => ?_) hd
  · have := (A.row ρ e).1
    rw [z, hp] at this; cases this
  · obtain ⟨_, _, _, _, vs, h5, _⟩ := A.mt j p es e
    rw [hp] at h5; cases h5
/-- a slot's own list is frozen: it is part of the view from now on -/
theorem At.frz {i : Nat} {m : Addr} {ds : List PyData} (A : At k n g σ H H0) (hi : g.env[i]? = some (SV.mu m ds)) : ∃ H0', Ex H0 H0' ∧ At k n (g.set i (.dat (.list ds))) σ H H0' := by
  obtain ⟨h1, h2, h3, h4, vs, h5, h6⟩ := A.mt i m ds hi
  have ex : Ex H0 (upd H0 m (.lst vs)) := Ex.upd h2
  refine ⟨upd H0 m (.lst vs), ex, ⟨fun a ps e => ?_, fun a u e => ?_, A.e0.trans ex, A.eH, fun a u e => ?_, A.eK, A.tabs, by show (g.env.set i _).length = _; simp [A.len], fun j d' e => ?_, fun j m' es e => ?_, fun j j' m' ds' es e1 e2 => ?_, fun j e => ?_, fun ρ e => ?_⟩⟩
  · by_cases h : a = m
    · subst h; rw [upd_same] at e; cases e
    · rw [upd_ne h] at e; exact A.view a ps e
  · by_cases h : a = m
    · subst h; rw [upd_same] at e; rw [← e]; exact h5
    · rw [upd_ne h] at e; exact A.sub a u e
  · by_cases h : a = m
    · subst h; exact .inr h3
    · rw [upd_ne h] at e; exact A.fr a u e
  · rcases set_get (l := g.env) e with ⟨rfl, e'⟩ | ⟨hj, e'⟩
    · cases e'
      exact ⟨.ref m, h1, .lst upd_same (DqAll_ex ex _ _ h6)⟩
    · obtain ⟨w, e1, e2⟩ := A.dat j d' e'
      exact ⟨w, e1, Dq_ex ex _ _ e2⟩
  · rcases set_get (l := g.env) e with ⟨rfl, e'⟩ | ⟨hj, e'⟩
    · cases e'
    · obtain ⟨a1, a2, a3, a4, vs', a5, a6⟩ := A.mt j m' es e'
      have hne : m' ≠ m := fun z => hj (A.dist j i m' es ds e' (z ▸ hi))
      exact ⟨a1, by rw [upd_ne hne]; exact a2, a3, a4, vs', a5, DqAll_ex ex _ _ a6⟩
  · rcases set_get (l := g.env) e1 with ⟨rfl, b1⟩ | ⟨hj, b1⟩
    · cases b1
    · rcases set_get (l := g.env) e2 with ⟨rfl, b2⟩ | ⟨hj', b2⟩
      · cases b2
      · exact A.dist j j' m' ds' es b1 b2
  · rcases set_get (l := g.env) e with ⟨rfl, e'⟩ | ⟨hj, e'⟩
    · cases e'
    · exact A.rowS j e'
  · obtain ⟨a1, a2, a3⟩ := A.row ρ e
    exact ⟨a1, by rw [upd_ne (h4 ρ e)]; exact a2, ex.seqL a3⟩
/-- an item behind a slot's own list -/
theorem At.app {i : Nat} {m : Addr} {ds : List PyData} {vs : List V} {v : V} {d : PyData} (A : At k n g σ H H0) (hi : g.env[i]? = some (SV.mu m ds)) (hH : H m = some (.lst vs)) (hv : Dq H0 v d) : At k n (g.set i (.mu m (ds ++ [d]))) σ (upd H m (.lst (vs ++ [v]))) H0 := by
  obtain ⟨h1, h2, h3, h4, vs', h5, h6⟩ := A.mt i m ds hi
  rw [hH] at h5
  cases h5
  have other : ∀ a u, a ≠ m → H a = some u → upd H m (.lst (vs ++ [v])) a = some u := fun a u h e => by rw [upd_ne h]; exact e
  refine ⟨A.view, fun a u e => ?_, A.e0, fun a u e e1 e2 => ?_, A.fr, fun a e => ?_, fun P hP => ?_, by show (g.env.set i _).length = _; simp [A.len], fun j d' e => ?_, fun j m' es e => ?_, fun j j' m' ds' es e1 e2 => ?_, fun j e => ?_, fun ρ e => ?_⟩
  · exact other a u (ne_of_none e h2) (A.sub a u e)
  · exact other a u (ne_of_none e h3) (A.eH a u e e1 e2)
  · by_cases h : a = m
    · subst h; rw [upd_same] at e; cases e
    · rw [upd_ne h] at e; exact A.eK a e
  · obtain ⟨ps, e, t⟩ := A.tabs P hP
    exact ⟨ps, other _ _ (ne_of e hH (fun z => by cases z)) e, t⟩
  · rcases set_get (l := g.env) e with ⟨rfl, e'⟩ | ⟨hj, e'⟩
    · cases e'
    · exact A.dat j d' e'
  · rcases set_get (l := g.env) e with ⟨rfl, e'⟩ | ⟨hj, e'⟩
    · cases e'
      exact ⟨h1, h2, h3, h4, _, upd_same, da_append h6 (.cons hv .nil)⟩
    · obtain ⟨a1, a2, a3, a4, vs', a5, a6⟩ := A.mt j m' es e'
      have hne : m' ≠ m := fun z => hj (A.dist j i m' es ds e' (z ▸ hi))
      exact ⟨a1, a2, a3, a4, vs', other _ _ hne a5, a6⟩
  · have key : ∀ (j : Nat) (es : List PyData), (g.set i (.mu m (ds ++ [d]))).env[j]? = some (SV.mu m' es) → ∃ es', g.env[j]? = some (SV.mu m' es') := fun j es e => by
      rcases set_get (l := g.env) e with ⟨rfl, e'⟩ | ⟨hj, e'⟩
      · cases e'; exact ⟨_, hi⟩
      · exact ⟨_, e'⟩
    obtain ⟨x1, y1⟩ := key j ds' e1
    obtain ⟨x2, y2⟩ := key j' es e2
    exact A.dist j j' m' x1 x2 y1 y2
  · rcases set_get (l := g.env) e with ⟨rfl, e'⟩ | ⟨hj, e'⟩
    · cases e'
    · exact A.rowS j e'
  · obtain ⟨a1, a2, a3⟩ := A.row ρ e
    exact ⟨other _ _ (h4 ρ e) a1, a2, a3⟩
/-- the slots of an earlier state, the heap of a later one -/
theorem At.later {g' g2 : GS} {σ2 : L2.St} {H' H0' : Hp} (A : At k n g σ H H0) (S : Stp g H H0 g' H' H0') (A' : At k n g2 σ2 H' H0') (hr : g2.row = g'.row) : At k n ⟨g.env, g'.row⟩ σ H' H0' := by
  refine ⟨A'.view, A'.sub, A'.e0, by rw [← hr]; exact A'.eH, A'.fr, A'.eK, A'.tabs, A.len, fun i d e => ?_, fun i m ds e => ?_, A.dist, fun i e => ?_, fun ρ e => A'.row ρ (by rw [hr]; exact e)⟩
  · obtain ⟨v, e1, e2⟩ := A.dat i d e
    exact ⟨v, e1, Dq_ex S.ex _ _ e2⟩
  · obtain ⟨h1, h2, h3, h4, vs, h5, h6⟩ := A.mt i m ds e
    have hrow : g.row.map RowS.r ≠ some m := fun z => by
      cases hg : g.row with
      | none => rw [hg] at z; cases z
      | some ρ => rw [hg] at z; exact h4 ρ hg (Option.some.inj z)
    refine ⟨h1, ?_, h3, fun ρ e z => ?_, vs, S.exH m _ h5 (fun ps z => by cases z) hrow, DqAll_ex S.ex _ _ h6⟩
    · cases q : H0' m with
      | none => rfl
      | some o =>
        rcases S.fr m o q with z | z
        · rw [h2] at z; cases z
        · rw [h5] at z; cases z
    · have e' : g'.row = some ρ := e
      have := S.rr
      rw [e'] at this
      exact hrow (by rw [← this, ← z]; rfl)
  · obtain ⟨ρ, a1, a2⟩ := A.rowS i e
    have := S.rr
    rw [a1] at this
    cases q : g'.row with
    | none => rw [q] at this; cases this
    | some ρ' =>
      rw [q] at this
      have e1 : ρ'.r = ρ.r := Option.some.inj this
      exact ⟨ρ', rfl, by rw [e1]; exact a2⟩
end
end Gh
set_option Elab.async false
set_option linter.all false
set_option maxRecDepth 100000
set_option maxHeartbeats 4000000
namespace Gh
open PySem PySem.Spec PyProof.Rows L2

structure GD where
  nx : GS → Prop
  rt : PyData → GS → Prop
  bk : GS → Prop := fun _ => False
  ct : GS → Prop := fun _ => False
abbrev GD.wn (D : GD) (p : GS → Prop) : GD := { nx := p, rt := D.rt, bk := D.bk, ct := D.ct }
abbrev GD.lp (D : GD) (p : GS → Prop) : GD := { nx := p, rt := D.rt, bk := D.nx, ct := p }
section
variable (k : Kit) (n : Ent) (c : Cd)
def upN (H0 : Hp) (p : GS → Prop) : L2.St → Hp → Prop := fun σ H => ∃ g' H0', Ex H0 H0' ∧ At k n g' σ H H0' ∧ p g'
def upR (q : PyData → GS → Prop) : VK := fun v H => ∃ d g' σ H0', At k n g' σ H H0' ∧ Dq H0' v d ∧ q d g'
def up (H0 : Hp) (D : GD) : Ends := { nx := upN k n H0 D.nx, rt := upR k n D.rt, bk := upN k n H0 D.bk, ct := upN k n H0 D.ct }
def GS1 (st : Stmt) (g : GS) (D : GD) : Prop := ∀ σ H H0, At k n g σ H H0 → RunS k c st (up k n H0 D) σ H
def GSs (sts : List Stmt) (g : GS) (D : GD) : Prop := ∀ σ H H0, At k n g σ H H0 → RunSs k c sts (up k n H0 D) σ H
/-- a target, its slots ts -/
def GG (tg : Expr) (ts : List Nat) (d : PyData) (g : GS) (R : GS → Prop) : Prop := ∀ v σ H H0, At k n g σ H H0 → Dq H0 v d → RunG k c tg v σ H fun σ' H' => H' = H ∧ σ'.length = σ.length ∧ (∀ j, j ∉ ts → σ'[j]? = σ[j]?) ∧ ∃ g', At k n g' σ' H H0 ∧ g'.row = g.row ∧ R g'
def GGs (tg : List Expr) (ts : List Nat) (ds : List PyData) (g : GS) (R : GS → Prop) : Prop := ∀ vs σ H H0, At k n g σ H H0 → DqAll H0 vs ds → RunGs k c tg vs σ H fun σ' H' => H' = H ∧ σ'.length = σ.length ∧ (∀ j, j ∉ ts → σ'[j]? = σ[j]?) ∧ ∃ g', At k n g' σ' H H0 ∧ g'.row = g.row ∧ R g'
end
section
variable {k : Kit} {n : Ent} {c : Cd} {g : GS} {a b e : Expr} {pos p : Pos} {D : GD}
theorem sp_mono {X : Cx} {pins : List (Addr × Obj)} {D D' : Ends} {f : Flow} {s : Shared} (h : SP X pins D f s) (h1 : ∀ σ H, D.nx σ H → D'.nx σ H) (h2 : ∀ v H, D.rt v H → D'.rt v H) (h3 : ∀ σ H, D.bk σ H → D'.bk σ H) (h4 : ∀ σ H, D.ct σ H → D'.ct σ H) : SP X pins D' f s := by
  cases f with
  | next => obtain ⟨σ', H', I, q⟩ := h; exact ⟨σ', H', I, h1 _ _ q⟩
  | brk => obtain ⟨σ', H', I, q⟩ := h; exact ⟨σ', H', I, h3 _ _ q⟩
  | cont => obtain ⟨σ', H', I, q⟩ := h; exact ⟨σ', H', I, h4 _ _ q⟩
  | ret u => obtain ⟨v, σ', H', I, r, q⟩ := h; exact ⟨v, σ', H', I, r, h2 _ _ q⟩
theorem runS_mono {st : Stmt} {D D' : Ends} {σ : L2.St} {H : Hp} (h : RunS k c st D σ H) (h1 : ∀ σ H, D.nx σ H → D'.nx σ H) (h2 : ∀ v H, D.rt v H → D'.rt v H) (h3 : ∀ σ H, D.bk σ H → D'.bk σ H) (h4 : ∀ σ H, D.ct σ H → D'.ct σ H) : RunS k c st D' σ H := fun X hX pins s I =>
  thn (h X hX pins s I) fun f s' q => sp_mono q h1 h2 h3 h4
theorem runSs_mono {st : List Stmt} {D D' : Ends} {σ : L2.St} {H : Hp} (h : RunSs k c st D σ H) (h1 : ∀ σ H, D.nx σ H → D'.nx σ H) (h2 : ∀ v H, D.rt v H → D'.rt v H) (h3 : ∀ σ H, D.bk σ H → D'.bk σ H) (h4 : ∀ σ H, D.ct σ H → D'.ct σ H) : RunSs k c st D' σ H := fun X hX pins s I =>
  thn (h X hX pins s I) fun f s' q => sp_mono q h1 h2 h3 h4
theorem upN_ex {H0 H01 : Hp} {p : GS → Prop} (e : Ex H0 H01) {σ : L2.St} {H : Hp} (h : upN k n H01 p σ H) : upN k n H0 p σ H := by
  obtain ⟨g', H0', e', A, q⟩ := h
  exact ⟨g', H0', e.trans e', A, q⟩
theorem runG_mono {tg : Expr} {v : V} {σ : L2.St} {H : Hp} {Q Q' : L2.St → Hp → Prop} (h : RunG k c tg v σ H Q) (hq : ∀ σ H, Q σ H → Q' σ H) : RunG k c tg v σ H Q' := fun X hX pins s u I r =>
  thn (h X hX pins s u I r) fun _ s' ⟨σ', H', I', q⟩ => ⟨σ', H', I', hq _ _ q⟩
theorem runGs_mono {tg : List Expr} {v : List V} {σ : L2.St} {H : Hp} {Q Q' : L2.St → Hp → Prop} (h : RunGs k c tg v σ H Q) (hq : ∀ σ H, Q σ H → Q' σ H) : RunGs k c tg v σ H Q' := fun X hX pins s u I r =>
  thn (h X hX pins s u I r) fun _ s' ⟨σ', H', I', q⟩ => ⟨σ', H', I', hq _ _ q⟩

theorem gs_nil (h : D.nx g) : GSs k n c [] g D := fun σ H H0 A => runSs_of fun X hX => ⟨_, pss_nil, g, H0, Ex.refl _, A, h⟩
theorem gs_cons {st : Stmt} {rest : List Stmt} (h : GS1 k n c st g (D.wn fun g' => GSs k n c rest g' D)) : GSs k n c (st :: rest) g D := fun σ H H0 A => runSs_of fun X hX =>
  ⟨_, pss_cons (ps_run hX) (pss_run hX), runS_mono (h σ H H0 A) (fun σ' H' ⟨g1, H01, ex, A1, q⟩ => runSs_mono (q σ' H' H01 A1) (fun _ _ q => upN_ex ex q) (fun _ _ q => q) (fun _ _ q => upN_ex ex q) fun _ _ q => upN_ex ex q) (fun _ _ q => q) (fun _ _ q => q) fun _ _ q => q⟩
theorem gs_frz (i : Nat) {m : Addr} {ds : List PyData} {sts : List Stmt} (hi : g.env[i]? = some (SV.mu m ds)) (h : GSs k n c sts (g.set i (.dat (.list ds))) D) : GSs k n c sts g D := fun σ H H0 A => by
  obtain ⟨H01, ex, A1⟩ := A.frz hi
  exact runSs_mono (h σ H H01 A1) (fun _ _ q => upN_ex ex q) (fun _ _ q => q) (fun _ _ q => upN_ex ex q) fun _ _ q => upN_ex ex q
/-- the state at the end of an expression, for what follows -/
theorem Post.elim {σ : L2.St} {H H0 : Hp} {Q : PyData → GS → Prop} {v : V} {H' : Hp} (h : Post k n σ g H H0 Q v H') : ∃ d g' H0', Ex H0 H0' ∧ At k n g' σ H' H0' ∧ Dq H0' v d ∧ Q d g' := by
  obtain ⟨d, g', H0', s, a, q, r⟩ := h
  exact ⟨d, g', H0', s.ex, a, q, r⟩

/-! ### targets -/
theorem gg_name (i : Nat) {x : Str} {d : PyData} {R : GS → Prop} (hi : c.N[i]? = some x) (hx : x ∈ c.stn) (h : R (g.set i (.dat d))) : GG k n c (.Name x pos) [i] d g R := fun v σ H H0 A hd => runG_of fun X hX =>
  ⟨_, pg_name (i := i) hX.nd (by rw [hX.N]; exact hi) (by rw [hX.sc]; exact hX.loc x hx) (hX.st x hx), rfl, by simp, fun j hj => List.getElem?_set_ne (fun z => hj (by rw [z]; exact List.mem_singleton.mpr rfl)), _, A.set_dat hd, rfl, h⟩
theorem gg_nil {R : GS → Prop} (h : R g) : GGs k n c [] [] [] g R := fun vs σ H H0 A hd => runGs_of fun X hX => ⟨_, pgs_nil, by cases hd; rfl, rfl, rfl, fun _ _ => rfl, g, A, rfl, h⟩
theorem gg_cons {e : Expr} {es : List Expr} {ts ts' : List Nat} {d : PyData} {ds : List PyData} {R : GS → Prop} (h : GG k n c e ts d g fun g' => GGs k n c es ts' ds g' R)
    (hs : ∀ env, (assignEach (e :: es) env).map (·.2) = assign e env :: (assignEach es env).map (·.2) := by intro _; rfl) : GGs k n c (e :: es) (ts ++ ts') (d :: ds) g R := fun vs σ H H0 A hd => runGs_of fun X hX =>
  ⟨_, pgs_cons (pg_run hX) (pgs_run hX) (hs _), by
    cases hd with
    | cons h1 h2 =>
      exact ⟨_, _, rfl, runG_mono (h _ σ H H0 A h1) fun σ' H' ⟨e1, l1, k1, g1, A1, hr1, q⟩ => by
        subst e1
        exact runGs_mono (q _ σ' _ H0 A1 h2) fun σ2 H2 ⟨e2, l2, k2, g2, A2, hr2, q2⟩ =>
          ⟨e2, l2.trans l1, fun j hj => (k2 j fun z => hj (List.mem_append_right _ z)).trans (k1 j fun z => hj (List.mem_append_left _ z)), g2, A2, hr2.trans hr1, q2⟩⟩⟩
theorem gg_tup {es : List Expr} {kt : Nat} {ts : List Nat} {ds : List PyData} {R : GS → Prop} (h : GGs k n c es ts ds g R) (hl : ds.length = es.length := by rfl)
    (hn : ∀ env, (assignEach es env).length = es.length := by intro _; rfl) (hst : ∀ env, (assignEach es env).findIdx? (·.1) = none := by intro _; rfl) : GG k n c (.Tuple es kt pos) ts (.tuple ds) g R := fun v σ H H0 A hd => runG_of fun X hX =>
  ⟨_, pg_tup hX.calm (pgs_run hX) (hn _) (hst _), by
    cases hd with
    | @tup p xs _ h1 h2 => exact ⟨p, xs, rfl, SqT.of (A.sub _ _ h1), by rw [da_length h2, hl], h xs σ H H0 A h2⟩⟩

/-! ### plain statements -/
theorem gs_set (i : Nat) {x : Str} {e : Expr} {pos' : Pos} (hi : c.N[i]? = some x) (hx : x ∈ c.stn) (h : GE k n c e g fun d g1 => D.nx (g1.set i (.dat d)))
    (hs : ∀ env, swapsWith e (some (.Name x pos')) pos.line env = pure false := by intro _; rfl) : GS1 k n c (.Assign [.Name x pos'] e pos) g D := fun σ H H0 A => runS_of fun X hX =>
  ⟨_, ps_set (i := i) hX.nd (by rw [hX.N]; exact hi) (by rw [hX.sc]; exact hX.loc x hx) (pe_run hX) (hs _) (hX.st x hx), runE_mono (h σ H H0 A) fun v H1 h1 => by
    obtain ⟨d, g1, H01, ex, A1, q1, hq⟩ := h1.elim
    exact ⟨_, H01, ex, A1.set_dat q1, hq⟩⟩
/-- x = a new list of its own -/
theorem gs_new (i : Nat) {x : Str} {es : List Expr} {pos' p2 : Pos} (hi : c.N[i]? = some x) (hx : x ∈ c.stn) (h : GA k n c es g fun ds g1 => ds.length ≤ sizeLine ∧ ∀ m, D.nx (g1.set i (.mu m ds)))
    (hs : ∀ env, swapsWith (.List es p2) (some (.Name x pos')) pos.line env = pure false := by intro _; rfl) : GS1 k n c (.Assign [.Name x pos'] (.List es p2) pos) g D := fun σ H H0 A => runS_of fun X hX =>
  ⟨_, ps_set (i := i) hX.nd (by rw [hX.N]; exact hi) (by rw [hX.sc]; exact hX.loc x hx) (pe_lst (pa_run hX)) (hs _) (hX.st x hx), runA_mono (h σ H H0 A) fun vs H1 ⟨ds, g1, H01, s1, A1, q1, hl, hq⟩ =>
    ⟨by rw [da_length q1]; exact hl, fun p hp => ⟨_, H01, s1.ex, A1.new_mu hp q1, hq p⟩⟩⟩
theorem gs_asg {tg e : Expr} {ts : List Nat} (h : GE k n c e g fun d g1 => GG k n c tg ts d g1 D.nx) (hs : ∀ env, swapsWithSole [tg] e pos.line env = pure false := by intro _; rfl) (hw : ∀ env : Env, env.scope = c.sc → swappedStores [tg] e env = pure none)
    (h1 : ∀ env, (assignEach [tg] env).map (·.2) = [assign tg env] := by intro _; rfl) : GS1 k n c (.Assign [tg] e pos) g D := fun σ H H0 A => runS_of fun X hX =>
  ⟨_, ps_asg (pe_run hX) (pg_run hX) (hs _) (hw _ hX.sc) (h1 _), runE_mono (h σ H H0 A) fun v H1 h1 => by
    obtain ⟨d, g1, H01, ex, A1, q1, hq⟩ := h1.elim
    exact runG_mono (hq v σ H1 H01 A1 q1) fun σ' H' ⟨e1, _, _, g2, A2, _, q2⟩ => by subst e1; exact ⟨g2, H01, ex, A2, q2⟩⟩
theorem gs_ret {e : Expr} (h : GE k n c e g fun d g1 => D.rt d g1) : GS1 k n c (.Return (some e) pos) g D := fun σ H H0 A => runS_of fun X hX =>
  ⟨_, ps_ret (pe_run hX), runE_mono (h σ H H0 A) fun v H1 h1 => by
    obtain ⟨d, g1, H01, ex, A1, q1, hq⟩ := h1.elim
    exact ⟨d, g1, σ, H01, A1, q1, hq⟩⟩
theorem gs_expr {e : Expr} (h : GE k n c e g fun d g1 => D.nx g1) (hs : ∀ env, swapsWith e none pos.line env = pure false := by intro _; rfl) : GS1 k n c (.Expr e pos) g D := fun σ H H0 A => runS_of fun X hX =>
  ⟨_, ps_expr (pe_run hX) (hs _), runE_mono (h σ H H0 A) fun v H1 h1 => by
    obtain ⟨d, g1, H01, ex, A1, q1, hq⟩ := h1.elim
    exact ⟨g1, H01, ex, A1, hq⟩⟩
theorem gs_if {t : Expr} {bs cs : List Stmt} (h : GT k n c t g fun x g1 => if x = true then GSs k n c bs g1 D else GSs k n c cs g1 D) : GS1 k n c (.If t bs cs pos) g D := fun σ H H0 A => runS_of fun X hX =>
  ⟨_, ps_if (pt_run hX) (pss_run hX) (pss_run hX), runT_mono (h σ H H0 A) fun x H1 ⟨g1, H01, s1, A1, q⟩ => by
    cases x with
    | true =>
      rw [if_pos rfl] at q ⊢
      exact runSs_mono (q σ H1 H01 A1) (fun _ _ q => upN_ex s1.ex q) (fun _ _ q => q) (fun _ _ q => upN_ex s1.ex q) fun _ _ q => upN_ex s1.ex q
    | false =>
      rw [if_neg Bool.false_ne_true] at q ⊢
      exact runSs_mono (q σ H1 H01 A1) (fun _ _ q => upN_ex s1.ex q) (fun _ _ q => q) (fun _ _ q => upN_ex s1.ex q) fun _ _ q => upN_ex s1.ex q⟩
/-- l.append(e), l a slot's own list -/
theorem gs_app (i : Nat) {x : Str} {e : Expr} {apos cpos npos : Pos} (hi : c.N[i]? = some x) (hv : Vis c.sc x) (hm0 : ∃ m ds, g.env[i]? = some (SV.mu m ds))
    (h : GE k n c e g fun d g1 => ∀ m ds, g1.env[i]? = some (SV.mu m ds) → ds.length < sizeLine ∧ D.nx (g1.set i (.mu m (ds ++ [d]))))
    (hd : (x == ("__debug__" : Str)) = false := by decide) (hcd : (x == ("__classdict__" : Str)) = false := by decide) (hs : ∀ env, swapsWith (.Call (.Attribute (.Name x npos) "append" apos) [e] [] cpos) none pos.line env = pure false := by intro _; rfl)
    (hbase : ∀ env, attributeBase (.Name x npos) "append" env (eval (.Name x npos) env) = eval (.Name x npos) env := by intro _; rfl)
    (hfew : ∀ env, ((backTo cpos (starEach [e] env)).all (fun x => !x.1) && (backToKw cpos (keywordEach [] env)).all (fun x => x.1.isSome) && decide (([e] : List Expr).length + ([] : List Keyword).length + (if ([] : List Keyword).isEmpty then 0 else 1) < 30)) = true := by intro _; rfl)
    (hline : (apos.endLine == cpos.line) = true := by rfl) (he : ∀ env, starEach [e] env = (false, eval e env) :: starEach [] env := by intro _; rfl) : GS1 k n c (.Expr (.Call (.Attribute (.Name x npos) "append" apos) [e] [] cpos) pos) g D := fun σ H H0 A => runS_of fun X hX =>
  ⟨_, ps_expr (pe_bm PySem.F.plainAttrs_list PySem.F.slot_list_append PySem.F.type_list_append mt_append (pe_var (i := i) (by rw [hX.N]; exact hi) (by rw [hX.sc]; exact hv) hd hcd) (pa_cons (pe_run hX) pa_nil (he _)) (hbase _) (hfew _) hline (he _) rfl) (hs _), by
    obtain ⟨m, ds, hm⟩ := hm0
    obtain ⟨h1, h2, h3, h4, vs, h5, h6⟩ := A.mt i m ds hm
    refine ⟨.ref m, h1, .inl ⟨rfl, vs, SqL.of h5⟩, runE_mono (h σ H H0 A) fun v H1 ⟨d, g1, H01, s1, A1, q1, hq⟩ => ?_⟩
    have hm1 : g1.env[i]? = some (SV.mu m ds) := by rw [s1.env]; exact hm
    obtain ⟨hz, hq⟩ := hq m ds hm1
    obtain ⟨_, _, _, _, ws, w5, w6⟩ := A1.mt i m ds hm1
    exact ⟨m, ws, v, rfl, rfl, w5, by rw [da_length w6]; exact hz, _, H01, s1.ex, A1.app hm1 w5 q1, hq⟩⟩
/-- code that is never reached -/
theorem gs_dead {st : Stmt} (h : False) : GS1 k n c st g D := h.elim

/-! ### a, b = x, y -/
theorem gs_par (i j : Nat) {x y : Str} {px py pt : Pos} {kt k2 : Nat} {pt2 : Pos} (hi : c.N[i]? = some x) (hj : c.N[j]? = some y) (hij : i ≠ j) (hx : c.sc.names.lookup x = some .local) (hy : c.sc.names.lookup y = some .local)
    (h : GA k n c [a, b] g fun ds g1 => ∃ d1 d2, ds = [d1, d2] ∧ D.nx ((g1.set i (.dat d1)).set j (.dat d2)))
    (hw : ∀ env : Env, env.scope = c.sc → swappedStores [.Tuple [.Name x px, .Name y py] kt pt] (.Tuple [a, b] k2 pt2) env = pure (some [x, y])) (hs : ∀ env, swapsWithSole [.Tuple [.Name x px, .Name y py] kt pt] (.Tuple [a, b] k2 pt2) pos.line env = pure false := by intro _; rfl) :
    GS1 k n c (.Assign [.Tuple [.Name x px, .Name y py] kt pt] (.Tuple [a, b] k2 pt2) pos) g D := fun σ H H0 A => runS_of fun X hX =>
  ⟨_, ps_par hX.calm hX.nd (by rw [hX.N]; exact hi) (by rw [hX.N]; exact hj) hij (by rw [hX.sc]; exact hx) (by rw [hX.sc]; exact hy) (pa_run hX) (hw _ hX.sc) (hs _), runA_mono (h σ H H0 A) fun vs H1 ⟨ds, g1, H01, s1, A1, q1, d1, d2, e1, hq⟩ => by
    subst e1
    cases q1 with
    | cons r1 r2 =>
      cases r2 with
      | cons r2 r3 =>
        cases r3
        exact ⟨_, _, rfl, _, H01, s1.ex, (A1.set_dat r1).set_dat r2, hq⟩⟩
/-- a, b = [], y: a's list its own -/
theorem gs_parM (i j : Nat) {x y : Str} {px py pt pl : Pos} {kt k2 : Nat} {pt2 : Pos} (hi : c.N[i]? = some x) (hj : c.N[j]? = some y) (hij : i ≠ j) (hx : c.sc.names.lookup x = some .local) (hy : c.sc.names.lookup y = some .local)
    (h : GE k n c b g fun d2 g1 => ∀ m, D.nx ((g1.set j (.dat d2)).set i (.mu m [])))
    (hw : ∀ env : Env, env.scope = c.sc → swappedStores [.Tuple [.Name x px, .Name y py] kt pt] (.Tuple [.List [] pl, b] k2 pt2) env = pure (some [x, y])) (hs : ∀ env, swapsWithSole [.Tuple [.Name x px, .Name y py] kt pt] (.Tuple [.List [] pl, b] k2 pt2) pos.line env = pure false := by intro _; rfl)
    (he : ∀ env, starEach [b] env = (false, eval b env) :: starEach [] env := by intro _; rfl) :
    GS1 k n c (.Assign [.Tuple [.Name x px, .Name y py] kt pt] (.Tuple [.List [] pl, b] k2 pt2) pos) g D := fun σ H H0 A => runS_of fun X hX =>
  ⟨_, ps_par hX.calm hX.nd (by rw [hX.N]; exact hi) (by rw [hX.N]; exact hj) hij (by rw [hX.sc]; exact hx) (by rw [hX.sc]; exact hy) (pa_cons (pe_lst pa_nil) (pa_cons (pe_run hX) pa_nil (he _)) rfl) (hw _ hX.sc) (hs _), Nat.zero_le _, fun p hp => by
    have Ah := A.hid (o := .lst []) hp (fun ps z => by cases z)
    refine runE_mono (h σ _ H0 Ah) fun v H1 ⟨d2, g1, H01, s1, A1, q1, hq⟩ => ⟨_, _, rfl, _, H01, s1.ex, ?_, hq p⟩
    have nrow : ∀ ρ, g.row = some ρ → ρ.r ≠ p := fun ρ e z => by
      have := (A.row ρ e).1
      rw [z, hp] at this; cases this
    have hrow : g.row.map RowS.r ≠ some p := fun z => by
      cases hg : g.row with
      | none => rw [hg] at z; cases z
      | some ρ => rw [hg] at z; exact nrow ρ hg (Option.some.inj z)
    have h1p : H1 p = some (.lst []) := s1.exH p _ upd_same (fun ps z => by cases z) hrow
    have h0p : H01 p = none := by
      cases q : H01 p with
      | none => rfl
      | some o =>
        rcases s1.fr p o q with z | z
        · rw [A.sub.none hp] at z; cases z
        · rw [upd_same] at z; cases z
    rw [List.set_comm _ _ hij]
    refine (A1.set_dat q1).set_mu h1p h0p (A.eK p hp) (fun ρ e z => ?_) (fun j' es e => ?_) .nil
    · have e' : g1.row = some ρ := e
      have := s1.rr
      rw [e'] at this
      exact hrow (by rw [← this, ← z]; rfl)
    · rcases set_get (l := g1.env) e with ⟨_, e'⟩ | ⟨_, e'⟩
      · cases e'
      · rw [s1.env] at e'
        obtain ⟨_, _, _, _, vs, h5, _⟩ := A.mt j' p es e'
        rw [hp] at h5; cases h5⟩
end
end Gh
set_option Elab.async false
set_option linter.all false
set_option maxRecDepth 100000
set_option maxHeartbeats 4000000
namespace Gh
open PySem PySem.Spec PyProof.Rows L2

/-! ### forgetting slots, walked things, loops -/
section
variable {k : Kit} {n : Ent} {c : Cd} {g : GS} {σ : L2.St} {H H0 : Hp}
theorem At.fg1 {i : Nat} (A : At k n g σ H H0) : At k n (g.set i .non) σ H H0 := by
  have hl := A.len
  refine A.slots rfl (by show (g.env.set i _).length = _; simp [hl]) (fun j d' e => ?_) (fun j m ds e => ?_) (fun j e => ?_)
  · rcases set_get (l := g.env) e with ⟨rfl, e'⟩ | ⟨hj, e'⟩
    · cases e'
    · exact A.dat j d' e'
  · rcases set_get (l := g.env) e with ⟨rfl, e'⟩ | ⟨hj, e'⟩
    · cases e'
    · exact ⟨e', rfl⟩
  · rcases set_get (l := g.env) e with ⟨rfl, e'⟩ | ⟨hj, e'⟩
    · cases e'
    · exact ⟨e', rfl⟩
theorem At.fg (A : At k n g σ H H0) : ∀ vs : List Nat, At k n (g.wp vs) σ H H0
  | [] => A
  | v :: vs => (At.fg A vs).fg1
theorem wp_row (g : GS) : ∀ vs, (g.wp vs).row = g.row
  | [] => rfl
  | v :: vs => wp_row g vs

/-- the iterator J gives the items of L, at any later time -/
def Wk (J : It) (H1 : Hp) (L : List PyData) : Prop := ∀ H H0, Ex H1 H0 → Ex H0 H → (∀ (i : Nat) d, L[i]? = some d → J.go i H ∧ ∀ x H', J.yld i H x H' → ∃ H0', One H H0 H' H0' ∧ Dq H0' x d) ∧ J.stop L.length H
theorem Wk.later {J : It} {H1 H2 : Hp} {L : List PyData} (w : Wk J H1 L) (e : Ex H1 H2) : Wk J H2 L := fun H H0 a b => w H H0 (e.trans a) b
variable (k n c) in
def GI (tg iter : Expr) (g : GS) (Q : List PyData → GS → Prop) : Prop := ∀ σ H H0, At k n g σ H H0 → RunI k c tg iter σ H fun J H1 => ∃ L g' H01, Stp g H H0 g' H1 H01 ∧ At k n g' σ H1 H01 ∧ Wk J H01 L ∧ Q L g'
theorem runI_mono {tg iter : Expr} {R R' : It → Hp → Prop} (h : RunI k c tg iter σ H R) (hq : ∀ J H', R J H' → R' J H') : RunI k c tg iter σ H R' := fun X hX pins s I =>
  thn (h X hX pins s I) fun v s1 h1 => thn h1 fun itv s2 ⟨it, fp, tn, J, H', e1, I', T, t0, f, r⟩ => ⟨it, fp, tn, J, H', e1, I', T, t0, f, hq J H' r⟩

section
variable {tg a b : Expr} {Q : List PyData → GS → Prop}
theorem wk_list {K : PySem.W.Frag} {H01 : Hp} {p : Addr} {vs : List V} {ds : List PyData} (h1 : H01 p = some (.lst vs)) (h2 : DqAll H01 vs ds) : Wk (Itl K p) H01 ds := fun H H0 e s => by
  have hH := s _ _ (e _ _ h1)
  refine ⟨fun i d hd => ?_, ⟨vs, SqL.of hH, by rw [da_length h2]; exact Nat.le_refl _⟩⟩
  obtain ⟨v, hv, dv⟩ := da_get h2 hd
  exact ⟨⟨vs, v, SqL.of hH, hv⟩, fun x H' ⟨e1, y⟩ => ⟨H0, by rw [e1]; exact One.same, by
    have := y vs (SqL.of hH)
    rw [hv] at this; cases this
    exact Dq_ex e _ _ dv⟩⟩
theorem wk_tup {K : PySem.W.Frag} {H01 : Hp} {p : Addr} {vs : List V} {ds : List PyData} (h1 : H01 p = some (.tup vs)) (h2 : DqAll H01 vs ds) : Wk (Itt K p) H01 ds := fun H H0 e s => by
  have hH := s _ _ (e _ _ h1)
  refine ⟨fun i d hd => ?_, ⟨vs, SqT.of hH, by rw [da_length h2]; exact Nat.le_refl _⟩⟩
  obtain ⟨v, hv, dv⟩ := da_get h2 hd
  exact ⟨⟨vs, v, SqT.of hH, hv⟩, fun x H' ⟨e1, y⟩ => ⟨H0, by rw [e1]; exact One.same, by
    have := y vs (SqT.of hH)
    rw [hv] at this; cases this
    exact Dq_ex e _ _ dv⟩⟩
def rngD (lo : Int) (m : Nat) : List PyData := (List.range m).map fun i => .int (lo + (i : Nat))
theorem rngD_len (lo : Int) (m : Nat) : (rngD lo m).length = m := by simp [rngD]
theorem rngD_get {lo : Int} {m i : Nat} {d : PyData} (h : (rngD lo m)[i]? = some d) : i < m ∧ d = .int (lo + (i : Nat)) := by
  unfold rngD at h
  rw [List.getElem?_map] at h
  by_cases hi : i < m
  · rw [List.getElem?_range hi] at h
    exact ⟨hi, (Option.some.inj h).symm⟩
  · rw [List.getElem?_eq_none (by simpa using hi)] at h; cases h
theorem wk_rng {H01 : Hp} {lo : Int} {m : Nat} : Wk (Itr lo m) H01 (rngD lo m) := fun H H0 e s => by
  refine ⟨fun i d hd => ?_, by rw [rngD_len]; exact Nat.le_refl _⟩
  obtain ⟨h1, h2⟩ := rngD_get hd
  subst h2
  exact ⟨h1, fun x H' ⟨e1, y⟩ => ⟨H0, by rw [e1]; exact One.same, by subst y; exact .int _⟩⟩
theorem gi_list (h : GE k n c a g fun d g1 => ∃ ds, d = .list ds ∧ Q ds g1) : GI k n c tg a g Q := fun σ H H0 A => runI_of fun X hX =>
  ⟨_, pi_list (pe_run hX), runE_mono (h σ H H0 A) fun v H1 ⟨d, g1, H01, s1, A1, q1, ds, e, hq⟩ => by
    subst e
    cases q1 with
    | @lst p xs _ h1 h2 => exact ⟨p, rfl, ⟨xs, SqL.of (A1.sub _ _ h1)⟩, ds, g1, H01, s1, A1, wk_list h1 h2, hq⟩⟩
theorem gi_tup (h : GE k n c a g fun d g1 => ∃ ds, d = .tuple ds ∧ Q ds g1) : GI k n c tg a g Q := fun σ H H0 A => runI_of fun X hX =>
  ⟨_, pi_tup (pe_run hX), runE_mono (h σ H H0 A) fun v H1 ⟨d, g1, H01, s1, A1, q1, ds, e, hq⟩ => by
    subst e
    cases q1 with
    | @tup p xs _ h1 h2 => exact ⟨p, rfl, ⟨xs, SqT.of (A1.sub _ _ h1)⟩, ds, g1, H01, s1, A1, wk_tup h1 h2, hq⟩⟩
theorem gi_rng1 {p pos : Pos} (hg : c.Gb "range") (hm : k.mg "range" = none) (h : GE k n c a g fun d g1 => ∃ j : Int, d = .int j ∧ j < 2 ^ 62 ∧ -(2 ^ 62) ≤ j ∧ Q (rngD 0 j.toNat) g1)
    (hs : ∀ env, starEach [a] env = [(false, eval a env)] := by intro _; rfl) : GI k n c tg (.Call (.Name "range" p) [a] [] pos) g Q := fun σ H H0 A => runI_of fun X hX =>
  ⟨_, pi_range1 (glx hX hg) (mgx hX hm) (pa_cons (pe_run hX) pa_nil (by rw [hs]; rfl)) (hs _), runE_mono (h σ H H0 A) fun v H1 ⟨d, g1, H01, s1, A1, q1, j, e, j1, j2, hq⟩ => by
    subst e
    cases q1
    exact ⟨j, rfl, j2, j1, _, g1, H01, s1, A1, wk_rng, hq⟩⟩
theorem gi_rng2 {p pos : Pos} (hg : c.Gb "range") (hm : k.mg "range" = none) (h : GE k n c a g fun d g1 => GE k n c b g1 fun e g2 => ∃ i j : Int, d = .int i ∧ e = .int j ∧ (j < 2 ^ 62 ∧ -(2 ^ 62) ≤ j ∧ i < 2 ^ 62 ∧ -(2 ^ 62) ≤ i) ∧ Q (rngD i (j - i).toNat) g2)
    (hs : ∀ env, starEach [a, b] env = [(false, eval a env), (false, eval b env)] := by intro _; rfl) (hs2 : ∀ env, starEach [b] env = [(false, eval b env)] := by intro _; rfl) : GI k n c tg (.Call (.Name "range" p) [a, b] [] pos) g Q := fun σ H H0 A => runI_of fun X hX =>
  ⟨_, pi_range2 (glx hX hg) (mgx hX hm) (pa_cons (pe_run hX) (pa_cons (pe_run hX) pa_nil (by rw [hs2]; rfl)) (by rw [hs, hs2])) (hs _) (hs2 _), runE_mono (h σ H H0 A) fun v H1 ⟨d, g1, H01, s1, A1, q1, h1⟩ => runE_mono (h1 σ H1 H01 A1) fun u H2 ⟨e, g2, H02, s2, A2, q2, i, j, e1, e2, ⟨j1, j2, j3, j4⟩, hq⟩ => by
    subst e1; subst e2
    cases q1; cases q2
    exact ⟨i, j, rfl, ⟨j4, j3, j2, j1⟩, _, g2, H02, s1.trans s2, A2, wk_rng, hq⟩⟩
/-! enumerate, zip -/
def isSq (d : PyData) (ds : List PyData) : Prop := d = .list ds ∨ d = .tuple ds
theorem dq_sq {K : PySem.W.Frag} {H01 : Hp} {v : V} {d : PyData} {ds : List PyData} (h : Dq H01 v d) (e : isSq d ds) : ∃ b p vs, v = .ref p ∧ DqAll H01 vs ds ∧ (∀ H H0, Ex H01 H0 → Ex H0 H → Gi.SqB K H b p vs) := by
  rcases e with e | e
  · subst e
    cases h with
    | @lst p xs _ h1 h2 => exact ⟨false, p, xs, rfl, h2, fun H H0 a b => SqL.of (b _ _ (a _ _ h1))⟩
  · subst e
    cases h with
    | @tup p xs _ h1 h2 => exact ⟨true, p, xs, rfl, h2, fun H H0 a b => SqT.of (b _ _ (a _ _ h1))⟩
def enD (ds : List PyData) : List PyData := ds.mapIdx fun i d => .tuple [.int (i : Nat), d]
theorem enD_len (ds : List PyData) : (enD ds).length = ds.length := by simp [enD]
theorem enD_get {ds : List PyData} {i : Nat} {d : PyData} (h : (enD ds)[i]? = some d) : ∃ x, ds[i]? = some x ∧ d = .tuple [.int (i : Nat), x] := by
  unfold enD at h
  rw [List.getElem?_mapIdx] at h
  cases q : ds[i]? with
  | none => rw [q] at h; cases h
  | some x => rw [q] at h; exact ⟨x, rfl, (Option.some.inj h).symm⟩
theorem wk_en {K : PySem.W.Frag} {H01 : Hp} {b : Bool} {p : Addr} {vs : List V} {ds : List PyData} (h1 : ∀ H H0, Ex H01 H0 → Ex H0 H → Gi.SqB K H b p vs) (h2 : DqAll H01 vs ds) : Wk (Gi.IteB K b p) H01 (enD ds) := fun H H0 e s => by
  have hH := h1 H H0 e s
  refine ⟨fun i d hd => ?_, ⟨vs, hH, by rw [enD_len]; exact da_length h2⟩⟩
  obtain ⟨x, hx, rfl⟩ := enD_get hd
  obtain ⟨v, hv, dv⟩ := da_get h2 hx
  refine ⟨⟨vs, v, hH, hv⟩, fun y H' ⟨T, z, ey, hT, e', hz⟩ => ?_⟩
  have := hz vs hH
  rw [hv] at this; cases this
  subst ey; subst e'
  have o : One H H0 (upd H T (.tup [.int (i : Nat), v])) (upd H0 T (.tup [.int (i : Nat), v])) := One.tup hT
  exact ⟨_, o, .tup upd_same (.cons (.int _) (.cons (Dq_ex (e.trans (o.ex s)) _ _ dv) .nil))⟩
theorem gi_en {elts : List Expr} {kk : Nat} {tpos p pos : Pos} (hg : c.Gb "enumerate") (hm : k.mg "enumerate" = none) (h : GE k n c a g fun d g1 => ∃ ds, isSq d ds ∧ Q (enD ds) g1)
    (hs : ∀ env, starEach [a] env = [(false, eval a env)] := by intro _; rfl) : GI k n c (.Tuple elts kk tpos) (.Call (.Name "enumerate" p) [a] [] pos) g Q := fun σ H H0 A => runI_of fun X hX =>
  ⟨_, Gi.pi_enumB (glx hX hg) (mgx hX hm) (pa_cons (pe_run hX) pa_nil (by rw [hs]; rfl)) (hs _), runE_mono (h σ H H0 A) fun v H1 ⟨d, g1, H01, s1, A1, q1, ds, e, hq⟩ => by
    obtain ⟨b, p, vs, rfl, h2, h3⟩ := dq_sq (K := X.K) q1 e
    exact ⟨b, p, vs, rfl, h3 _ _ (Ex.refl _) A1.sub, _, g1, H01, s1, A1, wk_en h3 h2, hq⟩⟩
def zipD (xs ys : List PyData) : List PyData := List.zipWith (fun x y => .tuple [x, y]) xs ys
theorem wk_zip {K : PySem.W.Frag} {H01 : Hp} {b1 b2 : Bool} {p1 p2 : Addr} {vs ws : List V} {ds es : List PyData} (h1 : ∀ H H0, Ex H01 H0 → Ex H0 H → Gi.SqB K H b1 p1 vs) (h2 : DqAll H01 vs ds) (h3 : ∀ H H0, Ex H01 H0 → Ex H0 H → Gi.SqB K H b2 p2 ws) (h4 : DqAll H01 ws es) : Wk (Gi.ItzB K b1 b2 p1 p2) H01 (zipD ds es) := fun H H0 e s => by
  have hH := h1 H H0 e s
  have hH2 := h3 H H0 e s
  have l1 := da_length h2
  have l2 := da_length h4
  refine ⟨fun i d hd => ?_, ⟨vs, ws, hH, hH2, ?_, ?_, ?_⟩⟩
  · unfold zipD at hd
    rw [List.getElem?_zipWith] at hd
    cases q1 : ds[i]? with
    | none => rw [q1] at hd; cases hd
    | some x =>
      cases q2 : es[i]? with
      | none => rw [q1, q2] at hd; cases hd
      | some y =>
        rw [q1, q2] at hd
        cases hd
        obtain ⟨v, hv, dv⟩ := da_get h2 q1
        obtain ⟨w, hw, dw⟩ := da_get h4 q2
        refine ⟨⟨vs, ws, v, w, hH, hH2, hv, hw⟩, fun z H' ⟨T, x', y', ey, hT, e', hz, hz2⟩ => ?_⟩
        have r1 := hz vs hH
        rw [hv] at r1; cases r1
        have r2 := hz2 ws hH2
        rw [hw] at r2; cases r2
        subst ey; subst e'
        have o : One H H0 (upd H T (.tup [v, w])) (upd H0 T (.tup [v, w])) := One.tup hT
        exact ⟨_, o, .tup upd_same (.cons (Dq_ex (e.trans (o.ex s)) _ _ dv) (.cons (Dq_ex (e.trans (o.ex s)) _ _ dw) .nil))⟩
  all_goals (unfold zipD; rw [List.length_zipWith]; omega)
theorem gi_zip {elts : List Expr} {kk : Nat} {tpos p pos : Pos} (hg : c.Gb "zip") (hm : k.mg "zip" = none) (h : GE k n c a g fun d g1 => GE k n c b g1 fun e g2 => ∃ ds es, isSq d ds ∧ isSq e es ∧ Q (zipD ds es) g2)
    (hs : ∀ env, starEach [a, b] env = (false, eval a env) :: starEach [b] env := by intro _; rfl) (hs2 : ∀ env, starEach [b] env = [(false, eval b env)] := by intro _; rfl) (hpl : ∀ env, (backTo pos (starEach [b] env)).any (·.1) = false := by intro _; rfl) :
    GI k n c (.Tuple elts kk tpos) (.Call (.Name "zip" p) [a, b] [] pos) g Q := fun σ H H0 A => runI_of fun X hX =>
  ⟨_, Gi.pi_zipB (glx hX hg) (mgx hX hm) (pa_cons (pe_run hX) (pa_cons (pe_run hX) pa_nil (by rw [hs2]; rfl)) (hs _)) (hs _) (hpl _), runE_mono (h σ H H0 A) fun v H1 ⟨d, g1, H01, s1, A1, q1, h1⟩ => runE_mono (h1 σ H1 H01 A1) fun u H2 ⟨d2, g2, H02, s2, A2, q2, ds, es, e1, e2, hq⟩ => by
    obtain ⟨b1, p1, vs, rfl, h2, h3⟩ := dq_sq (K := X.K) (Dq_ex s2.ex _ _ q1) e1
    obtain ⟨b2, p2, ws, rfl, h4, h5⟩ := dq_sq (K := X.K) q2 e2
    exact ⟨b1, b2, p1, p2, vs, ws, rfl, h3 _ _ (Ex.refl _) A2.sub, h5 _ _ (Ex.refl _) A2.sub, _, g2, H02, s1.trans s2, A2, wk_zip h3 h2 h5 h4, hq⟩⟩
end

section
variable {D : GD} {pos : Pos}
theorem gs_mono {sts : List Stmt} {D D' : GD} (h : GSs k n c sts g D) (h1 : ∀ g, D.nx g → D'.nx g) (h2 : ∀ d g, D.rt d g → D'.rt d g) (h3 : ∀ g, D.bk g → D'.bk g) (h4 : ∀ g, D.ct g → D'.ct g) : GSs k n c sts g D' := fun σ H H0 A =>
  runSs_mono (h σ H H0 A) (fun _ _ ⟨g', H', e, a, q⟩ => ⟨g', H', e, a, h1 _ q⟩) (fun _ _ ⟨d, g', s, H', a, dq, q⟩ => ⟨d, g', s, H', a, dq, h2 _ _ q⟩) (fun _ _ ⟨g', H', e, a, q⟩ => ⟨g', H', e, a, h3 _ q⟩) (fun _ _ ⟨g', H', e, a, q⟩ => ⟨g', H', e, a, h4 _ q⟩)
/-- for: the slots vs are forgotten at each turn's end -/
theorem gs_for (vs : List Nat) (ts : List Nat) {tg iter : Expr} {body : List Stmt} (h : GI k n c tg iter g fun L g1 => ∃ P : Nat → GS → Prop, P 0 g1 ∧
      (∀ (i : Nat) d g2, L[i]? = some d → P i g2 → GG k n c tg ts d g2 fun g3 => GSs k n c body g3 (D.lp fun g' => P (i + 1) (g'.wp vs))) ∧ ∀ g2, P L.length g2 → D.nx g2)
    (hs : ∀ env x, foldedSetIterable iter env x = pure x := by intro _ _; rfl) : GS1 k n c (.For tg iter body [] pos) g D := fun σ H H0 A => runS_of fun X hX => by
  refine ⟨_, ps_for (by rw [hX.xe]; exact PassesOwn.never) hX.calm (pi_run hX) (pg_run hX) (pss_run hX) (hs _), runI_mono (h σ H H0 A) fun J H1 ⟨L, g1, H01, s1, A1, w, P, h0, turn, fin⟩ => ?_⟩
  refine ⟨fun i m σ' H' => m = L.length - i ∧ i ≤ L.length ∧ ∃ g' H0', Ex H01 H0' ∧ At k n g' σ' H' H0' ∧ P i g', ⟨_, rfl, Nat.zero_le _, g1, H01, Ex.refl _, A1, h0⟩, ?_⟩
  rintro i m σ2 H2 ⟨rfl, hi, g2, H02, ex2, A2, p2⟩
  obtain ⟨w1, w2⟩ := w H2 H02 ex2 A2.sub
  by_cases hlt : i < L.length
  · obtain ⟨hgo, hy⟩ := w1 i _ (List.getElem?_eq_getElem hlt)
    refine .inr ⟨hgo, fun σ' H' => i + 1 ≤ L.length ∧ ∃ g' H0', Ex H01 H0' ∧ At k n g' σ' H' H0' ∧ P (i + 1) g', fun σ' H' ⟨_, q⟩ => ⟨L.length - (i + 1), by omega, rfl, hlt, q⟩, fun x H3 y => ?_⟩
    obtain ⟨H03, o, dq⟩ := hy x H3 y
    obtain ⟨A3, s3⟩ := A2.one o
    have ex3 := ex2.trans s3.ex
    refine runG_mono (turn i _ g2 (List.getElem?_eq_getElem hlt) p2 x σ2 H3 H03 A3 dq) fun σ4 H4 ⟨e4, _, _, g4, A4, _, q4⟩ => ?_
    subst e4
    exact runSs_mono (q4 σ4 _ H03 A4) (fun _ _ ⟨g', H', e, a, q⟩ => ⟨hlt, _, H', ex3.trans e, a.fg vs, q⟩) (fun _ _ q => q) (fun _ _ ⟨g', H', e, a, q⟩ => ⟨g', H', s1.ex.trans (ex3.trans e), a, q⟩) fun _ _ ⟨g', H', e, a, q⟩ => ⟨hlt, _, H', ex3.trans e, a.fg vs, q⟩
  · have e : i = L.length := by omega
    subst e
    exact .inl ⟨w2, g2, H02, s1.ex.trans ex2, A2, fin g2 p2⟩
theorem gs_while (vs : List Nat) (W : Nat → GS → Prop) {t : Expr} {body : List Stmt} (h0 : ∃ m, W m g) (h : ∀ m g2, W m g2 → GT k n c t g2 fun b g3 => if b = true then GSs k n c body g3 (D.lp fun g' => ∃ m', m' < m ∧ W m' (g'.wp vs)) else D.nx g3) :
    GS1 k n c (.While t body [] pos) g D := fun σ H H0 A => runS_of fun X hX => by
  refine ⟨_, ps_while (by rw [hX.xe]; exact PassesOwn.never) (pt_run hX) (pss_run hX), ?_⟩
  obtain ⟨m0, w0⟩ := h0
  refine ⟨fun m σ' H' => ∃ g' H0', Ex H0 H0' ∧ At k n g' σ' H' H0' ∧ W m g', ⟨m0, g, H0, Ex.refl _, A, w0⟩, ?_⟩
  rintro m σ2 H2 ⟨g2, H02, ex2, A2, w2⟩
  refine runT_mono (h m g2 w2 σ2 H2 H02 A2) fun b H3 ⟨g3, H03, s3, A3, q3⟩ => ?_
  have ex3 := ex2.trans s3.ex
  cases b with
  | true =>
    rw [if_pos rfl] at q3 ⊢
    refine ⟨fun σ' H' => ∃ m', m' < m ∧ ∃ g' H0', Ex H0 H0' ∧ At k n g' σ' H' H0' ∧ W m' g', fun _ _ q => q, ?_⟩
    exact runSs_mono (q3 σ2 _ H03 A3) (fun _ _ ⟨g', H', e, a, m', hm, q⟩ => ⟨m', hm, _, H', ex3.trans e, a.fg vs, q⟩) (fun _ _ q => q) (fun _ _ ⟨g', H', e, a, q⟩ => ⟨g', H', ex3.trans e, a, q⟩) fun _ _ ⟨g', H', e, a, m', hm, q⟩ => ⟨m', hm, _, H', ex3.trans e, a.fg vs, q⟩
  | false =>
    rw [if_neg Bool.false_ne_true] at q3 ⊢
    exact ⟨g3, H03, ex3, A3, q3⟩
/-- try/except whose body raises nothing -/
theorem gs_try {body : List Stmt} {h0 : ExceptHandler} {hs : List ExceptHandler} (h : GSs k n c body g D) : GS1 k n c (.Try body (h0 :: hs) [] [] pos) g D := fun σ H H0 A => runS_of fun X hX =>
  ⟨_, ps_try_never (u := tNext) (by rw [hX.xe]; exact fun _ _ z => z) (pss_run hX) pss_nil, by
    have := h σ H H0 A
    exact this⟩
/-- a, b, c = x, [], z: the middle one its own -/
theorem gs_parDMD (i j l : Nat) {x y z : Str} {a c' : Expr} {px py pz pt pl pos : Pos} {kt k2 : Nat} {pt2 : Pos} (hi : c.N[i]? = some x) (hj : c.N[j]? = some y) (hl : c.N[l]? = some z) (hij : i ≠ j) (hil : i ≠ l) (hjl : j ≠ l)
    (hx : c.sc.names.lookup x = some .local) (hy : c.sc.names.lookup y = some .local) (hz : c.sc.names.lookup z = some .local)
    (h : GE k n c a g fun d1 g1 => GE k n c c' g1 fun d3 g2 => ∀ m, D.nx (((g2.set i (.dat d1)).set l (.dat d3)).set j (.mu m [])))
    (hw : ∀ env : Env, env.scope = c.sc → swappedStores [.Tuple [.Name x px, .Name y py, .Name z pz] kt pt] (.Tuple [a, .List [] pl, c'] k2 pt2) env = pure (some [x, y, z]))
    (hs : ∀ env, swapsWithSole [.Tuple [.Name x px, .Name y py, .Name z pz] kt pt] (.Tuple [a, .List [] pl, c'] k2 pt2) pos.line env = pure false := by intro _; rfl)
    (he1 : ∀ env, starEach [a, .List [] pl, c'] env = (false, eval a env) :: starEach [.List [] pl, c'] env := by intro _; rfl) (he2 : ∀ env, starEach [.List [] pl, c'] env = (false, eval (.List [] pl) env) :: starEach [c'] env := by intro _; rfl) (he : ∀ env, starEach [c'] env = (false, eval c' env) :: starEach [] env := by intro _; rfl) :
    GS1 k n c (.Assign [.Tuple [.Name x px, .Name y py, .Name z pz] kt pt] (.Tuple [a, .List [] pl, c'] k2 pt2) pos) g D := fun σ H H0 A => runS_of fun X hX =>
  ⟨_, ps_par3 hX.calm hX.nd (by rw [hX.N]; exact hi) (by rw [hX.N]; exact hj) (by rw [hX.N]; exact hl) hij hil hjl (by rw [hX.sc]; exact hx) (by rw [hX.sc]; exact hy) (by rw [hX.sc]; exact hz)
      (pa_cons (pe_run hX) (pa_cons (pe_lst pa_nil) (pa_cons (pe_run hX) pa_nil (he _)) (he2 _)) (he1 _)) (hw _ hX.sc) (hs _), runE_mono (h σ H H0 A) fun v1 H1 ⟨d1, g1, H01, s1, A1, q1, h1⟩ => ⟨Nat.zero_le _, fun p hp => by
    have Ah := A1.hid (o := .lst []) hp (fun ps z => by cases z)
    refine runE_mono (h1 σ _ H01 Ah) fun v3 H2 ⟨d3, g2, H02, s2, A2, q2, hq⟩ => ⟨_, _, _, rfl, _, H02, s1.ex.trans s2.ex, ?_, hq p⟩
    have nrow : ∀ ρ, g1.row = some ρ → ρ.r ≠ p := fun ρ e z => by
      have := (A1.row ρ e).1
      rw [z, hp] at this; cases this
    have hrow : g1.row.map RowS.r ≠ some p := fun z => by
      cases hg : g1.row with
      | none => rw [hg] at z; cases z
      | some ρ => rw [hg] at z; exact nrow ρ hg (Option.some.inj z)
    have h1p : H2 p = some (.lst []) := s2.exH p _ upd_same (fun ps z => by cases z) hrow
    have h0p : H02 p = none := by
      cases q : H02 p with
      | none => rfl
      | some o =>
        rcases s2.fr p o q with z | z
        · rw [A1.sub.none hp] at z; cases z
        · rw [upd_same] at z; cases z
    rw [List.set_comm (l := σ.set i _) _ _ hjl]
    refine ((A2.set_dat (Dq_ex s2.ex _ _ q1)).set_dat q2).set_mu h1p h0p (A1.eK p hp) (fun ρ e z => ?_) (fun j' es e => ?_) .nil
    · have e' : g2.row = some ρ := e
      have := s2.rr
      rw [e'] at this
      exact hrow (by rw [← this, ← z]; rfl)
    · rcases set_get (l := (g2.set i (.dat d1)).env) e with ⟨_, e'⟩ | ⟨_, e'⟩
      · cases e'
      · rcases set_get (l := g2.env) e' with ⟨_, e'⟩ | ⟨_, e'⟩
        · cases e'
        · rw [s2.env] at e'
          obtain ⟨_, _, _, _, vs, h5, _⟩ := A1.mt j' p es e'
          rw [hp] at h5; cases h5⟩⟩
end
end
end Gh
set_option Elab.async false
set_option linter.all false
set_option maxRecDepth 100000
set_option maxHeartbeats 4000000
namespace Gh
open PySem PySem.Spec PyProof.Rows L2

/-! ### a block's contexts -/
def stnOf (scope : Scope) : List Str := (scope.names.filter fun y => decide (y.2 = .local) || decide (y.2 = .cell)).map (·.1)
def Cd.blk (c : Cd) (scope : Scope) : Cd := { c with sc := relS scope c.sc, stn := stnOf scope }
def Cd.gen (c : Cd) (scope : Scope) : Cd := { N := c.N, sc := scope, lv := c.lv - 1, code := none, stn := stnOf scope }
theorem stnOf_mem {scope : Scope} {x : Str} (h : x ∈ stnOf scope) : ∃ kd, (x, kd) ∈ scope.names ∧ (kd = .local ∨ kd = .cell) := by
  obtain ⟨y, hy, e⟩ := List.mem_map.mp h
  obtain ⟨h1, h2⟩ := List.mem_filter.mp hy
  subst e
  refine ⟨y.2, h1, ?_⟩
  simpa using h2
section
variable {k : Kit} {c : Cd} {X : Cx}
theorem In.blk {scope : Scope} {own : List (Str × Nat)} (hX : c.In k X) (ok : BlkOk c.N c.sc scope own) (s : Shared) (H : Hp) (C : Addr) (cl : List (Str × Addr)) (fp : List Addr) : (c.blk scope).In k (X.blk s H scope (compEnvC scope cl C X.env) fp) where
  P := hX.P
  w := hX.w
  K := hX.K
  mg := hX.mg
  base := hX.base
  N := hX.N
  sc := by
    show relS scope X.env.scope = relS scope c.sc
    rw [hX.sc]
  room := hX.room
  calm := hX.calm
  nd := hX.nd
  code := hX.code
  xe := rfl
  st := fun x hx => by
    have e0 : (compEnvC scope cl C X.env).scope = relS scope X.env.scope := rfl
    obtain ⟨kd, h1, h2⟩ := stnOf_mem hx
    have h3 := ok.uniq _ h1
    rcases h2 with h2 | h2
    · refine .inr ?_
      rw [e0]
      exact lookup_relS_keep (k := .local) (by decide) (h3.trans (by rw [h2]))
    · refine .inl ?_
      show (scope.names.lookup x == some .cell) = true
      have h4 : scope.names.lookup x = some .cell := h3.trans (by rw [h2])
      rw [h4]; rfl
  loc := fun x hx => by
    obtain ⟨kd, h1, h2⟩ := stnOf_mem hx
    have h3 := ok.uniq _ h1
    rcases h2 with h2 | h2
    · exact .inl (lookup_relS_keep (by decide) (h3.trans (by rw [h2])))
    · exact .inr (lookup_relS_keep (by decide) (h3.trans (by rw [h2])))
theorem In.gen {scope : Scope} {own : List (Str × Nat)} (hX : c.In k X) (hlv : 1 ≤ c.lv) (ok : Gx.GnOk c.N c.sc scope own) (s : Shared) (H : Hp) (C : Addr) (code : Value) (fp : List Addr) (pn : List (Addr × Obj)) : (c.gen scope).In k (Gx.genCx X s H (Gx.gEnv X scope C code) fp pn) where
  P := hX.P
  w := hX.w
  K := hX.K
  mg := hX.mg
  base := hX.base
  N := hX.N
  sc := rfl
  room := by
    have r := hX.room
    refine ⟨r.hd, ?_, ?_⟩
    · have := r.dp
      show X.A.depth + 1 + 3 * (c.lv - 1) + 5 < _
      omega
    · have := r.un
      show X.A.units + 1 + 1 + 3 + 16 * (c.lv - 1) + 200 < _
      omega
  calm := rfl
  nd := hX.nd
  code := fun v e => by cases e
  xe := rfl
  st := fun x hx => by
    obtain ⟨kd, h1, h2⟩ := stnOf_mem hx
    rcases h2 with h2 | h2
    · exact .inr (by have := ok.uniq _ h1; rw [h2] at this; exact this)
    · exact absurd h2 (ok.nocell _ h1)
  loc := fun x hx => by
    obtain ⟨kd, h1, h2⟩ := stnOf_mem hx
    have h3 := ok.uniq _ h1
    rcases h2 with h2 | h2
    · exact .inl (h3.trans (by rw [h2]))
    · exact .inr (h3.trans (by rw [h2]))
end

section
variable {k : Kit} {n : Ent} {c : Cd} {g : GS} {σ : L2.St} {H H0 : Hp}
theorem Stp.hid {g' : GS} {H' H0' : Hp} {p : Addr} {o : HO} (s : Stp g H H0 g' H' H0') (h : H p = none) : Stp g H H0 g' (upd H' p o) H0' where
  ex := s.ex
  fr := s.fr
  kp := fun a e => by
    by_cases ha : a = p
    · rw [ha]; exact h
    · rw [upd_ne ha] at e; exact s.kp a e
  exH := fun a u e h1 h2 => by
    rw [upd_ne (ne_of_none e h)]; exact s.exH a u e h1 h2
  env := s.env
  rr := s.rr
theorem Stp.rebase {g' gw : GS} {H' H0' : Hp} (s : Stp g H H0 g' H' H0') (h : gw.row = g.row) : Stp gw H H0 ⟨gw.env, g'.row⟩ H' H0' where
  ex := s.ex
  fr := s.fr
  kp := s.kp
  exH := by rw [h]; exact s.exH
  env := rfl
  rr := by rw [h]; exact s.rr
/-- a hidden list changes -/
theorem At.updH {p : Addr} {vs ws : List V} (A : At k n g σ H H0) (hH : H p = some (.lst vs)) (h0 : H0 p = none) (hE : n.He p = none) (hr : ∀ ρ, g.row = some ρ → ρ.r ≠ p) (hm : ∀ (j : Nat) es, g.env[j]? ≠ some (SV.mu p es)) : At k n g σ (upd H p (.lst ws)) H0 := by
  have other : ∀ a u, a ≠ p → H a = some u → upd H p (.lst ws) a = some u := fun a u h e => by rw [upd_ne h]; exact e
  refine ⟨A.view, fun a u e => other a u (ne_of_none e h0) (A.sub a u e), A.e0, fun a u e e1 e2 => other a u (ne_of_none e hE) (A.eH a u e e1 e2), A.fr, fun a e => ?_, fun P hP => ?_, A.len, A.dat, fun i m es e => ?_, A.dist, A.rowS, fun ρ e => ?_⟩
  · by_cases h : a = p
    · subst h; rw [upd_same] at e; cases e
    · rw [upd_ne h] at e; exact A.eK a e
  · obtain ⟨ps, e, t⟩ := A.tabs P hP
    exact ⟨ps, other _ _ (ne_of e hH (fun z => by cases z)) e, t⟩
  · obtain ⟨a1, a2, a3, a4, vs', a5, a6⟩ := A.mt i m es e
    exact ⟨a1, a2, a3, a4, vs', other _ _ (fun z => hm i es (by rw [← z]; exact e)) a5, a6⟩
  · obtain ⟨a1, a2, a3⟩ := A.row ρ e
    exact ⟨other _ _ (hr ρ e) a1, a2, a3⟩
/-- a hidden list is shown -/
theorem At.shw {p : Addr} {vs : List V} (A : At k n g σ H H0) (hH : H p = some (.lst vs)) (h0 : H0 p = none) (hE : n.He p = none) (hr : ∀ ρ, g.row = some ρ → ρ.r ≠ p) (hm : ∀ (j : Nat) es, g.env[j]? ≠ some (SV.mu p es)) : At k n g σ H (upd H0 p (.lst vs)) := by
  have ex : Ex H0 (upd H0 p (.lst vs)) := Ex.upd h0
  refine ⟨fun a ps e => ?_, fun a u e => ?_, A.e0.trans ex, A.eH, fun a u e => ?_, A.eK, A.tabs, A.len, fun j d' e => ?_, fun j m' es e => ?_, A.dist, A.rowS, fun ρ e => ?_⟩
  · by_cases h : a = p
    · subst h; rw [upd_same] at e; cases e
    · rw [upd_ne h] at e; exact A.view a ps e
  · by_cases h : a = p
    · subst h; rw [upd_same] at e; rw [← e]; exact hH
    · rw [upd_ne h] at e; exact A.sub a u e
  · by_cases h : a = p
    · subst h; exact .inr hE
    · rw [upd_ne h] at e; exact A.fr a u e
  · obtain ⟨w, e1, e2⟩ := A.dat j d' e
    exact ⟨w, e1, Dq_ex ex _ _ e2⟩
  · obtain ⟨a1, a2, a3, a4, vs', a5, a6⟩ := A.mt j m' es e
    exact ⟨a1, by rw [upd_ne (fun z => hm j es (by rw [← z]; exact e))]; exact a2, a3, a4, vs', a5, DqAll_ex ex _ _ a6⟩
  · obtain ⟨a1, a2, a3⟩ := A.row ρ e
    exact ⟨a1, by rw [upd_ne (hr ρ e)]; exact a2, ex.seqL a3⟩
theorem At.tabbed {P : Addr} {H' : Hp} (A : At k n g σ H H0) (hP : GxR.TabG H P) (t : GxR.Tabbed P H H') : At k n g σ H' H0 ∧ Stp g H H0 g H' H0 := by
  obtain ⟨ps, hp, _⟩ := hP
  obtain ⟨⟨qs, hq, tq⟩, oth⟩ := t
  have nP : ∀ a o, H a = some o → (∀ ps, o ≠ .tbl ps) → H' a = some o := fun a o e h => by
    rw [oth a (fun z => by rw [z, hp] at e; cases e; exact h _ rfl)]; exact e
  have kp : ∀ a, H' a = none → H a = none := fun a e => by
    by_cases h : a = P
    · rw [h, hq] at e; cases e
    · rw [← oth a h]; exact e
  refine ⟨⟨A.view, fun a u e => nP a u (A.sub a u e) (fun ps z => A.view a ps (by rw [← z]; exact e)), A.e0, fun a u e e1 e2 => nP a u (A.eH a u e e1 e2) e1, A.fr, fun a e => A.eK a (kp a e), fun P' hP' => ?_, A.len, A.dat, fun i m es e => ?_, A.dist, A.rowS, fun ρ e => ?_⟩, ⟨Ex.refl _, fun a o e => .inl e, kp, fun a o e e1 _ => nP a o e e1, rfl, rfl⟩⟩
  · by_cases h : P' = P
    · rw [h]; exact ⟨qs, hq, tq⟩
    · obtain ⟨ps', e, t⟩ := A.tabs P' hP'
      exact ⟨ps', by rw [oth _ h]; exact e, t⟩
  · obtain ⟨a1, a2, a3, a4, vs', a5, a6⟩ := A.mt i m es e
    exact ⟨a1, a2, a3, a4, vs', nP _ _ a5 (fun ps z => by cases z), a6⟩
  · obtain ⟨a1, a2, a3⟩ := A.row ρ e
    exact ⟨nP _ _ a1 (fun ps z => by cases z), a2, a3⟩
theorem wp_env {g g' : GS} (h : g.env = g'.env) : ∀ vs, (g.wp vs).env = (g'.wp vs).env
  | [] => h
  | v :: vs => by
    show (g.wp vs).env.set v .non = (g'.wp vs).env.set v .non
    rw [wp_env h vs]
theorem wipe_eq {σ σ' : L2.St} : ∀ {vs : List Nat}, σ'.length = σ.length → (∀ j : Nat, j ∉ vs → σ'[j]? = σ[j]?) → wipe σ' vs = wipe σ vs
  | vs, hl, h => by
    apply List.ext_getElem?
    intro i
    by_cases hi : i ∈ vs
    · by_cases hb : i < σ.length
      · have key : ∀ (τ : L2.St) (ws : List Nat), i ∈ ws → i < τ.length → (wipe τ ws)[i]? = some none := by
          intro τ ws
          induction ws with
          | nil => intro h; cases h
          | cons v ws ih =>
            intro h hb
            unfold wipe
            by_cases e : v = i
            · subst e
              rw [List.getElem?_set_self (by rw [wipe_length]; exact hb)]
            · rw [List.getElem?_set_ne e]
              exact ih (by rcases List.mem_cons.mp h with z | z; · exact absurd z.symm e
                           · exact z) hb
        rw [key σ' vs hi (by omega), key σ vs hi hb]
      · rw [List.getElem?_eq_none (by rw [wipe_length]; omega), List.getElem?_eq_none (by rw [wipe_length]; omega)]
    · rw [wipe_out hi, wipe_out hi]
      exact h i hi
theorem wipe_wipe {σ : L2.St} {vs : List Nat} : wipe (wipe σ vs) vs = wipe σ vs := wipe_eq (wipe_length _ _) fun j hj => wipe_out hj

theorem runPs_nil {Q : Bool → Hp → Prop} (h : Q true H) : RunPs k c [] σ H Q := runPs_of fun X hX => ⟨_, pts_nil, h⟩
theorem gps_nil {Q : Bool → GS → Prop} (h : Q true g) : GPs k n c [] g Q := fun σ H H0 A => runPs_nil ⟨g, H0, Stp.refl _ _ _, A, h⟩
theorem gps_one {e : Expr} {Q : Bool → GS → Prop} (h : GT k n c e g Q) : GPs k n c [e] g Q := fun σ H H0 A => runPs_of fun X hX => ⟨_, pts_one (pt_run hX), h σ H H0 A⟩

/-! ### list comprehensions -/
variable (k n c) in
def LcH (tg iter elt : Expr) (ifs : List Expr) (scope : Scope) (vs ts : List Nat) (g : GS) (Q : PyData → GS → Prop) : Prop :=
  GI k n c tg iter g fun L g1 => ∃ P : Nat → List PyData → Option RowS → Prop, P 0 [] g1.row ∧
    (∀ (i : Nat) d acc ρ, L[i]? = some d → P i acc ρ → GG k n (c.blk scope) tg ts d ⟨(g1.wp vs).env, ρ⟩ fun g3 => GPs k n (c.blk scope) ifs g3 fun b g4 =>
      if b = true then GE k n (c.blk scope) elt g4 fun y g5 => acc.length < sizeLine ∧ P (i + 1) (acc ++ [y]) g5.row else P (i + 1) acc g4.row) ∧
    ∀ acc ρ, P L.length acc ρ → Q (.list acc) ⟨g1.env, ρ⟩
/-- the state of a walk: from g1 at H1, the list at D -/
structure LcI (k : Kit) (n : Ent) (g1 : GS) (σ : L2.St) (vs : List Nat) (H1 H01 : Hp) (D : Addr) (acc : List PyData) (ρ : Option RowS) (H H0 : Hp) : Prop where
  s : Stp g1 H1 H01 ⟨g1.env, ρ⟩ H H0
  a : At k n ⟨(g1.wp vs).env, ρ⟩ (wipe σ vs) H H0
  d0 : H0 D = none
  d : ∃ ys, H D = some (.lst ys) ∧ DqAll H0 ys acc
theorem At.nrow {p : Addr} (A : At k n g σ H H0) (hp : H p = none) : ∀ ρ, g.row = some ρ → ρ.r ≠ p := fun ρ e z => by
  have := (A.row ρ e).1
  rw [z, hp] at this; cases this
theorem rr_ne {g g' : GS} {p : Addr} (h : ∀ ρ, g.row = some ρ → ρ.r ≠ p) (e : g'.row.map RowS.r = g.row.map RowS.r) : ∀ ρ, g'.row = some ρ → ρ.r ≠ p := fun ρ q z => by
  rw [q] at e
  cases hg : g.row with
  | none => rw [hg] at e; cases e
  | some r => rw [hg] at e; exact h r hg (by rw [← z]; exact (Option.some.inj e).symm)
theorem row_map_ne {g : GS} {p : Addr} (h : ∀ ρ, g.row = some ρ → ρ.r ≠ p) : g.row.map RowS.r ≠ some p := fun z => by
  cases hg : g.row with
  | none => rw [hg] at z; cases z
  | some ρ => rw [hg] at z; exact h ρ hg (Option.some.inj z)
theorem At.nmu {p : Addr} (A : At k n g σ H H0) (hp : H p = none) : ∀ (j : Nat) es, g.env[j]? ≠ some (SV.mu p es) := fun j es e => by
  obtain ⟨_, _, _, _, vs, h5, _⟩ := A.mt j p es e
  rw [hp] at h5; cases h5
theorem wp_get {g : GS} {j : Nat} {m : Addr} {es : List PyData} : ∀ {vs : List Nat}, (g.wp vs).env[j]? = some (SV.mu m es) → g.env[j]? = some (SV.mu m es)
  | [], h => h
  | v :: vs, h => by
    rcases set_get (l := (g.wp vs).env) h with ⟨_, e⟩ | ⟨_, e⟩
    · cases e
    · exact wp_get e
theorem lc_run {tg iter elt : Expr} {ifs : List Expr} {scope : Scope} {vs ts : List Nat} {Q : PyData → GS → Prop} {Q' : VK} (h : LcH k n c tg iter elt ifs scope vs ts g Q) (hts : ∀ j ∈ ts, j ∈ vs) (A : At k n g σ H H0) (hq : ∀ v H', Post k n σ g H H0 Q v H' → Q' v H') :
    tLc (RunI k c tg iter) (RunG k (c.blk scope) tg) (RunPs k (c.blk scope) ifs) (RunE k (c.blk scope) elt) vs σ H Q' := by
  refine runI_mono (h σ H H0 A) fun J H1 ⟨L, g1, H01, s1, A1, w, P, h0, turn, fin⟩ D hD => ?_
  have hr1 := A1.nrow hD
  have hm1 := A1.nmu hD
  have hD0 : H01 D = none := A1.sub.none hD
  have hDE : n.He D = none := A1.eK D hD
  have row1 : ∀ {ρ : Option RowS} {H' H0' : Hp}, Stp g1 H1 H01 ⟨g1.env, ρ⟩ H' H0' → ∀ r, ρ = some r → r.r ≠ D := fun s r e => rr_ne hr1 s.rr r e
  refine ⟨fun i m H' => m = L.length - i ∧ i ≤ L.length ∧ ∃ acc ρ H0', LcI k n g1 σ vs H1 H01 D acc ρ H' H0' ∧ P i acc ρ, ⟨_, rfl, Nat.zero_le _, [], g1.row, H01, ⟨?_, ?_, hD0, [], upd_same, .nil⟩, h0⟩, ?_⟩
  · exact (Stp.refl g1 H1 H01).hid hD
  · have := (A1.wp vs).hid (o := .lst []) hD (fun ps z => by cases z)
    have e : (⟨(g1.wp vs).env, g1.row⟩ : GS) = g1.wp vs := by rw [← wp_row g1 vs]
    rw [e]; exact this
  rintro i m H2 ⟨rfl, hi, acc, ρ, H02, ⟨s2, A2, d0, ys, dD, dA⟩, p2⟩
  obtain ⟨w1, w2⟩ := w H2 H02 s2.ex A2.sub
  by_cases hlt : i < L.length
  · obtain ⟨hgo, hy⟩ := w1 i _ (List.getElem?_eq_getElem hlt)
    refine .inr ⟨hgo, fun H' => i + 1 ≤ L.length ∧ ∃ acc ρ H0', LcI k n g1 σ vs H1 H01 D acc ρ H' H0' ∧ P (i + 1) acc ρ, fun H' ⟨_, q⟩ => ⟨L.length - (i + 1), by omega, rfl, hlt, q⟩, fun x H3 y => ?_⟩
    obtain ⟨H03, o, dq⟩ := hy x H3 y
    obtain ⟨A3, s3⟩ := A2.one o
    refine runG_mono (turn i _ acc ρ (List.getElem?_eq_getElem hlt) p2 x _ H3 H03 A3 dq) fun σ4 H4 ⟨e4, l4, k4, g4, A4, hr4, q4⟩ => ?_
    subst e4
    have ew : wipe σ4 vs = wipe σ vs := (wipe_eq (by rw [l4]) (fun j hj => k4 j (fun z => hj (hts j z)))).trans wipe_wipe
    refine ⟨ew, runPs_mono (q4 σ4 _ H03 A4) fun b H5 ⟨g5, H05, s5, A5, q5⟩ => ?_⟩
    -- what stands at any later time
    have later : ∀ {gz : GS} {Hz H0z : Hp} {τ : L2.St}, Stp g4 H4 H03 gz Hz H0z → At k n gz τ Hz H0z → Stp g1 H1 H01 ⟨g1.env, gz.row⟩ Hz H0z ∧ At k n ⟨(g1.wp vs).env, gz.row⟩ (wipe σ vs) Hz H0z ∧ H0z D = none ∧ Hz D = some (.lst ys) ∧ DqAll H0z ys acc := fun {gz Hz H0z τ} sz Az => by
      have st : Stp (⟨(g1.wp vs).env, ρ⟩ : GS) H2 H02 ⟨(g1.wp vs).env, gz.row⟩ Hz H0z := s3.trans (sz.rebase (gw := ⟨(g1.wp vs).env, ρ⟩) hr4.symm)
      refine ⟨s2.trans (st.rebase (gw := ⟨g1.env, ρ⟩) rfl), A2.later (g' := ⟨(g1.wp vs).env, gz.row⟩) st Az rfl, ?_, st.exH D _ dD (fun ps z => by cases z) (row_map_ne (g := ⟨g1.env, ρ⟩) (row1 s2)), DqAll_ex st.ex _ _ dA⟩
      cases q : H0z D with
      | none => rfl
      | some u =>
        rcases st.fr D u q with z | z
        · rw [d0] at z; cases z
        · rw [dD] at z; cases z
    cases b with
    | true =>
      rw [if_pos rfl] at q5 ⊢
      refine runE_mono (q5 σ4 H5 H05 A5) fun v H6 ⟨y, g6, H06, s6, A6, dq6, hz, hP⟩ => ?_
      obtain ⟨t1, t2, t3, t4, t5⟩ := later (s5.trans s6) A6
      refine ⟨ys, t4, by rw [da_length t5]; exact hz, hlt, _, g6.row, H06, ⟨t1.hid hD, t2.updH t4 t3 hDE (row1 t1) (fun j es e => hm1 j es (wp_get e)), t3, _, upd_same, da_append t5 (.cons dq6 .nil)⟩, hP⟩
    | false =>
      rw [if_neg Bool.false_ne_true] at q5 ⊢
      obtain ⟨t1, t2, t3, t4, t5⟩ := later s5 A5
      exact ⟨hlt, _, g5.row, H05, ⟨t1, t2, t3, ys, t4, t5⟩, q5⟩
  · have e : i = L.length := by omega
    subst e
    refine .inl ⟨w2, hq _ _ ?_⟩
    have A3 := A1.later s2 A2 rfl
    refine ⟨.list acc, ⟨g1.env, ρ⟩, upd H02 D (.lst ys), ?_, A3.shw dD d0 hDE (row1 s2) hm1, .lst upd_same (DqAll_ex (Ex.upd d0) _ _ dA), fin acc ρ p2⟩
    have s := s1.trans s2
    refine ⟨s.ex.trans (Ex.upd d0), fun a u e => ?_, s.kp, s.exH, s.env, s.rr⟩
    by_cases h : a = D
    · subst h; exact .inr (s1.kp _ hD)
    · rw [upd_ne h] at e; exact s.fr a u e
theorem ge_lc (own : List (Str × Nat)) (ts : List Nat) {tg iter elt : Expr} {ifs : List Expr} {scope : Scope} {pos : Pos} {Q : PyData → GS → Prop} (ok : blkC c.N c.sc scope own = true) (hts : ∀ j ∈ ts, j ∈ own.map (·.2)) (h : LcH k n c tg iter elt ifs scope (own.map (·.2)) ts g Q)
    (hs : ∀ env x, foldedSetIterable iter env x = pure x := by intro _ _; rfl) : GE k n c (.ListComp elt [⟨tg, iter, ifs, 0⟩] scope pos) g Q := fun σ H H0 A => runE_of fun X hX => by
  have ok' := blkOk_by ok
  refine ⟨_, pe_lc hX.calm hX.nd (pi_run hX) (by rw [hX.N, hX.sc]; exact ok') (fun s H C cl fp => pg_run (In.blk hX ok' s H C cl fp)) (fun s H C cl fp => pts_run (In.blk hX ok' s H C cl fp)) (fun s H C cl fp => pe_run (In.blk hX ok' s H C cl fp)) (hs _), lc_run h hts A fun _ _ q => q⟩
theorem gs_setLc (i : Nat) (own : List (Str × Nat)) (ts : List Nat) {x : Str} {py pos spos : Pos} {tg iter elt : Expr} {ifs : List Expr} {scope : Scope} {D : GD} (hi : c.N[i]? = some x) (hx : c.sc.names.lookup x = some .local) (hk : c.sc.kind = .function) (hl : (py.line == pos.line) = true)
    (ha : (scope.names.any fun (n, k) => n == x && (k == .local || k == .cell)) = false) (ok : blkC c.N c.sc scope own = true) (hts : ∀ j ∈ ts, j ∈ own.map (·.2)) (h : LcH k n c tg iter elt ifs scope (own.map (·.2)) ts g fun d g1 => D.nx (g1.set i (.dat d)))
    (hs : ∀ env x, foldedSetIterable iter env x = pure x := by intro _ _; rfl) : GS1 k n c (.Assign [.Name x py] (.ListComp elt [⟨tg, iter, ifs, 0⟩] scope pos) spos) g D := fun σ H H0 A => runS_of fun X hX => by
  have ok' := blkOk_by ok
  refine ⟨_, ps_setLc (i := i) hX.calm hX.nd (by rw [hX.N]; exact hi) (by rw [hX.sc]; exact hx) (sw_true (by rw [hX.sc]; exact hk) (by rw [hX.sc]; exact hx) hl ha) (pi_run hX) (by rw [hX.N, hX.sc]; exact ok') (fun s H C cl fp => pg_run (In.blk hX ok' s H C cl fp)) (fun s H C cl fp => pts_run (In.blk hX ok' s H C cl fp)) (fun s H C cl fp => pe_run (In.blk hX ok' s H C cl fp)) (hs _), lc_run h hts A fun v H' q => ?_⟩
  obtain ⟨d, g1, H01, ex, A1, q1, hq⟩ := q.elim
  exact ⟨_, H01, ex, A1.set_dat q1, hq⟩
/-- by a function of the items; no row -/
theorem lcH_f (F : PyData → Option PyData) {tg iter elt : Expr} {ifs : List Expr} {scope : Scope} {vs ts : List Nat} {Q : PyData → GS → Prop}
    (h : GI k n c tg iter g fun L g1 => (∀ d ∈ L, GG k n (c.blk scope) tg ts d (g1.wp vs) fun g3 => GPs k n (c.blk scope) ifs g3 fun b g4 =>
      if b = true then GE k n (c.blk scope) elt g4 fun y g5 => F d = some y ∧ g5.row = g1.row else F d = none ∧ g4.row = g1.row) ∧ L.length ≤ sizeLine ∧ Q (.list (L.filterMap F)) g1) : LcH k n c tg iter elt ifs scope vs ts g Q := fun σ H H0 A =>
  runI_mono (h σ H H0 A) fun J H1 ⟨L, g1, H01, s1, A1, w, turn, hz, hQ⟩ => ⟨L, g1, H01, s1, A1, w, fun i acc ρ => ρ = g1.row ∧ acc = (L.take i).filterMap F, ⟨rfl, rfl⟩, fun i d acc ρ hd ⟨e1, e2⟩ => by
    subst e1; subst e2
    have e : (⟨(g1.wp vs).env, g1.row⟩ : GS) = g1.wp vs := by rw [← wp_row g1 vs]
    rw [e]
    have hlt : i < L.length := (List.getElem?_eq_some_iff.mp hd).1
    have hmem : d ∈ L := List.mem_of_getElem? hd
    have tk : L.take (i + 1) = L.take i ++ [d] := by rw [List.take_add_one, hd]; rfl
    intro v σ' H' H0' A' dq
    refine runG_mono (turn d hmem v σ' H' H0' A' dq) fun σ2 H2 ⟨a1, a2, a3, g', a4, a5, a6⟩ => ⟨a1, a2, a3, g', a4, a5, fun σ3 H3 H03 A3 => ?_⟩
    refine runPs_mono (a6 σ3 H3 H03 A3) fun b H4 ⟨g4, H04, s4, A4, q4⟩ => ⟨g4, H04, s4, A4, ?_⟩
    cases b with
    | true =>
      rw [if_pos rfl] at q4 ⊢
      refine ge_mono q4 fun y g5 ⟨f1, f2⟩ => ⟨Nat.lt_of_le_of_lt (List.length_filterMap_le _ _) (by rw [List.length_take]; omega), f2, ?_⟩
      rw [tk, List.filterMap_append]
      simp [f1]
    | false =>
      rw [if_neg Bool.false_ne_true] at q4 ⊢
      refine ⟨q4.2, ?_⟩
      rw [tk, List.filterMap_append]
      simp [q4.1], fun acc ρ ⟨e1, e2⟩ => by
    subst e1; subst e2
    rw [List.take_length]
    exact hQ⟩
end
end Gh
set_option Elab.async false
set_option linter.all false
set_option maxRecDepth 100000
set_option maxHeartbeats 4000000
namespace Gh
open PySem PySem.Spec PyProof.Rows L2

/-- the running code object and its table, in the world's base -/
def Kit.Tb (k : Kit) (c : Cd) : Prop := ∃ cd P, c.code = some (.ref cd) ∧ P ∈ k.T ∧ GxR.TabB k.base k.mg cd P
section
variable {k : Kit} {n : Ent} {c : Cd} {g : GS} {σ : L2.St} {H H0 : Hp}
/-- the state of a generator's walk: from g1 at H1 -/
structure GnI (k : Kit) (n : Ent) (g1 : GS) (σ : L2.St) (vs : List Nat) (H1 H01 : Hp) (H H0 : Hp) : Prop where
  s : Stp g1 H1 H01 g1 H H0
  a : At k n (g1.wp vs) (wipe σ vs) H H0
theorem GnI.later {g1 g4 gz : GS} {vs : List Nat} {H1 H01 H2 H02 H3 H03 Hz H0z : Hp} {τ : L2.St} (I : GnI k n g1 σ vs H1 H01 H2 H02) (s3 : Stp (g1.wp vs) H2 H02 (g1.wp vs) H3 H03) (hr : g4.row = g1.row) (sz : Stp g4 H3 H03 gz Hz H0z) (Az : At k n gz τ Hz H0z) (hz : gz.row = g1.row) : GnI k n g1 σ vs H1 H01 Hz H0z := by
  have e : ∀ ρ, ρ = g1.row → (⟨(g1.wp vs).env, ρ⟩ : GS) = g1.wp vs := fun ρ h => by rw [h, ← wp_row g1 vs]
  have e1 : (⟨g1.env, gz.row⟩ : GS) = g1 := by rw [hz]
  have sw : Stp (g1.wp vs) H3 H03 (g1.wp vs) Hz H0z := by
    have := sz.rebase (gw := g1.wp vs) (by rw [wp_row, hr])
    rw [e _ hz] at this; exact this
  have st := s3.trans sw
  refine ⟨I.s.trans ?_, ?_⟩
  · have := st.rebase (gw := g1) (by rw [wp_row])
    rw [wp_row] at this; exact this
  · have := I.a.later (g' := g1.wp vs) st Az (by rw [wp_row, hz])
    exact this
theorem GnI.end' {g1 : GS} {vs : List Nat} {H1 H01 H2 H02 : Hp} (A1 : At k n g1 σ H1 H01) (I : GnI k n g1 σ vs H1 H01 H2 H02) : At k n g1 σ H2 H02 := A1.later (g' := g1) I.s I.a (by rw [wp_row])
section
variable {tg iter elt : Expr} {ifs : List Expr} {scope : Scope} {p pos gpos : Pos} {Q : PyData → GS → Prop}
/-- one turn, by values -/
theorem gn_turn {vs ts : List Nat} {L : List PyData} {g1 : GS} {R : PyData → PyData → GS → Prop} {R0 : PyData → Prop} {J : It} {H1 H01 H2 H02 : Hp} {i : Nat} {Nx : Hp → Prop} {Yes : V → Hp → Prop} (hts : ∀ j ∈ ts, j ∈ vs) (hlt : i < L.length) (w : Wk J H01 L)
    (turn : GG k n (c.gen scope) tg ts L[i] (g1.wp vs) fun g3 => GPs k n (c.gen scope) ifs g3 fun b g4 => if b = true then GE k n (c.gen scope) elt g4 fun y g5 => g5.row = g1.row ∧ R L[i] y g5 else g4.row = g1.row ∧ R0 L[i]) (I : GnI k n g1 σ vs H1 H01 H2 H02)
    (yes : ∀ v d g5 H' H0', GnI k n g1 σ vs H1 H01 H' H0' → Dq H0' v d → R L[i] d g5 → Yes v H') (no : ∀ H' H0', GnI k n g1 σ vs H1 H01 H' H0' → R0 L[i] → Nx H') :
    ∀ x H', J.yld i H2 x H' → RunG k (c.gen scope) tg x (wipe σ vs) H' fun σ2 H2 => wipe σ2 vs = wipe σ vs ∧ RunPs k (c.gen scope) ifs σ2 H2 fun b H3 => if b = true then RunE k (c.gen scope) elt σ2 H3 Yes else Nx H3 := fun x H3 y => by
  obtain ⟨w1, w2⟩ := w H2 H02 I.s.ex I.a.sub
  obtain ⟨hgo, hy⟩ := w1 i _ (List.getElem?_eq_getElem hlt)
  obtain ⟨H03, o, dq⟩ := hy x H3 y
  obtain ⟨A3, s3⟩ := I.a.one o
  refine runG_mono (turn x _ H3 H03 A3 dq) fun σ4 H4 ⟨e4, l4, k4, g4, A4, hr4, q4⟩ => ?_
  subst e4
  have ew : wipe σ4 vs = wipe σ vs := (wipe_eq (by rw [l4]) (fun j hj => k4 j (fun z => hj (hts j z)))).trans wipe_wipe
  have hr4' : g4.row = g1.row := by rw [hr4, wp_row]
  refine ⟨ew, runPs_mono (q4 σ4 _ H03 A4) fun b H5 ⟨g5, H05, s5, A5, q5⟩ => ?_⟩
  cases b with
  | true =>
    rw [if_pos rfl] at q5 ⊢
    refine runE_mono (q5 σ4 H5 H05 A5) fun v H6 ⟨d, g6, H06, s6, A6, dq6, hr6, hR⟩ => ?_
    exact yes v d g6 H6 H06 (I.later s3 hr4' (s5.trans s6) A6 hr6) dq6 hR
  | false =>
    rw [if_neg Bool.false_ne_true] at q5 ⊢
    exact no H5 H05 (I.later s3 hr4' s5 A5 q5.1) q5.2
theorem GnI.start {vs : List Nat} {P : Addr} {g1 : GS} {H1 H01 H2 : Hp} (A1 : At k n g1 σ H1 H01) (hP : P ∈ k.T) (t : GxR.Tabbed P H1 H2) : GnI k n g1 σ vs H1 H01 H2 H01 := by
  obtain ⟨A2, s2⟩ := A1.tabbed (A1.tabs P hP) t
  exact ⟨s2, A2.wp vs⟩
variable (k n c) in
/-- the items by a yes-or-no -/
def GnH (tg iter elt : Expr) (ifs : List Expr) (scope : Scope) (vs ts : List Nat) (g : GS) (Q : List PyData → (PyData → Bool) → GS → Prop) : Prop :=
  GI k n c tg iter g fun L g1 => ∃ F : PyData → Bool, ∃ S : PyData → Bool, (∀ d ∈ L, GG k n (c.gen scope) tg ts d (g1.wp vs) fun g3 => GPs k n (c.gen scope) ifs g3 fun b g4 =>
      if b = true then GE k n (c.gen scope) elt g4 fun y g5 => g5.row = g1.row ∧ y = .bool (F d) ∧ S d = true else g4.row = g1.row ∧ S d = false) ∧ Q (L.filter S) F g1
theorem filter_take {S : PyData → Bool} {L : List PyData} {i : Nat} (h : i < L.length) : (L.take (i + 1)).filter S = (L.take i).filter S ++ (if S L[i] = true then [L[i]] else []) := by
  rw [List.take_add_one, List.getElem?_eq_getElem h, List.filter_append]
  congr 1
  show List.filter S [L[i]] = _
  rw [List.filter_cons, List.filter_nil]
theorem any_run {vs ts : List Nat} {P : Addr} {Q' : VK} (hP : P ∈ k.T) (hts : ∀ j ∈ ts, j ∈ vs) (h : GnH k n c tg iter elt ifs scope vs ts g fun L F g1 => Q (.bool (L.any F)) g1) (A : At k n g σ H H0) (hq : ∀ v H', Post k n σ g H H0 Q v H' → Q' v H') :
    Gx.tAnyG P (RunI k c tg iter) (RunG k (c.gen scope) tg) (RunPs k (c.gen scope) ifs) (RunE k (c.gen scope) elt) vs σ H Q' := by
  refine runI_mono (h σ H H0 A) fun J H1 ⟨L, g1, H01, s1, A1, w, F, S, turn, fin⟩ => ⟨A1.tabs P hP, fun H2 t => ?_⟩
  refine ⟨fun i m H' => m = L.length - i ∧ i ≤ L.length ∧ ((L.take i).filter S).any F = false ∧ ∃ H0', GnI k n g1 σ vs H1 H01 H' H0', ⟨_, rfl, Nat.zero_le _, rfl, H01, GnI.start A1 hP t⟩, ?_⟩
  rintro i m H2 ⟨rfl, hi, hF, H02, I⟩
  have post : ∀ {H' H0' : Hp} {b : Bool}, GnI k n g1 σ vs H1 H01 H' H0' → (L.filter S).any F = b → Q' (.bl b) H' := fun {H' H0' b} I' e => by
    subst e
    exact hq _ _ ⟨_, g1, H0', s1.trans I'.s, I'.end' A1, .bl _, fin⟩
  obtain ⟨w1, w2⟩ := w H2 H02 I.s.ex I.a.sub
  by_cases hlt : i < L.length
  · refine .inr ⟨(w1 i _ (List.getElem?_eq_getElem hlt)).1, fun H' => i + 1 ≤ L.length ∧ ((L.take (i + 1)).filter S).any F = false ∧ ∃ H0', GnI k n g1 σ vs H1 H01 H' H0', fun H' ⟨_, q⟩ => ⟨L.length - (i + 1), by omega, rfl, hlt, q⟩, ?_⟩
    refine gn_turn (R := fun d y _ => y = .bool (F d) ∧ S d = true) (R0 := fun d => S d = false) hts hlt w (turn _ (List.getElem_mem hlt)) I (fun v d g5 H' H0' I' dq ⟨e1, e2⟩ => ?_) fun H' H0' I' e2 => ⟨hlt, ?_, H0', I'⟩
    · subst e1
      cases dq
      refine ⟨_, rfl, ?_⟩
      cases hf : F L[i] with
      | true =>
        rw [if_pos rfl]
        exact post I' (List.any_eq_true.mpr ⟨L[i], List.mem_filter.mpr ⟨List.getElem_mem hlt, e2⟩, hf⟩)
      | false =>
        rw [if_neg Bool.false_ne_true]
        refine ⟨hlt, ?_, H0', I'⟩
        rw [filter_take hlt, List.any_append, hF, if_pos e2]
        simp [hf]
    · rw [filter_take hlt, List.any_append, hF, if_neg (by rw [e2]; decide)]
      simp
  · have e : i = L.length := by omega
    subst e
    rw [List.take_length] at hF
    exact .inl ⟨w2, post I hF⟩
theorem all_run {vs ts : List Nat} {P : Addr} {Q' : VK} (hP : P ∈ k.T) (hts : ∀ j ∈ ts, j ∈ vs) (h : GnH k n c tg iter elt ifs scope vs ts g fun L F g1 => Q (.bool (L.all F)) g1) (A : At k n g σ H H0) (hq : ∀ v H', Post k n σ g H H0 Q v H' → Q' v H') :
    Gx.tAllG P (RunI k c tg iter) (RunG k (c.gen scope) tg) (RunPs k (c.gen scope) ifs) (RunE k (c.gen scope) elt) vs σ H Q' := by
  refine runI_mono (h σ H H0 A) fun J H1 ⟨L, g1, H01, s1, A1, w, F, S, turn, fin⟩ => ⟨A1.tabs P hP, fun H2 t => ?_⟩
  refine ⟨fun i m H' => m = L.length - i ∧ i ≤ L.length ∧ ((L.take i).filter S).all F = true ∧ ∃ H0', GnI k n g1 σ vs H1 H01 H' H0', ⟨_, rfl, Nat.zero_le _, rfl, H01, GnI.start A1 hP t⟩, ?_⟩
  rintro i m H2 ⟨rfl, hi, hF, H02, I⟩
  have post : ∀ {H' H0' : Hp} {b : Bool}, GnI k n g1 σ vs H1 H01 H' H0' → (L.filter S).all F = b → Q' (.bl b) H' := fun {H' H0' b} I' e => by
    subst e
    exact hq _ _ ⟨_, g1, H0', s1.trans I'.s, I'.end' A1, .bl _, fin⟩
  obtain ⟨w1, w2⟩ := w H2 H02 I.s.ex I.a.sub
  by_cases hlt : i < L.length
  · refine .inr ⟨(w1 i _ (List.getElem?_eq_getElem hlt)).1, fun H' => i + 1 ≤ L.length ∧ ((L.take (i + 1)).filter S).all F = true ∧ ∃ H0', GnI k n g1 σ vs H1 H01 H' H0', fun H' ⟨_, q⟩ => ⟨L.length - (i + 1), by omega, rfl, hlt, q⟩, ?_⟩
    refine gn_turn (R := fun d y _ => y = .bool (F d) ∧ S d = true) (R0 := fun d => S d = false) hts hlt w (turn _ (List.getElem_mem hlt)) I (fun v d g5 H' H0' I' dq ⟨e1, e2⟩ => ?_) fun H' H0' I' e2 => ⟨hlt, ?_, H0', I'⟩
    · subst e1
      cases dq
      refine ⟨_, rfl, ?_⟩
      cases hf : F L[i] with
      | false =>
        rw [if_neg Bool.false_ne_true]
        exact post I' (List.all_eq_false.mpr ⟨L[i], List.mem_filter.mpr ⟨List.getElem_mem hlt, e2⟩, by rw [hf]; decide⟩)
      | true =>
        rw [if_pos rfl]
        refine ⟨hlt, ?_, H0', I'⟩
        rw [filter_take hlt, List.all_append, hF, if_pos e2]
        simp [hf]
    · rw [filter_take hlt, List.all_append, hF, if_neg (by rw [e2]; decide)]
      simp
  · have e : i = L.length := by omega
    subst e
    rw [List.take_length] at hF
    exact .inl ⟨w2, post I hF⟩
variable (k n c) in
/-- the items by numbers -/
def GnS (tg iter elt : Expr) (ifs : List Expr) (scope : Scope) (vs ts : List Nat) (g : GS) (Q : Int → GS → Prop) : Prop :=
  GI k n c tg iter g fun L g1 => ∃ F : PyData → Int, (∀ d ∈ L, GG k n (c.gen scope) tg ts d (g1.wp vs) fun g3 => GPs k n (c.gen scope) ifs g3 fun b g4 =>
      if b = true then GE k n (c.gen scope) elt g4 fun y g5 => g5.row = g1.row ∧ y = .int (F d) else g4.row = g1.row ∧ F d = 0) ∧ Q (L.map F).sum g1
theorem sum_run {vs ts : List Nat} {P : Addr} {Q' : VK} (hP : P ∈ k.T) (hts : ∀ j ∈ ts, j ∈ vs) (h : GnS k n c tg iter elt ifs scope vs ts g fun z g1 => Q (.int z) g1) (A : At k n g σ H H0) (hq : ∀ v H', Post k n σ g H H0 Q v H' → Q' v H') :
    Gx.tSumG P (RunI k c tg iter) (RunG k (c.gen scope) tg) (RunPs k (c.gen scope) ifs) (RunE k (c.gen scope) elt) vs σ H Q' := by
  refine runI_mono (h σ H H0 A) fun J H1 ⟨L, g1, H01, s1, A1, w, F, turn, fin⟩ => ⟨A1.tabs P hP, fun H2 t => ?_⟩
  refine ⟨fun acc i m H' => m = L.length - i ∧ i ≤ L.length ∧ acc = ((L.take i).map F).sum ∧ ∃ H0', GnI k n g1 σ vs H1 H01 H' H0', ⟨_, rfl, Nat.zero_le _, rfl, H01, GnI.start A1 hP t⟩, ?_⟩
  rintro acc i m H2 ⟨rfl, hi, rfl, H02, I⟩
  obtain ⟨w1, w2⟩ := w H2 H02 I.s.ex I.a.sub
  by_cases hlt : i < L.length
  · have tk : ((L.take (i + 1)).map F).sum = ((L.take i).map F).sum + F L[i] := by
      rw [List.take_add_one, List.getElem?_eq_getElem hlt, List.map_append, List.sum_append]
      simp
    refine .inr ⟨(w1 i _ (List.getElem?_eq_getElem hlt)).1, fun acc H' => i + 1 ≤ L.length ∧ acc = ((L.take (i + 1)).map F).sum ∧ ∃ H0', GnI k n g1 σ vs H1 H01 H' H0', fun acc H' ⟨_, q⟩ => ⟨L.length - (i + 1), by omega, rfl, hlt, q⟩, ?_⟩
    refine gn_turn (R := fun d y _ => y = .int (F d)) (R0 := fun d => F d = 0) hts hlt w (turn _ (List.getElem_mem hlt)) I (fun v d g5 H' H0' I' dq e1 => ?_) fun H' H0' I' e2 => ⟨hlt, by rw [tk, e2, Int.add_zero], H0', I'⟩
    subst e1
    cases dq
    exact ⟨_, rfl, hlt, tk.symm, H0', I'⟩
  · have e : i = L.length := by omega
    subst e
    rw [List.take_length]
    exact .inl ⟨w2, hq _ _ ⟨_, g1, H02, s1.trans I.s, I.end' A1, .int _, fin⟩⟩
theorem ge_any (own : List (Str × Nat)) (ts : List Nat) (tb : k.Tb c) (hlv : 1 ≤ c.lv) (hg : c.Gb "any") (hm : k.mg "any" = none) (ok : Gx.gnC c.N c.sc scope own = true) (hts : ∀ j ∈ ts, j ∈ own.map (·.2)) (h : GnH k n c tg iter elt ifs scope (own.map (·.2)) ts g fun L F g1 => Q (.bool (L.any F)) g1)
    (hs : ∀ env v, genFold iter env v = pure v := by intro _ _; rfl) (he : ∀ env, starEach [.GeneratorExp elt [⟨tg, iter, ifs, 0⟩] scope gpos] env = (false, eval (.GeneratorExp elt [⟨tg, iter, ifs, 0⟩] scope gpos) env) :: starEach [] env := by intro _; rfl) :
    GE k n c (.Call (.Name "any" p) [.GeneratorExp elt [⟨tg, iter, ifs, 0⟩] scope gpos] [] pos) g Q := fun σ H H0 A => runE_of fun X hX => by
  obtain ⟨cd, P, hc, hP, TB⟩ := tb
  have ok' := Gx.gnOk_by ok
  exact ⟨_, Gx.pe_anyG hX.room hX.calm (glx hX hg) (mgx hX hm) (by rw [hX.base, hX.mg]; exact TB) (hX.code _ hc) (by rw [hX.N, hX.sc]; exact ok') hX.nd (pi_run hX) (fun s H C code fp pn => pg_run (In.gen hX hlv ok' s H C code fp pn)) (fun s H C code fp pn => pts_run (In.gen hX hlv ok' s H C code fp pn)) (fun s H C code fp pn => pe_run (In.gen hX hlv ok' s H C code fp pn)) (hs _) (he _), any_run hP hts h A fun _ _ q => q⟩
theorem ge_all (own : List (Str × Nat)) (ts : List Nat) (tb : k.Tb c) (hlv : 1 ≤ c.lv) (hg : c.Gb "all") (hm : k.mg "all" = none) (hb : bootBuiltins "all" = some (.builtin "all")) (ok : Gx.gnC c.N c.sc scope own = true) (hts : ∀ j ∈ ts, j ∈ own.map (·.2)) (h : GnH k n c tg iter elt ifs scope (own.map (·.2)) ts g fun L F g1 => Q (.bool (L.all F)) g1)
    (hs : ∀ env v, genFold iter env v = pure v := by intro _ _; rfl) (he : ∀ env, starEach [.GeneratorExp elt [⟨tg, iter, ifs, 0⟩] scope gpos] env = (false, eval (.GeneratorExp elt [⟨tg, iter, ifs, 0⟩] scope gpos) env) :: starEach [] env := by intro _; rfl) :
    GE k n c (.Call (.Name "all" p) [.GeneratorExp elt [⟨tg, iter, ifs, 0⟩] scope gpos] [] pos) g Q := fun σ H H0 A => runE_of fun X hX => by
  obtain ⟨cd, P, hc, hP, TB⟩ := tb
  have ok' := Gx.gnOk_by ok
  exact ⟨_, Gx.pe_allG hX.room hX.calm (glx hX hg) (mgx hX hm) hb (by rw [hX.base, hX.mg]; exact TB) (hX.code _ hc) (by rw [hX.N, hX.sc]; exact ok') hX.nd (pi_run hX) (fun s H C code fp pn => pg_run (In.gen hX hlv ok' s H C code fp pn)) (fun s H C code fp pn => pts_run (In.gen hX hlv ok' s H C code fp pn)) (fun s H C code fp pn => pe_run (In.gen hX hlv ok' s H C code fp pn)) (hs _) (he _), all_run hP hts h A fun _ _ q => q⟩
theorem ge_sumG (own : List (Str × Nat)) (ts : List Nat) (tb : k.Tb c) (hlv : 1 ≤ c.lv) (hg : c.Gb "sum") (hm : k.mg "sum" = none) (ok : Gx.gnC c.N c.sc scope own = true) (hts : ∀ j ∈ ts, j ∈ own.map (·.2)) (h : GnS k n c tg iter elt ifs scope (own.map (·.2)) ts g fun z g1 => Q (.int z) g1)
    (hs : ∀ env v, genFold iter env v = pure v := by intro _ _; rfl) (he : ∀ env, starEach [.GeneratorExp elt [⟨tg, iter, ifs, 0⟩] scope gpos] env = (false, eval (.GeneratorExp elt [⟨tg, iter, ifs, 0⟩] scope gpos) env) :: starEach [] env := by intro _; rfl) :
    GE k n c (.Call (.Name "sum" p) [.GeneratorExp elt [⟨tg, iter, ifs, 0⟩] scope gpos] [] pos) g Q := fun σ H H0 A => runE_of fun X hX => by
  obtain ⟨cd, P, hc, hP, TB⟩ := tb
  have ok' := Gx.gnOk_by ok
  exact ⟨_, Gx.pe_sumG hX.room hX.calm (glx hX hg) (mgx hX hm) (by rw [hX.base, hX.mg]; exact TB) (hX.code _ hc) (by rw [hX.N, hX.sc]; exact ok') hX.nd (pi_run hX) (fun s H C code fp pn => pg_run (In.gen hX hlv ok' s H C code fp pn)) (fun s H C code fp pn => pts_run (In.gen hX hlv ok' s H C code fp pn)) (fun s H C code fp pn => pe_run (In.gen hX hlv ok' s H C code fp pn)) (hs _) (he _), sum_run hP hts h A fun _ _ q => q⟩
end
end
end Gh
set_option Elab.async false
set_option linter.all false
set_option maxRecDepth 100000
set_option maxHeartbeats 4000000
namespace Gh
open PySem PySem.Spec PyProof.Rows L2

/-! ### what a def promises -/
/-- behind a call: the heap H', the view H0' -/
structure Aft (k : Kit) (R : Option Addr) (H H0 H' H0' : Hp) : Prop where
  view : View H0'
  ex : Ex H0 H0'
  sub : Ex H0' H'
  exT : ExT R H H'
  kp : ∀ a, H' a = none → H a = none
  tabs : Tabs k.T H'
  fr : Frsh H0 H H0'
def spP (k : Kit) (F : List PyData → PyData → Prop) : Sp := fun vs H Q _ => ∃ H0 ds d, View H0 ∧ Ex H0 H ∧ Tabs k.T H ∧ DqAll H0 vs ds ∧ F ds d ∧ ∀ v H0' H', Aft k none H H0 H' H0' → Dq H0' v d → Q v H'
structure RowOk (ρ : RowS) : Prop where
  i0 : 0 ≤ ρ.i
def spR (k : Kit) (Pre : List PyData → Prop) (Post : List PyData → PyData → Prop) : Sp := fun vs H Q _ => ∃ H0 ρ vs' ds, vs = .ref ρ.r :: vs' ∧ View H0 ∧ Ex H0 H ∧ Tabs k.T H ∧ H ρ.r = some (.lst (rowV ρ)) ∧ H0 ρ.r = none ∧ SqL k.K H0 ρ.sa (ρ.ns.map .int) ∧ RowOk ρ ∧ DqAll H0 vs' ds ∧ Pre ds ∧
  ∀ v H0' H' d ρ', ρ'.r = ρ.r → RowOk ρ' → H' ρ.r = some (.lst (rowV ρ')) → H0' ρ.r = none → SqL k.K H0' ρ'.sa (ρ'.ns.map .int) → Aft k (some ρ.r) H H0 H' H0' → Dq H0' v d → Post ds d → Q v H'
structure Fn (k : Kit) (lv : Nat) (x : Str) (sp : Sp) : Prop where
  ex : ∃ f fd ps, k.mg x = some (.ref f) ∧ PySem.W.keepIn k.K (.ref f) = true ∧ Binds k.K fd ps [] ∧ FnOk k.P k.w k.K k.mg k.base CX0 lv f fd ps sp
theorem Fn.mono {k : Kit} {l l' : Nat} {x : Str} {sp : Sp} (h : Fn k l x sp) (hl : l ≤ l') : Fn k l' x sp := by
  obtain ⟨f, fd, ps, a, b, c, d⟩ := h.ex
  exact ⟨f, fd, ps, a, b, c, d.mono hl⟩
section
variable {k : Kit} {n : Ent} {c : Cd} {g : GS} {σ : L2.St} {H H0 : Hp}
theorem At.aft {H' H0' : Hp} (A : At k n g σ H H0) (a : Aft k none H H0 H' H0') : At k n g σ H' H0' ∧ Stp g H H0 g H' H0' := by
  have kpO : ∀ p u, H p = some u → (∀ ps, u ≠ HO.tbl ps) → H' p = some u := fun p u e h => a.exT p u e h (fun z => by cases z)
  have no : ∀ p u, H p = some u → H0 p = none → H0' p = none := fun p u e h => by
    cases q : H0' p with
    | none => rfl
    | some o =>
      rcases a.fr p o q with z | z
      · rw [h] at z; cases z
      · rw [e] at z; cases z
  refine ⟨⟨a.view, a.sub, A.e0.trans a.ex, fun p u e h1 h2 => kpO p u (A.eH p u e h1 h2) h1, fun p u e => ?_, fun p e => A.eK p (a.kp p e), a.tabs, A.len, fun i d e => ?_, fun i m ds e => ?_, A.dist, A.rowS, fun ρ e => ?_⟩, ⟨a.ex, a.fr, a.kp, fun p u e h1 _ => kpO p u e h1, rfl, rfl⟩⟩
  · rcases a.fr p u e with z | z
    · exact A.fr p u z
    · exact .inr (A.eK p z)
  · obtain ⟨v, e1, e2⟩ := A.dat i d e
    exact ⟨v, e1, Dq_ex a.ex _ _ e2⟩
  · obtain ⟨h1, h2, h3, h4, vs, h5, h6⟩ := A.mt i m ds e
    exact ⟨h1, no m _ h5 h2, h3, h4, vs, kpO _ _ h5 (fun ps z => by cases z), DqAll_ex a.ex _ _ h6⟩
  · obtain ⟨h1, h2, h3⟩ := A.row ρ e
    exact ⟨kpO _ _ h1 (fun ps z => by cases z), no _ _ h1 h2, a.ex.seqL h3⟩
/-- the row has moved on -/
theorem At.aftR {H' H0' : Hp} {ρ ρ' : RowS} (A : At k n g σ H H0) (hg : g.row = some ρ) (hr : ρ'.r = ρ.r) (hH : H' ρ.r = some (.lst (rowV ρ'))) (hS : SqL k.K H0' ρ'.sa (ρ'.ns.map .int)) (h0 : H0' ρ.r = none) (a : Aft k (some ρ.r) H H0 H' H0') :
    At k n ⟨g.env, some ρ'⟩ σ H' H0' ∧ Stp g H H0 ⟨g.env, some ρ'⟩ H' H0' := by
  have kpO : ∀ p u, H p = some u → (∀ ps, u ≠ HO.tbl ps) → p ≠ ρ.r → H' p = some u := fun p u e h hp => a.exT p u e h (fun z => hp (Option.some.inj z).symm)
  have rr : (some ρ').map RowS.r = g.row.map RowS.r := by rw [hg]; exact congrArg some hr
  have no : ∀ p u, H p = some u → H0 p = none → H0' p = none := fun p u e h => by
    cases q : H0' p with
    | none => rfl
    | some o =>
      rcases a.fr p o q with z | z
      · rw [h] at z; cases z
      · rw [e] at z; cases z
  refine ⟨⟨a.view, a.sub, A.e0.trans a.ex, fun p u e h1 h2 => ?_, fun p u e => ?_, fun p e => A.eK p (a.kp p e), a.tabs, A.len, fun i d e => ?_, fun i m ds e => ?_, A.dist, fun i e => ?_, fun ρ2 e => ?_⟩, ⟨a.ex, a.fr, a.kp, fun p u e h1 h2 => ?_, rfl, rr⟩⟩
  · have h2' : g.row.map RowS.r ≠ some p := by rw [← rr]; exact h2
    exact kpO p u (A.eH p u e h1 h2') h1 (fun z => h2' (by rw [hg, z]; rfl))
  · rcases a.fr p u e with z | z
    · exact A.fr p u z
    · exact .inr (A.eK p z)
  · obtain ⟨v, e1, e2⟩ := A.dat i d e
    exact ⟨v, e1, Dq_ex a.ex _ _ e2⟩
  · obtain ⟨h1, h2, h3, h4, vs, h5, h6⟩ := A.mt i m ds e
    refine ⟨h1, no m _ h5 h2, h3, fun ρ2 e2 => ?_, vs, kpO _ _ h5 (fun ps z => by cases z) (fun z => h4 ρ hg z.symm), DqAll_ex a.ex _ _ h6⟩
    cases e2
    rw [hr]; exact h4 ρ hg
  · obtain ⟨ρ2, a1, a2⟩ := A.rowS i e
    rw [hg] at a1; cases a1
    exact ⟨ρ', rfl, by rw [hr]; exact a2⟩
  · cases e
    rw [hr]
    exact ⟨hH, h0, hS⟩
  · exact kpO p u e h1 (fun z => h2 (by rw [hg, z]; rfl))
section
variable {x : Str} {p pos : Pos} {e : Expr} {es : List Expr} {Q : PyData → GS → Prop}
theorem ge_call {F : List PyData → PyData → Prop} {lv : Nat} (F0 : Fn k lv x (spP k F)) (hlv : lv ≤ c.lv) (hg : c.Gb x) (h : GA k n c (e :: es) g fun ds g1 => ∃ d, F ds d ∧ Q d g1)
    (hdb : (x == ("__debug__" : Str)) = false := by decide) (he : ∀ env, starEach (e :: es) env = (false, eval e env) :: starEach es env := by intro _; rfl) (hpl : ∀ env, (backTo pos (starEach es env)).any (·.1) = false := by intro _; rfl) :
    GE k n c (.Call (.Name x p) (e :: es) [] pos) g Q := fun σ H H0 A => runE_of fun X hX => by
  obtain ⟨f, fd, ps, hm, hk, hb, hF⟩ := F0.ex
  have hF' : FnOk X.prog X.w X.K X.mg X.base CX0 lv f fd ps (spP k F) := by rw [hX.P, hX.w, hX.K, hX.mg, hX.base]; exact hF
  refine ⟨_, pe_call hF' (hX.room.mono hlv) (glx hX hg) (mgx hX hm) (by rw [hX.K]; exact hk) (by rw [hX.K]; exact hb) (dvs := []) .nil pass0 (pa_run hX) hdb (he _) (hpl _), runA_mono (h σ H H0 A) fun vs H1 ⟨ds, g1, H01, s1, A1, q1, d, hF, hq⟩ => ?_⟩
  rw [List.append_nil]
  refine ⟨H01, ds, d, A1.view, A1.sub, A1.tabs, q1, hF, fun v H0' H' a dq => ?_⟩
  obtain ⟨A2, s2⟩ := A1.aft a
  exact ⟨d, g1, H0', s1.trans s2, A2, dq, hq⟩
/-- a call that takes the row -/
theorem ge_callR (i : Nat) {Pre : List PyData → Prop} {Post : List PyData → PyData → Prop} {lv : Nat} {r : Str} {rp : Pos} (F0 : Fn k lv x (spR k Pre Post)) (hlv : lv ≤ c.lv) (hg : c.Gb x) (hi : c.N[i]? = some r) (hv : Vis c.sc r) (hrow : g.env[i]? = some SV.row) (h : GA k n c es g fun ds g1 => ∃ ρ, g1.row = some ρ ∧ RowOk ρ ∧ Pre ds ∧ ∀ d ρ', ρ'.r = ρ.r → RowOk ρ' → Post ds d → Q d ⟨g1.env, some ρ'⟩)
    (hdr : (r == ("__debug__" : Str)) = false := by decide) (hcdr : (r == ("__classdict__" : Str)) = false := by decide)
    (hdb : (x == ("__debug__" : Str)) = false := by decide) (he : ∀ env, starEach (.Name r rp :: es) env = (false, eval (.Name r rp) env) :: starEach es env := by intro _; rfl) (hpl : ∀ env, (backTo pos (starEach es env)).any (·.1) = false := by intro _; rfl) :
    GE k n c (.Call (.Name x p) (.Name r rp :: es) [] pos) g Q := fun σ H H0 A => runE_of fun X hX => by
  obtain ⟨f, fd, ps, hm, hk, hb, hF⟩ := F0.ex
  have hF' : FnOk X.prog X.w X.K X.mg X.base CX0 lv f fd ps (spR k Pre Post) := by rw [hX.P, hX.w, hX.K, hX.mg, hX.base]; exact hF
  refine ⟨_, pe_call hF' (hX.room.mono hlv) (glx hX hg) (mgx hX hm) (by rw [hX.K]; exact hk) (by rw [hX.K]; exact hb) (dvs := []) .nil pass0 (pa_cons (pe_var (i := i) (by rw [hX.N]; exact hi) (by rw [hX.sc]; exact hv) hdr hcdr) (pa_run hX) (he _)) hdb (he _) (hpl _), ?_⟩
  obtain ⟨ρ0, hρ0, hσ⟩ := A.rowS i hrow
  refine ⟨_, hσ, runA_mono (h σ H H0 A) fun vs H1 ⟨ds, g1, H01, s1, A1, q1, ρ, hρ, ok, hp, hq⟩ => ?_⟩
  have er : ρ.r = ρ0.r := by
    have := s1.rr
    rw [hρ, hρ0] at this
    exact Option.some.inj this
  obtain ⟨r1, r2, r3⟩ := A1.row ρ hρ
  show spR k Pre Post ((V.ref ρ0.r :: vs) ++ []) H1 _ E0
  rw [List.append_nil]
  refine ⟨H01, ρ, vs, ds, by rw [er], A1.view, A1.sub, A1.tabs, r1, r2, r3, ok, q1, hp, fun v H0' H' d ρ' e1 ok' hH' h0' hS' a dq hpost => ?_⟩
  obtain ⟨A2, s2⟩ := A1.aftR hρ e1 hH' hS' h0' a
  exact ⟨d, _, H0', s1.trans s2, A2, dq, hq d ρ' e1 ok' hpost⟩
end

/-! ### a def of the text -/
structure FunC (K : PySem.W.Frag) (x : Str) (st : Stmt) (f : Addr) (fd : FuncData) (cdv : Value) : Prop where
  ex : ∃ (oc : Value) (od : Option Addr) (kV doc pm : Value) (an : Option Addr) (ct : Value) (osl : Array (Option Value)),
    fd = PySem.W.fnOf x x (defArgs st) (defBody st) (defScope st) .none kV doc pm an cdv ct ∧ K.lookup f = some ⟨oc, od, .func fd, osl⟩ ∧ PySem.W.codeIn K cdv x = true
  kp : PySem.W.keepIn K (.ref f) = true
theorem func_mk {K : PySem.W.Frag} {x : Str} {st : Stmt} {f : Addr} {oc : Value} {od an : Option Addr} {osl : Array (Option Value)} {kV doc pm cdv ct : Value} (l : K.lookup f = some ⟨oc, od, .func (PySem.W.fnOf x x (defArgs st) (defBody st) (defScope st) .none kV doc pm an cdv ct), osl⟩)
    (c : PySem.W.codeIn K cdv x = true) (k : PySem.W.keepIn K (.ref f) = true) : FunC K x st f (PySem.W.fnOf x x (defArgs st) (defBody st) (defScope st) .none kV doc pm an cdv ct) cdv := ⟨⟨oc, od, kV, doc, pm, an, ct, osl, rfl, l, c⟩, k⟩
theorem FunC.binds {K : PySem.W.Frag} {x : Str} {st : Stmt} {f : Addr} {fd : FuncData} {cdv : Value} {ps : List Str} (F : FunC K x st f fd cdv)
    (h : ∀ (kV doc pm : Value) (an : Option Addr) (cdv ct : Value) (us : List Value), us.length = ps.length → bindArgs (PySem.W.fnOf x x (defArgs st) (defBody st) (defScope st) .none kV doc pm an cdv ct) ⟨us, []⟩ = pure (ps.zip us)) : Binds K fd ps [] := by
  obtain ⟨oc, od, kV, doc, pm, an, ct, osl, rfl, lk, hcd⟩ := F.ex
  exact .all (h kV doc pm an cdv ct)
def locS (sc : Scope) : List Str := (sc.names.map (·.1)).filter fun x => decide (sc.names.lookup x = some .local) || decide (sc.names.lookup x = some .cell)
theorem locS_loc {sc : Scope} {x : Str} (h : x ∈ locS sc) : L2.Loc sc x := by
  have := (List.mem_filter.mp h).2
  simpa [L2.Loc] using this
def cdOf (N : List Str) (st : Stmt) (lv : Nat) (cdv : Value) : Cd := ⟨N, defScope st, lv, some cdv, locS (defScope st)⟩
theorem in_cxOf {N ps : List Str} {st : Stmt} {lv : Nat} {cdv : Value} {A : Around} {outer : List Env} {s : Shared} {H : Hp} {E : XK} {f : Addr} {x : Str} (S : FnScope N ps (defScope st)) (hr : Room lv (A.deeper (envOfC x (defScope st) s.heap.objs.size f cdv))) :
    (cdOf N st lv cdv).In k (cxOf CX0 k.P k.w k.K k.mg k.base N x (defScope st) f cdv A outer s H E).nox where
  P := rfl
  w := rfl
  K := rfl
  mg := rfl
  base := rfl
  N := rfl
  sc := rfl
  room := hr
  calm := rfl
  nd := S.nd
  code := fun v e => Option.some.inj e
  xe := rfl
  st := fun x hx => .inl rfl
  loc := fun x hx => locS_loc hx
def gStart (N : List Str) (ds : List PyData) : GS := ⟨ds.map SV.dat ++ List.replicate (N.length - ds.length) .non, none⟩
theorem at_start {N : List Str} {vs : List V} {ds : List PyData} (hv : View H0) (hs : Ex H0 H) (ht : Tabs k.T H) (hd : DqAll H0 vs ds) : At k ⟨H0, H⟩ (gStart N ds) (start N vs) H H0 where
  view := hv
  sub := hs
  e0 := Ex.refl _
  eH := fun a o e _ _ => e
  fr := fun a o e => .inl e
  eK := fun a e => e
  tabs := ht
  len := by
    show (ds.map SV.dat ++ _).length = (vs.map some ++ _).length
    simp [da_length hd]
  dat := fun i d e => by
    have e : (ds.map SV.dat ++ List.replicate (N.length - ds.length) SV.non)[i]? = some (SV.dat d) := e
    have l := da_length hd
    by_cases hi : i < ds.length
    · rw [List.getElem?_append_left (by simpa using hi), List.getElem?_map] at e
      cases q : ds[i]? with
      | none => rw [q] at e; cases e
      | some d' =>
        rw [q] at e
        cases e
        obtain ⟨v, hv, dv⟩ := da_get hd q
        refine ⟨v, ?_, dv⟩
        show (vs.map some ++ _)[i]? = _
        rw [List.getElem?_append_left (by simpa [l] using hi), List.getElem?_map, hv]; rfl
    · rw [List.getElem?_append_right (by simpa using hi), List.getElem?_replicate] at e
      split at e <;> cases e
  mt := fun i m es e => by
    have e : (ds.map SV.dat ++ List.replicate (N.length - ds.length) SV.non)[i]? = some (SV.mu m es) := e
    by_cases hi : i < ds.length
    · rw [List.getElem?_append_left (by simpa using hi), List.getElem?_map] at e
      cases q : ds[i]? with
      | none => rw [q] at e; cases e
      | some d' => rw [q] at e; cases e
    · rw [List.getElem?_append_right (by simpa using hi), List.getElem?_replicate] at e
      split at e <;> cases e
  dist := fun i j m es es' e _ => by
    have e : (ds.map SV.dat ++ List.replicate (N.length - ds.length) SV.non)[i]? = some (SV.mu m es) := e
    by_cases hi : i < ds.length
    · rw [List.getElem?_append_left (by simpa using hi), List.getElem?_map] at e
      cases q : ds[i]? with
      | none => rw [q] at e; cases e
      | some d' => rw [q] at e; cases e
    · rw [List.getElem?_append_right (by simpa using hi), List.getElem?_replicate] at e
      split at e <;> cases e
  rowS := fun i e => by
    have e : (ds.map SV.dat ++ List.replicate (N.length - ds.length) SV.non)[i]? = some SV.row := e
    by_cases hi : i < ds.length
    · rw [List.getElem?_append_left (by simpa using hi), List.getElem?_map] at e
      cases q : ds[i]? with
      | none => rw [q] at e; cases e
      | some d' => rw [q] at e; cases e
    · rw [List.getElem?_append_right (by simpa using hi), List.getElem?_replicate] at e
      split at e <;> cases e
  row := fun ρ e => by cases e
/-- THE RULE for a def -/
theorem fn_def {x : Str} {st : Stmt} {f : Addr} {fd : FuncData} {cdv : Value} {N ps : List Str} {lv : Nat} {F : List PyData → PyData → Prop} (FC : FunC k.K x st f fd cdv) (hm : k.mg x = some (.ref f)) (hb : Binds k.K fd ps []) (S : FnScope N ps (defScope st)) (len : ∀ ds d, F ds d → ds.length = ps.length)
    (hbody : ∀ ds d, F ds d → ∀ n, GSs k n (cdOf N st lv cdv) (defBody st) (gStart N ds) { nx := fun g => d = .none ∧ g.row = none, rt := fun d' g => d' = d ∧ g.row = none }) : Fn k (lv + 1) x (spP k F) := by
  refine ⟨f, fd, ps, hm, FC.kp, hb, ?_⟩
  obtain ⟨oc, od, kV, doc, pm, an, ct, osl, rfl, lk, hcd⟩ := FC.ex
  refine fn_of lk hcd S (fun vs H Q E ⟨H0, ds, d, a1, a2, a3, a4, a5, _⟩ => by rw [da_length a4]; exact len _ _ a5) fun A outer s H vs Q E hr ⟨H0, ds, d, a1, a2, a3, a4, a5, hQ⟩ => ?_
  refine ⟨_, PSs.nox (pss_run (in_cxOf (k := k) S hr)), ?_⟩
  have A0 := at_start (N := N) a1 a2 a3 a4
  have fin : ∀ {g' : GS} {τ : L2.St} {H' H0' : Hp} {v : V}, At k ⟨H0, H⟩ g' τ H' H0' → g'.row = none → Dq H0' v d → Q v H' := fun {g' τ H' H0' v} A' hr' dq =>
    hQ v H0' H' ⟨A'.view, A'.e0, A'.sub, by have := A'.eH; rw [hr'] at this; exact this, A'.eK, A'.tabs, A'.fr⟩ dq
  exact runSs_mono (hbody ds d a5 ⟨H0, H⟩ _ _ _ A0) (fun τ H' ⟨g', H0', _, A', e, hr'⟩ => fin A' hr' (by rw [e]; exact .non)) (fun v H' ⟨d', g', τ, H0', A', dq, e, hr'⟩ => fin A' hr' (by rw [← e]; exact dq)) (fun τ H' ⟨_, _, _, _, z⟩ => z.elim) fun τ H' ⟨_, _, _, _, z⟩ => z.elim
def gStartR (N : List Str) (ρ : RowS) (ds : List PyData) : GS := ⟨SV.row :: (ds.map SV.dat ++ List.replicate (N.length - (ds.length + 1)) .non), some ρ⟩
theorem startR_get {N : List Str} {ds : List PyData} {i : Nat} {z : SV} (h : (ds.map SV.dat ++ List.replicate (N.length - (ds.length + 1)) SV.non)[i]? = some z) : (∃ d, ds[i]? = some d ∧ z = .dat d) ∨ z = .non := by
  by_cases hi : i < ds.length
  · rw [List.getElem?_append_left (by simpa using hi), List.getElem?_map] at h
    cases q : ds[i]? with
    | none => rw [q] at h; cases h
    | some d' =>
      rw [q] at h
      exact .inl ⟨d', rfl, (Option.some.inj h).symm⟩
  · rw [List.getElem?_append_right (by simpa using hi), List.getElem?_replicate] at h
    split at h
    · exact .inr (Option.some.inj h).symm
    · cases h
theorem at_startR {N : List Str} {ρ : RowS} {vs : List V} {ds : List PyData} (hv : View H0) (hs : Ex H0 H) (ht : Tabs k.T H) (hd : DqAll H0 vs ds) (h1 : H ρ.r = some (.lst (rowV ρ))) (h2 : H0 ρ.r = none) (h3 : SqL k.K H0 ρ.sa (ρ.ns.map .int)) : At k ⟨H0, H⟩ (gStartR N ρ ds) (start N (.ref ρ.r :: vs)) H H0 where
  view := hv
  sub := hs
  e0 := Ex.refl _
  eH := fun a o e _ _ => e
  fr := fun a o e => .inl e
  eK := fun a e => e
  tabs := ht
  len := by
    show (SV.row :: (ds.map SV.dat ++ _)).length = (some (V.ref ρ.r) :: vs.map some ++ _).length
    simp [da_length hd]
  dat := fun i d e => by
    cases i with
    | zero => cases e
    | succ i =>
      have e : (ds.map SV.dat ++ List.replicate (N.length - (ds.length + 1)) SV.non)[i]? = some (SV.dat d) := e
      rcases startR_get e with ⟨d', q, z⟩ | z
      · cases z
        obtain ⟨v, hv, dv⟩ := da_get hd q
        refine ⟨v, ?_, dv⟩
        show (vs.map some ++ _)[i]? = _
        have hi := (List.getElem?_eq_some_iff.mp hv).1
        rw [List.getElem?_append_left (by simpa using hi), List.getElem?_map, hv]; rfl
      · cases z
  mt := fun i m es e => by
    cases i with
    | zero => cases e
    | succ i =>
      rcases startR_get (N := N) (ds := ds) (i := i) e with ⟨d', q, z⟩ | z <;> cases z
  dist := fun i j m es es' e _ => by
    cases i with
    | zero => cases e
    | succ i =>
      rcases startR_get (N := N) (ds := ds) (i := i) e with ⟨d', q, z⟩ | z <;> cases z
  rowS := fun i e => by
    cases i with
    | zero => exact ⟨ρ, rfl, rfl⟩
    | succ i =>
      rcases startR_get (N := N) (ds := ds) (i := i) e with ⟨d', q, z⟩ | z <;> cases z
  row := fun ρ' e => by
    cases e
    exact ⟨h1, h2, h3⟩
/-- .. for a def that takes the row -/
theorem fn_defR {x : Str} {st : Stmt} {f : Addr} {fd : FuncData} {cdv : Value} {N ps : List Str} {lv : Nat} {Pre : List PyData → Prop} {Post : List PyData → PyData → Prop} (FC : FunC k.K x st f fd cdv) (hm : k.mg x = some (.ref f)) (hb : Binds k.K fd ps []) (S : FnScope N ps (defScope st)) (len : ∀ ds, Pre ds → ds.length + 1 = ps.length)
    (hbody : ∀ ds ρ, Pre ds → RowOk ρ → ∀ n, GSs k n (cdOf N st lv cdv) (defBody st) (gStartR N ρ ds) { nx := fun g => False, rt := fun d' g => Post ds d' ∧ ∃ ρ', g.row = some ρ' ∧ RowOk ρ' ∧ ρ'.r = ρ.r }) : Fn k (lv + 1) x (spR k Pre Post) := by
  refine ⟨f, fd, ps, hm, FC.kp, hb, ?_⟩
  obtain ⟨oc, od, kV, doc, pm, an, ct, osl, rfl, lk, hcd⟩ := FC.ex
  refine fn_of lk hcd S (fun vs H Q E ⟨H0, ρ, vs', ds, a0, a1, a2, a3, a4, a5, a6, a7, a8, a9, _⟩ => by rw [a0, List.length_cons, da_length a8]; exact len _ a9) fun A outer s H vs Q E hr ⟨H0, ρ, vs', ds, a0, a1, a2, a3, a4, a5, a6, a7, a8, a9, hQ⟩ => ?_
  subst a0
  refine ⟨_, PSs.nox (pss_run (in_cxOf (k := k) S hr)), ?_⟩
  have A0 := at_startR (N := N) a1 a2 a3 a8 a4 a5 a6
  refine runSs_mono (hbody ds ρ a9 a7 ⟨H0, H⟩ _ _ _ A0) (fun τ H' ⟨_, _, _, _, z⟩ => z.elim) (fun v H' ⟨d', g', τ, H0', A', dq, hp, ρ', e1, e2, e3⟩ => ?_) (fun τ H' ⟨_, _, _, _, z⟩ => z.elim) fun τ H' ⟨_, _, _, _, z⟩ => z.elim
  obtain ⟨b1, b2, b3⟩ := A'.row ρ' e1
  rw [e3] at b1 b2
  exact hQ v H0' H' d' ρ' e3 e2 b1 b2 b3 ⟨A'.view, A'.e0, A'.sub, by have := A'.eH; rw [e1] at this; rw [← e3]; exact this, A'.eK, A'.tabs, A'.fr⟩ dq hp
end
end Gh
set_option Elab.async false
set_option linter.all false
set_option maxRecDepth 100000
set_option maxHeartbeats 4000000
namespace Gh
open PySem PySem.Spec PyProof.Rows L2

section
variable {k : Kit} {n : Ent} {c : Cd} {g : GS} {σ : L2.St} {H H0 : Hp} {a b e : Expr} {pos p : Pos} {D : GD}
/-! ### starred items -/
theorem ga_star {es : List Expr} {Q : List PyData → GS → Prop} (h : GE k n c e g fun d g1 => ∃ ds, isSq d ds ∧ GA k n c es g1 fun xs g2 => Q (ds ++ xs) g2)
    (hs : ∀ env, starEach (.Starred e p :: es) env = (true, eval e env) :: starEach es env := by intro _; rfl) : GA k n c (.Starred e p :: es) g Q := fun σ H H0 A => runA_of fun X hX =>
  ⟨_, StX.pa_star (pe_run hX) (pa_run hX) (hs _), runE_mono (h σ H H0 A) fun v H1 ⟨d, g1, H01, s1, A1, q1, ds, e, h1⟩ => by
    have key : ∃ (p : Addr) (xs : List V), v = .ref p ∧ (SqT k.K H1 p xs ∨ SqL k.K H1 p xs) ∧ DqAll H01 xs ds := by
      rcases e with e | e
      · subst e
        cases q1 with
        | lst h1 h2 => exact ⟨_, _, rfl, .inr (SqL.of (A1.sub _ _ h1)), h2⟩
      · subst e
        cases q1 with
        | tup h1 h2 => exact ⟨_, _, rfl, .inl (SqT.of (A1.sub _ _ h1)), h2⟩
    obtain ⟨p, xs, ev, hq, hd⟩ := key
    exact ⟨p, xs, ev, by rw [hX.K]; exact hq, runA_mono (h1 σ H1 H01 A1) fun ws H2 ⟨es', g2, H02, s2, A2, q2, hq2⟩ => ⟨ds ++ es', g2, H02, s1.trans s2, A2, da_append (DqAll_ex s2.ex _ _ hd) q2, hq2⟩⟩⟩

/-! ### the row -/
theorem ge_row (i : Nat) {r : Str} {rp : Pos} {j : Int} {z : Int} {ρ : RowS} {Q : PyData → GS → Prop} (hi : c.N[i]? = some r) (hv : Vis c.sc r) (hrow : g.env[i]? = some SV.row) (hρ : g.row = some ρ) (hz : atI (rowV ρ) j = some (.int z)) (q : Q (.int z) g)
    (hdr : (r == ("__debug__" : Str)) = false := by decide) (hcdr : (r == ("__classdict__" : Str)) = false := by decide) {je : Expr} (hje : ∀ X : Cx, PE X je (tC (.int j)) := by intro _; exact pe_int) (hp : PlainIx je := by intro _ _; rfl) :
    GE k n c (.Subscript (.Name r rp) je pos) g Q := fun σ H H0 A => runE_of fun X hX =>
  ⟨_, pe_ix ix_list (pe_var (i := i) (by rw [hX.N]; exact hi) (by rw [hX.sc]; exact hv) hdr hcdr) (hje X) hp, by
    obtain ⟨ρ0, e0, hσ⟩ := A.rowS i hrow
    rw [hρ] at e0; cases e0
    obtain ⟨r1, r2, r3⟩ := A.row ρ hρ
    exact ⟨_, hσ, _, _, _, _, rfl, rfl, SqL.of r1, hz, A.post (.int z) q⟩⟩
theorem ge_rowLen (i : Nat) {r : Str} {rp p2 p3 : Pos} {ρ : RowS} {Q : PyData → GS → Prop} (hg : c.Gb "len") (hm : k.mg "len" = none) (hi : c.N[i]? = some r) (hv : Vis c.sc r) (hrow : g.env[i]? = some SV.row) (hρ : g.row = some ρ) (q : Q (.int (ρ.ns.length : Nat)) g)
    (hdr : (r == ("__debug__" : Str)) = false := by decide) (hcdr : (r == ("__classdict__" : Str)) = false := by decide) {je : Expr} (hje : ∀ X : Cx, PE X je (tC (.int 0)) := by intro _; exact pe_int) (hp : PlainIx je := by intro _ _; rfl)
    (hs : ∀ env, starEach [.Subscript (.Name r rp) je p3] env = (false, eval (.Subscript (.Name r rp) je p3) env) :: starEach [] env := by intro _; rfl) :
    GE k n c (.Call (.Name "len" p2) [.Subscript (.Name r rp) je p3] [] pos) g Q := fun σ H H0 A => runE_of fun X hX =>
  ⟨_, pe_callB call_len_seq (glx hX hg) (mgx hX hm) PySem.boot_len (pa_cons (pe_ix ix_list (pe_var (i := i) (by rw [hX.N]; exact hi) (by rw [hX.sc]; exact hv) hdr hcdr) (hje X) hp) pa_nil (hs _)) (by decide) (by decide) (hs _) rfl, by
    obtain ⟨ρ0, e0, hσ⟩ := A.rowS i hrow
    rw [hρ] at e0; cases e0
    obtain ⟨r1, r2, r3⟩ := A.row ρ hρ
    refine ⟨_, hσ, _, _, _, .ref ρ.sa, rfl, rfl, SqL.of r1, rfl, _, _, rfl, .inl (by rw [hX.K]; exact A.sub.seqL r3), ?_⟩
    rw [List.length_map]
    exact A.post (.int _) q⟩
theorem ge_rowCell (i : Nat) {r : Str} {rp p3 : Pos} {ρ : RowS} {Q : PyData → GS → Prop} (hi : c.N[i]? = some r) (hv : Vis c.sc r) (hrow : g.env[i]? = some SV.row) (hρ : g.row = some ρ) (h : GE k n c e g fun d g1 => ∃ j z, d = .int j ∧ atI ρ.ns j = some z ∧ Q (.int z) g1)
    (hdr : (r == ("__debug__" : Str)) = false := by decide) (hcdr : (r == ("__classdict__" : Str)) = false := by decide) {je : Expr} (hje : ∀ X : Cx, PE X je (tC (.int 0)) := by intro _; exact pe_int) (hp : PlainIx je := by intro _ _; rfl) (hp2 : PlainIx e := by intro _ _; rfl) :
    GE k n c (.Subscript (.Subscript (.Name r rp) je p3) e pos) g Q := fun σ H H0 A => runE_of fun X hX =>
  ⟨_, pe_ix ix_list (pe_ix ix_list (pe_var (i := i) (by rw [hX.N]; exact hi) (by rw [hX.sc]; exact hv) hdr hcdr) (hje X) hp) (pe_run hX) hp2, by
    obtain ⟨ρ0, e0, hσ⟩ := A.rowS i hrow
    rw [hρ] at e0; cases e0
    obtain ⟨r1, r2, r3⟩ := A.row ρ hρ
    refine ⟨_, hσ, _, _, _, .ref ρ.sa, rfl, rfl, SqL.of r1, rfl, runE_mono (h σ H H0 A) fun v H1 ⟨d, g1, H01, s1, A1, q1, j, z, e1, hz, hq⟩ => ?_⟩
    subst e1
    cases q1
    refine ⟨_, _, j, .int z, rfl, rfl, by rw [hX.K]; exact A1.sub.seqL (s1.ex.seqL r3), ?_, .int z, g1, H01, s1, A1, .int z, hq⟩
    unfold atI at hz ⊢
    rw [List.length_map]
    cases hx : ixN ρ.ns.length j with
    | none => rw [hx] at hz; cases hz
    | some m =>
      rw [hx] at hz
      show (ρ.ns.map V.int)[m]? = _
      rw [List.getElem?_map]
      have hz : ρ.ns[m]? = some z := hz
      rw [hz]; rfl⟩
theorem At.rowSet {ρ ρ' : RowS} (A : At k n g σ H H0) (hρ : g.row = some ρ) (hr : ρ'.r = ρ.r) (hsa : ρ'.sa = ρ.sa) (hns : ρ'.ns = ρ.ns) : At k n ⟨g.env, some ρ'⟩ σ (upd H ρ.r (.lst (rowV ρ'))) H0 := by
  obtain ⟨r1, r2, r3⟩ := A.row ρ hρ
  have other : ∀ a u, a ≠ ρ.r → H a = some u → upd H ρ.r (.lst (rowV ρ')) a = some u := fun a u h e => by rw [upd_ne h]; exact e
  have rr : (some ρ').map RowS.r = g.row.map RowS.r := by rw [hρ]; exact congrArg some hr
  refine ⟨A.view, fun a u e => other a u (ne_of_none e r2) (A.sub a u e), A.e0, fun a u e h1 h2 => ?_, A.fr, fun a e => ?_, fun P hP => ?_, A.len, A.dat, fun i m es e => ?_, A.dist, fun i e => ?_, fun ρ2 e => ?_⟩
  · have h2' : g.row.map RowS.r ≠ some a := by rw [← rr]; exact h2
    exact other a u (fun z => h2' (by rw [hρ, z]; rfl)) (A.eH a u e h1 h2')
  · by_cases h : a = ρ.r
    · subst h; rw [upd_same] at e; cases e
    · rw [upd_ne h] at e; exact A.eK a e
  · obtain ⟨ps, e, t⟩ := A.tabs P hP
    exact ⟨ps, other _ _ (ne_of e r1 (fun z => by cases z)) e, t⟩
  · obtain ⟨h1, h2, h3, h4, vs, h5, h6⟩ := A.mt i m es e
    refine ⟨h1, h2, h3, fun ρ2 e2 => ?_, vs, other _ _ (fun z => h4 ρ hρ z.symm) h5, h6⟩
    cases e2
    rw [hr]; exact h4 ρ hρ
  · obtain ⟨ρ2, a1, a2⟩ := A.rowS i e
    rw [hρ] at a1; cases a1
    exact ⟨ρ', rfl, by rw [hr]; exact a2⟩
  · cases e
    rw [hr, hsa, hns]
    exact ⟨upd_same, r2, r3⟩
/-- row[j] = e -/
theorem gs_rowSet (i : Nat) {r : Str} {rp p3 : Pos} {j : Int} {jn : Nat} (hi : c.N[i]? = some r) (hv : Vis c.sc r) (hrow : g.env[i]? = some SV.row) (hj : ixN 4 j = some jn) (h : GE k n c e g fun d g1 => ∃ z ρ ρ', d = .int z ∧ g1.row = some ρ ∧ ρ'.r = ρ.r ∧ ρ'.sa = ρ.sa ∧ ρ'.ns = ρ.ns ∧ rowV ρ' = (rowV ρ).set jn (.int z) ∧ D.nx ⟨g1.env, some ρ'⟩)
    (hdr : (r == ("__debug__" : Str)) = false := by decide) (hcdr : (r == ("__classdict__" : Str)) = false := by decide) {je : Expr} (hje : ∀ X : Cx, PE X je (tC (.int j)) := by intro _; exact pe_int)
    (ha : ∀ env v, assign (.Subscript (.Name r rp) je p3) env v = (do
      let ov ← holding [v] (eval (.Name r rp) env)
      let iv ← holding [v, ov] (eval je env)
      standAt p3
      holding [v, ov, iv] (setItem ov iv v)
      release [v, ov, iv] []) := by intro _ _; rfl)
    (hs : ∀ env, swapsWithSole [.Subscript (.Name r rp) je p3] e pos.line env = pure false := by intro _; rfl) (hw : ∀ env, swappedStores [.Subscript (.Name r rp) je p3] e env = pure none := by intro _; rfl) (h1 : ∀ env, (assignEach [.Subscript (.Name r rp) je p3] env).map (·.2) = [assign (.Subscript (.Name r rp) je p3) env] := by intro _; rfl) :
    GS1 k n c (.Assign [.Subscript (.Name r rp) je p3] e pos) g D := fun σ H H0 A => runS_of fun X hX =>
  ⟨_, ps_asg (pe_run hX) (pg_sub (pe_var (i := i) (by rw [hX.N]; exact hi) (by rw [hX.sc]; exact hv) hdr hcdr) (hje X) set_list (ha _)) (hs _) (hw _) (h1 _), runE_mono (h σ H H0 A) fun v H1 ⟨d, g1, H01, s1, A1, q1, z, ρ, ρ', e1, e2, hr, hsa, hns, hset, hq⟩ => by
    subst e1
    cases q1
    obtain ⟨ρ0, e0, hσ⟩ := A1.rowS i (by rw [s1.env]; exact hrow)
    rw [e2] at e0; cases e0
    obtain ⟨r1, r2, r3⟩ := A1.row ρ e2
    refine ⟨_, hσ, _, rowV ρ, j, jn, rfl, rfl, r1, hj, ?_⟩
    rw [← hset]
    exact ⟨_, H01, s1.ex, A1.rowSet e2 hr hsa hns, hq⟩⟩
/-- the law's own first statement: row = [script, z1, z2, z3] -/
theorem gss_row (i j : Nat) {x s : Str} {px sp pl : Pos} {z1 z2 z3 : Int} {a : Addr} {ns : List Int} {rest : List Stmt} {e1 e2 e3 : Expr} (A : At k n g σ H H0) (hσ : σ[j]? = some (some (.ref a))) (hS : SqL k.K H0 a (ns.map .int)) (hrow : g.row = none)
    (hi : c.N[i]? = some x) (hx : x ∈ c.stn) (hj : c.N[j]? = some s) (hv : Vis c.sc s) (hil : i < g.env.length) (hnr : ∀ i : Nat, g.env[i]? ≠ some SV.row) (h : ∀ r, GSs k n c rest ⟨g.env.set i .row, some ⟨r, a, ns, z1, z2, z3⟩⟩ D)
    (hds : (s == ("__debug__" : Str)) = false := by decide) (hcds : (s == ("__classdict__" : Str)) = false := by decide)
    (h1 : ∀ X : Cx, PE X e1 (tC (.int z1)) := by intro _; exact pe_int) (h2 : ∀ X : Cx, PE X e2 (tC (.int z2)) := by intro _; exact pe_int) (h3 : ∀ X : Cx, PE X e3 (tC (.int z3)) := by intro _; exact pe_int)
    (hs : ∀ env, swapsWith (.List [.Name s sp, e1, e2, e3] pl) (some (.Name x px)) pos.line env = pure false := by intro _; rfl)
    (hst : ∀ env, starEach [.Name s sp, e1, e2, e3] env = [(false, eval (.Name s sp) env), (false, eval e1 env), (false, eval e2 env), (false, eval e3 env)] := by intro _; rfl)
    (hst1 : ∀ env, starEach [e1, e2, e3] env = [(false, eval e1 env), (false, eval e2 env), (false, eval e3 env)] := by intro _; rfl) (hst2 : ∀ env, starEach [e2, e3] env = [(false, eval e2 env), (false, eval e3 env)] := by intro _; rfl) (hst3 : ∀ env, starEach [e3] env = [(false, eval e3 env)] := by intro _; rfl) :
    RunSs k c (.Assign [.Name x px] (.List [.Name s sp, e1, e2, e3] pl) pos :: rest) (up k n H0 D) σ H := runSs_of fun X hX =>
  ⟨_, pss_cons (ps_set (i := i) hX.nd (by rw [hX.N]; exact hi) (by rw [hX.sc]; exact hX.loc x hx) (pe_lst (pa_cons (pe_var (i := j) (by rw [hX.N]; exact hj) (by rw [hX.sc]; exact hv) hds hcds) (pa_cons (h1 X) (pa_cons (h2 X) (pa_cons (h3 X) pa_nil (by rw [hst3]; rfl)) (by rw [hst2, hst3])) (by rw [hst1, hst2])) (by rw [hst, hst1]))) (hs _) (hX.st x hx)) (pss_run hX), by
    refine ⟨_, hσ, (show 4 ≤ sizeLine by decide), fun p hp => ?_⟩
    have ha := A.hid (o := .lst (rowV ⟨p, a, ns, z1, z2, z3⟩)) hp (fun ps z => by cases z)
    have hp0 := A.sub.none hp
    have hl := A.len
    refine h p _ _ H0 ⟨ha.view, ha.sub, ha.e0, fun b u e1 e2 e3 => ?_, ha.fr, ha.eK, ha.tabs, by show (g.env.set i _).length = _; simp [hl], fun b d e => ?_, fun b m ds e => ?_, fun b b' m ds es e1 e2 => ?_, fun b e => ?_, fun ρ e => ?_⟩
    · exact ha.eH b u e1 e2 (by rw [hrow]; exact fun z => by cases z)
    · rcases set_get (l := g.env) e with ⟨rfl, e'⟩ | ⟨hb, e'⟩
      · cases e'
      · obtain ⟨v, e1, e2⟩ := ha.dat b d e'
        exact ⟨v, by rw [List.getElem?_set_ne (Ne.symm hb)]; exact e1, e2⟩
    · rcases set_get (l := g.env) e with ⟨rfl, e'⟩ | ⟨hb, e'⟩
      · cases e'
      · obtain ⟨a1, a2, a3, a4, vs, a5, a6⟩ := ha.mt b m ds e'
        refine ⟨by rw [List.getElem?_set_ne (Ne.symm hb)]; exact a1, a2, a3, fun ρ eρ => ?_, vs, a5, a6⟩
        cases eρ
        intro z
        exact A.nmu hp b ds (by have z' : p = m := z; rw [z']; exact e')
    · rcases set_get (l := g.env) e1 with ⟨_, e'⟩ | ⟨_, e'⟩
      · cases e'
      · rcases set_get (l := g.env) e2 with ⟨_, e''⟩ | ⟨_, e''⟩
        · cases e''
        · exact ha.dist b b' m ds es e' e''
    · rcases set_get (l := g.env) e with ⟨rfl, e'⟩ | ⟨hb, e'⟩
      · exact ⟨_, rfl, List.getElem?_set_self (by omega)⟩
      · exact absurd e' (hnr b)
    · cases e
      exact ⟨upd_same, hp0, hS⟩⟩
/-- x, y, z = a, b, [] by targets that need not be plain locals: the last list its own -/
theorem gs_cell3 (i j l : Nat) {x y z : Str} {px py pz pt pl : Pos} {kt k2 : Nat} {pt2 : Pos} (hi : c.N[i]? = some x) (hj : c.N[j]? = some y) (hl : c.N[l]? = some z) (hx : x ∈ c.stn) (hy : y ∈ c.stn) (hz : z ∈ c.stn) (hil : i ≠ l) (hjl : j ≠ l)
    (h : GE k n c a g fun d1 g1 => GE k n c b g1 fun d2 g2 => ∀ m, D.nx (((g2.set i (.dat d1)).set j (.dat d2)).set l (.mu m [])))
    (hw : ∀ env : Env, env.scope = c.sc → swappedStores [.Tuple [.Name x px, .Name y py, .Name z pz] kt pt] (.Tuple [a, b, .List [] pl] k2 pt2) env = pure none)
    (hs : ∀ env, swapsWithSole [.Tuple [.Name x px, .Name y py, .Name z pz] kt pt] (.Tuple [a, b, .List [] pl] k2 pt2) pos.line env = pure false := by intro _; rfl)
    (he1 : ∀ env, starEach [a, b, .List [] pl] env = (false, eval a env) :: starEach [b, .List [] pl] env := by intro _; rfl) (he2 : ∀ env, starEach [b, .List [] pl] env = (false, eval b env) :: starEach [.List [] pl] env := by intro _; rfl) :
    GS1 k n c (.Assign [.Tuple [.Name x px, .Name y py, .Name z pz] kt pt] (.Tuple [a, b, .List [] pl] k2 pt2) pos) g D := fun σ H H0 A => runS_of fun X hX =>
  ⟨_, ps_asg (pe_tup (pa_cons (pe_run hX) (pa_cons (pe_run hX) (pa_cons (pe_lst pa_nil) pa_nil rfl) (he2 _)) (he1 _)))
      (pg_tup hX.calm (pgs_cons (pg_name (i := i) hX.nd (by rw [hX.N]; exact hi) (by rw [hX.sc]; exact hX.loc x hx) (hX.st x hx)) (pgs_cons (pg_name (i := j) hX.nd (by rw [hX.N]; exact hj) (by rw [hX.sc]; exact hX.loc y hy) (hX.st y hy)) (pgs_cons (pg_name (i := l) hX.nd (by rw [hX.N]; exact hl) (by rw [hX.sc]; exact hX.loc z hz) (hX.st z hz)) pgs_nil rfl) rfl) rfl) (n := 3) rfl rfl) (hs _) (hw _ hX.sc) rfl,
    runE_mono (h σ H H0 A) fun v1 H1 ⟨d1, g1, H01, s1, A1, q1, h1⟩ => runE_mono (h1 σ H1 H01 A1) fun v2 H2 ⟨d2, g2, H02, s2, A2, q2, hq⟩ => ⟨Nat.zero_le _, fun p hp => ⟨by show 3 ≤ sizeLine; decide, fun T hT => by
      refine ⟨T, _, rfl, SqT.of upd_same, rfl, _, _, rfl, _, _, rfl, _, _, rfl, rfl, ?_⟩
      have B1 := (A2.set_dat (i := i) (Dq_ex s2.ex _ _ q1)).set_dat (i := j) q2
      have B2 := B1.new_mu (i := l) hp (ds := []) .nil
      exact ⟨_, H02, s1.ex.trans s2.ex, B2.hid hT (fun ps z => by cases z), hq p⟩⟩⟩⟩

/-! ### two clauses -/
variable (k n c) in
def Lc2H (tg iter tg1 iter1 elt : Expr) (scope : Scope) (vs ts vs1 ts1 : List Nat) (g : GS) (Q : PyData → GS → Prop) : Prop :=
  GI k n c tg iter g fun L g1 => ∃ (L1 : List PyData) (F : PyData → PyData → PyData), (∀ d ∈ L, GG k n (c.blk scope) tg ts d (g1.wp vs) fun g3 =>
    GI k n (c.blk scope) tg1 iter1 g3 fun L1' g4 => L1' = L1 ∧ g4.row = g1.row ∧ (∀ m es, SV.mu m es ∉ g4.env) ∧ ∀ d1 ∈ L1, GG k n (c.blk scope) tg1 ts1 d1 (g4.wp vs1) fun g5 => GE k n (c.blk scope) elt g5 fun y g6 => y = F d d1 ∧ g6.row = g1.row) ∧
    L.length * L1.length ≤ sizeLine ∧ Q (.list (L.flatMap fun d => L1.map (F d))) g1
end
end Gh
set_option Elab.async false
set_option linter.all false
set_option maxRecDepth 100000
set_option maxHeartbeats 4000000
namespace Gh
open PySem PySem.Spec PyProof.Rows L2

section
variable {k : Kit} {n : Ent} {c : Cd} {g : GS} {σ : L2.St} {H H0 : Hp}
theorem LcI.later {g1 gx gz : GS} {vs : List Nat} {H1 H01 H2 H02 Hz H0z : Hp} {D : Addr} {acc : List PyData} {ρ : Option RowS} {τ : L2.St} (I : LcI k n g1 σ vs H1 H01 D acc ρ H2 H02) (nr : ∀ r, g1.row = some r → r.r ≠ D) (hx : gx.row = ρ) (sz : Stp gx H2 H02 gz Hz H0z) (Az : At k n gz τ Hz H0z) : LcI k n g1 σ vs H1 H01 D acc gz.row Hz H0z := by
  have st : Stp (⟨(g1.wp vs).env, ρ⟩ : GS) H2 H02 ⟨(g1.wp vs).env, gz.row⟩ Hz H0z := sz.rebase (gw := ⟨(g1.wp vs).env, ρ⟩) hx.symm
  obtain ⟨ys, dD, dA⟩ := I.d
  have row2 : ∀ r, (⟨g1.env, ρ⟩ : GS).row = some r → r.r ≠ D := fun r e => rr_ne nr I.s.rr r e
  refine ⟨I.s.trans (st.rebase (gw := ⟨g1.env, ρ⟩) rfl), I.a.later (g' := ⟨(g1.wp vs).env, gz.row⟩) st Az rfl, ?_, ys, st.exH D _ dD (fun ps z => by cases z) (row_map_ne (g := ⟨g1.env, ρ⟩) row2), DqAll_ex st.ex _ _ dA⟩
  cases q : H0z D with
  | none => rfl
  | some u =>
    rcases st.fr D u q with z | z
    · rw [I.d0] at z; cases z
    · rw [dD] at z; cases z
theorem LcI.app {g1 : GS} {vs : List Nat} {H1 H01 H2 H02 : Hp} {D : Addr} {acc : List PyData} {ρ : Option RowS} {ys : List V} {v : V} {d : PyData} (I : LcI k n g1 σ vs H1 H01 D acc ρ H2 H02) (nr : ∀ r, g1.row = some r → r.r ≠ D) (hD : H1 D = none) (hDE : n.He D = none) (hm : ∀ (j : Nat) es, g1.env[j]? ≠ some (SV.mu D es)) (dD : H2 D = some (.lst ys)) (dA : DqAll H02 ys acc) (dq : Dq H02 v d) :
    LcI k n g1 σ vs H1 H01 D (acc ++ [d]) ρ (upd H2 D (.lst (ys ++ [v]))) H02 :=
  ⟨I.s.hid hD, I.a.updH dD I.d0 hDE (fun r e => rr_ne nr I.s.rr r e) (fun j es e => hm j es (wp_get e)), I.d0, _, upd_same, da_append dA (.cons dq .nil)⟩
theorem flat_take {α β : Type} {L : List α} {i : Nat} (f : α → List β) (h : i < L.length) : (L.take (i + 1)).flatMap f = (L.take i).flatMap f ++ f L[i] := by
  rw [List.take_add_one, List.getElem?_eq_getElem h, List.flatMap_append]
  simp
theorem flat_len {α β : Type} {f : α → List β} {m : Nat} (h : ∀ d, (f d).length = m) : ∀ L : List α, (L.flatMap f).length = L.length * m
  | [] => by simp
  | x :: L => by rw [List.flatMap_cons, List.length_append, flat_len h L, h, List.length_cons, Nat.add_mul]; omega
theorem lc2_run {tg iter tg1 iter1 elt : Expr} {scope : Scope} {vs ts vs1 ts1 : List Nat} {Q : PyData → GS → Prop} {Q' : VK} (h : Lc2H k n c tg iter tg1 iter1 elt scope vs ts vs1 ts1 g Q) (hts : ∀ j ∈ ts, j ∈ vs) (hts1 : ∀ j ∈ ts1, j ∈ vs1) (A : At k n g σ H H0) (hq : ∀ v H', Post k n σ g H H0 Q v H' → Q' v H') :
    tLc2 (RunI k c tg iter) (RunG k (c.blk scope) tg) (RunPs k (c.blk scope) []) (RunI k (c.blk scope) tg1 iter1) (RunG k (c.blk scope) tg1) (RunPs k (c.blk scope) []) (RunE k (c.blk scope) elt) vs vs1 σ H Q' := by
  refine runI_mono (h σ H H0 A) fun J H1 ⟨L, g1, H01, s1, A1, w, L1, F, turn, hsz, fin⟩ D hD => ?_
  have hr1 := A1.nrow hD
  have hm1 := A1.nmu hD
  have hD0 : H01 D = none := A1.sub.none hD
  have hDE : n.He D = none := A1.eK D hD
  have ew1 : (⟨(g1.wp vs).env, g1.row⟩ : GS) = g1.wp vs := by rw [← wp_row g1 vs]
  let f : PyData → List PyData := fun d => L1.map (F d)
  have lenF : ∀ i, ((L.take i).flatMap f).length = min i L.length * L1.length := fun i => by rw [flat_len (m := L1.length) (fun d => by simp [f]), List.length_take]
  refine ⟨fun i m H' => m = L.length - i ∧ i ≤ L.length ∧ ∃ H0', LcI k n g1 σ vs H1 H01 D ((L.take i).flatMap f) g1.row H' H0', ⟨_, rfl, Nat.zero_le _, H01, ⟨(Stp.refl g1 H1 H01).hid hD, ?_, hD0, [], upd_same, .nil⟩⟩, ?_⟩
  · have := (A1.wp vs).hid (o := .lst []) hD (fun ps z => by cases z)
    rw [ew1]; exact this
  rintro i m H2 ⟨rfl, hi, H02, I2⟩
  obtain ⟨w1, w2⟩ := w H2 H02 I2.s.ex I2.a.sub
  by_cases hlt : i < L.length
  · obtain ⟨hgo, hy⟩ := w1 i _ (List.getElem?_eq_getElem hlt)
    refine .inr ⟨hgo, fun H' => i + 1 ≤ L.length ∧ ∃ H0', LcI k n g1 σ vs H1 H01 D ((L.take (i + 1)).flatMap f) g1.row H' H0', fun H' ⟨_, q⟩ => ⟨L.length - (i + 1), by omega, rfl, hlt, q⟩, fun x H3 y => ?_⟩
    obtain ⟨H03, o, dq⟩ := hy x H3 y
    obtain ⟨A3, s3⟩ := I2.a.one o
    rw [ew1] at A3
    have I3 : LcI k n g1 σ vs H1 H01 D ((L.take i).flatMap f) g1.row H3 H03 := by
      have := I2.later hr1 (gx := ⟨(g1.wp vs).env, g1.row⟩) (gz := ⟨(g1.wp vs).env, g1.row⟩) rfl s3 (by rw [ew1]; exact A3)
      exact this
    refine runG_mono (turn _ (List.getElem_mem hlt) x _ H3 H03 A3 dq) fun σ4 H4 ⟨e4, l4, k4, g4, A4, hr4, q4⟩ => ?_
    subst e4
    have ew : wipe σ4 vs = wipe σ vs := (wipe_eq (by rw [l4]) (fun j hj => k4 j (fun z => hj (hts j z)))).trans wipe_wipe
    have hr4' : g4.row = g1.row := by rw [hr4, wp_row]
    refine ⟨ew, runPs_nil ?_⟩
    rw [if_pos rfl]
    refine runI_mono (q4 σ4 _ H03 A4) fun J1 H5 ⟨L1', g5, H05, s5, A5, wk1, e5, hr5, hnm, turn1⟩ => ?_
    subst e5
    have I5 : LcI k n g1 σ vs H1 H01 D ((L.take i).flatMap f) g1.row H5 H05 := by
      have := I3.later hr1 hr4' s5 A5
      rw [hr5] at this; exact this
    have ew5 : (⟨(g5.wp vs1).env, g1.row⟩ : GS) = g5.wp vs1 := by rw [← hr5, ← wp_row g5 vs1]
    refine ⟨fun j m H' => m = L1'.length - j ∧ j ≤ L1'.length ∧ ∃ H0', LcI k n g1 σ vs H1 H01 D ((L.take i).flatMap f ++ (L1'.take j).map (F L[i])) g1.row H' H0' ∧ At k n (g5.wp vs1) (wipe σ4 vs1) H' H0' ∧ Ex H05 H0', ⟨_, rfl, Nat.zero_le _, H05, by simpa using I5, A5.wp vs1, Ex.refl _⟩, ?_⟩
    rintro j m H6 ⟨rfl, hj, H06, I6, A6, ex6⟩
    obtain ⟨u1, u2⟩ := wk1 H6 H06 ex6 A6.sub
    by_cases hlj : j < L1'.length
    · obtain ⟨hgo1, hy1⟩ := u1 j _ (List.getElem?_eq_getElem hlj)
      refine .inr ⟨hgo1, fun H' => j + 1 ≤ L1'.length ∧ ∃ H0', LcI k n g1 σ vs H1 H01 D ((L.take i).flatMap f ++ (L1'.take (j + 1)).map (F L[i])) g1.row H' H0' ∧ At k n (g5.wp vs1) (wipe σ4 vs1) H' H0' ∧ Ex H05 H0', fun H' ⟨_, q⟩ => ⟨L1'.length - (j + 1), by omega, rfl, hlj, q⟩, fun x1 H7 y1 => ?_⟩
      obtain ⟨H07, o7, dq7⟩ := hy1 x1 H7 y1
      obtain ⟨A7, s7⟩ := A6.one o7
      refine runG_mono (turn1 _ (List.getElem_mem hlj) x1 _ H7 H07 A7 dq7) fun σ8 H8 ⟨e8, l8, k8, g8, A8, hr8, q8⟩ => ?_
      subst e8
      have ew8 : wipe σ8 vs1 = wipe σ4 vs1 := (wipe_eq (by rw [l8]) (fun j hj => k8 j (fun z => hj (hts1 j z)))).trans wipe_wipe
      refine ⟨ew8, runPs_nil ?_⟩
      rw [if_pos rfl]
      refine runE_mono (q8 σ8 _ H07 A8) fun v H9 ⟨y, g9, H09, s9, A9, dq9, ey, hr9⟩ => ?_
      subst ey
      have hr8' : g8.row = g1.row := by rw [hr8, wp_row, hr5]
      have stp : Stp (g5.wp vs1) H6 H06 ⟨(g5.wp vs1).env, g9.row⟩ H9 H09 := s7.trans (s9.rebase (gw := g5.wp vs1) (by rw [wp_row, hr8', hr5]))
      have I9 : LcI k n g1 σ vs H1 H01 D ((L.take i).flatMap f ++ (L1'.take j).map (F L[i])) g1.row H9 H09 := by
        have := I6.later (gx := g5.wp vs1) (gz := ⟨(g5.wp vs1).env, g9.row⟩) hr1 (by rw [wp_row, hr5]) stp (A6.later (g' := ⟨(g5.wp vs1).env, g9.row⟩) stp A9 rfl)
        rw [hr9] at this; exact this
      have A9' : At k n (g5.wp vs1) (wipe σ4 vs1) H9 H09 := by
        have := A6.later (g' := ⟨(g5.wp vs1).env, g9.row⟩) stp A9 rfl
        rw [show ((⟨(g5.wp vs1).env, g9.row⟩ : GS).row) = g1.row from hr9, ew5] at this
        exact this
      obtain ⟨ys, dD, dA⟩ := I9.d
      have e1 : (L1'.take (j + 1)).map (F L[i]) = (L1'.take j).map (F L[i]) ++ [F L[i] L1'[j]] := by
        rw [List.take_add_one, List.getElem?_eq_getElem hlj, List.map_append]; rfl
      refine ⟨ys, dD, ?_, hlj, H09, ?_, A9'.updH dD I9.d0 hDE (fun r e => ?_) (fun j' es e => ?_), ex6.trans stp.ex⟩
      · rw [da_length dA, List.length_append, lenF, List.length_map, List.length_take]
        have : i * L1'.length + L1'.length ≤ L.length * L1'.length := by
          have := Nat.mul_le_mul_right L1'.length hlt
          rw [Nat.succ_mul] at this; exact this
        have e3 : min i L.length = i := by omega
        rw [e3]
        omega
      · rw [e1, ← List.append_assoc]
        exact I9.app hr1 hD hDE hm1 dD dA dq9
      · have e' : g5.row = some r := by rw [← wp_row g5 vs1]; exact e
        rw [hr5] at e'
        exact hr1 r e'
      · exact hnm _ _ (List.mem_of_getElem? (wp_get e))
    · have e : j = L1'.length := by omega
      subst e
      refine .inl ⟨u2, hlt, H06, ?_⟩
      rw [List.take_length] at I6
      rw [flat_take f hlt]
      exact I6
  · have e : i = L.length := by omega
    subst e
    refine .inl ⟨w2, hq _ _ ?_⟩
    rw [List.take_length] at I2
    have A3 := A1.later I2.s I2.a rfl
    obtain ⟨ys, dD, dA⟩ := I2.d
    refine ⟨.list (L.flatMap f), g1, upd H02 D (.lst ys), ?_, A3.shw dD I2.d0 hDE hr1 hm1, .lst upd_same (DqAll_ex (Ex.upd I2.d0) _ _ dA), fin⟩
    have s := s1.trans I2.s
    refine ⟨s.ex.trans (Ex.upd I2.d0), fun a u e => ?_, s.kp, s.exH, s.env, s.rr⟩
    by_cases h : a = D
    · subst h; exact .inr (s1.kp _ hD)
    · rw [upd_ne h] at e; exact s.fr a u e
theorem gs_setLc2 (i : Nat) (own : List (Str × Nat)) (ts vs1 ts1 : List Nat) {x : Str} {py pos spos : Pos} {tg iter tg1 iter1 elt : Expr} {scope : Scope} {D : GD} (hi : c.N[i]? = some x) (hx : c.sc.names.lookup x = some .local) (hk : c.sc.kind = .function) (hl : (py.line == pos.line) = true)
    (ha : (scope.names.any fun (n, k) => n == x && (k == .local || k == .cell)) = false) (ok : blkC c.N c.sc scope own = true) (hv : ∀ i ∈ vs1, i ∈ own.map (·.2)) (hts : ∀ j ∈ ts, j ∈ own.map (·.2)) (hts1 : ∀ j ∈ ts1, j ∈ vs1) (h : Lc2H k n c tg iter tg1 iter1 elt scope (own.map (·.2)) ts vs1 ts1 g fun d g1 => D.nx (g1.set i (.dat d)))
    (hs : ∀ env x, foldedSetIterable iter env x = pure x := by intro _ _; rfl) (hs1 : ∀ env x, foldedSetIterable iter1 env x = pure x := by intro _ _; rfl) : GS1 k n c (.Assign [.Name x py] (.ListComp elt [⟨tg, iter, [], 0⟩, ⟨tg1, iter1, [], 0⟩] scope pos) spos) g D := fun σ H H0 A => runS_of fun X hX => by
  have ok' := blkOk_by ok
  refine ⟨_, ps_setLc2 (i := i) hX.calm hX.nd (by rw [hX.N]; exact hi) (by rw [hX.sc]; exact hx) (sw_true (by rw [hX.sc]; exact hk) (by rw [hX.sc]; exact hx) hl ha) (pi_run hX) (by rw [hX.N, hX.sc]; exact ok') hv (fun s H C cl fp => pg_run (In.blk hX ok' s H C cl fp)) (fun s H C cl fp => pts_run (In.blk hX ok' s H C cl fp)) (fun s H C cl fp => pi_run (In.blk hX ok' s H C cl fp)) (fun s H C cl fp => pg_run (In.blk hX ok' s H C cl fp)) (fun s H C cl fp => pts_run (In.blk hX ok' s H C cl fp)) (fun s H C cl fp => pe_run (In.blk hX ok' s H C cl fp)) (hs _) hs1, lc2_run h hts hts1 A fun v H' q => ?_⟩
  obtain ⟨d, g1, H01, ex, A1, q1, hq⟩ := q.elim
  exact ⟨_, H01, ex, A1.set_dat q1, hq⟩
end
end Gh
set_option Elab.async false
set_option linter.all false
set_option maxRecDepth 100000
set_option maxHeartbeats 4000000
/-! the program's data, by plain lists of numbers -/
namespace Mir
open PySem Gh
abbrev nD (n : Nat) : PyData := .int (n : Int)
abbrev tD (w : List Nat) : PyData := .tuple (w.map nD)
abbrev pD (p : Nat × Nat) : PyData := .tuple [nD p.1, nD p.2]
abbrev Rd := Nat × Nat × Nat
structure Bl where
  n : Nat
  rs : List Rd
  ps : List (Nat × Nat)
abbrev rB (r : Rd) : PyData := .tuple [nD r.1, nD r.2.1, nD r.2.2]
abbrev rG (k : Nat) (r : Rd) : PyData := .tuple [nD r.1, nD r.2.1, .tuple (List.replicate k (nD r.2.2))]
abbrev rN (r : Rd) : PyData := .tuple [nD r.1, nD r.2.1, .int 0, .int 0]
abbrev bD (b : Bl) : PyData := .tuple [nD b.n, .tuple (b.rs.map rB), .tuple (b.ps.map pD)]
abbrev gD (b : Bl) : PyData := .tuple [nD b.n, .tuple (b.rs.map (rG b.ps.length)), .tuple (b.ps.map pD)]
abbrev netD (b : Bl) : PyData := .tuple [nD b.n, .tuple (b.rs.map rN)]
abbrev Es := List (Nat × Nat)
def Bl.es (b : Bl) : Es := b.rs.map fun r => (r.1, r.2.1)
abbrev Row := List Nat × List Nat
abbrev rowD (r : Row) : PyData := .tuple [tD r.1, tD r.2]
def lastN (l : List Nat) : Nat := l.getLast?.getD 0
def ext1 (row : Row) (x : (Nat × Nat) × Nat) : Option Row := if x.1.1 = lastN row.2 ∧ x.1.2 ∉ row.2 then some (row.1 ++ [x.2], row.2 ++ [x.1.2]) else none
def ext (es : Es) (row : Row) : List Row := es.zipIdx.filterMap (ext1 row)
def more (es : Es) (rows : List Row) : List Row := rows.flatMap (ext es)
def gl (g : Nat) (rows : List Row) : List (List Nat) := (rows.filter fun r => decide (lastN r.2 = g)).map (·.1)
def ng (g : Nat) (rows : List Row) : List Row := rows.filter fun r => !decide (lastN r.2 = g)
def waysN (es : Es) (g : Nat) : Nat → List Row → List (List Nat)
  | 0, _ => []
  | m + 1, rows => gl g (more es rows) ++ waysN es g m (ng g (more es rows))
def unN : PyData → Nat
  | .int i => i.toNat
  | _ => 0
def unT : PyData → List Nat
  | .tuple xs => xs.map unN
  | _ => []
theorem unT_tD (w : List Nat) : unT (tD w) = w := by
  show (w.map nD).map unN = w
  rw [List.map_map]
  have : (unN ∘ nD) = id := by funext n; rfl
  rw [this, List.map_id]
def sortT (ws : List (List Nat)) : List (List Nat) := (sortD (ws.map tD)).map unT
theorem sortT_D (ws : List (List Nat)) : (sortT ws).map tD = sortD (ws.map tD) := by
  unfold sortT
  rw [List.map_map]
  have h : ∀ d ∈ sortD (ws.map tD), (tD ∘ unT) d = d := fun d hd => by
    obtain ⟨w, _, rfl⟩ := List.mem_map.mp ((sortD_perm _).mem_iff.mp hd)
    show tD (unT (tD w)) = tD w
    rw [unT_tD]
  rw [List.map_congr_left h, List.map_id']
theorem sortT_perm (ws : List (List Nat)) : (sortT ws).Perm ws := by
  have h := (sortD_perm (ws.map tD)).map unT
  have e : (ws.map tD).map unT = ws := by
    rw [List.map_map]
    have : (unT ∘ tD) = id := by funext n; exact unT_tD n
    rw [this, List.map_id]
  rw [e] at h
  exact h
def ways (n : Nat) (es : Es) (s g : Nat) : List (List Nat) := sortT (waysN es g n [([], [s])])
/-! what the walks need -/
theorem lastN_app (l : List Nat) (x : Nat) : lastN (l ++ [x]) = x := by simp [lastN]
theorem ext1_mem {row r : Row} {x : (Nat × Nat) × Nat} (h : ext1 row x = some r) : x.1.1 = lastN row.2 ∧ x.1.2 ∉ row.2 ∧ r = (row.1 ++ [x.2], row.2 ++ [x.1.2]) := by
  unfold ext1 at h
  split at h
  · rename_i h'
    exact ⟨h'.1, h'.2, (Option.some.inj h).symm⟩
  · cases h
theorem ext_len (es : Es) (row : Row) : (ext es row).length ≤ es.length := by
  unfold ext
  refine Nat.le_trans (List.length_filterMap_le _ _) ?_
  simp
theorem more_len (es : Es) : ∀ rows : List Row, (more es rows).length ≤ es.length * rows.length
  | [] => by simp [more]
  | r :: rows => by
    have ih := more_len es rows
    have h := ext_len es r
    unfold more at ih ⊢
    rw [List.flatMap_cons, List.length_append, List.length_cons, Nat.mul_add]
    omega
theorem gl_len (g : Nat) (rows : List Row) : (gl g rows).length ≤ rows.length := by
  unfold gl
  rw [List.length_map]
  exact List.length_filter_le _ _
theorem ng_len (g : Nat) (rows : List Row) : (ng g rows).length ≤ rows.length := List.length_filter_le _ _
theorem waysN_len (es : Es) (g : Nat) (he : es.length ≤ 6) : ∀ (m : Nat) (rows : List Row), (waysN es g m rows).length ≤ rows.length * 12 ^ m
  | 0, rows => by simp [waysN]
  | m + 1, rows => by
    have h1 := gl_len g (more es rows)
    have h2 := more_len es rows
    have h3 := waysN_len es g he m (ng g (more es rows))
    have h4 := ng_len g (more es rows)
    have h5 : es.length * rows.length ≤ 6 * rows.length := Nat.mul_le_mul_right _ he
    have h6 : (ng g (more es rows)).length * 12 ^ m ≤ (6 * rows.length) * 12 ^ m := Nat.mul_le_mul_right _ (by omega)
    have h7 : 1 ≤ 12 ^ m := Nat.one_le_pow _ _ (by decide)
    have h8 : rows.length ≤ rows.length * 12 ^ m := Nat.le_mul_of_pos_right _ h7
    unfold waysN
    rw [List.length_append, Nat.pow_succ]
    have h9 : (6 * rows.length) * 12 ^ m = 6 * (rows.length * 12 ^ m) := Nat.mul_assoc _ _ _
    have h10 : rows.length * (12 ^ m * 12) = 12 * (rows.length * 12 ^ m) := by rw [← Nat.mul_assoc, Nat.mul_comm]
    rw [h10]
    omega
theorem waysN_nil (es : Es) (g : Nat) : ∀ m, waysN es g m [] = []
  | 0 => rfl
  | m + 1 => by
    unfold waysN
    show gl g [] ++ waysN es g m (ng g []) = []
    exact waysN_nil es g m
/-- rows with m turns to go -/
structure RowOk (n : Nat) (L : Nat) (m : Nat) (r : Row) : Prop where
  nd : r.2.Nodup
  lt : ∀ x ∈ r.2, x < n
  len : r.2.length + m = n + 1
  ne : r.2 ≠ []
  ix : ∀ i ∈ r.1, i < L
  wl : r.1.length + 1 = r.2.length
theorem row_ext {n m : Nat} {es : Es} {row r : Row} (he : ∀ e ∈ es, e.2 < n) (h : RowOk n es.length (m + 1) row) (hr : r ∈ ext es row) : RowOk n es.length m r := by
  obtain ⟨x, hx, hr⟩ := List.mem_filterMap.mp hr
  obtain ⟨h1, h2, rfl⟩ := ext1_mem hr
  have hx' := List.mem_zipIdx hx
  have hmem : x.1 ∈ es := by rw [hx'.2.2]; exact List.getElem_mem _
  have hlt : x.2 < es.length := by have := hx'.2.1; omega
  refine ⟨?_, fun y hy => ?_, ?_, by simp, fun i hi => ?_, ?_⟩
  · show (row.2 ++ [x.1.2]).Nodup
    rw [List.nodup_append]
    exact ⟨h.nd, by simp, fun a ha b hb => by simp at hb; subst hb; exact fun z => h2 (z ▸ ha)⟩
  · rcases List.mem_append.mp hy with z | z
    · exact h.lt y z
    · simp at z; subst z; exact he _ hmem
  · have := h.len
    show (row.2 ++ [x.1.2]).length + m = n + 1
    rw [List.length_append]
    simp only [List.length_singleton]
    omega
  · rcases List.mem_append.mp hi with z | z
    · exact h.ix i z
    · simp at z; subst z; exact hlt
  · have := h.wl
    show (row.1 ++ [x.2]).length + 1 = (row.2 ++ [x.1.2]).length
    rw [List.length_append, List.length_append]
    simp only [List.length_singleton]
    omega
theorem row_more {n m : Nat} {es : Es} {rows : List Row} (he : ∀ e ∈ es, e.2 < n) (h : ∀ r ∈ rows, RowOk n es.length (m + 1) r) : ∀ r ∈ more es rows, RowOk n es.length m r := fun r hr => by
  obtain ⟨q, hq, hr⟩ := List.mem_flatMap.mp hr
  exact row_ext he (h q hq) hr
theorem pigeon : ∀ (n : Nat) (l : List Nat), l.Nodup → (∀ x ∈ l, x < n) → l.length ≤ n
  | 0, l, _, h => by
    cases l with
    | nil => exact Nat.le_refl _
    | cons x l => exact absurd (h x List.mem_cons_self) (Nat.not_lt_zero _)
  | n + 1, l, nd, h => by
    have ih := pigeon n (l.erase n) (nd.erase n) fun x hx => by
      have h1 := (nd.mem_erase_iff).mp hx
      have h2 := h x h1.2
      have := h1.1
      omega
    rw [List.length_erase] at ih
    split at ih <;> omega
theorem row_none {n L : Nat} {r : Row} (h : RowOk n L 0 r) : False := by
  have h1 := h.len
  have h2 : r.2.length ≤ n := pigeon n _ h.nd h.lt
  omega
theorem waysN_mem {n : Nat} {es : Es} {g : Nat} (he : ∀ e ∈ es, e.2 < n) : ∀ (m : Nat) (rows : List Row), (∀ r ∈ rows, RowOk n es.length m r) → ∀ w ∈ waysN es g m rows, w ≠ [] ∧ ∀ i ∈ w, i < es.length
  | 0, _, _, w, hw => by cases hw
  | m + 1, rows, h, w, hw => by
    unfold waysN at hw
    have hm := row_more he h
    rcases List.mem_append.mp hw with z | z
    · obtain ⟨r, hr, rfl⟩ := List.mem_map.mp z
      have hr' := (List.mem_filter.mp hr).1
      refine ⟨fun z => ?_, (hm r hr').ix⟩
      obtain ⟨q, hq, hr2⟩ := List.mem_flatMap.mp hr'
      obtain ⟨x, hx, hr3⟩ := List.mem_filterMap.mp hr2
      obtain ⟨_, _, rfl⟩ := ext1_mem hr3
      simp at z
    · exact waysN_mem he m _ (fun r hr => hm r (List.mem_filter.mp hr).1) w z
theorem row_start {n L s : Nat} (hs : s < n) : RowOk n L n ([], [s]) := ⟨by simp, fun x hx => by simp at hx; subst hx; exact hs, by simp; omega, by simp, fun i hi => (by cases hi), rfl⟩
theorem ways_mem {n : Nat} {es : Es} {s g : Nat} (he : ∀ e ∈ es, e.2 < n) (hs : s < n) {w : List Nat} (h : w ∈ ways n es s g) : w ≠ [] ∧ ∀ i ∈ w, i < es.length :=
  waysN_mem he n _ (fun r hr => by simp at hr; subst hr; exact row_start hs) w ((sortT_perm _).mem_iff.mp h)
theorem ways_len {n : Nat} {es : Es} {s g : Nat} (he : es.length ≤ 6) : (ways n es s g).length ≤ 12 ^ n := by
  unfold ways
  rw [(sortT_perm _).length_eq]
  have := waysN_len es g he n [([], [s])]
  simpa using this
theorem waysN_wl {n : Nat} {es : Es} {g : Nat} (he : ∀ e ∈ es, e.2 < n) : ∀ (m : Nat) (rows : List Row), (∀ r ∈ rows, RowOk n es.length m r) → ∀ w ∈ waysN es g m rows, w.length ≤ n
  | 0, _, _, w, hw => by cases hw
  | m + 1, rows, h, w, hw => by
    unfold waysN at hw
    have hm := row_more he h
    rcases List.mem_append.mp hw with z | z
    · obtain ⟨r, hr, rfl⟩ := List.mem_map.mp z
      have o := hm r (List.mem_filter.mp hr).1
      have h1 := o.wl
      have h2 := pigeon n _ o.nd o.lt
      omega
    · exact waysN_wl he m _ (fun r hr => hm r (List.mem_filter.mp hr).1) w z
theorem ways_wl {n : Nat} {es : Es} {s g : Nat} (he : ∀ e ∈ es, e.2 < n) (hs : s < n) {w : List Nat} (h : w ∈ ways n es s g) : w.length ≤ n :=
  waysN_wl he n _ (fun r hr => by simp at hr; subst hr; exact row_start hs) w ((sortT_perm _).mem_iff.mp h)
/-! one road more -/
theorem ext_take {es : Es} {r : Row} {j : Nat} {e : Nat × Nat} (h : es[j]? = some e) : (es.zipIdx.take (j + 1)).filterMap (ext1 r) = (es.zipIdx.take j).filterMap (ext1 r) ++ (ext1 r (e, j)).toList := by
  have hz : es.zipIdx[j]? = some (e, j) := by rw [List.getElem?_zipIdx, h]; simp
  rw [List.take_add_one, hz, List.filterMap_append]
  show _ ++ List.filterMap (ext1 r) [(e, j)] = _
  rw [List.filterMap_cons, List.filterMap_nil]
  cases ext1 r (e, j) <;> rfl
theorem ext_all {es : Es} {r : Row} : (es.zipIdx.take es.length).filterMap (ext1 r) = ext es r := by
  rw [List.take_of_length_le (by simp)]; rfl
theorem more_take {es : Es} {rows : List Row} {i : Nat} {r : Row} (h : rows[i]? = some r) : more es (rows.take (i + 1)) = more es (rows.take i) ++ ext es r := by
  unfold more
  rw [List.take_add_one, h, List.flatMap_append]
  simp
theorem gl_app (g : Nat) (a b : List Row) : gl g (a ++ b) = gl g a ++ gl g b := by unfold gl; rw [List.filter_append, List.map_append]
theorem ng_app (g : Nat) (a b : List Row) : ng g (a ++ b) = ng g a ++ ng g b := by unfold ng; rw [List.filter_append]
/-! what sorting asks -/
theorem alike_ints : ∀ (a b : List Nat), PySem.W.alikeAll (a.map nD) (b.map nD) = true
  | [], _ => by unfold PySem.W.alikeAll; rfl
  | x :: a, [] => by unfold PySem.W.alikeAll; rfl
  | x :: a, y :: b => by
    rw [List.map_cons, List.map_cons]
    unfold PySem.W.alikeAll
    rw [alike_ints a b]
    rfl
theorem alike_tD (a b : List Nat) : PySem.W.alike (tD a) (tD b) = true := by
  show PySem.W.alike (.tuple (a.map nD)) (.tuple (b.map nD)) = true
  unfold PySem.W.alike
  exact alike_ints a b
theorem allAlike_tD (ws : List (List Nat)) : PySem.W.AllAlike (ws.map tD) := fun d hd d' hd' => by
  obtain ⟨a, _, rfl⟩ := List.mem_map.mp hd
  obtain ⟨b, _, rfl⟩ := List.mem_map.mp hd'
  exact alike_tD a b
theorem sortable_tD {ws : List (List Nat)} (h : ∀ w ∈ ws, w ≠ []) : PySem.W.Sortable (ws.map tD) := .inl fun d hd => by
  obtain ⟨a, ha, rfl⟩ := List.mem_map.mp hd
  cases a with
  | nil => exact absurd rfl (h _ ha)
  | cons x a => exact ⟨nD x, a.map nD, rfl⟩
theorem depth_ints : ∀ a : List Nat, PyData.depthAll (a.map nD) = 0
  | [] => by unfold PyData.depthAll; rfl
  | x :: a => by
    rw [List.map_cons]
    unfold PyData.depthAll
    rw [depth_ints a]
    show max (PyData.depth (.int _)) 0 = 0
    unfold PyData.depth
    rfl
theorem depth_tD (a : List Nat) : (tD a).depth = 1 := by
  show PyData.depth (.tuple (a.map nD)) = 1
  unfold PyData.depth
  rw [depth_ints]
end Mir
set_option Elab.async false
set_option linter.all false
set_option maxRecDepth 100000
set_option maxHeartbeats 4000000
namespace Mir
open PySem Gh
abbrev Stt := List (List Nat)
abbrev stD (s : Stt) : PyData := .tuple (s.map tD)
def prod1 (rows : List Stt) (ws : Stt) : List Stt := rows.flatMap fun r => ws.map fun w => r ++ [w]
def prod (some : List Stt) : List Stt := some.foldl prod1 [[]]
def cnt (s : Stt) (i : Nat) : Nat := (s.filter fun w => decide (i ∈ w)).length
abbrev Rt := Nat × Nat
def rat (a b : Nat) : Rt := (a / Nat.gcd a b, b / Nat.gcd a b)
def plusR (x y : Rt) : Rt := rat (x.1 * y.2 + y.1 * x.2) (x.2 * y.2)
def sumR (l : List Rt) : Rt := l.foldl plusR (0, 1)
def lessR (x y : Rt) : Bool := decide (x.1 * y.2 < y.1 * x.2)
def Bl.cost (b : Bl) (i : Nat) : Nat := (b.rs.getD i (0, 0, 0)).2.2
def share (b : Bl) (s : Stt) (p : Nat) : Rt := sumR ((s.getD p []).map fun i => rat (b.cost i) (cnt s i))
def price (b : Bl) (s : Stt) : Nat := ((List.range b.rs.length).map fun i => if 0 < cnt s i then b.cost i else 0).sum
def Bl.ws (b : Bl) (p : Nat × Nat) : Stt := ways b.n b.es p.1 p.2
def Bl.wss (b : Bl) : List Stt := b.ps.map b.ws
def Bl.states (b : Bl) : List Stt := prod b.wss
def stands1 (b : Bl) (s : Stt) (p : Nat) (ws : Stt) : Bool := ws.all fun w => !lessR (share b (s.set p w) p) (share b s p)
def stands (b : Bl) (s : Stt) : Bool := b.wss.zipIdx.all fun x => stands1 b s x.2 x.1
def Bl.due (b : Bl) : List Stt := b.states.filter (stands b)
structure VB (b : Bl) : Prop where
  n2 : 2 ≤ b.n
  n4 : b.n ≤ 4
  r1 : 1 ≤ b.rs.length
  r6 : b.rs.length ≤ 6
  p1 : 1 ≤ b.ps.length
  p3 : b.ps.length ≤ 3
  rd : ∀ r ∈ b.rs, r.1 < b.n ∧ r.2.1 < b.n ∧ r.1 ≠ r.2.1 ∧ r.2.2 ≤ 60
  pl : ∀ p ∈ b.ps, p.1 < b.n ∧ p.2 < b.n ∧ p.1 ≠ p.2 ∧ b.ws p ≠ []
/-- .. with few ways each -/
structure VS (b : Bl) : Prop extends VB b where
  w8 : ∀ p ∈ b.ps, (b.ws p).length ≤ 8
/-- a small number over a small number -/
structure Sm (x : Rt) : Prop where
  a : x.1 < 2 ^ 30
  b0 : 0 < x.2
  b : x.2 < 2 ^ 14
/-! lemmas of the walks -/
theorem ite_t {c : Bool} {p q : Prop} (h : c = true) (x : p) : if c = true then p else q := by rw [if_pos h]; exact x
theorem ite_f {c : Bool} {p q : Prop} (h : c = false) (x : q) : if c = true then p else q := by rw [if_neg (by rw [h]; decide)]; exact x
theorem ite_b {c : Bool} {p q : Prop} (x : c = true → p) (y : c = false → q) : if c = true then p else q := by
  cases c with
  | true => exact x rfl
  | false => exact y rfl
theorem itp_t {c : Prop} [Decidable c] {p q : Prop} (h : c) (x : p) : if c then p else q := by rw [if_pos h]; exact x
theorem itp_f {c : Prop} [Decidable c] {p q : Prop} (h : ¬ c) (x : q) : if c then p else q := by rw [if_neg h]; exact x
theorem itp_b {c : Prop} [Decidable c] {p q : Prop} (x : c → p) (y : ¬ c → q) : if c then p else q := by
  by_cases h : c
  · rw [if_pos h]; exact x h
  · rw [if_neg h]; exact y h
theorem atN {α : Type} {xs : List α} {i : Nat} {x : α} (h : xs[i]? = some x) : L2.atI xs (i : Int) = some x := by
  have hl := (List.getElem?_eq_some_iff.mp h).1
  unfold L2.atI L2.ixN
  rw [if_pos (by omega), if_pos (by omega)]
  exact h
theorem atN_map {α β : Type} {f : α → β} {xs : List α} {i : Nat} {x : α} (h : xs[i]? = some x) : L2.atI (xs.map f) (i : Int) = some (f x) := atN (by rw [List.getElem?_map, h]; rfl)
theorem atLast {α : Type} {xs : List α} {x : α} : L2.atI (xs ++ [x]) (-1) = some x := by
  unfold L2.atI L2.ixN
  have hl : (xs ++ [x]).length = xs.length + 1 := by simp
  rw [if_neg (by omega), if_pos (by omega), hl]
  show (xs ++ [x])[((-1 : Int) + ((xs.length + 1 : Nat) : Int)).toNat]? = _
  have : ((-1 : Int) + ((xs.length + 1 : Nat) : Int)).toNat = xs.length := by omega
  rw [this, List.getElem?_append_right (Nat.le_refl _)]
  simp
theorem atLastN {l : List Nat} (h : l ≠ []) : L2.atI (l.map nD) (-1) = some (nD (lastN l)) := by
  obtain ⟨xs, x, rfl⟩ : ∃ xs x, l = xs ++ [x] := ⟨l.dropLast, l.getLast h, (List.dropLast_concat_getLast h).symm⟩
  rw [List.map_append, lastN_app]
  exact atLast
theorem eqvN (a b : Nat) : PyData.eqv (nD a) (nD b) = decide (a = b) := by
  show (((a : Int)) == (b : Int)) = _
  by_cases h : a = b
  · subst h; simp
  · have : ¬ (a : Int) = (b : Int) := by omega
    simp [h, this]
theorem eqvI (a b : Int) : PyData.eqv (.int a) (.int b) = decide (a = b) := by
  show (a == b) = _
  by_cases h : a = b
  · subst h; simp
  · simp [h]
theorem memN {i : Nat} {l : List Nat} : decide ((i : Int) ∈ l.map fun n : Nat => (n : Int)) = decide (i ∈ l) := by
  by_cases h : i ∈ l
  · rw [decide_eq_true h, decide_eq_true (List.mem_map.mpr ⟨i, h, rfl⟩)]
  · rw [decide_eq_false h, decide_eq_false]
    intro z
    obtain ⟨j, hj, e⟩ := List.mem_map.mp z
    have : j = i := by omega
    exact h (this ▸ hj)
theorem tD_ints (l : List Nat) : tD l = .tuple ((l.map fun n : Nat => (n : Int)).map PyData.int) := by
  unfold tD
  rw [List.map_map]
  rfl
theorem mapN_ints (l : List Nat) : l.map nD = (l.map fun n : Nat => (n : Int)).map PyData.int := by
  rw [List.map_map]
  rfl
theorem sumN (l : List Nat) : (l.map fun n : Nat => (n : Int)).sum = ((l.sum : Nat) : Int) := by
  induction l with
  | nil => rfl
  | cons x l ih => rw [List.map_cons, List.sum_cons, ih, List.sum_cons]; omega
end Mir
set_option Elab.async false
set_option linter.all false
set_option maxRecDepth 100000
set_option maxHeartbeats 4000000
namespace Wk
open PySem PySem.Spec PyProof.Rows L2 Gh Mir
def topS (i : Nat) : Stmt := PySem.Challenge.pw_tollroads_k46_whole_buildings.main.body.getD i (.Pass ⟨0, 0, 0, 0⟩)
/-- the world's facts about built-in names and the modules' numbers -/
structure Bt (k : Kit) : Prop where
  len : k.mg "len" = none
  range : k.mg "range" = none
  isi : k.mg "isinstance" = none
  int : k.mg "int" = none
  bool : k.mg "bool" = none
  tuple : k.mg "tuple" = none
  list : k.mg "list" = none
  str : k.mg "str" = none
  enum : k.mg "enumerate" = none
  sorted : k.mg "sorted" = none
  all : k.mg "all" = none
  any : k.mg "any" = none
  sum : k.mg "sum" = none
  zip : k.mg "zip" = none
  min : k.mg "min" = none
  max : k.mg "max" = none
  abs : k.mg "abs" = none
  gcd : k.mg "gcd" = some (.builtin "math.gcd")
  nodes : ∃ t, k.mg "MOST_NODES" = some (.int 6 t)
  roads : ∃ t, k.mg "MOST_ROADS" = some (.int 8 t)
  players : ∃ t, k.mg "MOST_PLAYERS" = some (.int 4 t)
  cost : ∃ t, k.mg "MOST_COST" = some (.int 1000 t)
  choices : ∃ t, k.mg "MOST_CHOICES" = some (.int 8 t)
  states : ∃ t, k.mg "MOST_STATES" = some (.int 1000 t)
theorem bt_int : bootBuiltins "int" = some (.type "int") := PyProof.Rows.boot_int
theorem bt_bool : bootBuiltins "bool" = some (.type "bool") := PyProof.Rows.boot_bool
theorem bt_tuple : bootBuiltins "tuple" = some (.type "tuple") := PyProof.Rows.boot_tuple
theorem bt_list : bootBuiltins "list" = some (.type "list") := PyProof.Rows.boot_list
theorem bt_str : bootBuiltins "str" = some (.type "str") := PyProof.Rows.boot_str
theorem bt_all : bootBuiltins "all" = some (.builtin "all") := by decide +kernel
theorem ge_glN {k : Kit} {n : Ent} {c : Cd} {g : GS} {x : Str} {pos : Pos} {i : Int} {Q : PyData → GS → Prop} (hg : c.sc.names.lookup x = some .globalImplicit) (hm : ∃ t, k.mg x = some (.int i t)) (q : Q (.int i) g) (hd : (x == ("__debug__" : Str)) = false := by decide) : GE k n c (.Name x pos) g Q := by
  obtain ⟨t, hm⟩ := hm
  exact ge_glI hg hm q hd
abbrev vT (Tn : String) : Prop := Tn = "int" ∨ Tn = "bool" ∨ Tn = "tuple" ∨ Tn = "list" ∨ Tn = "str"
theorem ty_int : vT "int" := .inl rfl
theorem ty_bool : vT "bool" := .inr (.inl rfl)
theorem ty_tuple : vT "tuple" := .inr (.inr (.inl rfl))
theorem ty_list : vT "list" := .inr (.inr (.inr (.inl rfl)))
theorem ty_str : vT "str" := .inr (.inr (.inr (.inr rfl)))
end Wk
set_option Elab.async false
set_option linter.all false
set_option maxRecDepth 100000
set_option maxHeartbeats 4000000
namespace Wk
open PySem PySem.Spec PyProof.Rows L2 Gh Mir
section
variable {k : Kit} {f : Addr} {fd : FuncData} {cdv : Value}
/-! is_in -/
def N_is_in : List Str := ["value", "least", "most"]
def P_is_in (ds : List PyData) (d : PyData) : Prop := ∃ v lo hi : Int, ds = [.int v, .int lo, .int hi] ∧ d = .bool (decide (lo ≤ v) && decide (v ≤ hi))
theorem sc_is_in : FnScope N_is_in ["value", "least", "most"] (defScope (topS 9)) := ⟨rfl, rfl, rfl, by decide +kernel, rfl, by decide +kernel, by decide +kernel⟩
theorem w_is_in (T : Bt k) (FC : FunC k.K "is_in" (topS 9) f fd cdv) (hm : k.mg "is_in" = some (.ref f)) : Fn k 1 "is_in" (spP k P_is_in) := by
  refine fn_def FC hm (FC.binds fun _ _ _ _ _ _ us hl => match us, hl with | [_, _, _], _ => rfl) sc_is_in (fun ds d ⟨v, lo, hi, e, _⟩ => by rw [e]; rfl) fun ds d ⟨v, lo, hi, e1, e2⟩ n => ?_
  subst e1; subst e2
  refine gs_cons ?_
  refine gs_ret ?_
  refine ge_and ?_
  refine ge_isi rfl T.isi rfl T.int bt_int ty_int ?_
  refine ge_nm 0 rfl (by first | exact Or.inl rfl | exact Or.inr (.inl rfl) | exact Or.inr (.inr rfl)) rfl ?_
  refine ⟨_, rfl, ?_⟩
  refine ite_t (rfl) ?_
  refine ge_and ?_
  refine ge_notV ?_
  refine ge_isi rfl T.isi rfl T.bool bt_bool ty_bool ?_
  refine ge_nm 0 rfl (by first | exact Or.inl rfl | exact Or.inr (.inl rfl) | exact Or.inr (.inr rfl)) rfl ?_
  refine ⟨_, rfl, ?_⟩
  refine ⟨_, rfl, ?_⟩
  refine ite_t (rfl) ?_
  refine ge_one ?_
  refine ge_chainLL ?_
  refine ge_nm 1 rfl (by first | exact Or.inl rfl | exact Or.inr (.inl rfl) | exact Or.inr (.inr rfl)) rfl ?_
  refine ge_nm 0 rfl (by first | exact Or.inl rfl | exact Or.inr (.inl rfl) | exact Or.inr (.inr rfl)) rfl ?_
  refine ⟨_, _, rfl, rfl, ?_⟩
  refine itp_b (fun h => ?_) (fun h => ?_)
  · refine ge_nm 2 rfl (by first | exact Or.inl rfl | exact Or.inr (.inl rfl) | exact Or.inr (.inr rfl)) rfl ?_
    refine ⟨_, rfl, ?_, rfl⟩
    rw [decide_eq_true h]; rfl
  · refine ⟨?_, rfl⟩
    rw [decide_eq_false h]; rfl
/-! net_of -/
def N_net_of : List Str := ["game", "start", "end", "costs"]
def P_net_of (ds : List PyData) (d : PyData) : Prop := ∃ b : Bl, b.rs.length ≤ 6 ∧ ds = [gD b] ∧ d = netD b
theorem sc_net_of : FnScope N_net_of ["game"] (defScope (topS 19)) := ⟨rfl, rfl, rfl, by decide +kernel, rfl, by decide +kernel, by decide +kernel⟩
theorem w_net_of (T : Bt k) (FC : FunC k.K "net_of" (topS 19) f fd cdv) (hm : k.mg "net_of" = some (.ref f)) : Fn k 1 "net_of" (spP k P_net_of) := by
  refine fn_def FC hm (FC.binds fun _ _ _ _ _ _ us hl => match us, hl with | [_], _ => rfl) sc_net_of (fun ds d ⟨b, _, e, _⟩ => by rw [e]; rfl) fun ds d ⟨b, h6, e1, e2⟩ n => ?_
  subst e1; subst e2
  refine gs_cons ?_
  refine gs_ret ?_
  refine ge_tup ?_
  refine ga_cons ?_
  refine ge_ixT ?_
  refine ge_nm 0 rfl (by first | exact Or.inl rfl | exact Or.inr (.inl rfl) | exact Or.inr (.inr rfl)) rfl ?_
  refine ge_int ?_
  refine ⟨_, _, _, rfl, rfl, rfl, ?_⟩
  refine ga_cons ?_
  refine ge_tupleOf rfl T.tuple ?_
  refine ge_lc [("start", 1), ("end", 2), ("costs", 3)] ([1] ++ ([2] ++ ([3] ++ ([])))) (by dsimp only [cdOf, Cd.blk, Cd.gen]; decide +kernel) (by decide) (lcH_f (fun d => match d with | .tuple [a, b, _] => some (.tuple [a, b, .int 0, .int 0]) | _ => none) ?_)
  refine gi_tup ?_
  refine ge_ixT ?_
  refine ge_nm 0 rfl (by first | exact Or.inl rfl | exact Or.inr (.inl rfl) | exact Or.inr (.inr rfl)) rfl ?_
  refine ge_int ?_
  refine ⟨_, _, _, rfl, rfl, rfl, ?_⟩
  refine ⟨_, rfl, ?_⟩
  refine ⟨fun d hd => ?_, ?_, ?_⟩
  · obtain ⟨r, hr, rfl⟩ := List.mem_map.mp hd
    refine gg_tup ?_
    refine gg_cons ?_
    refine gg_name 1 rfl (by dsimp only [cdOf, Cd.blk, Cd.gen]; decide +kernel) ?_
    refine gg_cons ?_
    refine gg_name 2 rfl (by dsimp only [cdOf, Cd.blk, Cd.gen]; decide +kernel) ?_
    refine gg_cons ?_
    refine gg_name 3 rfl (by dsimp only [cdOf, Cd.blk, Cd.gen]; decide +kernel) ?_
    refine gg_nil ?_
    refine gps_nil ?_
    refine ite_t (rfl) ?_
    refine ge_tup ?_
    refine ga_cons ?_
    refine ge_nm 1 rfl (by first | exact Or.inl rfl | exact Or.inr (.inl rfl) | exact Or.inr (.inr rfl)) rfl ?_
    refine ga_cons ?_
    refine ge_nm 2 rfl (by first | exact Or.inl rfl | exact Or.inr (.inl rfl) | exact Or.inr (.inr rfl)) rfl ?_
    refine ga_cons ?_
    refine ge_int ?_
    refine ga_cons ?_
    refine ge_int ?_
    refine ga_nil ?_
    refine ⟨(show 4 ≤ sizeLine by decide), ?_⟩
    exact ⟨rfl, rfl⟩
  · rw [List.length_map]; exact Nat.le_trans h6 (by decide)
  · refine ⟨_, .inl rfl, ?_⟩
    refine ga_nil ?_
    refine ⟨(show 2 ≤ sizeLine by decide), ?_⟩
    refine ⟨?_, rfl⟩
    have e : ∀ rs : List Rd, (rs.map (rG b.ps.length)).filterMap (fun d => match d with | .tuple [a, b, _] => some (PyData.tuple [a, b, .int 0, .int 0]) | _ => none) = rs.map rN := fun rs => by
      induction rs with
      | nil => rfl
      | cons r rs ih => rw [List.map_cons, List.filterMap_cons]; simp only [ih, List.map_cons]
    rw [e]
/-! ones -/
def N_ones : List Str := ["game", "player"]
def P_ones (ds : List PyData) (d : PyData) : Prop := ∃ b : Bl, b.ps.length ≤ 3 ∧ ds = [gD b] ∧ d = .tuple (b.ps.map fun _ => .int 1)
theorem sc_ones : FnScope N_ones ["game"] (defScope (topS 25)) := ⟨rfl, rfl, rfl, by decide +kernel, rfl, by decide +kernel, by decide +kernel⟩
theorem w_ones (T : Bt k) (FC : FunC k.K "ones" (topS 25) f fd cdv) (hm : k.mg "ones" = some (.ref f)) : Fn k 1 "ones" (spP k P_ones) := by
  refine fn_def FC hm (FC.binds fun _ _ _ _ _ _ us hl => match us, hl with | [_], _ => rfl) sc_ones (fun ds d ⟨b, _, e, _⟩ => by rw [e]; rfl) fun ds d ⟨b, h6, e1, e2⟩ n => ?_
  subst e1; subst e2
  refine gs_cons ?_
  refine gs_ret ?_
  refine ge_tupleOf rfl T.tuple ?_
  refine ge_lc [("player", 1)] [1] (by dsimp only [cdOf, Cd.blk, Cd.gen]; decide +kernel) (by decide) (lcH_f (fun d => some (.int 1)) ?_)
  refine gi_tup ?_
  refine ge_ixT ?_
  refine ge_nm 0 rfl (by first | exact Or.inl rfl | exact Or.inr (.inl rfl) | exact Or.inr (.inr rfl)) rfl ?_
  refine ge_int ?_
  refine ⟨_, _, _, rfl, rfl, rfl, ?_⟩
  refine ⟨_, rfl, ?_⟩
  refine ⟨fun d hd => ?_, ?_, ?_⟩
  · refine gg_name 1 rfl (by dsimp only [cdOf, Cd.blk, Cd.gen]; decide +kernel) ?_
    refine gps_nil ?_
    refine ite_t (rfl) ?_
    refine ge_int ?_
    exact ⟨rfl, rfl⟩
  · rw [List.length_map]; exact Nat.le_trans h6 (by decide)
  · refine ⟨_, .inl rfl, ?_, rfl⟩
    have e : ∀ l : List (Nat × Nat), (l.map pD).filterMap (fun d => some (PyData.int 1)) = l.map fun _ => .int 1 := fun l => by
      induction l with
      | nil => rfl
      | cons r l ih => rw [List.map_cons, List.filterMap_cons]; simp only [ih, List.map_cons]
    rw [e]
/-! ratio, plus, less, sum_of -/
def N_ratio : List Str := ["top", "bottom", "common"]
def P_ratio (ds : List PyData) (d : PyData) : Prop := ∃ a b : Nat, 0 < b ∧ b < 2 ^ 30 ∧ ds = [nD a, nD b] ∧ d = pD (rat a b)
theorem sc_ratio : FnScope N_ratio ["top", "bottom"] (defScope (topS 27)) := ⟨rfl, rfl, rfl, by decide +kernel, rfl, by decide +kernel, by decide +kernel⟩
theorem w_ratio (T : Bt k) (FC : FunC k.K "ratio" (topS 27) f fd cdv) (hm : k.mg "ratio" = some (.ref f)) : Fn k 1 "ratio" (spP k P_ratio) := by
  refine fn_def FC hm (FC.binds fun _ _ _ _ _ _ us hl => match us, hl with | [_, _], _ => rfl) sc_ratio (fun ds d ⟨a, b, _, _, e, _⟩ => by rw [e]; rfl) fun ds d ⟨a, b, h0, h1, e1, e2⟩ n => ?_
  subst e1; subst e2
  refine gs_cons ?_
  refine gs_set 2 rfl (by dsimp only [cdOf, Cd.blk, Cd.gen]; decide +kernel) ?_
  refine ge_if ?_
  refine gt_gt ?_
  refine ge_nm 1 rfl (by first | exact Or.inl rfl | exact Or.inr (.inl rfl) | exact Or.inr (.inr rfl)) rfl ?_
  refine ge_int ?_
  refine ⟨_, _, rfl, rfl, ?_⟩
  refine ite_t (decide_eq_true (by omega)) ?_
  refine ge_gcd rfl T.gcd ?_
  refine ge_nm 0 rfl (by first | exact Or.inl rfl | exact Or.inr (.inl rfl) | exact Or.inr (.inr rfl)) rfl ?_
  refine ge_nm 1 rfl (by first | exact Or.inl rfl | exact Or.inr (.inl rfl) | exact Or.inr (.inr rfl)) rfl ?_
  refine ⟨_, _, rfl, rfl, ?_⟩
  have hg : 0 < Nat.gcd a b := Nat.gcd_pos_of_pos_right _ h0
  have hg2 : Nat.gcd a b ≤ b := Nat.gcd_le_right _ h0
  have eg : Nat.gcd (a : Int).natAbs (b : Int).natAbs = Nat.gcd a b := rfl
  rw [eg]
  refine gs_cons ?_
  refine gs_ret ?_
  refine ge_tup ?_
  refine ga_cons ?_
  refine ge_fdiv ?_
  refine ge_nm 0 rfl (by first | exact Or.inl rfl | exact Or.inr (.inl rfl) | exact Or.inr (.inr rfl)) rfl ?_
  refine ge_nm 2 rfl (by first | exact Or.inl rfl | exact Or.inr (.inl rfl) | exact Or.inr (.inr rfl)) rfl ?_
  refine ⟨_, _, rfl, rfl, ⟨by omega, by omega⟩, ?_⟩
  refine ga_cons ?_
  refine ge_fdiv ?_
  refine ge_nm 1 rfl (by first | exact Or.inl rfl | exact Or.inr (.inl rfl) | exact Or.inr (.inr rfl)) rfl ?_
  refine ge_nm 2 rfl (by first | exact Or.inl rfl | exact Or.inr (.inl rfl) | exact Or.inr (.inr rfl)) rfl ?_
  refine ⟨_, _, rfl, rfl, ⟨by omega, by omega⟩, ?_⟩
  refine ga_nil ?_
  refine ⟨(show 2 ≤ sizeLine by decide), ?_⟩
  exact ⟨rfl, rfl⟩
def N_plus : List Str := ["one", "other"]
def P_plus (ds : List PyData) (d : PyData) : Prop := ∃ x y : Rt, Sm x ∧ Sm y ∧ ds = [pD x, pD y] ∧ d = pD (plusR x y)
theorem sc_plus : FnScope N_plus ["one", "other"] (defScope (topS 28)) := ⟨rfl, rfl, rfl, by decide +kernel, rfl, by decide +kernel, by decide +kernel⟩
theorem cm {a b : Nat} (h : b < 2 ^ 30) : CMul (a : Int) (b : Int) := .inr ⟨by omega, by omega⟩
theorem sm_mul {x y : Rt} (hx : Sm x) (hy : Sm y) : 0 < x.2 * y.2 ∧ x.2 * y.2 < 2 ^ 30 := by
  refine ⟨Nat.mul_pos hx.b0 hy.b0, ?_⟩
  have h1 : x.2 * y.2 ≤ 2 ^ 14 * 2 ^ 14 := Nat.mul_le_mul (Nat.le_of_lt hx.b) (Nat.le_of_lt hy.b)
  omega
theorem w_plus (T : Bt k) (F_ratio : Fn k 1 "ratio" (spP k P_ratio)) (FC : FunC k.K "plus" (topS 28) f fd cdv) (hm : k.mg "plus" = some (.ref f)) : Fn k 2 "plus" (spP k P_plus) := by
  refine fn_def FC hm (FC.binds fun _ _ _ _ _ _ us hl => match us, hl with | [_, _], _ => rfl) sc_plus (fun ds d ⟨a, b, _, _, e, _⟩ => by rw [e]; rfl) fun ds d ⟨x, y, hx, hy, e1, e2⟩ n => ?_
  subst e1; subst e2
  have hx1 := hx.a
  have hx2 := hx.b
  have hy1 := hy.a
  have hy2 := hy.b
  refine gs_cons ?_
  refine gs_ret ?_
  refine ge_call F_ratio (by dsimp only [cdOf, Cd.blk, Cd.gen]; decide +kernel) rfl ?_
  refine ga_cons ?_
  refine ge_add ?_
  refine ge_mul ?_
  refine ge_ixT ?_
  refine ge_nm 0 rfl (by first | exact Or.inl rfl | exact Or.inr (.inl rfl) | exact Or.inr (.inr rfl)) rfl ?_
  refine ge_int ?_
  refine ⟨_, _, _, rfl, rfl, rfl, ?_⟩
  refine ge_ixT ?_
  refine ge_nm 1 rfl (by first | exact Or.inl rfl | exact Or.inr (.inl rfl) | exact Or.inr (.inr rfl)) rfl ?_
  refine ge_int ?_
  refine ⟨_, _, _, rfl, rfl, rfl, ?_⟩
  refine ⟨_, _, rfl, rfl, cm (by omega), ?_⟩
  refine ge_mul ?_
  refine ge_ixT ?_
  refine ge_nm 1 rfl (by first | exact Or.inl rfl | exact Or.inr (.inl rfl) | exact Or.inr (.inr rfl)) rfl ?_
  refine ge_int ?_
  refine ⟨_, _, _, rfl, rfl, rfl, ?_⟩
  refine ge_ixT ?_
  refine ge_nm 0 rfl (by first | exact Or.inl rfl | exact Or.inr (.inl rfl) | exact Or.inr (.inr rfl)) rfl ?_
  refine ge_int ?_
  refine ⟨_, _, _, rfl, rfl, rfl, ?_⟩
  refine ⟨_, _, rfl, rfl, cm (by omega), ?_⟩
  refine ⟨_, _, rfl, rfl, ?_⟩
  refine ga_cons ?_
  refine ge_mul ?_
  refine ge_ixT ?_
  refine ge_nm 0 rfl (by first | exact Or.inl rfl | exact Or.inr (.inl rfl) | exact Or.inr (.inr rfl)) rfl ?_
  refine ge_int ?_
  refine ⟨_, _, _, rfl, rfl, rfl, ?_⟩
  refine ge_ixT ?_
  refine ge_nm 1 rfl (by first | exact Or.inl rfl | exact Or.inr (.inl rfl) | exact Or.inr (.inr rfl)) rfl ?_
  refine ge_int ?_
  refine ⟨_, _, _, rfl, rfl, rfl, ?_⟩
  refine ⟨_, _, rfl, rfl, cm (by omega), ?_⟩
  refine ga_nil ?_
  exact ⟨_, ⟨x.1 * y.2 + y.1 * x.2, x.2 * y.2, (sm_mul hx hy).1, (sm_mul hx hy).2, by simp, rfl⟩, rfl, rfl⟩
def N_less : List Str := ["one", "other"]
def P_less (ds : List PyData) (d : PyData) : Prop := ∃ x y : Rt, Sm x ∧ Sm y ∧ ds = [pD x, pD y] ∧ d = .bool (lessR x y)
theorem sc_less : FnScope N_less ["one", "other"] (defScope (topS 29)) := ⟨rfl, rfl, rfl, by decide +kernel, rfl, by decide +kernel, by decide +kernel⟩
theorem w_less (T : Bt k) (FC : FunC k.K "less" (topS 29) f fd cdv) (hm : k.mg "less" = some (.ref f)) : Fn k 1 "less" (spP k P_less) := by
  refine fn_def FC hm (FC.binds fun _ _ _ _ _ _ us hl => match us, hl with | [_, _], _ => rfl) sc_less (fun ds d ⟨a, b, _, _, e, _⟩ => by rw [e]; rfl) fun ds d ⟨x, y, hx, hy, e1, e2⟩ n => ?_
  subst e1; subst e2
  have hx2 := hx.b
  have hy2 := hy.b
  refine gs_cons ?_
  refine gs_ret ?_
  refine ge_lt ?_
  refine ge_mul ?_
  refine ge_ixT ?_
  refine ge_nm 0 rfl (by first | exact Or.inl rfl | exact Or.inr (.inl rfl) | exact Or.inr (.inr rfl)) rfl ?_
  refine ge_int ?_
  refine ⟨_, _, _, rfl, rfl, rfl, ?_⟩
  refine ge_ixT ?_
  refine ge_nm 1 rfl (by first | exact Or.inl rfl | exact Or.inr (.inl rfl) | exact Or.inr (.inr rfl)) rfl ?_
  refine ge_int ?_
  refine ⟨_, _, _, rfl, rfl, rfl, ?_⟩
  refine ⟨_, _, rfl, rfl, cm (by omega), ?_⟩
  refine ge_mul ?_
  refine ge_ixT ?_
  refine ge_nm 1 rfl (by first | exact Or.inl rfl | exact Or.inr (.inl rfl) | exact Or.inr (.inr rfl)) rfl ?_
  refine ge_int ?_
  refine ⟨_, _, _, rfl, rfl, rfl, ?_⟩
  refine ge_ixT ?_
  refine ge_nm 0 rfl (by first | exact Or.inl rfl | exact Or.inr (.inl rfl) | exact Or.inr (.inr rfl)) rfl ?_
  refine ge_int ?_
  refine ⟨_, _, _, rfl, rfl, rfl, ?_⟩
  refine ⟨_, _, rfl, rfl, cm (by omega), ?_⟩
  refine ⟨_, _, rfl, rfl, ?_, rfl⟩
  have e : decide ((x.1 : Int) * (y.2 : Int) < (y.1 : Int) * (x.2 : Int)) = lessR x y := by
    unfold lessR
    by_cases h : x.1 * y.2 < y.1 * x.2
    · rw [decide_eq_true h, decide_eq_true]; exact_mod_cast h
    · rw [decide_eq_false h, decide_eq_false]; exact_mod_cast h
  rw [e]
def N_sum_of : List Str := ["some", "found", "one"]
def P_sum_of (ds : List PyData) (d : PyData) : Prop := ∃ l : List Rt, (∀ x ∈ l, Sm x) ∧ (∀ i, Sm (sumR (l.take i))) ∧ ds = [.list (l.map pD)] ∧ d = pD (sumR l)
theorem sc_sum_of : FnScope N_sum_of ["some"] (defScope (topS 30)) := ⟨rfl, rfl, rfl, by decide +kernel, rfl, by decide +kernel, by decide +kernel⟩
theorem w_sum_of (T : Bt k) (F_plus : Fn k 2 "plus" (spP k P_plus)) (FC : FunC k.K "sum_of" (topS 30) f fd cdv) (hm : k.mg "sum_of" = some (.ref f)) : Fn k 3 "sum_of" (spP k P_sum_of) := by
  refine fn_def FC hm (FC.binds fun _ _ _ _ _ _ us hl => match us, hl with | [_], _ => rfl) sc_sum_of (fun ds d ⟨l, _, _, e, _⟩ => by rw [e]; rfl) fun ds d ⟨l, h1, h2, e1, e2⟩ n => ?_
  subst e1; subst e2
  refine gs_cons ?_
  refine gs_set 1 rfl (by dsimp only [cdOf, Cd.blk, Cd.gen]; decide +kernel) ?_
  refine ge_tup ?_
  refine ga_cons ?_
  refine ge_int ?_
  refine ga_cons ?_
  refine ge_int ?_
  refine ga_nil ?_
  refine ⟨(show 2 ≤ sizeLine by decide), ?_⟩
  refine gs_cons ?_
  refine gs_for [2] [2] ?_
  refine gi_list ?_
  refine ge_nm 0 rfl (by first | exact Or.inl rfl | exact Or.inr (.inl rfl) | exact Or.inr (.inr rfl)) rfl ?_
  refine ⟨_, rfl, ?_⟩
  refine ⟨fun i g => g = ⟨[.dat (.list (l.map pD)), .dat (pD (sumR (l.take i))), .non], none⟩, rfl, fun i d g2 hd e => ?_, fun g2 e => ?_⟩
  · subst e
    rw [List.getElem?_map] at hd
    cases hx : l[i]? with
    | none => rw [hx] at hd; cases hd
    | some x =>
      rw [hx] at hd; cases hd
      refine gg_name 2 rfl (by dsimp only [cdOf, Cd.blk, Cd.gen]; decide +kernel) ?_
      refine gs_cons ?_
      refine gs_set 1 rfl (by dsimp only [cdOf, Cd.blk, Cd.gen]; decide +kernel) ?_
      refine ge_call F_plus (by dsimp only [cdOf, Cd.blk, Cd.gen]; decide +kernel) rfl ?_
      refine ga_cons ?_
      refine ge_nm 1 rfl (by first | exact Or.inl rfl | exact Or.inr (.inl rfl) | exact Or.inr (.inr rfl)) rfl ?_
      refine ga_cons ?_
      refine ge_nm 2 rfl (by first | exact Or.inl rfl | exact Or.inr (.inl rfl) | exact Or.inr (.inr rfl)) rfl ?_
      refine ga_nil ?_
      refine ⟨_, ⟨sumR (l.take i), x, h2 i, h1 x (List.mem_of_getElem? hx), rfl, rfl⟩, ?_⟩
      refine gs_nil ?_
      have e : sumR (l.take (i + 1)) = plusR (sumR (l.take i)) x := by
        unfold sumR
        rw [List.take_add_one, hx, List.foldl_append]; rfl
      show (⟨[.dat (.list (l.map pD)), .dat (pD (plusR (sumR (l.take i)) x)), .non], none⟩ : GS) = _
      rw [← e]
  · subst e
    refine gs_cons ?_
    refine gs_ret ?_
    refine ge_nm 1 rfl (by first | exact Or.inl rfl | exact Or.inr (.inl rfl) | exact Or.inr (.inr rfl)) rfl ?_
    refine ⟨?_, rfl⟩
    rw [List.length_map, List.take_length]
/-! moved -/
def N_moved : List Str := ["state", "player", "way"]
def P_moved (ds : List PyData) (d : PyData) : Prop := ∃ (s : Stt) (p : Nat) (w : List Nat), p < s.length ∧ s.length ≤ 3 ∧ ds = [stD s, nD p, tD w] ∧ d = stD (s.set p w)
theorem sc_moved : FnScope N_moved ["state", "player", "way"] (defScope (topS 34)) := ⟨rfl, rfl, rfl, by decide +kernel, rfl, by decide +kernel, by decide +kernel⟩
theorem set_cut {α : Type} {s : List α} {p : Nat} {w : α} (h : p < s.length) : s.set p w = s.take p ++ w :: s.drop (p + 1) := by
  rw [List.set_eq_take_append_cons_drop, if_pos h]
theorem w_moved (T : Bt k) (FC : FunC k.K "moved" (topS 34) f fd cdv) (hm : k.mg "moved" = some (.ref f)) : Fn k 1 "moved" (spP k P_moved) := by
  refine fn_def FC hm (FC.binds fun _ _ _ _ _ _ us hl => match us, hl with | [_, _, _], _ => rfl) sc_moved (fun ds d ⟨s, p, w, _, _, e, _⟩ => by rw [e]; rfl) fun ds d ⟨s, p, w, hp, h3, e1, e2⟩ n => ?_
  subst e1; subst e2
  refine gs_cons ?_
  refine gs_ret ?_
  refine ge_tup ?_
  refine ga_star ?_
  refine ge_slTo ?_
  refine ge_nm 0 rfl (by first | exact Or.inl rfl | exact Or.inr (.inl rfl) | exact Or.inr (.inr rfl)) rfl ?_
  refine ge_nm 1 rfl (by first | exact Or.inl rfl | exact Or.inr (.inl rfl) | exact Or.inr (.inr rfl)) rfl ?_
  refine ⟨_, p, rfl, rfl, ?_⟩
  refine ⟨_, (by first | exact Or.inl rfl | exact Or.inr rfl), ?_⟩
  refine ga_cons ?_
  refine ge_nm 2 rfl (by first | exact Or.inl rfl | exact Or.inr (.inl rfl) | exact Or.inr (.inr rfl)) rfl ?_
  refine ga_star ?_
  refine ge_slFrom ?_
  refine ge_nm 0 rfl (by first | exact Or.inl rfl | exact Or.inr (.inl rfl) | exact Or.inr (.inr rfl)) rfl ?_
  refine ge_add ?_
  refine ge_nm 1 rfl (by first | exact Or.inl rfl | exact Or.inr (.inl rfl) | exact Or.inr (.inr rfl)) rfl ?_
  refine ge_int ?_
  refine ⟨_, _, rfl, rfl, ?_⟩
  refine ⟨_, p + 1, rfl, rfl, ?_⟩
  refine ⟨_, (by first | exact Or.inl rfl | exact Or.inr rfl), ?_⟩
  refine ga_nil ?_
  refine ⟨?_, ?_, rfl⟩
  · simp only [List.length_append, List.length_cons, List.length_take, List.length_drop, List.length_map, List.length_nil, List.append_nil]
    exact Nat.le_trans (show _ ≤ 10 by omega) (by decide)
  · rw [set_cut hp, List.append_nil]
    show _ = PyData.tuple (List.map tD _)
    rw [List.map_append, List.map_cons, List.map_take, List.map_drop]
end
end Wk
set_option Elab.async false
set_option linter.all false
set_option maxRecDepth 100000
set_option maxHeartbeats 4000000
namespace Wk
open PySem PySem.Spec PyProof.Rows L2 Gh Mir
section
variable {k : Kit} {f : Addr} {fd : FuncData} {cdv : Value}
/-! is_table -/
def N_is_table : List Str := ["value", "length", "one", "k"]
def P_is_table (ds : List PyData) (d : PyData) : Prop := ∃ j c : Nat, j ≤ 3 ∧ c ≤ 60 ∧ ds = [.tuple (List.replicate j (nD c)), nD j] ∧ d = .bool true
theorem sc_is_table : FnScope N_is_table ["value", "length"] (defScope (topS 17)) := ⟨rfl, rfl, rfl, by decide +kernel, rfl, by decide +kernel, by decide +kernel⟩
theorem w_is_table (T : Bt k) (F_is_in : Fn k 1 "is_in" (spP k P_is_in)) (TB : k.Tb (cdOf N_is_table (topS 17) 2 cdv)) (FC : FunC k.K "is_table" (topS 17) f fd cdv) (hm : k.mg "is_table" = some (.ref f)) : Fn k 3 "is_table" (spP k P_is_table) := by
  refine fn_def FC hm (FC.binds fun _ _ _ _ _ _ us hl => match us, hl with | [_, _], _ => rfl) sc_is_table (fun ds d ⟨_, _, _, _, e, _⟩ => by rw [e]; rfl) fun ds d ⟨j, c, h1, h2, e1, e2⟩ n => ?_
  subst e1; subst e2
  refine gs_cons ?_
  refine gs_if ?_
  refine gt_w ?_
  refine gw_or ?_
  refine gt_not ?_
  refine gt_val ?_
  refine ge_isi rfl T.isi rfl T.tuple bt_tuple ty_tuple ?_
  refine ge_nm 0 rfl (by first | exact Or.inl rfl | exact Or.inr (.inl rfl) | exact Or.inr (.inr rfl)) rfl ?_
  refine ⟨_, rfl, ?_⟩
  refine ite_f (rfl) ?_
  refine gw_or ?_
  refine gt_ne ?_
  refine ge_len rfl T.len ?_
  refine ge_nm 0 rfl (by first | exact Or.inl rfl | exact Or.inr (.inl rfl) | exact Or.inr (.inr rfl)) rfl ?_
  refine ⟨_, (by first | exact Or.inl rfl | exact Or.inr rfl), ?_⟩
  refine ge_nm 1 rfl (by first | exact Or.inl rfl | exact Or.inr (.inl rfl) | exact Or.inr (.inr rfl)) rfl ?_
  refine ⟨rfl, rfl, ?_⟩
  rw [List.length_replicate]
  refine ite_f (by rw [eqvN, decide_eq_true rfl]; rfl) ?_
  refine gw_or1 ?_
  refine gt_not ?_
  refine gt_val ?_
  refine ge_all [("one", 2)] ([2] ++ ([])) TB (by dsimp only [cdOf, Cd.blk, Cd.gen]; decide +kernel) rfl T.all bt_all (by dsimp only [cdOf, Cd.blk, Cd.gen]; decide +kernel) (by decide) ?_
  refine gi_tup ?_
  refine ge_nm 0 rfl (by first | exact Or.inl rfl | exact Or.inr (.inl rfl) | exact Or.inr (.inr rfl)) rfl ?_
  refine ⟨_, rfl, ?_⟩
  refine ⟨fun d => true, fun d => true, fun d hd => ?_, ?_⟩
  · obtain ⟨_, rfl⟩ := List.mem_replicate.mp hd
    refine gg_name 2 rfl (by dsimp only [cdOf, Cd.blk, Cd.gen]; decide +kernel) ?_
    refine gps_nil ?_
    refine ite_t (rfl) ?_
    refine ge_call F_is_in (by dsimp only [cdOf, Cd.blk, Cd.gen]; decide +kernel) rfl ?_
    refine ga_cons ?_
    refine ge_nm 2 rfl (by first | exact Or.inl rfl | exact Or.inr (.inl rfl) | exact Or.inr (.inr rfl)) rfl ?_
    refine ga_cons ?_
    refine ge_int ?_
    refine ga_cons ?_
    refine ge_glN rfl T.cost ?_
    refine ga_nil ?_
    refine ⟨_, ⟨_, _, _, rfl, rfl⟩, rfl, ?_, rfl⟩
    rw [decide_eq_true (by omega), decide_eq_true (by omega)]; rfl
  · refine ⟨_, rfl, ?_⟩
    refine ite_f (by simp) ?_
    refine gs_nil ?_
    refine gs_cons ?_
    refine gs_ret ?_
    refine ge_all [("k", 3)] ([3] ++ ([])) TB (by dsimp only [cdOf, Cd.blk, Cd.gen]; decide +kernel) rfl T.all bt_all (by dsimp only [cdOf, Cd.blk, Cd.gen]; decide +kernel) (by decide) ?_
    refine gi_rng1 rfl T.range ?_
    refine ge_sub ?_
    refine ge_nm 1 rfl (by first | exact Or.inl rfl | exact Or.inr (.inl rfl) | exact Or.inr (.inr rfl)) rfl ?_
    refine ge_int ?_
    refine ⟨_, _, rfl, rfl, ?_⟩
    refine ⟨_, rfl, by omega, by omega, ?_⟩
    refine ⟨fun d => true, fun d => true, fun d hd => ?_, ?_⟩
    · obtain ⟨i, hi⟩ := List.mem_iff_getElem?.mp hd
      obtain ⟨h3, rfl⟩ := rngD_get hi
      have e0 : (0 : Int) + (i : Nat) = (i : Int) := by omega
      rw [e0]
      have h4 : i + 1 < j := by omega
      refine gg_name 3 rfl (by dsimp only [cdOf, Cd.blk, Cd.gen]; decide +kernel) ?_
      refine gps_nil ?_
      refine ite_t (rfl) ?_
      refine ge_le ?_
      refine ge_ixT ?_
      refine ge_nm 0 rfl (by first | exact Or.inl rfl | exact Or.inr (.inl rfl) | exact Or.inr (.inr rfl)) rfl ?_
      refine ge_nm 3 rfl (by first | exact Or.inl rfl | exact Or.inr (.inl rfl) | exact Or.inr (.inr rfl)) rfl ?_
      refine ⟨_, _, nD c, rfl, rfl, atN (by rw [List.getElem?_replicate, if_pos (by omega)]), ?_⟩
      refine ge_ixT ?_
      refine ge_nm 0 rfl (by first | exact Or.inl rfl | exact Or.inr (.inl rfl) | exact Or.inr (.inr rfl)) rfl ?_
      refine ge_add ?_
      refine ge_nm 3 rfl (by first | exact Or.inl rfl | exact Or.inr (.inl rfl) | exact Or.inr (.inr rfl)) rfl ?_
      refine ge_int ?_
      refine ⟨_, _, rfl, rfl, ?_⟩
      refine ⟨_, _, nD c, rfl, rfl, ?_, ?_⟩
      · have e5 : (i : Int) + 1 = ((i + 1 : Nat) : Int) := by omega
        rw [e5]
        exact atN (by rw [List.getElem?_replicate, if_pos h4])
      · refine ⟨_, _, rfl, rfl, rfl, ?_, rfl⟩
        rw [decide_eq_true (Int.le_refl _)]
    · exact ⟨by simp, rfl⟩
/-! is_game_road -/
def N_is_game_road : List Str := ["size", "length", "value", "one"]
def P_is_game_road (ds : List PyData) (d : PyData) : Prop := ∃ (m j : Nat) (r : Mir.Rd), j ≤ 3 ∧ m ≤ 4 ∧ r.2.2 ≤ 60 ∧ r.1 < m ∧ r.2.1 < m ∧ r.1 ≠ r.2.1 ∧ ds = [nD m, nD j, rG j r] ∧ d = .bool true
theorem sc_is_game_road : FnScope N_is_game_road ["size", "length", "value"] (defScope (topS 18)) := ⟨rfl, rfl, rfl, by decide +kernel, rfl, by decide +kernel, by decide +kernel⟩
theorem w_is_game_road (T : Bt k) (F_is_in : Fn k 1 "is_in" (spP k P_is_in)) (F_is_table : Fn k 3 "is_table" (spP k P_is_table)) (TB : k.Tb (cdOf N_is_game_road (topS 18) 3 cdv)) (FC : FunC k.K "is_game_road" (topS 18) f fd cdv) (hm : k.mg "is_game_road" = some (.ref f)) : Fn k 4 "is_game_road" (spP k P_is_game_road) := by
  refine fn_def FC hm (FC.binds fun _ _ _ _ _ _ us hl => match us, hl with | [_, _, _], _ => rfl) sc_is_game_road (fun ds d ⟨_, _, _, _, _, _, _, _, _, e, _⟩ => by rw [e]; rfl) fun ds d ⟨m, j, r, h1, h2, h3, h4, h5, h6, e1, e2⟩ n => ?_
  subst e1; subst e2
  refine gs_cons ?_
  refine gs_if ?_
  refine gt_w ?_
  refine gw_or ?_
  refine gt_not ?_
  refine gt_val ?_
  refine ge_isi rfl T.isi rfl T.tuple bt_tuple ty_tuple ?_
  refine ge_nm 2 rfl (by first | exact Or.inl rfl | exact Or.inr (.inl rfl) | exact Or.inr (.inr rfl)) rfl ?_
  refine ⟨_, rfl, ?_⟩
  refine ite_f (rfl) ?_
  refine gw_or ?_
  refine gt_ne ?_
  refine ge_len rfl T.len ?_
  refine ge_nm 2 rfl (by first | exact Or.inl rfl | exact Or.inr (.inl rfl) | exact Or.inr (.inr rfl)) rfl ?_
  refine ⟨_, (by first | exact Or.inl rfl | exact Or.inr rfl), ?_⟩
  refine ge_int ?_
  refine ⟨rfl, rfl, ?_⟩
  refine ite_f (rfl) ?_
  refine gw_or1 ?_
  refine gt_not ?_
  refine gt_val ?_
  refine ge_call F_is_table (by dsimp only [cdOf, Cd.blk, Cd.gen]; decide +kernel) rfl ?_
  refine ga_cons ?_
  refine ge_ixT ?_
  refine ge_nm 2 rfl (by first | exact Or.inl rfl | exact Or.inr (.inl rfl) | exact Or.inr (.inr rfl)) rfl ?_
  refine ge_int ?_
  refine ⟨_, _, _, rfl, rfl, rfl, ?_⟩
  refine ga_cons ?_
  refine ge_nm 1 rfl (by first | exact Or.inl rfl | exact Or.inr (.inl rfl) | exact Or.inr (.inr rfl)) rfl ?_
  refine ga_nil ?_
  refine ⟨_, ⟨j, r.2.2, h1, h3, rfl, rfl⟩, ?_⟩
  refine ⟨_, rfl, ?_⟩
  refine ite_f (rfl) ?_
  refine gs_nil ?_
  refine gs_cons ?_
  refine gs_ret ?_
  refine ge_and ?_
  refine ge_all [("one", 3)] ([3] ++ ([])) TB (by dsimp only [cdOf, Cd.blk, Cd.gen]; decide +kernel) rfl T.all bt_all (by dsimp only [cdOf, Cd.blk, Cd.gen]; decide +kernel) (by decide) ?_
  refine gi_tup ?_
  refine ge_slTo ?_
  refine ge_nm 2 rfl (by first | exact Or.inl rfl | exact Or.inr (.inl rfl) | exact Or.inr (.inr rfl)) rfl ?_
  refine ge_int ?_
  refine ⟨_, 2, rfl, rfl, ?_⟩
  refine ⟨_, rfl, ?_⟩
  refine ⟨fun d => true, fun d => true, fun d hd => ?_, ?_⟩
  · have hd : d = nD r.1 ∨ d = nD r.2.1 := by simpa using hd
    have hx : ∃ x : Nat, x < m ∧ d = nD x := by
      rcases hd with rfl | rfl
      · exact ⟨_, h4, rfl⟩
      · exact ⟨_, h5, rfl⟩
    obtain ⟨x, hx, rfl⟩ := hx
    refine gg_name 3 rfl (by dsimp only [cdOf, Cd.blk, Cd.gen]; decide +kernel) ?_
    refine gps_nil ?_
    refine ite_t (rfl) ?_
    refine ge_call F_is_in (by dsimp only [cdOf, Cd.blk, Cd.gen]; decide +kernel) rfl ?_
    refine ga_cons ?_
    refine ge_nm 3 rfl (by first | exact Or.inl rfl | exact Or.inr (.inl rfl) | exact Or.inr (.inr rfl)) rfl ?_
    refine ga_cons ?_
    refine ge_int ?_
    refine ga_cons ?_
    refine ge_sub ?_
    refine ge_nm 0 rfl (by first | exact Or.inl rfl | exact Or.inr (.inl rfl) | exact Or.inr (.inr rfl)) rfl ?_
    refine ge_int ?_
    refine ⟨_, _, rfl, rfl, ?_⟩
    refine ga_nil ?_
    refine ⟨_, ⟨_, _, _, rfl, rfl⟩, rfl, ?_, rfl⟩
    rw [decide_eq_true (by omega), decide_eq_true (by omega)]; rfl
  · refine ⟨_, rfl, ?_⟩
    refine ite_t (by simp) ?_
    refine ge_one ?_
    refine ge_ne ?_
    refine ge_ixT ?_
    refine ge_nm 2 rfl (by first | exact Or.inl rfl | exact Or.inr (.inl rfl) | exact Or.inr (.inr rfl)) rfl ?_
    refine ge_int ?_
    refine ⟨_, _, _, rfl, rfl, rfl, ?_⟩
    refine ge_ixT ?_
    refine ge_nm 2 rfl (by first | exact Or.inl rfl | exact Or.inr (.inl rfl) | exact Or.inr (.inr rfl)) rfl ?_
    refine ge_int ?_
    refine ⟨_, _, _, rfl, rfl, rfl, ?_⟩
    refine ⟨rfl, rfl, ?_, rfl⟩
    rw [eqvN, decide_eq_false h6]; rfl
end
end Wk
set_option Elab.async false
set_option linter.all false
set_option maxRecDepth 100000
set_option maxHeartbeats 4000000
namespace Wk
open PySem PySem.Spec PyProof.Rows L2 Gh Mir
section
variable {k : Kit} {f : Addr} {fd : FuncData} {cdv : Value}
def N_all_ways : List Str := ["net", "start", "goal", "found", "rows", "more", "way", "nodes", "index", "road"]
def P_all_ways (ds : List PyData) (d : PyData) : Prop := ∃ (b : Bl) (s g : Nat), b.n ≤ 4 ∧ b.rs.length ≤ 6 ∧ (∀ r ∈ b.rs, r.2.1 < b.n) ∧ s < b.n ∧ ds = [netD b, nD s, nD g] ∧ d = .list ((ways b.n b.es s g).map tD)
theorem sc_all_ways : FnScope N_all_ways ["net", "start", "goal"] (defScope (topS 10)) := ⟨rfl, rfl, rfl, by decide +kernel, rfl, by decide +kernel, by decide +kernel⟩
theorem es_lt {b : Bl} (h : ∀ r ∈ b.rs, r.2.1 < b.n) : ∀ e ∈ b.es, e.2 < b.n := fun e he => by
  obtain ⟨r, hr, rfl⟩ := List.mem_map.mp he
  exact h r hr
theorem es_len (b : Bl) : b.es.length = b.rs.length := by unfold Bl.es; rw [List.length_map]
theorem es_get {b : Bl} {j : Nat} {r : Mir.Rd} (h : b.rs[j]? = some r) : b.es[j]? = some (r.1, r.2.1) := by unfold Bl.es; rw [List.getElem?_map, h]; rfl
theorem wayL {r : Mir.Row} {n L m : Nat} (o : RowOk n L m r) (hn : n ≤ 4) : r.1.length ≤ 4 ∧ r.2.length ≤ 4 := by
  have h1 := pigeon n _ o.nd o.lt
  have h2 := o.wl
  omega
set_option maxHeartbeats 16000000 in
theorem w_all_ways (T : Bt k) (FC : FunC k.K "all_ways" (topS 10) f fd cdv) (hm : k.mg "all_ways" = some (.ref f)) : Fn k 2 "all_ways" (spP k P_all_ways) := by
  refine fn_def FC hm (FC.binds fun _ _ _ _ _ _ us hl => match us, hl with | [_, _, _], _ => rfl) sc_all_ways (fun ds d ⟨_, _, _, _, _, _, _, e, _⟩ => by rw [e]; rfl) fun ds d ⟨b, s, g, hn, h6, hr, hs, e1, e2⟩ n => ?_
  subst e1; subst e2
  have he := es_lt hr
  have hl6 : b.es.length ≤ 6 := by rw [es_len]; exact h6
  refine gs_cons ?_
  refine gs_parM 3 4 rfl rfl (by decide) rfl rfl ?_ (fun env h => by cases env; cases h; rfl)
  refine ge_lst ?_
  refine ga_cons ?_
  refine ge_tup ?_
  refine ga_cons ?_
  refine ge_tup ?_
  refine ga_nil ?_
  refine ⟨(show 0 ≤ sizeLine by decide), ?_⟩
  refine ga_cons ?_
  refine ge_tup ?_
  refine ga_cons ?_
  refine ge_nm 1 rfl (by first | exact Or.inl rfl | exact Or.inr (.inl rfl) | exact Or.inr (.inr rfl)) rfl ?_
  refine ga_nil ?_
  refine ⟨(show 1 ≤ sizeLine by decide), ?_⟩
  refine ga_nil ?_
  refine ⟨(show 2 ≤ sizeLine by decide), ?_⟩
  refine ga_nil ?_
  refine ⟨(show 1 ≤ sizeLine by decide), ?_⟩
  intro fm
  refine gs_cons ?_
  refine gs_while [5, 6, 7, 8, 9] (fun m g' => ∃ (rows : List Mir.Row) (acc : List (List Nat)), acc ++ waysN b.es g m rows = waysN b.es g b.n [([], [s])] ∧ (∀ r ∈ rows, RowOk b.n b.es.length m r) ∧ rows.length ≤ 6 ^ (b.n - m) ∧ m ≤ b.n ∧
    g' = ⟨[.dat (netD b), .dat (nD s), .dat (nD g), .mu fm (acc.map tD), .dat (.list (rows.map rowD)), .non, .non, .non, .non, .non], none⟩) ⟨b.n, [([], [s])], [], rfl, fun r hr => (by simp at hr; subst hr; exact row_start hs), by simp, Nat.le_refl _, rfl⟩ ?_
  rintro m g2 ⟨rows, acc, htot, hok, hrl, hmn, rfl⟩
  refine gt_truL ?_
  refine ge_nm 4 rfl (by first | exact Or.inl rfl | exact Or.inr (.inl rfl) | exact Or.inr (.inr rfl)) rfl ?_
  refine ⟨_, rfl, ?_⟩
  refine ite_b (fun hb => ?_) (fun hb => ?_)
  · -- a turn
    have hne : rows ≠ [] := fun z => by subst z; simp at hb
    obtain ⟨m, rfl⟩ : ∃ m', m = m' + 1 := by
      cases m with
      | zero =>
        cases rows with
        | nil => exact absurd rfl hne
        | cons r rows => exact (row_none (hok r List.mem_cons_self)).elim
      | succ m => exact ⟨m, rfl⟩
    have htl : acc.length ≤ 20736 := by
      have h1 := waysN_len b.es g hl6 b.n [([], [s])]
      rw [← htot, List.length_append] at h1
      have h2 : 12 ^ b.n ≤ 12 ^ 4 := Nat.pow_le_pow_right (by decide) hn
      simp only [List.length_singleton, Nat.one_mul] at h1
      omega
    have hrl2 : rows.length ≤ 1296 := by
      have h2 : 6 ^ (b.n - (m + 1)) ≤ 6 ^ 4 := Nat.pow_le_pow_right (by decide) (by omega)
      omega
    have mol : ∀ i, (more b.es (rows.take i)).length ≤ 7776 := fun i => by
      have h1 := more_len b.es (rows.take i)
      have h2 : b.es.length * (rows.take i).length ≤ 6 * 1296 := Nat.mul_le_mul hl6 (by rw [List.length_take]; omega)
      omega
    refine gs_cons ?_
    refine gs_new 5 rfl (by dsimp only [cdOf, Cd.blk, Cd.gen]; decide +kernel) ?_
    refine ga_nil ?_
    refine ⟨(show 0 ≤ sizeLine by decide), fun mm => ?_⟩
    refine gs_cons ?_
    refine gs_for [6, 7, 8, 9] ([6] ++ ([7] ++ ([]))) ?_
    refine gi_list ?_
    refine ge_nm 4 rfl (by first | exact Or.inl rfl | exact Or.inr (.inl rfl) | exact Or.inr (.inr rfl)) rfl ?_
    refine ⟨_, rfl, ?_⟩
    refine ⟨fun i g' => g' = ⟨[.dat (netD b), .dat (nD s), .dat (nD g), .mu fm ((acc ++ gl g (more b.es (rows.take i))).map tD), .dat (.list (rows.map rowD)), .mu mm ((ng g (more b.es (rows.take i))).map rowD), .non, .non, .non, .non], none⟩, ?_, fun i d g2 hd e => ?_, fun g2 e => ?_⟩
    · show (⟨[.dat (netD b), .dat (nD s), .dat (nD g), .mu fm (acc.map tD), .dat (.list (rows.map rowD)), .mu mm [], .non, .non, .non, .non], none⟩ : GS) = _
      simp [more, gl, ng]
    · subst e
      rw [List.getElem?_map] at hd
      cases hx : rows[i]? with
      | none => rw [hx] at hd; cases hd
      | some r =>
        rw [hx] at hd; cases hd
        have ok := hok r (List.mem_of_getElem? hx)
        have wl := wayL ok hn
        refine gg_tup ?_
        refine gg_cons ?_
        refine gg_name 6 rfl (by dsimp only [cdOf, Cd.blk, Cd.gen]; decide +kernel) ?_
        refine gg_cons ?_
        refine gg_name 7 rfl (by dsimp only [cdOf, Cd.blk, Cd.gen]; decide +kernel) ?_
        refine gg_nil ?_
        refine gs_cons ?_
        refine gs_for [8, 9] ([8] ++ ([9] ++ ([]))) ?_
        refine gi_en rfl T.enum ?_
        refine ge_ixT ?_
        refine ge_nm 0 rfl (by first | exact Or.inl rfl | exact Or.inr (.inl rfl) | exact Or.inr (.inr rfl)) rfl ?_
        refine ge_int ?_
        refine ⟨_, _, _, rfl, rfl, rfl, ?_⟩
        refine ⟨_, (by first | exact Or.inl rfl | exact Or.inr rfl), ?_⟩
        refine ⟨fun j g' => g' = ⟨[.dat (netD b), .dat (nD s), .dat (nD g), .mu fm ((acc ++ gl g (more b.es (rows.take i) ++ (b.es.zipIdx.take j).filterMap (ext1 r))).map tD), .dat (.list (rows.map rowD)), .mu mm ((ng g (more b.es (rows.take i) ++ (b.es.zipIdx.take j).filterMap (ext1 r))).map rowD), .dat (tD r.1), .dat (tD r.2), .non, .non], none⟩, ?_, fun j d g3 hd e => ?_, fun g3 e => ?_⟩
        · show (⟨[.dat (netD b), .dat (nD s), .dat (nD g), .mu fm ((acc ++ gl g (more b.es (rows.take i))).map tD), .dat (.list (rows.map rowD)), .mu mm ((ng g (more b.es (rows.take i))).map rowD), .dat (tD r.1), .dat (tD r.2), .non, .non], none⟩ : GS) = _
          simp
        · subst e
          obtain ⟨x, hx2, rfl⟩ := enD_get hd
          rw [List.getElem?_map] at hx2
          cases hx3 : b.rs[j]? with
          | none => rw [hx3] at hx2; cases hx2
          | some rd =>
            rw [hx3] at hx2; cases hx2
            have hes := es_get hx3
            have xt := ext_take (r := r) hes
            have hj : j < b.es.length := (List.getElem?_eq_some_iff.mp hes).1
            have ql : (more b.es (rows.take i) ++ (b.es.zipIdx.take j).filterMap (ext1 r)).length ≤ 7782 := by
              have h1 := mol i
              have h2 : ((b.es.zipIdx.take j).filterMap (ext1 r)).length ≤ 6 := by
                refine Nat.le_trans (List.length_filterMap_le _ _) ?_
                rw [List.length_take]; omega
              rw [List.length_append]; omega
            refine gg_tup ?_
            refine gg_cons ?_
            refine gg_name 8 rfl (by dsimp only [cdOf, Cd.blk, Cd.gen]; decide +kernel) ?_
            refine gg_cons ?_
            refine gg_name 9 rfl (by dsimp only [cdOf, Cd.blk, Cd.gen]; decide +kernel) ?_
            refine gg_nil ?_
            refine gs_cons ?_
            refine gs_if ?_
            refine gt_w ?_
            refine gw_and ?_
            refine gt_eq ?_
            refine ge_ixT ?_
            refine ge_nm 9 rfl (by first | exact Or.inl rfl | exact Or.inr (.inl rfl) | exact Or.inr (.inr rfl)) rfl ?_
            refine ge_int ?_
            refine ⟨_, _, _, rfl, rfl, rfl, ?_⟩
            refine ge_ixT ?_
            refine ge_nm 7 rfl (by first | exact Or.inl rfl | exact Or.inr (.inl rfl) | exact Or.inr (.inr rfl)) rfl ?_
            refine ge_neg ?_
            refine ge_int ?_
            refine ⟨_, rfl, ?_⟩
            refine ⟨_, _, _, rfl, rfl, atLastN ok.ne, ?_⟩
            refine ⟨rfl, rfl, ?_⟩
            rw [eqvN]
            have same : ext1 r ((rd.1, rd.2.1), j) = none → (b.es.zipIdx.take (j + 1)).filterMap (ext1 r) = (b.es.zipIdx.take j).filterMap (ext1 r) := fun z => by rw [xt, z]; simp
            refine ite_b (fun h1 => ?_) (fun h1 => ?_)
            · have h1 := of_decide_eq_true h1
              refine gw_and1 ?_
              refine gt_niT ?_
              refine ge_ixT ?_
              refine ge_nm 9 rfl (by first | exact Or.inl rfl | exact Or.inr (.inl rfl) | exact Or.inr (.inr rfl)) rfl ?_
              refine ge_int ?_
              refine ⟨_, _, _, rfl, rfl, rfl, ?_⟩
              refine ge_nm 7 rfl (by first | exact Or.inl rfl | exact Or.inr (.inl rfl) | exact Or.inr (.inr rfl)) rfl ?_
              refine ⟨_, r.2.map (fun n : Nat => (n : Int)), rfl, tD_ints _, ?_⟩
              rw [memN]
              refine ite_b (fun h2 => ?_) (fun h2 => ?_)
              · have h2 : rd.2.1 ∉ r.2 := by simpa using h2
                have xe : ext1 r ((rd.1, rd.2.1), j) = some (r.1 ++ [j], r.2 ++ [rd.2.1]) := if_pos ⟨h1, h2⟩
                rw [xe] at xt
                refine gs_cons ?_
                refine gs_if ?_
                refine gt_eq ?_
                refine ge_ixT ?_
                refine ge_nm 9 rfl (by first | exact Or.inl rfl | exact Or.inr (.inl rfl) | exact Or.inr (.inr rfl)) rfl ?_
                refine ge_int ?_
                refine ⟨_, _, _, rfl, rfl, rfl, ?_⟩
                refine ge_nm 2 rfl (by first | exact Or.inl rfl | exact Or.inr (.inl rfl) | exact Or.inr (.inr rfl)) rfl ?_
                refine ⟨rfl, rfl, ?_⟩
                rw [eqvN]
                refine ite_b (fun h3 => ?_) (fun h3 => ?_)
                · have h3 := of_decide_eq_true h3
                  refine gs_cons ?_
                  refine gs_app 3 rfl (by first | exact Or.inl rfl | exact Or.inr (.inl rfl) | exact Or.inr (.inr rfl)) ⟨_, _, rfl⟩ ?_
                  refine ge_tup ?_
                  refine ga_star ?_
                  refine ge_nm 6 rfl (by first | exact Or.inl rfl | exact Or.inr (.inl rfl) | exact Or.inr (.inr rfl)) rfl ?_
                  refine ⟨_, (by first | exact Or.inl rfl | exact Or.inr rfl), ?_⟩
                  refine ga_cons ?_
                  refine ge_nm 8 rfl (by first | exact Or.inl rfl | exact Or.inr (.inl rfl) | exact Or.inr (.inr rfl)) rfl ?_
                  refine ga_nil ?_
                  refine ⟨by rw [List.length_append, List.length_map]; exact Nat.le_trans (show _ ≤ 10 by simp only [List.length_singleton]; omega) (by decide), fun m' ds e => ?_⟩
                  cases e
                  refine ⟨?_, ?_⟩
                  · rw [List.length_map, List.length_append]
                    have := gl_len g (more b.es (rows.take i) ++ (b.es.zipIdx.take j).filterMap (ext1 r))
                    exact Nat.lt_of_le_of_lt (show _ ≤ 100000 by omega) (by decide)
                  · refine gs_nil ?_
                    refine gs_nil ?_
                    refine gs_nil ?_
                    show (⟨[.dat (netD b), .dat (nD s), .dat (nD g), .mu fm ((acc ++ gl g (more b.es (rows.take i) ++ (b.es.zipIdx.take j).filterMap (ext1 r))).map tD ++ [.tuple (r.1.map nD ++ [nD j])]), .dat (.list (rows.map rowD)), .mu mm ((ng g (more b.es (rows.take i) ++ (b.es.zipIdx.take j).filterMap (ext1 r))).map rowD), .dat (tD r.1), .dat (tD r.2), .non, .non], none⟩ : GS) = _
                    rw [xt]
                    have e1 : gl g (more b.es (rows.take i) ++ ((b.es.zipIdx.take j).filterMap (ext1 r) ++ (some (r.1 ++ [j], r.2 ++ [rd.2.1])).toList)) = gl g (more b.es (rows.take i) ++ (b.es.zipIdx.take j).filterMap (ext1 r)) ++ [r.1 ++ [j]] := by
                      rw [← List.append_assoc, gl_app]
                      congr 1
                      show gl g [(r.1 ++ [j], r.2 ++ [rd.2.1])] = _
                      unfold gl
                      rw [List.filter_cons, if_pos (by rw [lastN_app, h3]; exact decide_eq_true rfl)]
                      rfl
                    have e2 : ng g (more b.es (rows.take i) ++ ((b.es.zipIdx.take j).filterMap (ext1 r) ++ (some (r.1 ++ [j], r.2 ++ [rd.2.1])).toList)) = ng g (more b.es (rows.take i) ++ (b.es.zipIdx.take j).filterMap (ext1 r)) := by
                      rw [← List.append_assoc, ng_app]
                      show _ ++ ng g [(r.1 ++ [j], r.2 ++ [rd.2.1])] = _
                      unfold ng
                      rw [List.filter_cons, if_neg (by rw [lastN_app, h3, decide_eq_true rfl]; decide), List.filter_nil, List.append_nil]
                    rw [e1, e2, ← List.append_assoc, List.map_append (l₂ := [r.1 ++ [j]])]
                    show _ = (⟨[.dat (netD b), .dat (nD s), .dat (nD g), .mu fm (_ ++ [.tuple ((r.1 ++ [j]).map nD)]), _, _, _, _, _, _], none⟩ : GS)
                    rw [List.map_append (l₁ := r.1)]
                    rfl
                · have h3 := of_decide_eq_false h3
                  refine gs_cons ?_
                  refine gs_app 5 rfl (by first | exact Or.inl rfl | exact Or.inr (.inl rfl) | exact Or.inr (.inr rfl)) ⟨_, _, rfl⟩ ?_
                  refine ge_tup ?_
                  refine ga_cons ?_
                  refine ge_tup ?_
                  refine ga_star ?_
                  refine ge_nm 6 rfl (by first | exact Or.inl rfl | exact Or.inr (.inl rfl) | exact Or.inr (.inr rfl)) rfl ?_
                  refine ⟨_, (by first | exact Or.inl rfl | exact Or.inr rfl), ?_⟩
                  refine ga_cons ?_
                  refine ge_nm 8 rfl (by first | exact Or.inl rfl | exact Or.inr (.inl rfl) | exact Or.inr (.inr rfl)) rfl ?_
                  refine ga_nil ?_
                  refine ⟨by rw [List.length_append, List.length_map]; exact Nat.le_trans (show _ ≤ 10 by simp only [List.length_singleton]; omega) (by decide), ?_⟩
                  refine ga_cons ?_
                  refine ge_tup ?_
                  refine ga_star ?_
                  refine ge_nm 7 rfl (by first | exact Or.inl rfl | exact Or.inr (.inl rfl) | exact Or.inr (.inr rfl)) rfl ?_
                  refine ⟨_, (by first | exact Or.inl rfl | exact Or.inr rfl), ?_⟩
                  refine ga_cons ?_
                  refine ge_ixT ?_
                  refine ge_nm 9 rfl (by first | exact Or.inl rfl | exact Or.inr (.inl rfl) | exact Or.inr (.inr rfl)) rfl ?_
                  refine ge_int ?_
                  refine ⟨_, _, _, rfl, rfl, rfl, ?_⟩
                  refine ga_nil ?_
                  refine ⟨by rw [List.length_append, List.length_map]; exact Nat.le_trans (show _ ≤ 10 by simp only [List.length_singleton]; omega) (by decide), ?_⟩
                  refine ga_nil ?_
                  refine ⟨(show 2 ≤ sizeLine by decide), fun m' ds e => ?_⟩
                  cases e
                  refine ⟨?_, ?_⟩
                  · rw [List.length_map]
                    have := ng_len g (more b.es (rows.take i) ++ (b.es.zipIdx.take j).filterMap (ext1 r))
                    exact Nat.lt_of_le_of_lt (show _ ≤ 100000 by omega) (by decide)
                  · refine gs_nil ?_
                    refine gs_nil ?_
                    refine gs_nil ?_
                    show (⟨[.dat (netD b), .dat (nD s), .dat (nD g), .mu fm ((acc ++ gl g (more b.es (rows.take i) ++ (b.es.zipIdx.take j).filterMap (ext1 r))).map tD), .dat (.list (rows.map rowD)), .mu mm ((ng g (more b.es (rows.take i) ++ (b.es.zipIdx.take j).filterMap (ext1 r))).map rowD ++ [.tuple [.tuple (r.1.map nD ++ [nD j]), .tuple (r.2.map nD ++ [nD rd.2.1])]]), .dat (tD r.1), .dat (tD r.2), .non, .non], none⟩ : GS) = _
                    rw [xt]
                    have e1 : gl g (more b.es (rows.take i) ++ ((b.es.zipIdx.take j).filterMap (ext1 r) ++ (some (r.1 ++ [j], r.2 ++ [rd.2.1])).toList)) = gl g (more b.es (rows.take i) ++ (b.es.zipIdx.take j).filterMap (ext1 r)) := by
                      rw [← List.append_assoc, gl_app]
                      show _ ++ gl g [(r.1 ++ [j], r.2 ++ [rd.2.1])] = _
                      unfold gl
                      rw [List.filter_cons, if_neg (by rw [lastN_app, decide_eq_false h3]; decide), List.filter_nil, List.map_nil, List.append_nil]
                    have e2 : ng g (more b.es (rows.take i) ++ ((b.es.zipIdx.take j).filterMap (ext1 r) ++ (some (r.1 ++ [j], r.2 ++ [rd.2.1])).toList)) = ng g (more b.es (rows.take i) ++ (b.es.zipIdx.take j).filterMap (ext1 r)) ++ [(r.1 ++ [j], r.2 ++ [rd.2.1])] := by
                      rw [← List.append_assoc, ng_app]
                      congr 1
                      show ng g [(r.1 ++ [j], r.2 ++ [rd.2.1])] = _
                      unfold ng
                      rw [List.filter_cons, if_pos (by rw [lastN_app, decide_eq_false h3]; rfl)]
                      rfl
                    rw [e1, e2, List.map_append (l₂ := [(r.1 ++ [j], r.2 ++ [rd.2.1])])]
                    show _ = (⟨[_, _, _, _, _, .mu mm (_ ++ [.tuple [.tuple ((r.1 ++ [j]).map nD), .tuple ((r.2 ++ [rd.2.1]).map nD)]]), _, _, _, _], none⟩ : GS)
                    rw [List.map_append (l₁ := r.1), List.map_append (l₁ := r.2)]
                    rfl
              · have h2 : rd.2.1 ∈ r.2 := by simpa using h2
                refine gs_nil ?_
                refine gs_nil ?_
                show (_ : GS) = (_ : GS)
                rw [same (if_neg (fun z => z.2 h2))]
                rfl
            · have h1 := of_decide_eq_false h1
              refine ite_f (rfl) ?_
              refine gs_nil ?_
              refine gs_nil ?_
              show (_ : GS) = (_ : GS)
              rw [same (if_neg (fun z => h1 z.1))]
              rfl
        · subst e
          refine gs_nil ?_
          have e1 : (enD (b.rs.map rN)).length = b.es.length := by rw [enD_len, List.length_map, es_len]
          show (_ : GS) = (_ : GS)
          rw [more_take hx, ← ext_all, ← e1]
          rfl
    · subst e
      refine gs_frz 5 rfl ?_
      refine gs_cons ?_
      refine gs_set 4 rfl (by dsimp only [cdOf, Cd.blk, Cd.gen]; decide +kernel) ?_
      refine ge_nm 5 rfl (by first | exact Or.inl rfl | exact Or.inr (.inl rfl) | exact Or.inr (.inr rfl)) rfl ?_
      refine gs_nil ?_
      have e1 : (rows.map rowD).length = rows.length := List.length_map ..
      refine ⟨m, Nat.lt_succ_self m, ng g (more b.es rows), acc ++ gl g (more b.es rows), ?_, fun r hr => row_more he hok r (List.mem_filter.mp hr).1, ?_, by omega, ?_⟩
      · rw [List.append_assoc]; exact htot
      · have h1 := more_len b.es rows
        have h2 := ng_len g (more b.es rows)
        have h3 : b.es.length * rows.length ≤ 6 * 6 ^ (b.n - (m + 1)) := Nat.mul_le_mul hl6 hrl
        have h4 : b.n - m = (b.n - (m + 1)) + 1 := by omega
        rw [h4, Nat.pow_succ]
        omega
      · rw [e1, List.take_length]
        rfl
  · -- the end
    have hne : rows = [] := by
      cases rows with
      | nil => rfl
      | cons r rows => simp at hb
    subst hne
    rw [waysN_nil, List.append_nil] at htot
    subst htot
    refine gs_frz 3 rfl ?_
    refine gs_cons ?_
    refine gs_ret ?_
    refine ge_sorted rfl T.sorted ?_
    refine ge_nm 3 rfl (by first | exact Or.inl rfl | exact Or.inr (.inl rfl) | exact Or.inr (.inr rfl)) rfl ?_
    refine ⟨_, rfl, allAlike_tD _, sortable_tD (fun w hw => (waysN_mem he b.n _ (fun r hr => (by simp at hr; subst hr; exact row_start hs)) w hw).1), fun d hd => ?_, ?_, rfl⟩
    · obtain ⟨w, _, rfl⟩ := List.mem_map.mp hd
      rw [depth_tD]; decide
    · unfold ways
      rw [sortT_D]
end
end Wk
set_option Elab.async false
set_option linter.all false
set_option maxRecDepth 100000
set_option maxHeartbeats 4000000
namespace Wk
open PySem PySem.Spec PyProof.Rows L2 Gh Mir
section
variable {k : Kit} {f : Addr} {fd : FuncData} {cdv : Value}
theorem vb_lt {b : Bl} (h : VB b) : ∀ r ∈ b.rs, r.2.1 < b.n := fun r hr => (h.rd r hr).2.1
/-! is_player -/
def N_is_player : List Str := ["game", "value", "one"]
def P_is_player (ds : List PyData) (d : PyData) : Prop := ∃ (b : Bl) (p : Nat × Nat), VB b ∧ p ∈ b.ps ∧ ds = [gD b, pD p] ∧ d = .bool true
theorem sc_is_player : FnScope N_is_player ["game", "value"] (defScope (topS 20)) := ⟨rfl, rfl, rfl, by decide +kernel, rfl, by decide +kernel, by decide +kernel⟩
theorem w_is_player (T : Bt k) (F_is_in : Fn k 1 "is_in" (spP k P_is_in)) (F_net_of : Fn k 1 "net_of" (spP k P_net_of)) (F_all_ways : Fn k 2 "all_ways" (spP k P_all_ways)) (TB : k.Tb (cdOf N_is_player (topS 20) 2 cdv)) (FC : FunC k.K "is_player" (topS 20) f fd cdv) (hm : k.mg "is_player" = some (.ref f)) : Fn k 3 "is_player" (spP k P_is_player) := by
  refine fn_def FC hm (FC.binds fun _ _ _ _ _ _ us hl => match us, hl with | [_, _], _ => rfl) sc_is_player (fun ds d ⟨_, _, _, _, e, _⟩ => by rw [e]; rfl) fun ds d ⟨b, p, hb, hp, e1, e2⟩ n => ?_
  subst e1; subst e2
  obtain ⟨p1, p2, p3, p4⟩ := hb.pl p hp
  refine gs_cons ?_
  refine gs_if ?_
  refine gt_w ?_
  refine gw_or ?_
  refine gt_not ?_
  refine gt_val ?_
  refine ge_isi rfl T.isi rfl T.tuple bt_tuple ty_tuple ?_
  refine ge_nm 1 rfl (by first | exact Or.inl rfl | exact Or.inr (.inl rfl) | exact Or.inr (.inr rfl)) rfl ?_
  refine ⟨_, rfl, ?_⟩
  refine ite_f (rfl) ?_
  refine gw_or ?_
  refine gt_ne ?_
  refine ge_len rfl T.len ?_
  refine ge_nm 1 rfl (by first | exact Or.inl rfl | exact Or.inr (.inl rfl) | exact Or.inr (.inr rfl)) rfl ?_
  refine ⟨_, (by first | exact Or.inl rfl | exact Or.inr rfl), ?_⟩
  refine ge_int ?_
  refine ⟨rfl, rfl, ?_⟩
  refine ite_f (rfl) ?_
  refine gw_or1 ?_
  refine gt_not ?_
  refine gt_val ?_
  refine ge_all [("one", 2)] ([2] ++ ([])) TB (by dsimp only [cdOf, Cd.blk, Cd.gen]; decide +kernel) rfl T.all bt_all (by dsimp only [cdOf, Cd.blk, Cd.gen]; decide +kernel) (by decide) ?_
  refine gi_tup ?_
  refine ge_nm 1 rfl (by first | exact Or.inl rfl | exact Or.inr (.inl rfl) | exact Or.inr (.inr rfl)) rfl ?_
  refine ⟨_, rfl, ?_⟩
  refine ⟨fun d => true, fun d => true, fun d hd => ?_, ?_⟩
  · have hd : d = nD p.1 ∨ d = nD p.2 := by simpa using hd
    have hx : ∃ x : Nat, x < b.n ∧ d = nD x := by
      rcases hd with rfl | rfl
      · exact ⟨_, p1, rfl⟩
      · exact ⟨_, p2, rfl⟩
    obtain ⟨x, hx, rfl⟩ := hx
    refine gg_name 2 rfl (by dsimp only [cdOf, Cd.blk, Cd.gen]; decide +kernel) ?_
    refine gps_nil ?_
    refine ite_t (rfl) ?_
    refine ge_call F_is_in (by dsimp only [cdOf, Cd.blk, Cd.gen]; decide +kernel) rfl ?_
    refine ga_cons ?_
    refine ge_nm 2 rfl (by first | exact Or.inl rfl | exact Or.inr (.inl rfl) | exact Or.inr (.inr rfl)) rfl ?_
    refine ga_cons ?_
    refine ge_int ?_
    refine ga_cons ?_
    refine ge_sub ?_
    refine ge_ixT ?_
    refine ge_nm 0 rfl (by first | exact Or.inl rfl | exact Or.inr (.inl rfl) | exact Or.inr (.inr rfl)) rfl ?_
    refine ge_int ?_
    refine ⟨_, _, _, rfl, rfl, rfl, ?_⟩
    refine ge_int ?_
    refine ⟨_, _, rfl, rfl, ?_⟩
    refine ga_nil ?_
    refine ⟨_, ⟨_, _, _, rfl, rfl⟩, rfl, ?_, rfl⟩
    rw [decide_eq_true (by omega), decide_eq_true (by omega)]; rfl
  · refine ⟨_, rfl, ?_⟩
    refine ite_f (by simp) ?_
    refine gs_nil ?_
    refine gs_cons ?_
    refine gs_ret ?_
    refine ge_and ?_
    refine ge_ne ?_
    refine ge_ixT ?_
    refine ge_nm 1 rfl (by first | exact Or.inl rfl | exact Or.inr (.inl rfl) | exact Or.inr (.inr rfl)) rfl ?_
    refine ge_int ?_
    refine ⟨_, _, _, rfl, rfl, rfl, ?_⟩
    refine ge_ixT ?_
    refine ge_nm 1 rfl (by first | exact Or.inl rfl | exact Or.inr (.inl rfl) | exact Or.inr (.inr rfl)) rfl ?_
    refine ge_int ?_
    refine ⟨_, _, _, rfl, rfl, rfl, ?_⟩
    refine ⟨rfl, rfl, ?_⟩
    refine ⟨_, rfl, ?_⟩
    refine ite_t (by rw [eqvN, decide_eq_false p3]; rfl) ?_
    refine ge_one ?_
    refine ge_boolL rfl T.bool ?_
    refine ge_call F_all_ways (by dsimp only [cdOf, Cd.blk, Cd.gen]; decide +kernel) rfl ?_
    refine ga_cons ?_
    refine ge_call F_net_of (by dsimp only [cdOf, Cd.blk, Cd.gen]; decide +kernel) rfl ?_
    refine ga_cons ?_
    refine ge_nm 0 rfl (by first | exact Or.inl rfl | exact Or.inr (.inl rfl) | exact Or.inr (.inr rfl)) rfl ?_
    refine ga_nil ?_
    refine ⟨_, ⟨b, hb.r6, rfl, rfl⟩, ?_⟩
    refine ga_cons ?_
    refine ge_ixT ?_
    refine ge_nm 1 rfl (by first | exact Or.inl rfl | exact Or.inr (.inl rfl) | exact Or.inr (.inr rfl)) rfl ?_
    refine ge_int ?_
    refine ⟨_, _, _, rfl, rfl, rfl, ?_⟩
    refine ga_cons ?_
    refine ge_ixT ?_
    refine ge_nm 1 rfl (by first | exact Or.inl rfl | exact Or.inr (.inl rfl) | exact Or.inr (.inr rfl)) rfl ?_
    refine ge_int ?_
    refine ⟨_, _, _, rfl, rfl, rfl, ?_⟩
    refine ga_nil ?_
    refine ⟨_, ⟨b, p.1, p.2, hb.n4, hb.r6, vb_lt hb, p1, rfl, rfl⟩, ?_⟩
    refine ⟨_, rfl, ?_, rfl⟩
    have e : ((ways b.n b.es p.1 p.2).map tD).isEmpty = false := by
      cases h : ways b.n b.es p.1 p.2 with
      | nil => exact absurd h p4
      | cons x l => rfl
    rw [e]; rfl
/-! need_game -/
def N_need_game : List Str := ["game", "length", "index", "one"]
def P_need_game (ds : List PyData) (d : PyData) : Prop := ∃ b : Bl, VB b ∧ ds = [gD b, .none] ∧ d = .none
theorem sc_need_game : FnScope N_need_game ["game", "length"] (defScope (topS 21)) := ⟨rfl, rfl, rfl, by decide +kernel, rfl, by decide +kernel, by decide +kernel⟩
theorem w_need_game (T : Bt k) (F_is_in : Fn k 1 "is_in" (spP k P_is_in)) (F_is_game_road : Fn k 4 "is_game_road" (spP k P_is_game_road)) (F_is_player : Fn k 3 "is_player" (spP k P_is_player)) (FC : FunC k.K "need_game" (topS 21) f fd cdv) (hm : k.mg "need_game" = some (.ref f)) : Fn k 5 "need_game" (spP k P_need_game) := by
  refine fn_def FC hm (FC.binds fun _ _ _ _ _ _ us hl => match us, hl with | [_, _], _ => rfl) sc_need_game (fun ds d ⟨_, _, e, _⟩ => by rw [e]; rfl) fun ds d ⟨b, hb, e1, e2⟩ n => ?_
  subst e1; subst e2
  have n2 := hb.n2
  have n4 := hb.n4
  have r1 := hb.r1
  have r6 := hb.r6
  have p1 := hb.p1
  have p3 := hb.p3
  refine gs_cons ?_
  refine gs_if ?_
  refine gt_w ?_
  refine gw_or ?_
  refine gt_not ?_
  refine gt_val ?_
  refine ge_isi rfl T.isi rfl T.tuple bt_tuple ty_tuple ?_
  refine ge_nm 0 rfl (by first | exact Or.inl rfl | exact Or.inr (.inl rfl) | exact Or.inr (.inr rfl)) rfl ?_
  refine ⟨_, rfl, ?_⟩
  refine ite_f (rfl) ?_
  refine gw_or ?_
  refine gt_ne ?_
  refine ge_len rfl T.len ?_
  refine ge_nm 0 rfl (by first | exact Or.inl rfl | exact Or.inr (.inl rfl) | exact Or.inr (.inr rfl)) rfl ?_
  refine ⟨_, (by first | exact Or.inl rfl | exact Or.inr rfl), ?_⟩
  refine ge_int ?_
  refine ⟨rfl, rfl, ?_⟩
  refine ite_f (rfl) ?_
  refine gw_or1 ?_
  refine gt_not ?_
  refine gt_val ?_
  refine ge_call F_is_in (by dsimp only [cdOf, Cd.blk, Cd.gen]; decide +kernel) rfl ?_
  refine ga_cons ?_
  refine ge_ixT ?_
  refine ge_nm 0 rfl (by first | exact Or.inl rfl | exact Or.inr (.inl rfl) | exact Or.inr (.inr rfl)) rfl ?_
  refine ge_int ?_
  refine ⟨_, _, _, rfl, rfl, rfl, ?_⟩
  refine ga_cons ?_
  refine ge_int ?_
  refine ga_cons ?_
  refine ge_glN rfl T.nodes ?_
  refine ga_nil ?_
  refine ⟨_, ⟨_, _, _, rfl, rfl⟩, ?_⟩
  refine ⟨_, rfl, ?_⟩
  refine ite_f (by rw [decide_eq_true (by omega), decide_eq_true (by omega)]; rfl) ?_
  refine gs_nil ?_
  refine gs_cons ?_
  refine gs_if ?_
  refine gt_w ?_
  refine gw_or ?_
  refine gt_not ?_
  refine gt_val ?_
  refine ge_isi rfl T.isi rfl T.tuple bt_tuple ty_tuple ?_
  refine ge_ixT ?_
  refine ge_nm 0 rfl (by first | exact Or.inl rfl | exact Or.inr (.inl rfl) | exact Or.inr (.inr rfl)) rfl ?_
  refine ge_int ?_
  refine ⟨_, _, _, rfl, rfl, rfl, ?_⟩
  refine ⟨_, rfl, ?_⟩
  refine ite_f (rfl) ?_
  refine gw_or1 ?_
  refine gt_not ?_
  refine gt_chainLL ?_
  refine ge_int ?_
  refine ge_len rfl T.len ?_
  refine ge_ixT ?_
  refine ge_nm 0 rfl (by first | exact Or.inl rfl | exact Or.inr (.inl rfl) | exact Or.inr (.inr rfl)) rfl ?_
  refine ge_int ?_
  refine ⟨_, _, _, rfl, rfl, rfl, ?_⟩
  refine ⟨_, (by first | exact Or.inl rfl | exact Or.inr rfl), ?_⟩
  refine ⟨_, _, rfl, rfl, itp_t (by rw [List.length_map]; omega) ?_⟩
  refine ge_glN rfl T.roads ?_
  refine ⟨_, rfl, ?_⟩
  refine ite_f (by rw [List.length_map, decide_eq_true (by omega)]; rfl) ?_
  refine gs_nil ?_
  refine gs_cons ?_
  refine gs_if ?_
  refine gt_w ?_
  refine gw_or ?_
  refine gt_not ?_
  refine gt_val ?_
  refine ge_isi rfl T.isi rfl T.tuple bt_tuple ty_tuple ?_
  refine ge_ixT ?_
  refine ge_nm 0 rfl (by first | exact Or.inl rfl | exact Or.inr (.inl rfl) | exact Or.inr (.inr rfl)) rfl ?_
  refine ge_int ?_
  refine ⟨_, _, _, rfl, rfl, rfl, ?_⟩
  refine ⟨_, rfl, ?_⟩
  refine ite_f (rfl) ?_
  refine gw_or1 ?_
  refine gt_not ?_
  refine gt_chainLL ?_
  refine ge_int ?_
  refine ge_len rfl T.len ?_
  refine ge_ixT ?_
  refine ge_nm 0 rfl (by first | exact Or.inl rfl | exact Or.inr (.inl rfl) | exact Or.inr (.inr rfl)) rfl ?_
  refine ge_int ?_
  refine ⟨_, _, _, rfl, rfl, rfl, ?_⟩
  refine ⟨_, (by first | exact Or.inl rfl | exact Or.inr rfl), ?_⟩
  refine ⟨_, _, rfl, rfl, itp_t (by rw [List.length_map]; omega) ?_⟩
  refine ge_glN rfl T.players ?_
  refine ⟨_, rfl, ?_⟩
  refine ite_f (by rw [List.length_map, decide_eq_true (by omega)]; rfl) ?_
  refine gs_nil ?_
  refine gs_cons ?_
  refine gs_for [2, 3] ([2] ++ ([3] ++ ([]))) ?_
  refine gi_en rfl T.enum ?_
  refine ge_ixT ?_
  refine ge_nm 0 rfl (by first | exact Or.inl rfl | exact Or.inr (.inl rfl) | exact Or.inr (.inr rfl)) rfl ?_
  refine ge_int ?_
  refine ⟨_, _, _, rfl, rfl, rfl, ?_⟩
  refine ⟨_, (by first | exact Or.inl rfl | exact Or.inr rfl), ?_⟩
  refine ⟨fun i g => g = ⟨[.dat (gD b), .dat .none, .non, .non], none⟩, rfl, fun i d g2 hd e => ?_, fun g2 e => ?_⟩
  · subst e
    obtain ⟨x, hx, rfl⟩ := enD_get hd
    rw [List.getElem?_map] at hx
    cases hr : b.rs[i]? with
    | none => rw [hr] at hx; cases hx
    | some r =>
      rw [hr] at hx; cases hx
      obtain ⟨q1, q2, q3, q4⟩ := hb.rd r (List.mem_of_getElem? hr)
      refine gg_tup ?_
      refine gg_cons ?_
      refine gg_name 2 rfl (by dsimp only [cdOf, Cd.blk, Cd.gen]; decide +kernel) ?_
      refine gg_cons ?_
      refine gg_name 3 rfl (by dsimp only [cdOf, Cd.blk, Cd.gen]; decide +kernel) ?_
      refine gg_nil ?_
      refine gs_cons ?_
      refine gs_if ?_
      refine gt_not ?_
      refine gt_val ?_
      refine ge_call F_is_game_road (by dsimp only [cdOf, Cd.blk, Cd.gen]; decide +kernel) rfl ?_
      refine ga_cons ?_
      refine ge_ixT ?_
      refine ge_nm 0 rfl (by first | exact Or.inl rfl | exact Or.inr (.inl rfl) | exact Or.inr (.inr rfl)) rfl ?_
      refine ge_int ?_
      refine ⟨_, _, _, rfl, rfl, rfl, ?_⟩
      refine ga_cons ?_
      refine ge_if ?_
      refine gt_isN ?_
      refine ge_nm 1 rfl (by first | exact Or.inl rfl | exact Or.inr (.inl rfl) | exact Or.inr (.inr rfl)) rfl ?_
      refine ite_t (rfl) ?_
      refine ge_len rfl T.len ?_
      refine ge_ixT ?_
      refine ge_nm 0 rfl (by first | exact Or.inl rfl | exact Or.inr (.inl rfl) | exact Or.inr (.inr rfl)) rfl ?_
      refine ge_int ?_
      refine ⟨_, _, _, rfl, rfl, rfl, ?_⟩
      refine ⟨_, (by first | exact Or.inl rfl | exact Or.inr rfl), ?_⟩
      refine ga_cons ?_
      refine ge_nm 3 rfl (by first | exact Or.inl rfl | exact Or.inr (.inl rfl) | exact Or.inr (.inr rfl)) rfl ?_
      refine ga_nil ?_
      refine ⟨_, ⟨b.n, b.ps.length, r, p3, n4, q4, q1, q2, q3, by rw [List.length_map], rfl⟩, ?_⟩
      refine ⟨_, rfl, ?_⟩
      refine ite_f (rfl) ?_
      refine gs_nil ?_
      refine gs_nil ?_
      rfl
  · subst e
    refine gs_cons ?_
    refine gs_for [2, 3] ([2] ++ ([3] ++ ([]))) ?_
    refine gi_en rfl T.enum ?_
    refine ge_ixT ?_
    refine ge_nm 0 rfl (by first | exact Or.inl rfl | exact Or.inr (.inl rfl) | exact Or.inr (.inr rfl)) rfl ?_
    refine ge_int ?_
    refine ⟨_, _, _, rfl, rfl, rfl, ?_⟩
    refine ⟨_, (by first | exact Or.inl rfl | exact Or.inr rfl), ?_⟩
    refine ⟨fun i g => g = ⟨[.dat (gD b), .dat .none, .non, .non], none⟩, rfl, fun i d g2 hd e => ?_, fun g2 e => ?_⟩
    · subst e
      obtain ⟨x, hx, rfl⟩ := enD_get hd
      rw [List.getElem?_map] at hx
      cases hr : b.ps[i]? with
      | none => rw [hr] at hx; cases hx
      | some p =>
        rw [hr] at hx; cases hx
        refine gg_tup ?_
        refine gg_cons ?_
        refine gg_name 2 rfl (by dsimp only [cdOf, Cd.blk, Cd.gen]; decide +kernel) ?_
        refine gg_cons ?_
        refine gg_name 3 rfl (by dsimp only [cdOf, Cd.blk, Cd.gen]; decide +kernel) ?_
        refine gg_nil ?_
        refine gs_cons ?_
        refine gs_if ?_
        refine gt_not ?_
        refine gt_val ?_
        refine ge_call F_is_player (by dsimp only [cdOf, Cd.blk, Cd.gen]; decide +kernel) rfl ?_
        refine ga_cons ?_
        refine ge_nm 0 rfl (by first | exact Or.inl rfl | exact Or.inr (.inl rfl) | exact Or.inr (.inr rfl)) rfl ?_
        refine ga_cons ?_
        refine ge_nm 3 rfl (by first | exact Or.inl rfl | exact Or.inr (.inl rfl) | exact Or.inr (.inr rfl)) rfl ?_
        refine ga_nil ?_
        refine ⟨_, ⟨b, p, hb, List.mem_of_getElem? hr, rfl, rfl⟩, ?_⟩
        refine ⟨_, rfl, ?_⟩
        refine ite_f (rfl) ?_
        refine gs_nil ?_
        refine gs_nil ?_
        rfl
    · subst e
      refine gs_nil ?_
      exact ⟨rfl, rfl⟩
/-! choices_of -/
def N_choices_of : List Str := ["game", "net", "some", "states", "start", "goal", "ways"]
def P_choices_of (ds : List PyData) (d : PyData) : Prop := ∃ b : Bl, VS b ∧ ds = [gD b] ∧ d = .list (b.wss.map fun ws => .list (ws.map tD))
theorem sc_choices_of : FnScope N_choices_of ["game"] (defScope (topS 22)) := ⟨rfl, rfl, rfl, by decide +kernel, rfl, by decide +kernel, by decide +kernel⟩
theorem prod_len3 {l : List Nat} (h : ∀ x ∈ l, x ≤ 8) : l.foldl (· * ·) 1 ≤ 8 ^ l.length := by
  have key : ∀ (l : List Nat) (a : Nat), (∀ x ∈ l, x ≤ 8) → l.foldl (· * ·) a ≤ a * 8 ^ l.length := by
    intro l
    induction l with
    | nil => intro a _; simp
    | cons x l ih =>
      intro a h
      rw [List.foldl_cons, List.length_cons, Nat.pow_succ]
      refine Nat.le_trans (ih (a * x) fun y hy => h y (List.mem_cons_of_mem _ hy)) ?_
      have h1 : a * x ≤ a * 8 := Nat.mul_le_mul_left _ (h x List.mem_cons_self)
      have h2 := Nat.mul_le_mul_right (8 ^ l.length) h1
      rw [Nat.mul_assoc a 8, Nat.mul_comm 8] at h2
      exact h2
  have := key l 1 h
  rw [Nat.one_mul] at this
  exact this
theorem w_choices_of (T : Bt k) (F_net_of : Fn k 1 "net_of" (spP k P_net_of)) (F_all_ways : Fn k 2 "all_ways" (spP k P_all_ways)) (TB : k.Tb (cdOf N_choices_of (topS 22) 2 cdv)) (FC : FunC k.K "choices_of" (topS 22) f fd cdv) (hm : k.mg "choices_of" = some (.ref f)) : Fn k 3 "choices_of" (spP k P_choices_of) := by
  refine fn_def FC hm (FC.binds fun _ _ _ _ _ _ us hl => match us, hl with | [_], _ => rfl) sc_choices_of (fun ds d ⟨_, _, e, _⟩ => by rw [e]; rfl) fun ds d ⟨b, hs, e1, e2⟩ n => ?_
  subst e1; subst e2
  have hb := hs.toVB
  have p3 := hb.p3
  refine gs_cons ?_
  refine gs_parDMD 1 2 3 rfl rfl rfl (by decide) (by decide) (by decide) rfl rfl rfl ?_ (fun env h => by cases env; cases h; rfl)
  refine ge_call F_net_of (by dsimp only [cdOf, Cd.blk, Cd.gen]; decide +kernel) rfl ?_
  refine ga_cons ?_
  refine ge_nm 0 rfl (by first | exact Or.inl rfl | exact Or.inr (.inl rfl) | exact Or.inr (.inr rfl)) rfl ?_
  refine ga_nil ?_
  refine ⟨_, ⟨b, hb.r6, rfl, rfl⟩, ?_⟩
  refine ge_int ?_
  intro m
  refine gs_cons ?_
  refine gs_for [4, 5] ([4] ++ ([5] ++ ([]))) ?_
  refine gi_tup ?_
  refine ge_ixT ?_
  refine ge_nm 0 rfl (by first | exact Or.inl rfl | exact Or.inr (.inl rfl) | exact Or.inr (.inr rfl)) rfl ?_
  refine ge_int ?_
  refine ⟨_, _, _, rfl, rfl, rfl, ?_⟩
  refine ⟨_, rfl, ?_⟩
  refine ⟨fun i g => g = ⟨[.dat (gD b), .dat (netD b), .mu m ((b.wss.take i).map fun ws => .list (ws.map tD)), .dat (nD 1), .non, .non, .non], none⟩, rfl, fun i d g2 hd e => ?_, fun g2 e => ?_⟩
  · subst e
    rw [List.getElem?_map] at hd
    cases hr : b.ps[i]? with
    | none => rw [hr] at hd; cases hd
    | some p =>
      rw [hr] at hd; cases hd
      obtain ⟨p1, p2, _, _⟩ := hb.pl p (List.mem_of_getElem? hr)
      refine gg_tup ?_
      refine gg_cons ?_
      refine gg_name 4 rfl (by dsimp only [cdOf, Cd.blk, Cd.gen]; decide +kernel) ?_
      refine gg_cons ?_
      refine gg_name 5 rfl (by dsimp only [cdOf, Cd.blk, Cd.gen]; decide +kernel) ?_
      refine gg_nil ?_
      refine gs_cons ?_
      refine gs_app 2 rfl (by first | exact Or.inl rfl | exact Or.inr (.inl rfl) | exact Or.inr (.inr rfl)) ⟨_, _, rfl⟩ ?_
      refine ge_call F_all_ways (by dsimp only [cdOf, Cd.blk, Cd.gen]; decide +kernel) rfl ?_
      refine ga_cons ?_
      refine ge_nm 1 rfl (by first | exact Or.inl rfl | exact Or.inr (.inl rfl) | exact Or.inr (.inr rfl)) rfl ?_
      refine ga_cons ?_
      refine ge_nm 4 rfl (by first | exact Or.inl rfl | exact Or.inr (.inl rfl) | exact Or.inr (.inr rfl)) rfl ?_
      refine ga_cons ?_
      refine ge_nm 5 rfl (by first | exact Or.inl rfl | exact Or.inr (.inl rfl) | exact Or.inr (.inr rfl)) rfl ?_
      refine ga_nil ?_
      refine ⟨_, ⟨b, p.1, p.2, hb.n4, hb.r6, vb_lt hb, p1, rfl, rfl⟩, fun m' ds e => ?_⟩
      cases e
      refine ⟨?_, ?_⟩
      · rw [List.length_map, List.length_take]
        refine Nat.lt_of_le_of_lt (show _ ≤ 3 from Nat.le_trans (Nat.min_le_right _ _) ?_) (by decide)
        unfold Bl.wss; rw [List.length_map]; exact p3
      · refine gs_nil ?_
        have hw : b.wss[i]? = some (b.ws p) := by unfold Bl.wss; rw [List.getElem?_map, hr]; rfl
        show (_ : GS) = (_ : GS)
        rw [List.take_add_one, hw, List.map_append]
        rfl
  · subst e
    have e1 : (b.wss.take (b.ps.map pD).length) = b.wss := List.take_of_length_le (by unfold Bl.wss; rw [List.length_map, List.length_map]; exact Nat.le_refl _)
    refine gs_frz 2 rfl ?_
    rw [e1]
    have h8 : ∀ ws ∈ b.wss, ws.length ≤ 8 := fun ws hw => by
      obtain ⟨p, hp, rfl⟩ := List.mem_map.mp hw
      exact hs.w8 p hp
    refine gs_cons ?_
    refine gs_if ?_
    refine gt_val ?_
    refine ge_any [("ways", 6)] ([6] ++ ([])) TB (by dsimp only [cdOf, Cd.blk, Cd.gen]; decide +kernel) rfl T.any (by dsimp only [cdOf, Cd.blk, Cd.gen]; decide +kernel) (by decide) ?_
    refine gi_list ?_
    refine ge_nm 2 rfl (by first | exact Or.inl rfl | exact Or.inr (.inl rfl) | exact Or.inr (.inr rfl)) rfl ?_
    refine ⟨_, rfl, ?_⟩
    refine ⟨fun d => false, fun d => true, fun d hd => ?_, ?_⟩
    · obtain ⟨ws, hw, rfl⟩ := List.mem_map.mp hd
      have hl := h8 ws hw
      refine gg_name 6 rfl (by dsimp only [cdOf, Cd.blk, Cd.gen]; decide +kernel) ?_
      refine gps_nil ?_
      refine ite_t (rfl) ?_
      refine ge_gt ?_
      refine ge_len rfl T.len ?_
      refine ge_nm 6 rfl (by first | exact Or.inl rfl | exact Or.inr (.inl rfl) | exact Or.inr (.inr rfl)) rfl ?_
      refine ⟨_, (by first | exact Or.inl rfl | exact Or.inr rfl), ?_⟩
      refine ge_glN rfl T.choices ?_
      refine ⟨_, _, rfl, rfl, ?_⟩
      refine ⟨rfl, ?_, rfl⟩
      rw [List.length_map, decide_eq_false (by omega)]
    · refine ⟨_, rfl, ?_⟩
      refine ite_f (by simp) ?_
      refine gs_nil ?_
      refine gs_cons ?_
      refine gs_for [6] [6] ?_
      refine gi_list ?_
      refine ge_nm 2 rfl (by first | exact Or.inl rfl | exact Or.inr (.inl rfl) | exact Or.inr (.inr rfl)) rfl ?_
      refine ⟨_, rfl, ?_⟩
      refine ⟨fun i g => g = ⟨[.dat (gD b), .dat (netD b), .dat (.list (b.wss.map fun ws => .list (ws.map tD))), .dat (nD (((b.wss.take i).map List.length).foldl (· * ·) 1)), .non, .non, .non], none⟩, rfl, fun i d g2 hd e => ?_, fun g2 e => ?_⟩
      · subst e
        rw [List.getElem?_map] at hd
        cases hw : b.wss[i]? with
        | none => rw [hw] at hd; cases hd
        | some ws =>
          rw [hw] at hd; cases hd
          have hl := h8 ws (List.mem_of_getElem? hw)
          refine gg_name 6 rfl (by dsimp only [cdOf, Cd.blk, Cd.gen]; decide +kernel) ?_
          refine gs_cons ?_
          refine gs_set 3 rfl (by dsimp only [cdOf, Cd.blk, Cd.gen]; decide +kernel) ?_
          refine ge_mul ?_
          refine ge_nm 3 rfl (by first | exact Or.inl rfl | exact Or.inr (.inl rfl) | exact Or.inr (.inr rfl)) rfl ?_
          refine ge_len rfl T.len ?_
          refine ge_nm 6 rfl (by first | exact Or.inl rfl | exact Or.inr (.inl rfl) | exact Or.inr (.inr rfl)) rfl ?_
          refine ⟨_, (by first | exact Or.inl rfl | exact Or.inr rfl), ?_⟩
          refine ⟨_, _, rfl, rfl, ?_, ?_⟩
          · rw [List.length_map]; exact cm (by omega)
          · refine gs_nil ?_
            show (_ : GS) = (_ : GS)
            rw [List.take_add_one, hw, List.map_append, List.foldl_append, List.length_map]
            show (⟨[_, _, _, .dat (.int (((List.map List.length (List.take i b.wss)).foldl (· * ·) 1 : Nat) * (ws.length : Nat))), .non, .non, .non], none⟩ : GS) = ⟨[_, _, _, .dat (.int (((List.map List.length (List.take i b.wss)).foldl (· * ·) 1 * ws.length : Nat) : Int)), .non, .non, .non], none⟩
            rw [Int.natCast_mul]
      · subst e
        have hlen : (b.wss.map fun ws => PyData.list (ws.map tD)).length = b.wss.length := List.length_map ..
        rw [hlen, List.take_length]
        have hb2 := prod_len3 (l := b.wss.map List.length) fun x hx => by
          obtain ⟨ws, hw, rfl⟩ := List.mem_map.mp hx
          exact h8 ws hw
        have hb3 : 8 ^ (b.wss.map List.length).length ≤ 8 ^ 3 := Nat.pow_le_pow_right (by decide) (by unfold Bl.wss; simpa using p3)
        refine gs_cons ?_
        refine gs_if ?_
        refine gt_gt ?_
        refine ge_nm 3 rfl (by first | exact Or.inl rfl | exact Or.inr (.inl rfl) | exact Or.inr (.inr rfl)) rfl ?_
        refine ge_glN rfl T.states ?_
        refine ⟨_, _, rfl, rfl, ?_⟩
        refine ite_f (decide_eq_false (by omega)) ?_
        refine gs_nil ?_
        refine gs_cons ?_
        refine gs_ret ?_
        refine ge_nm 2 rfl (by first | exact Or.inl rfl | exact Or.inr (.inl rfl) | exact Or.inr (.inr rfl)) rfl ?_
        exact ⟨rfl, rfl⟩
end
end Wk
set_option Elab.async false
set_option linter.all false
set_option maxRecDepth 100000
set_option maxHeartbeats 4000000
namespace Wk
open PySem PySem.Spec PyProof.Rows L2 Gh Mir
section
variable {k : Kit} {f : Addr} {fd : FuncData} {cdv : Value}
/-- a state of the building: each player's way one of its ways -/
def isSt (b : Bl) (s : Stt) : Prop := s.length = b.ps.length ∧ ∀ (i : Nat) p w, b.ps[i]? = some p → s[i]? = some w → w ∈ b.ws p
theorem isSt.ix {b : Bl} (hb : VB b) {s : Stt} (h : isSt b s) {i : Nat} {w : List Nat} (hw : s[i]? = some w) : (∀ e ∈ w, e < b.rs.length) ∧ w.length ≤ 4 := by
  have hl := (List.getElem?_eq_some_iff.mp hw).1
  obtain ⟨p, hp⟩ : ∃ p, b.ps[i]? = some p := ⟨_, List.getElem?_eq_getElem (by rw [← h.1]; exact hl)⟩
  have hm := h.2 i p w hp hw
  have p1 := (hb.pl p (List.mem_of_getElem? hp)).1
  have h1 := ways_mem (es_lt (vb_lt hb)) p1 hm
  have h2 := ways_wl (es_lt (vb_lt hb)) p1 hm
  rw [es_len] at h1
  exact ⟨h1.2, Nat.le_trans h2 hb.n4⟩
theorem isSt.ix2 {b : Bl} (hb : VB b) {s : Stt} (h : isSt b s) {w : List Nat} (hw : w ∈ s) : (∀ e ∈ w, e < b.rs.length) ∧ w.length ≤ 4 := by
  obtain ⟨i, hi⟩ := List.mem_iff_getElem?.mp hw
  exact h.ix hb hi
theorem eqv_refl_nD : ∀ a : List Nat, PyData.eqvAll (a.map nD) (a.map nD) = true
  | [] => by unfold PyData.eqvAll; rfl
  | x :: a => by
    rw [List.map_cons]
    unfold PyData.eqvAll
    rw [eqv_refl_nD a, eqvN]
    simp
theorem eqv_refl_tD (a : List Nat) : PyData.eqv (tD a) (tD a) = true := by
  show PyData.eqv (.tuple (a.map nD)) (.tuple (a.map nD)) = true
  unfold PyData.eqv
  exact eqv_refl_nD a
theorem can_nD : ∀ a : List Nat, PyData.canLayAll0 (a.map nD) = true
  | [] => by unfold PyData.canLayAll0; rfl
  | x :: a => by
    rw [List.map_cons]
    unfold PyData.canLayAll0
    rw [can_nD a]
    show (PyData.canLay0 (.int _) && true) = true
    unfold PyData.canLay0
    rfl
theorem shaped_tD (a : List Nat) : SeqAt.shaped (tD a) = true := by
  unfold SeqAt.shaped
  rw [depth_tD]
  have : (tD a).canLay0 = true := by
    show PyData.canLay0 (.tuple (a.map nD)) = true
    unfold PyData.canLay0
    exact can_nD a
  rw [this]; rfl
theorem can_all {ds : List PyData} (h : ∀ d ∈ ds, d.canLay0 = true) : PyData.canLayAll0 ds = true := by
  induction ds with
  | nil => unfold PyData.canLayAll0; rfl
  | cons d ds ih =>
    unfold PyData.canLayAll0
    rw [h d List.mem_cons_self, ih fun x hx => h x (List.mem_cons_of_mem _ hx)]
    rfl
theorem depth_all {ds : List PyData} {m : Nat} (h : ∀ d ∈ ds, d.depth ≤ m) : PyData.depthAll ds ≤ m := by
  induction ds with
  | nil => unfold PyData.depthAll; exact Nat.zero_le _
  | cons d ds ih =>
    unfold PyData.depthAll
    exact Nat.max_le.mpr ⟨h d List.mem_cons_self, ih fun x hx => h x (List.mem_cons_of_mem _ hx)⟩
theorem canLay_tD (a : List Nat) : (tD a).canLay0 = true := SeqAt.canLay_of_shaped (shaped_tD a)
theorem shaped_ws (ws : Stt) : SeqAt.shaped (.list (ws.map tD)) = true := by
  unfold SeqAt.shaped
  have h1 : PyData.canLay0 (.list (ws.map tD)) = true := by
    unfold PyData.canLay0
    exact can_all fun d hd => by
      obtain ⟨w, _, rfl⟩ := List.mem_map.mp hd
      exact canLay_tD w
  have h2 : PyData.depth (.list (ws.map tD)) ≤ 64 := by
    unfold PyData.depth
    have := depth_all (ds := ws.map tD) (m := 1) fun d hd => by
      obtain ⟨w, _, rfl⟩ := List.mem_map.mp hd
      rw [depth_tD]; exact Nat.le_refl _
    omega
  rw [h1, decide_eq_true h2]; rfl
/-! is_state -/
def N_is_state : List Str := ["game", "value", "start", "goal", "way", "one"]
def P_is_state (ds : List PyData) (d : PyData) : Prop := ∃ (b : Bl) (s : Stt), VB b ∧ isSt b s ∧ ds = [gD b, stD s] ∧ d = .bool true
theorem sc_is_state : FnScope N_is_state ["game", "value"] (defScope (topS 23)) := ⟨rfl, rfl, rfl, by decide +kernel, rfl, by decide +kernel, by decide +kernel⟩
theorem w_is_state (T : Bt k) (F_is_in : Fn k 1 "is_in" (spP k P_is_in)) (F_net_of : Fn k 1 "net_of" (spP k P_net_of)) (F_all_ways : Fn k 2 "all_ways" (spP k P_all_ways)) (TB : k.Tb (cdOf N_is_state (topS 23) 2 cdv)) (FC : FunC k.K "is_state" (topS 23) f fd cdv) (hm : k.mg "is_state" = some (.ref f)) : Fn k 3 "is_state" (spP k P_is_state) := by
  refine fn_def FC hm (FC.binds fun _ _ _ _ _ _ us hl => match us, hl with | [_, _], _ => rfl) sc_is_state (fun ds d ⟨_, _, _, _, e, _⟩ => by rw [e]; rfl) fun ds d ⟨b, s, hb, hst, e1, e2⟩ n => ?_
  subst e1; subst e2
  refine gs_cons ?_
  refine gs_if ?_
  refine gt_w ?_
  refine gw_or ?_
  refine gt_not ?_
  refine gt_val ?_
  refine ge_isi rfl T.isi rfl T.tuple bt_tuple ty_tuple ?_
  refine ge_nm 1 rfl (by first | exact Or.inl rfl | exact Or.inr (.inl rfl) | exact Or.inr (.inr rfl)) rfl ?_
  refine ⟨_, rfl, ?_⟩
  refine ite_f (rfl) ?_
  refine gw_or1 ?_
  refine gt_ne ?_
  refine ge_len rfl T.len ?_
  refine ge_nm 1 rfl (by first | exact Or.inl rfl | exact Or.inr (.inl rfl) | exact Or.inr (.inr rfl)) rfl ?_
  refine ⟨_, (by first | exact Or.inl rfl | exact Or.inr rfl), ?_⟩
  refine ge_len rfl T.len ?_
  refine ge_ixT ?_
  refine ge_nm 0 rfl (by first | exact Or.inl rfl | exact Or.inr (.inl rfl) | exact Or.inr (.inr rfl)) rfl ?_
  refine ge_int ?_
  refine ⟨_, _, _, rfl, rfl, rfl, ?_⟩
  refine ⟨_, (by first | exact Or.inl rfl | exact Or.inr rfl), ?_⟩
  refine ⟨rfl, rfl, ?_⟩
  rw [List.length_map, List.length_map]
  refine ite_f (by rw [eqvN, decide_eq_true hst.1]; rfl) ?_
  refine gs_nil ?_
  refine gs_cons ?_
  refine gs_for [2, 3, 4] ((([2] ++ ([3] ++ ([])))) ++ (([4] ++ ([])))) ?_
  refine gi_zip rfl T.zip ?_
  refine ge_ixT ?_
  refine ge_nm 0 rfl (by first | exact Or.inl rfl | exact Or.inr (.inl rfl) | exact Or.inr (.inr rfl)) rfl ?_
  refine ge_int ?_
  refine ⟨_, _, _, rfl, rfl, rfl, ?_⟩
  refine ge_nm 1 rfl (by first | exact Or.inl rfl | exact Or.inr (.inl rfl) | exact Or.inr (.inr rfl)) rfl ?_
  refine ⟨_, _, (by first | exact Or.inl rfl | exact Or.inr rfl), (by first | exact Or.inl rfl | exact Or.inr rfl), ?_⟩
  refine ⟨fun i g => g = ⟨[.dat (gD b), .dat (stD s), .non, .non, .non, .non], none⟩, rfl, fun i d g2 hd e => ?_, fun g2 e => ?_⟩
  · subst e
    unfold zipD at hd
    rw [List.getElem?_zipWith, List.getElem?_map, List.getElem?_map] at hd
    cases hp : b.ps[i]? with
    | none => rw [hp] at hd; cases hd
    | some p =>
      cases hw : s[i]? with
      | none => rw [hp, hw] at hd; cases hd
      | some w =>
        rw [hp, hw] at hd; cases hd
        obtain ⟨p1, p2, _, _⟩ := hb.pl p (List.mem_of_getElem? hp)
        have hix := hst.ix hb hw
        have hmem := hst.2 i p w hp hw
        refine gg_tup ?_
        refine gg_cons ?_
        refine gg_tup ?_
        refine gg_cons ?_
        refine gg_name 2 rfl (by dsimp only [cdOf, Cd.blk, Cd.gen]; decide +kernel) ?_
        refine gg_cons ?_
        refine gg_name 3 rfl (by dsimp only [cdOf, Cd.blk, Cd.gen]; decide +kernel) ?_
        refine gg_nil ?_
        refine gg_cons ?_
        refine gg_name 4 rfl (by dsimp only [cdOf, Cd.blk, Cd.gen]; decide +kernel) ?_
        refine gg_nil ?_
        refine gs_cons ?_
        refine gs_if ?_
        refine gt_w ?_
        refine gw_or ?_
        refine gt_not ?_
        refine gt_val ?_
        refine ge_isi rfl T.isi rfl T.tuple bt_tuple ty_tuple ?_
        refine ge_nm 4 rfl (by first | exact Or.inl rfl | exact Or.inr (.inl rfl) | exact Or.inr (.inr rfl)) rfl ?_
        refine ⟨_, rfl, ?_⟩
        refine ite_f (rfl) ?_
        refine gw_or1 ?_
        refine gt_not ?_
        refine gt_val ?_
        refine ge_all [("one", 5)] ([5] ++ ([])) TB (by dsimp only [cdOf, Cd.blk, Cd.gen]; decide +kernel) rfl T.all bt_all (by dsimp only [cdOf, Cd.blk, Cd.gen]; decide +kernel) (by decide) ?_
        refine gi_tup ?_
        refine ge_nm 4 rfl (by first | exact Or.inl rfl | exact Or.inr (.inl rfl) | exact Or.inr (.inr rfl)) rfl ?_
        refine ⟨_, rfl, ?_⟩
        refine ⟨fun d => true, fun d => true, fun d hd => ?_, ?_⟩
        · obtain ⟨x, hx, rfl⟩ := List.mem_map.mp hd
          have := hix.1 x hx
          have := hb.r6
          refine gg_name 5 rfl (by dsimp only [cdOf, Cd.blk, Cd.gen]; decide +kernel) ?_
          refine gps_nil ?_
          refine ite_t (rfl) ?_
          refine ge_call F_is_in (by dsimp only [cdOf, Cd.blk, Cd.gen]; decide +kernel) rfl ?_
          refine ga_cons ?_
          refine ge_nm 5 rfl (by first | exact Or.inl rfl | exact Or.inr (.inl rfl) | exact Or.inr (.inr rfl)) rfl ?_
          refine ga_cons ?_
          refine ge_int ?_
          refine ga_cons ?_
          refine ge_glN rfl T.roads ?_
          refine ga_nil ?_
          refine ⟨_, ⟨_, _, _, rfl, rfl⟩, rfl, ?_, rfl⟩
          rw [decide_eq_true (by omega), decide_eq_true (by omega)]; rfl
        · refine ⟨_, rfl, ?_⟩
          refine ite_f (by simp) ?_
          refine gs_nil ?_
          refine gs_cons ?_
          refine gs_if ?_
          refine gt_niD (by dsimp only [cdOf, Cd.blk, Cd.gen]; decide +kernel) ?_
          refine ge_nm 4 rfl (by first | exact Or.inl rfl | exact Or.inr (.inl rfl) | exact Or.inr (.inr rfl)) rfl ?_
          refine ge_call F_all_ways (by dsimp only [cdOf, Cd.blk, Cd.gen]; decide +kernel) rfl ?_
          refine ga_cons ?_
          refine ge_call F_net_of (by dsimp only [cdOf, Cd.blk, Cd.gen]; decide +kernel) rfl ?_
          refine ga_cons ?_
          refine ge_nm 0 rfl (by first | exact Or.inl rfl | exact Or.inr (.inl rfl) | exact Or.inr (.inr rfl)) rfl ?_
          refine ga_nil ?_
          refine ⟨_, ⟨b, hb.r6, rfl, rfl⟩, ?_⟩
          refine ga_cons ?_
          refine ge_nm 2 rfl (by first | exact Or.inl rfl | exact Or.inr (.inl rfl) | exact Or.inr (.inr rfl)) rfl ?_
          refine ga_cons ?_
          refine ge_nm 3 rfl (by first | exact Or.inl rfl | exact Or.inr (.inl rfl) | exact Or.inr (.inr rfl)) rfl ?_
          refine ga_nil ?_
          refine ⟨_, ⟨b, p.1, p.2, hb.n4, hb.r6, vb_lt hb, p1, rfl, rfl⟩, ?_⟩
          refine ⟨_, rfl, shaped_tD _, shaped_ws _, ?_⟩
          have ha : (((ways b.n b.es p.1 p.2).map tD).any fun z => PyData.eqv z (tD w)) = true := List.any_eq_true.mpr ⟨tD w, List.mem_map.mpr ⟨w, hmem, rfl⟩, eqv_refl_tD w⟩
          rw [ha]
          refine ite_f (rfl) ?_
          refine gs_nil ?_
          refine gs_nil ?_
          rfl
  · subst e
    refine gs_cons ?_
    refine gs_ret ?_
    refine ge_bl ?_
    exact ⟨rfl, rfl⟩
/-! loads_of -/
def N_loads_of : List Str := ["game", "state", "weights", "index", "way", "weight"]
def P_loads_of (ds : List PyData) (d : PyData) : Prop := ∃ (b : Bl) (s : Stt), VB b ∧ s.length = b.ps.length ∧ ds = [gD b, stD s, .tuple (b.ps.map fun _ => .int 1)] ∧ d = .list ((List.range b.rs.length).map fun i => nD (Mir.cnt s i))
theorem sc_loads_of : FnScope N_loads_of ["game", "state", "weights"] (defScope (topS 24)) := ⟨rfl, rfl, rfl, by decide +kernel, rfl, by decide +kernel, by decide +kernel⟩
theorem cnt_sum (i : Nat) : ∀ s : Stt, (s.map fun w => if i ∈ w then (1 : Int) else 0).sum = (Mir.cnt s i : Int)
  | [] => rfl
  | w :: s => by
    have ih := cnt_sum i s
    rw [List.map_cons, List.sum_cons, ih]
    unfold Mir.cnt
    rw [List.filter_cons]
    by_cases h : i ∈ w
    · rw [if_pos h, if_pos (decide_eq_true h), List.length_cons]; omega
    · rw [if_neg h, if_neg (by rw [decide_eq_false h]; decide)]; omega
theorem zip_ones : ∀ (s : Stt) (ps : List (Nat × Nat)), s.length = ps.length → zipD (s.map tD) (ps.map fun _ => .int 1) = s.map fun w => .tuple [tD w, .int 1]
  | [], ps, h => by cases ps <;> rfl
  | w :: s, [], h => by simp at h
  | w :: s, p :: ps, h => by
    have ih := zip_ones s ps (by simpa using h)
    unfold zipD at ih ⊢
    rw [List.map_cons, List.map_cons, List.zipWith_cons_cons, ih, List.map_cons]
def ldF (i : Nat) : PyData → Int
  | .tuple [a, _] => if i ∈ unT a then 1 else 0
  | _ => 0
theorem ldF_w (i : Nat) (w : List Nat) : ldF i (.tuple [tD w, .int 1]) = if i ∈ w then 1 else 0 := by
  show (if i ∈ unT (tD w) then (1 : Int) else 0) = _
  rw [unT_tD]
theorem w_loads_of (T : Bt k) (TB : k.Tb (cdOf N_loads_of (topS 24) 1 cdv)) (FC : FunC k.K "loads_of" (topS 24) f fd cdv) (hm : k.mg "loads_of" = some (.ref f)) : Fn k 2 "loads_of" (spP k P_loads_of) := by
  refine fn_def FC hm (FC.binds fun _ _ _ _ _ _ us hl => match us, hl with | [_, _, _], _ => rfl) sc_loads_of (fun ds d ⟨_, _, _, _, e, _⟩ => by rw [e]; rfl) fun ds d ⟨b, s, hb, hst, e1, e2⟩ n => ?_
  subst e1; subst e2
  have r6 := hb.r6
  have hsz : b.rs.length ≤ sizeLine := Nat.le_trans r6 (by decide)
  refine gs_cons ?_
  refine gs_ret ?_
  refine ge_lc [("index", 3)] ([3] ++ ([])) (by dsimp only [cdOf, Cd.blk, Cd.gen]; decide +kernel) (by decide) (lcH_f (fun d => some (nD (Mir.cnt s (unN d)))) ?_)
  refine gi_rng1 rfl T.range ?_
  refine ge_len rfl T.len ?_
  refine ge_ixT ?_
  refine ge_nm 0 rfl (by first | exact Or.inl rfl | exact Or.inr (.inl rfl) | exact Or.inr (.inr rfl)) rfl ?_
  refine ge_int ?_
  refine ⟨_, _, _, rfl, rfl, rfl, ?_⟩
  refine ⟨_, (by first | exact Or.inl rfl | exact Or.inr rfl), ?_⟩
  rw [List.length_map]
  refine ⟨_, rfl, by omega, by omega, ?_⟩
  have e0 : ((b.rs.length : Nat) : Int).toNat = b.rs.length := by omega
  rw [e0]
  refine ⟨fun d hd => ?_, by rw [rngD_len]; exact hsz, ?_, rfl⟩
  · obtain ⟨i, hi⟩ := List.mem_iff_getElem?.mp hd
    obtain ⟨h3, rfl⟩ := rngD_get hi
    have e0 : (0 : Int) + (i : Nat) = (i : Int) := by omega
    rw [e0]
    refine gg_name 3 rfl (by dsimp only [cdOf, Cd.blk, Cd.gen]; decide +kernel) ?_
    refine gps_nil ?_
    refine ite_t (rfl) ?_
    refine ge_sumG [("way", 4), ("weight", 5)] ([4] ++ ([5] ++ ([]))) TB (by dsimp only [cdOf, Cd.blk, Cd.gen]; decide +kernel) rfl T.sum (by dsimp only [cdOf, Cd.blk, Cd.gen]; decide +kernel) (by decide) ?_
    refine gi_zip rfl T.zip ?_
    refine ge_nm 1 rfl (by first | exact Or.inl rfl | exact Or.inr (.inl rfl) | exact Or.inr (.inr rfl)) rfl ?_
    refine ge_nm 2 rfl (by first | exact Or.inl rfl | exact Or.inr (.inl rfl) | exact Or.inr (.inr rfl)) rfl ?_
    refine ⟨_, _, (by first | exact Or.inl rfl | exact Or.inr rfl), (by first | exact Or.inl rfl | exact Or.inr rfl), ?_⟩
    rw [zip_ones s b.ps hst]
    refine ⟨ldF i, fun d hd => ?_, ?_, rfl⟩
    · obtain ⟨w, hw, rfl⟩ := List.mem_map.mp hd
      refine gg_tup ?_
      refine gg_cons ?_
      refine gg_name 4 rfl (by dsimp only [cdOf, Cd.blk, Cd.gen]; decide +kernel) ?_
      refine gg_cons ?_
      refine gg_name 5 rfl (by dsimp only [cdOf, Cd.blk, Cd.gen]; decide +kernel) ?_
      refine gg_nil ?_
      refine gps_one ?_
      refine gt_inT ?_
      refine ge_nm 3 rfl (by first | exact Or.inl rfl | exact Or.inr (.inl rfl) | exact Or.inr (.inr rfl)) rfl ?_
      refine ge_nm 4 rfl (by first | exact Or.inl rfl | exact Or.inr (.inl rfl) | exact Or.inr (.inr rfl)) rfl ?_
      refine ⟨_, w.map (fun n : Nat => (n : Int)), rfl, tD_ints _, ?_⟩
      rw [memN]
      refine ite_b (fun h => ?_) (fun h => ?_)
      · refine ge_nm 5 rfl (by first | exact Or.inl rfl | exact Or.inr (.inl rfl) | exact Or.inr (.inr rfl)) rfl ?_
        refine ⟨rfl, ?_⟩
        rw [ldF_w, if_pos (of_decide_eq_true h)]
      · refine ⟨rfl, ?_⟩
        rw [ldF_w, if_neg (of_decide_eq_false h)]
    · have e1 : ((s.map fun w => PyData.tuple [tD w, .int 1]).map (ldF i)) = s.map fun w => if i ∈ w then (1 : Int) else 0 := by
        rw [List.map_map]
        exact List.map_congr_left fun w _ => ldF_w i w
      rw [e1, cnt_sum]
      rfl
  · unfold rngD
    rw [List.filterMap_map]
    have e1 : ((fun d => some (nD (Mir.cnt s (unN d)))) ∘ fun i : Nat => PyData.int (0 + (i : Nat))) = fun i : Nat => some (nD (Mir.cnt s i)) := by
      funext i
      show some (nD (Mir.cnt s (unN (.int (0 + (i : Nat)))))) = _
      have : unN (.int (0 + (i : Nat))) = i := by show ((0 : Int) + (i : Nat)).toNat = i; omega
      rw [this]
    rw [e1, List.filterMap_eq_map']
/-! as_game -/
def N_as_game : List Str := ["building", "roads", "one", "is_road", "player"]
def P_as_game (ds : List PyData) (d : PyData) : Prop := ∃ b : Bl, VB b ∧ ds = [bD b] ∧ d = gD b
theorem sc_as_game : FnScope N_as_game ["building"] (defScope (topS 36)) := ⟨rfl, rfl, rfl, by decide +kernel, rfl, by decide +kernel, by decide +kernel⟩
theorem w_as_game (T : Bt k) (F_is_in : Fn k 1 "is_in" (spP k P_is_in)) (FC : FunC k.K "as_game" (topS 36) f fd cdv) (hm : k.mg "as_game" = some (.ref f)) : Fn k 2 "as_game" (spP k P_as_game) := by
  refine fn_def FC hm (FC.binds fun _ _ _ _ _ _ us hl => match us, hl with | [_], _ => rfl) sc_as_game (fun ds d ⟨_, _, e, _⟩ => by rw [e]; rfl) fun ds d ⟨b, hb, e1, e2⟩ n => ?_
  subst e1; subst e2
  have r6 := hb.r6
  have p3 := hb.p3
  refine gs_cons ?_
  refine gs_new 1 rfl (by dsimp only [cdOf, Cd.blk, Cd.gen]; decide +kernel) ?_
  refine ga_nil ?_
  refine ⟨(show 0 ≤ sizeLine by decide), fun m => ?_⟩
  refine gs_cons ?_
  refine gs_for [2, 3] [2] ?_
  refine gi_tup ?_
  refine ge_ixT ?_
  refine ge_nm 0 rfl (by first | exact Or.inl rfl | exact Or.inr (.inl rfl) | exact Or.inr (.inr rfl)) rfl ?_
  refine ge_int ?_
  refine ⟨_, _, _, rfl, rfl, rfl, ?_⟩
  refine ⟨_, rfl, ?_⟩
  refine ⟨fun i g => g = ⟨[.dat (bD b), .mu m ((b.rs.take i).map (rG b.ps.length)), .non, .non, .non], none⟩, rfl, fun i d g2 hd e => ?_, fun g2 e => ?_⟩
  · subst e
    rw [List.getElem?_map] at hd
    cases hr : b.rs[i]? with
    | none => rw [hr] at hd; cases hd
    | some r =>
      rw [hr] at hd; cases hd
      obtain ⟨q1, q2, q3, q4⟩ := hb.rd r (List.mem_of_getElem? hr)
      refine gg_name 2 rfl (by dsimp only [cdOf, Cd.blk, Cd.gen]; decide +kernel) ?_
      refine gs_cons ?_
      refine gs_set 3 rfl (by dsimp only [cdOf, Cd.blk, Cd.gen]; decide +kernel) ?_
      refine ge_and ?_
      refine ge_isi rfl T.isi rfl T.tuple bt_tuple ty_tuple ?_
      refine ge_nm 2 rfl (by first | exact Or.inl rfl | exact Or.inr (.inl rfl) | exact Or.inr (.inr rfl)) rfl ?_
      refine ⟨_, rfl, ?_⟩
      refine ite_t (rfl) ?_
      refine ge_and ?_
      refine ge_eq ?_
      refine ge_len rfl T.len ?_
      refine ge_nm 2 rfl (by first | exact Or.inl rfl | exact Or.inr (.inl rfl) | exact Or.inr (.inr rfl)) rfl ?_
      refine ⟨_, (by first | exact Or.inl rfl | exact Or.inr rfl), ?_⟩
      refine ge_int ?_
      refine ⟨rfl, rfl, ?_⟩
      refine ⟨_, rfl, ?_⟩
      refine ite_t (rfl) ?_
      refine ge_one ?_
      refine ge_call F_is_in (by dsimp only [cdOf, Cd.blk, Cd.gen]; decide +kernel) rfl ?_
      refine ga_cons ?_
      refine ge_ixT ?_
      refine ge_nm 2 rfl (by first | exact Or.inl rfl | exact Or.inr (.inl rfl) | exact Or.inr (.inr rfl)) rfl ?_
      refine ge_int ?_
      refine ⟨_, _, _, rfl, rfl, rfl, ?_⟩
      refine ga_cons ?_
      refine ge_int ?_
      refine ga_cons ?_
      refine ge_glN rfl T.cost ?_
      refine ga_nil ?_
      refine ⟨_, ⟨_, _, _, rfl, rfl⟩, ?_⟩
      rw [decide_eq_true (by omega), decide_eq_true (by omega)]
      refine gs_cons ?_
      refine gs_app 1 rfl (by first | exact Or.inl rfl | exact Or.inr (.inl rfl) | exact Or.inr (.inr rfl)) ⟨_, _, rfl⟩ ?_
      refine ge_if ?_
      refine gt_val ?_
      refine ge_nm 3 rfl (by first | exact Or.inl rfl | exact Or.inr (.inl rfl) | exact Or.inr (.inr rfl)) rfl ?_
      refine ⟨_, rfl, ?_⟩
      refine ite_t (rfl) ?_
      refine ge_tup ?_
      refine ga_cons ?_
      refine ge_ixT ?_
      refine ge_nm 2 rfl (by first | exact Or.inl rfl | exact Or.inr (.inl rfl) | exact Or.inr (.inr rfl)) rfl ?_
      refine ge_int ?_
      refine ⟨_, _, _, rfl, rfl, rfl, ?_⟩
      refine ga_cons ?_
      refine ge_ixT ?_
      refine ge_nm 2 rfl (by first | exact Or.inl rfl | exact Or.inr (.inl rfl) | exact Or.inr (.inr rfl)) rfl ?_
      refine ge_int ?_
      refine ⟨_, _, _, rfl, rfl, rfl, ?_⟩
      refine ga_cons ?_
      refine ge_tupleOf rfl T.tuple ?_
      refine ge_lc [("player", 4)] ([4] ++ ([])) (by dsimp only [cdOf, Cd.blk, Cd.gen]; decide +kernel) (by decide) (lcH_f (fun d => some (nD r.2.2)) ?_)
      refine gi_tup ?_
      refine ge_ixT ?_
      refine ge_nm 0 rfl (by first | exact Or.inl rfl | exact Or.inr (.inl rfl) | exact Or.inr (.inr rfl)) rfl ?_
      refine ge_int ?_
      refine ⟨_, _, _, rfl, rfl, rfl, ?_⟩
      refine ⟨_, rfl, ?_⟩
      refine ⟨fun d hd => ?_, ?_, ?_⟩
      · refine gg_name 4 rfl (by dsimp only [cdOf, Cd.blk, Cd.gen]; decide +kernel) ?_
        refine gps_nil ?_
        refine ite_t (rfl) ?_
        refine ge_ixT ?_
        refine ge_nm 2 rfl (by first | exact Or.inl rfl | exact Or.inr (.inl rfl) | exact Or.inr (.inr rfl)) rfl ?_
        refine ge_int ?_
        refine ⟨_, _, _, rfl, rfl, rfl, ?_⟩
        exact ⟨rfl, rfl⟩
      · rw [List.length_map]; exact Nat.le_trans p3 (by decide)
      · refine ⟨_, .inl rfl, ?_⟩
        have e : ∀ l : List (Nat × Nat), (l.map pD).filterMap (fun d => some (nD r.2.2)) = List.replicate l.length (nD r.2.2) := fun l => by
          induction l with
          | nil => rfl
          | cons x l ih => rw [List.map_cons, List.filterMap_cons]; simp only [ih, List.length_cons, List.replicate_succ]
        rw [e]
        refine ga_nil ?_
        refine ⟨(show 3 ≤ sizeLine by decide), ?_⟩
        intro m' ds e
        cases e
        refine ⟨?_, ?_⟩
        · rw [List.length_map, List.length_take]; exact Nat.lt_of_le_of_lt (show _ ≤ 6 by omega) (by decide)
        · refine gs_nil ?_
          show (_ : GS) = (_ : GS)
          rw [List.take_add_one, hr, List.map_append]
          rfl
  · subst e
    have e1 : b.rs.take (b.rs.map rB).length = b.rs := List.take_of_length_le (by rw [List.length_map]; exact Nat.le_refl _)
    rw [e1]
    refine gs_frz 1 rfl ?_
    refine gs_cons ?_
    refine gs_ret ?_
    refine ge_tup ?_
    refine ga_cons ?_
    refine ge_ixT ?_
    refine ge_nm 0 rfl (by first | exact Or.inl rfl | exact Or.inr (.inl rfl) | exact Or.inr (.inr rfl)) rfl ?_
    refine ge_int ?_
    refine ⟨_, _, _, rfl, rfl, rfl, ?_⟩
    refine ga_cons ?_
    refine ge_tupleOf rfl T.tuple ?_
    refine ge_nm 1 rfl (by first | exact Or.inl rfl | exact Or.inr (.inl rfl) | exact Or.inr (.inr rfl)) rfl ?_
    refine ⟨_, (by first | exact Or.inl rfl | exact Or.inr rfl), ?_⟩
    refine ga_cons ?_
    refine ge_ixT ?_
    refine ge_nm 0 rfl (by first | exact Or.inl rfl | exact Or.inr (.inl rfl) | exact Or.inr (.inr rfl)) rfl ?_
    refine ge_int ?_
    refine ⟨_, _, _, rfl, rfl, rfl, ?_⟩
    refine ga_nil ?_
    refine ⟨(show 3 ≤ sizeLine by decide), ?_⟩
    exact ⟨rfl, rfl⟩
/-! need_building, need_built -/
def N_need_building : List Str := ["building", "game", "bad", "error"]
def P_need_building (ds : List PyData) (d : PyData) : Prop := ∃ b : Bl, VB b ∧ ds = [bD b] ∧ d = gD b
theorem sc_need_building : FnScope N_need_building ["building"] (defScope (topS 37)) := ⟨rfl, rfl, rfl, by decide +kernel, rfl, by decide +kernel, by decide +kernel⟩
theorem w_need_building (T : Bt k) (F_as_game : Fn k 2 "as_game" (spP k P_as_game)) (F_need_game : Fn k 5 "need_game" (spP k P_need_game)) (FC : FunC k.K "need_building" (topS 37) f fd cdv) (hm : k.mg "need_building" = some (.ref f)) : Fn k 6 "need_building" (spP k P_need_building) := by
  refine fn_def FC hm (FC.binds fun _ _ _ _ _ _ us hl => match us, hl with | [_], _ => rfl) sc_need_building (fun ds d ⟨_, _, e, _⟩ => by rw [e]; rfl) fun ds d ⟨b, hb, e1, e2⟩ n => ?_
  subst e1; subst e2
  refine gs_cons ?_
  refine gs_if ?_
  refine gt_w ?_
  refine gw_or ?_
  refine gt_not ?_
  refine gt_val ?_
  refine ge_isi rfl T.isi rfl T.tuple bt_tuple ty_tuple ?_
  refine ge_nm 0 rfl (by first | exact Or.inl rfl | exact Or.inr (.inl rfl) | exact Or.inr (.inr rfl)) rfl ?_
  refine ⟨_, rfl, ?_⟩
  refine ite_f (rfl) ?_
  refine gw_or1 ?_
  refine gt_ne ?_
  refine ge_len rfl T.len ?_
  refine ge_nm 0 rfl (by first | exact Or.inl rfl | exact Or.inr (.inl rfl) | exact Or.inr (.inr rfl)) rfl ?_
  refine ⟨_, (by first | exact Or.inl rfl | exact Or.inr rfl), ?_⟩
  refine ge_int ?_
  refine ⟨rfl, rfl, ?_⟩
  refine ite_f (rfl) ?_
  refine gs_nil ?_
  refine gs_cons ?_
  refine gs_if ?_
  refine gt_w ?_
  refine gw_or ?_
  refine gt_not ?_
  refine gt_val ?_
  refine ge_isi rfl T.isi rfl T.tuple bt_tuple ty_tuple ?_
  refine ge_ixT ?_
  refine ge_nm 0 rfl (by first | exact Or.inl rfl | exact Or.inr (.inl rfl) | exact Or.inr (.inr rfl)) rfl ?_
  refine ge_int ?_
  refine ⟨_, _, _, rfl, rfl, rfl, ?_⟩
  refine ⟨_, rfl, ?_⟩
  refine ite_f (rfl) ?_
  refine gw_or1 ?_
  refine gt_not ?_
  refine gt_val ?_
  refine ge_isi rfl T.isi rfl T.tuple bt_tuple ty_tuple ?_
  refine ge_ixT ?_
  refine ge_nm 0 rfl (by first | exact Or.inl rfl | exact Or.inr (.inl rfl) | exact Or.inr (.inr rfl)) rfl ?_
  refine ge_int ?_
  refine ⟨_, _, _, rfl, rfl, rfl, ?_⟩
  refine ⟨_, rfl, ?_⟩
  refine ite_f (rfl) ?_
  refine gs_nil ?_
  refine gs_cons ?_
  refine gs_par 1 2 rfl rfl (by decide) rfl rfl ?_ (fun env h => by cases env; cases h; rfl)
  refine ga_cons ?_
  refine ge_call F_as_game (by dsimp only [cdOf, Cd.blk, Cd.gen]; decide +kernel) rfl ?_
  refine ga_cons ?_
  refine ge_nm 0 rfl (by first | exact Or.inl rfl | exact Or.inr (.inl rfl) | exact Or.inr (.inr rfl)) rfl ?_
  refine ga_nil ?_
  refine ⟨_, ⟨b, hb, rfl, rfl⟩, ?_⟩
  refine ga_cons ?_
  refine ge_lst ?_
  refine ga_nil ?_
  refine ⟨(show 0 ≤ sizeLine by decide), ?_⟩
  refine ga_nil ?_
  refine ⟨_, _, rfl, ?_⟩
  refine gs_cons ?_
  refine gs_try ?_
  refine gs_cons ?_
  refine gs_expr ?_
  refine ge_call F_need_game (by dsimp only [cdOf, Cd.blk, Cd.gen]; decide +kernel) rfl ?_
  refine ga_cons ?_
  refine ge_nm 1 rfl (by first | exact Or.inl rfl | exact Or.inr (.inl rfl) | exact Or.inr (.inr rfl)) rfl ?_
  refine ga_cons ?_
  refine ge_non ?_
  refine ga_nil ?_
  refine ⟨_, ⟨b, hb, rfl, rfl⟩, ?_⟩
  refine gs_nil ?_
  refine gs_cons ?_
  refine gs_if ?_
  refine gt_truL ?_
  refine ge_nm 2 rfl (by first | exact Or.inl rfl | exact Or.inr (.inl rfl) | exact Or.inr (.inr rfl)) rfl ?_
  refine ⟨_, rfl, ?_⟩
  refine ite_f (rfl) ?_
  refine gs_nil ?_
  refine gs_cons ?_
  refine gs_ret ?_
  refine ge_nm 1 rfl (by first | exact Or.inl rfl | exact Or.inr (.inl rfl) | exact Or.inr (.inr rfl)) rfl ?_
  exact ⟨rfl, rfl⟩
def N_need_built : List Str := ["building", "state", "game"]
def P_need_built (ds : List PyData) (d : PyData) : Prop := ∃ (b : Bl) (s : Stt), VS b ∧ isSt b s ∧ ds = [bD b, stD s] ∧ d = gD b
theorem sc_need_built : FnScope N_need_built ["building", "state"] (defScope (topS 38)) := ⟨rfl, rfl, rfl, by decide +kernel, rfl, by decide +kernel, by decide +kernel⟩
theorem w_need_built (T : Bt k) (F_need_building : Fn k 6 "need_building" (spP k P_need_building)) (F_is_state : Fn k 3 "is_state" (spP k P_is_state)) (F_choices_of : Fn k 3 "choices_of" (spP k P_choices_of)) (FC : FunC k.K "need_built" (topS 38) f fd cdv) (hm : k.mg "need_built" = some (.ref f)) : Fn k 7 "need_built" (spP k P_need_built) := by
  refine fn_def FC hm (FC.binds fun _ _ _ _ _ _ us hl => match us, hl with | [_, _], _ => rfl) sc_need_built (fun ds d ⟨_, _, _, _, e, _⟩ => by rw [e]; rfl) fun ds d ⟨b, s, hb, hs, e1, e2⟩ n => ?_
  subst e1; subst e2
  refine gs_cons ?_
  refine gs_set 2 rfl (by dsimp only [cdOf, Cd.blk, Cd.gen]; decide +kernel) ?_
  refine ge_call F_need_building (by dsimp only [cdOf, Cd.blk, Cd.gen]; decide +kernel) rfl ?_
  refine ga_cons ?_
  refine ge_nm 0 rfl (by first | exact Or.inl rfl | exact Or.inr (.inl rfl) | exact Or.inr (.inr rfl)) rfl ?_
  refine ga_nil ?_
  refine ⟨_, ⟨b, hb.toVB, rfl, rfl⟩, ?_⟩
  refine gs_cons ?_
  refine gs_if ?_
  refine gt_not ?_
  refine gt_val ?_
  refine ge_call F_is_state (by dsimp only [cdOf, Cd.blk, Cd.gen]; decide +kernel) rfl ?_
  refine ga_cons ?_
  refine ge_nm 2 rfl (by first | exact Or.inl rfl | exact Or.inr (.inl rfl) | exact Or.inr (.inr rfl)) rfl ?_
  refine ga_cons ?_
  refine ge_nm 1 rfl (by first | exact Or.inl rfl | exact Or.inr (.inl rfl) | exact Or.inr (.inr rfl)) rfl ?_
  refine ga_nil ?_
  refine ⟨_, ⟨b, s, hb.toVB, hs, rfl, rfl⟩, ?_⟩
  refine ⟨_, rfl, ?_⟩
  refine ite_f (rfl) ?_
  refine gs_nil ?_
  refine gs_cons ?_
  refine gs_expr ?_
  refine ge_call F_choices_of (by dsimp only [cdOf, Cd.blk, Cd.gen]; decide +kernel) rfl ?_
  refine ga_cons ?_
  refine ge_nm 2 rfl (by first | exact Or.inl rfl | exact Or.inr (.inl rfl) | exact Or.inr (.inr rfl)) rfl ?_
  refine ga_nil ?_
  refine ⟨_, ⟨b, hb, rfl, rfl⟩, ?_⟩
  refine gs_cons ?_
  refine gs_ret ?_
  refine ge_nm 2 rfl (by first | exact Or.inl rfl | exact Or.inr (.inl rfl) | exact Or.inr (.inr rfl)) rfl ?_
  exact ⟨rfl, rfl⟩
end
end Wk
set_option Elab.async false
set_option linter.all false
set_option maxRecDepth 100000
set_option maxHeartbeats 4000000
namespace Mir
open PySem Gh Wk
/-- the rest x is M sixths -/
structure V6 (x : Rt) (M : Nat) : Prop where
  p : 0 < x.2
  d : x.2 ∣ 6
  v : x.1 * 6 = x.2 * M
theorem rat_v6 {a b M : Nat} (hb : 0 < b) (h : a * 6 = b * M) : V6 (rat a b) M := by
  have hg : 0 < Nat.gcd a b := Nat.gcd_pos_of_pos_right _ hb
  obtain ⟨a', ha⟩ := Nat.gcd_dvd_left a b
  obtain ⟨b', hb'⟩ := Nat.gcd_dvd_right a b
  have e1 : a / Nat.gcd a b = a' := by
    have := Nat.mul_div_cancel_left a' hg
    rw [← ha] at this; exact this
  have e2 : b / Nat.gcd a b = b' := by
    have := Nat.mul_div_cancel_left b' hg
    rw [← hb'] at this; exact this
  have hco : Nat.Coprime b' a' := by
    have := Nat.gcd_div (Nat.gcd_dvd_left a b) (Nat.gcd_dvd_right a b)
    rw [e1, e2, Nat.div_self hg] at this
    exact Nat.Coprime.symm this
  have hv : a' * 6 = b' * M := by
    apply Nat.eq_of_mul_eq_mul_left hg
    rw [← Nat.mul_assoc, ← Nat.mul_assoc, ← ha, ← hb']
    exact h
  unfold rat
  rw [e1, e2]
  refine ⟨?_, ?_, hv⟩
  · rcases Nat.eq_zero_or_pos b' with z | z
    · rw [z, Nat.mul_zero] at hb'; omega
    · exact z
  · have : b' ∣ a' * 6 := ⟨M, hv⟩
    exact Nat.Coprime.dvd_of_dvd_mul_left hco this
theorem plus_v6 {x y : Rt} {M N : Nat} (hx : V6 x M) (hy : V6 y N) : V6 (plusR x y) (M + N) := by
  refine rat_v6 (Nat.mul_pos hx.p hy.p) ?_
  have h1 := hx.v
  have h2 := hy.v
  rw [Nat.add_mul, Nat.mul_add]
  have e1 : x.1 * y.2 * 6 = x.2 * y.2 * M := by rw [Nat.mul_right_comm, h1, Nat.mul_right_comm]
  have e2 : y.1 * x.2 * 6 = x.2 * y.2 * N := by rw [Nat.mul_right_comm, h2, Nat.mul_right_comm, Nat.mul_comm y.2 x.2]
  rw [e1, e2]
theorem sum_v6 {l : List Rt} {Ms : List Nat} (h : l.length = Ms.length) (hv : ∀ (i : Nat) x M, l[i]? = some x → Ms[i]? = some M → V6 x M) : V6 (sumR l) Ms.sum := by
  have key : ∀ (l : List Rt) (Ms : List Nat) (a : Rt) (A : Nat), l.length = Ms.length → (∀ (i : Nat) x M, l[i]? = some x → Ms[i]? = some M → V6 x M) → V6 a A → V6 (l.foldl plusR a) (A + Ms.sum) := by
    intro l
    induction l with
    | nil =>
      intro Ms a A h _ ha
      cases Ms with
      | nil => exact ha
      | cons M Ms => cases h
    | cons x l ih =>
      intro Ms a A h hv ha
      cases Ms with
      | nil => cases h
      | cons M Ms =>
        rw [List.foldl_cons, List.sum_cons, ← Nat.add_assoc]
        exact ih Ms _ _ (by simpa using h) (fun i x M h1 h2 => hv (i + 1) x M (by simpa using h1) (by simpa using h2)) (plus_v6 ha (hv 0 x M rfl rfl))
  have := key l Ms (0, 1) 0 h hv ⟨by decide, ⟨6, rfl⟩, rfl⟩
  rw [Nat.zero_add] at this
  exact this
theorem v6_sm {x : Rt} {M : Nat} (h : V6 x M) (hM : M < 2 ^ 30) : Sm x := by
  have h2 : x.2 ≤ 6 := Nat.le_of_dvd (by decide) h.d
  have h3 : x.2 * M ≤ 6 * M := Nat.mul_le_mul_right _ h2
  have h4 := h.v
  exact ⟨by omega, h.p, by omega⟩
/-! shares, in sixths -/
def sx (b : Bl) (s : Stt) (i : Nat) : Nat := b.cost i * (6 / cnt s i)
def sh6 (b : Bl) (s : Stt) (p : Nat) : Nat := ((s.getD p []).map (sx b s)).sum
theorem cnt_le (s : Stt) (i : Nat) : cnt s i ≤ s.length := List.length_filter_le _ _
theorem cnt_pos {s : Stt} {i : Nat} {w : List Nat} (hw : w ∈ s) (hi : i ∈ w) : 0 < cnt s i := by
  unfold cnt
  exact List.length_pos_of_mem (List.mem_filter.mpr ⟨hw, decide_eq_true hi⟩)
theorem cost_get {b : Bl} {i : Nat} {r : Rd} (h : b.rs[i]? = some r) : b.cost i = r.2.2 := by
  unfold Bl.cost
  rw [List.getD_eq_getElem?_getD, h]; rfl
theorem cost_le {b : Bl} (hb : VB b) (i : Nat) : b.cost i ≤ 60 := by
  unfold Bl.cost
  rw [List.getD_eq_getElem?_getD]
  cases h : b.rs[i]? with
  | none => exact Nat.zero_le _
  | some r => exact (hb.rd r (List.mem_of_getElem? h)).2.2.2
theorem div6 {n : Nat} (h0 : 0 < n) (h3 : n ≤ 3) : n * (6 / n) = 6 := by
  have : n = 1 ∨ n = 2 ∨ n = 3 := by omega
  rcases this with rfl | rfl | rfl <;> rfl
theorem one_v6 {b : Bl} {s : Stt} {i : Nat} (h0 : 0 < cnt s i) (h3 : s.length ≤ 3) : V6 (rat (b.cost i) (cnt s i)) (sx b s i) := by
  refine rat_v6 h0 ?_
  have := div6 h0 (Nat.le_trans (cnt_le s i) h3)
  unfold sx
  rw [Nat.mul_left_comm, this]
theorem getD_some {s : Stt} {p : Nat} {w : List Nat} (h : s[p]? = some w) : s.getD p [] = w := by rw [List.getD_eq_getElem?_getD, h]; rfl
theorem share_list_v6 {b : Bl} {s : Stt} {p : Nat} {w : List Nat} (h3 : s.length ≤ 3) (hw : s[p]? = some w) (i : Nat) : V6 (sumR ((w.map fun i => rat (b.cost i) (cnt s i)).take i)) ((w.map (sx b s)).take i).sum := by
  refine sum_v6 (by simp) fun j x M h1 h2 => ?_
  rw [List.getElem?_take] at h1 h2
  split at h1
  · rename_i hj
    rw [if_pos hj] at h2
    rw [List.getElem?_map] at h1 h2
    cases q : w[j]? with
    | none => rw [q] at h1; cases h1
    | some e =>
      rw [q] at h1 h2
      cases h1; cases h2
      exact one_v6 (cnt_pos (List.mem_of_getElem? hw) (List.mem_of_getElem? q)) h3
  · cases h1
theorem share_v6 {b : Bl} {s : Stt} {p : Nat} {w : List Nat} (h3 : s.length ≤ 3) (hw : s[p]? = some w) : V6 (share b s p) (sh6 b s p) := by
  have := share_list_v6 (b := b) h3 hw w.length
  rw [List.take_of_length_le (by simp), List.take_of_length_le (by simp)] at this
  unfold share sh6
  rw [getD_some hw]
  exact this
theorem sx_le {b : Bl} (hb : VB b) (s : Stt) (i : Nat) : sx b s i ≤ 360 := by
  have h1 := cost_le hb i
  have h2 : 6 / cnt s i ≤ 6 := Nat.div_le_self _ _
  have := Nat.mul_le_mul h1 h2
  exact this
theorem sum_le {l : List Nat} {m : Nat} (h : ∀ x ∈ l, x ≤ m) : l.sum ≤ l.length * m := by
  induction l with
  | nil => exact Nat.zero_le _
  | cons x l ih =>
    have h1 := h x List.mem_cons_self
    have h2 := ih fun y hy => h y (List.mem_cons_of_mem _ hy)
    rw [List.sum_cons, List.length_cons, Nat.add_mul, Nat.one_mul]
    omega
theorem part_le {b : Bl} (hb : VB b) {s : Stt} {w : List Nat} (hl : w.length ≤ 4) (i : Nat) : ((w.map (sx b s)).take i).sum ≤ 1440 := by
  have h := sum_le (l := (w.map (sx b s)).take i) (m := 360) fun x hx => by
    obtain ⟨e, _, rfl⟩ := List.mem_map.mp (List.mem_of_mem_take hx)
    exact sx_le hb s e
  rw [List.length_take, List.length_map] at h
  have : min i w.length * 360 ≤ 4 * 360 := Nat.mul_le_mul_right _ (by omega)
  omega
theorem share_sm {b : Bl} (hb : VB b) {s : Stt} (hs : isSt b s) {p : Nat} (hp : p < b.ps.length) : Sm (share b s p) := by
  have hlt : p < s.length := by rw [hs.1]; exact hp
  have hw : s[p]? = some s[p] := List.getElem?_eq_getElem hlt
  have h3 : s.length ≤ 3 := by rw [hs.1]; exact hb.p3
  refine v6_sm (share_v6 h3 hw) ?_
  have h := part_le hb (s := s) (hs.ix hb hw).2 s[p].length
  rw [List.take_of_length_le (by simp)] at h
  unfold sh6
  rw [getD_some hw]
  omega
theorem isSt_set {b : Bl} {s : Stt} (hs : isSt b s) {p : Nat} {q : Nat × Nat} {w : List Nat} (hq : b.ps[p]? = some q) (hw : w ∈ b.ws q) : isSt b (s.set p w) := by
  refine ⟨by rw [List.length_set]; exact hs.1, fun i r v h1 h2 => ?_⟩
  rcases set_get h2 with ⟨rfl, e⟩ | ⟨hj, e⟩
  · subst e
    rw [hq] at h1; cases h1
    exact hw
  · exact hs.2 i r v h1 e
theorem less_v6 {x y : Rt} {M N : Nat} (hx : V6 x M) (hy : V6 y N) : lessR x y = decide (M < N) := by
  have h1 := hx.v
  have h2 := hy.v
  have hp : 0 < x.2 * y.2 := Nat.mul_pos hx.p hy.p
  unfold lessR
  have e1 : x.1 * y.2 * 6 = x.2 * y.2 * M := by rw [Nat.mul_right_comm, h1, Nat.mul_right_comm]
  have e2 : y.1 * x.2 * 6 = x.2 * y.2 * N := by rw [Nat.mul_right_comm, h2, Nat.mul_right_comm, Nat.mul_comm y.2 x.2]
  by_cases h : M < N
  · rw [decide_eq_true h, decide_eq_true]
    have := Nat.mul_lt_mul_of_pos_left h hp
    omega
  · rw [decide_eq_false h, decide_eq_false]
    have := Nat.mul_le_mul_left (x.2 * y.2) (Nat.le_of_not_lt h)
    omega
/-! the states -/
theorem prod1_mem {rows : List Stt} {ws : Stt} {s : Stt} : s ∈ prod1 rows ws ↔ ∃ r w, r ∈ rows ∧ w ∈ ws ∧ s = r ++ [w] := by
  unfold prod1
  constructor
  · intro h
    obtain ⟨r, hr, h⟩ := List.mem_flatMap.mp h
    obtain ⟨w, hw, rfl⟩ := List.mem_map.mp h
    exact ⟨r, w, hr, hw, rfl⟩
  · rintro ⟨r, w, hr, hw, rfl⟩
    exact List.mem_flatMap.mpr ⟨r, hr, List.mem_map.mpr ⟨w, hw, rfl⟩⟩
theorem prod_snoc (wz : List Stt) (ws : Stt) : prod (wz ++ [ws]) = prod1 (prod wz) ws := by unfold prod; rw [List.foldl_append]; rfl
theorem prod_take {wz : List Stt} {i : Nat} {ws : Stt} (h : wz[i]? = Option.some ws) : prod (wz.take (i + 1)) = prod1 (prod (wz.take i)) ws := by
  rw [List.take_add_one, h]
  exact prod_snoc _ _
theorem getElem?_snoc {α : Type} {l : List α} {x : α} {i : Nat} {y : α} (h : (l ++ [x])[i]? = some y) : (l[i]? = some y) ∨ (i = l.length ∧ y = x) := by
  by_cases hi : i < l.length
  · rw [List.getElem?_append_left hi] at h; exact .inl h
  · rw [List.getElem?_append_right (by omega)] at h
    by_cases h0 : i - l.length = 0
    · rw [h0] at h
      exact .inr ⟨by omega, (Option.some.inj h).symm⟩
    · rw [List.getElem?_eq_none (by simp; omega)] at h; cases h
theorem prod_mem : ∀ (k : Nat) (wz : List Stt), wz.length = k → ∀ s, s ∈ prod wz ↔ s.length = wz.length ∧ ∀ (i : Nat) ws w, wz[i]? = Option.some ws → s[i]? = Option.some w → w ∈ ws
  | 0, wz, hk, s => by
    have e : wz = [] := List.eq_nil_of_length_eq_zero hk
    subst e
    constructor
    · intro h
      have : s = [] := by simpa [prod] using h
      subst this
      exact ⟨rfl, fun i ws w h => by simp at h⟩
    · rintro ⟨h, _⟩
      have : s = [] := List.eq_nil_of_length_eq_zero h
      subst this
      simp [prod]
  | k + 1, wz, hk, s => by
    obtain ⟨xs, ws, rfl⟩ : ∃ xs ws, wz = xs ++ [ws] := ⟨wz.dropLast, wz.getLast (by intro z; subst z; simp at hk), (List.dropLast_concat_getLast _).symm⟩
    have hx : xs.length = k := by simpa using hk
    have ih := prod_mem k xs hx
    rw [prod_snoc, prod1_mem]
    constructor
    · rintro ⟨r, w, hr, hw, rfl⟩
      obtain ⟨h1, h2⟩ := (ih r).mp hr
      refine ⟨by simp [h1], fun i us v hi hv => ?_⟩
      rcases getElem?_snoc hi with h3 | ⟨h3, rfl⟩
      · rcases getElem?_snoc hv with h4 | ⟨h4, rfl⟩
        · exact h2 i us v h3 h4
        · have := (List.getElem?_eq_some_iff.mp h3).1
          omega
      · rcases getElem?_snoc hv with h4 | ⟨h4, rfl⟩
        · have := (List.getElem?_eq_some_iff.mp h4).1
          omega
        · exact hw
    · rintro ⟨h1, h2⟩
      have hs : s ≠ [] := by intro z; subst z; simp at h1
      obtain ⟨r, w, rfl⟩ : ∃ r w, s = r ++ [w] := ⟨s.dropLast, s.getLast hs, (List.dropLast_concat_getLast _).symm⟩
      have hl : r.length = xs.length := by simpa using h1
      refine ⟨r, w, (ih r).mpr ⟨hl, fun i us v hi hv => ?_⟩, ?_, rfl⟩
      · have b1 := (List.getElem?_eq_some_iff.mp hi).1
        exact h2 i us v (by rw [List.getElem?_append_left b1]; exact hi) (by rw [List.getElem?_append_left (by omega)]; exact hv)
      · exact h2 xs.length ws w (by simp) (by rw [← hl]; simp)
theorem states_mem {b : Bl} {s : Stt} : s ∈ b.states ↔ isSt b s := by
  unfold Bl.states
  rw [prod_mem _ _ rfl]
  have hl : b.wss.length = b.ps.length := by unfold Bl.wss; rw [List.length_map]
  constructor
  · rintro ⟨h1, h2⟩
    exact ⟨by rw [h1, hl], fun i p w hp hw => h2 i (b.ws p) w (by unfold Bl.wss; rw [List.getElem?_map, hp]; rfl) hw⟩
  · rintro ⟨h1, h2⟩
    refine ⟨by rw [h1, hl], fun i ws w hi hw => ?_⟩
    unfold Bl.wss at hi
    rw [List.getElem?_map] at hi
    cases hp : b.ps[i]? with
    | none => rw [hp] at hi; cases hi
    | some p =>
      rw [hp] at hi; cases hi
      exact h2 i p w hp hw
theorem prod1_len (rows : List Stt) (ws : Stt) : (prod1 rows ws).length = rows.length * ws.length := by
  unfold prod1
  induction rows with
  | nil => simp
  | cons r rows ih => rw [List.flatMap_cons, List.length_append, ih, List.length_map, List.length_cons, Nat.add_mul]; omega
theorem prod_len {wz : List Stt} (h : ∀ ws ∈ wz, ws.length ≤ 8) : (prod wz).length ≤ 8 ^ wz.length := by
  have key : ∀ (wz : List Stt) (rows : List Stt), (∀ ws ∈ wz, ws.length ≤ 8) → (wz.foldl prod1 rows).length ≤ rows.length * 8 ^ wz.length := by
    intro wz
    induction wz with
    | nil => intro rows _; simp
    | cons ws wz ih =>
      intro rows h
      rw [List.foldl_cons, List.length_cons, Nat.pow_succ]
      refine Nat.le_trans (ih _ fun x hx => h x (List.mem_cons_of_mem _ hx)) ?_
      rw [prod1_len]
      have h1 := Nat.mul_le_mul_left rows.length (h ws List.mem_cons_self)
      have h2 := Nat.mul_le_mul_right (8 ^ wz.length) h1
      rw [Nat.mul_assoc rows.length 8, Nat.mul_comm 8] at h2
      exact h2
  have := key wz [[]] h
  simpa [prod] using this
end Mir
set_option Elab.async false
set_option linter.all false
set_option maxRecDepth 100000
set_option maxHeartbeats 4000000
namespace Wk
open PySem PySem.Spec PyProof.Rows L2 Gh Mir
section
variable {k : Kit} {f : Addr} {fd : FuncData} {cdv : Value}
theorem fm_some {α β : Type} {f : α → Option β} {g : α → β} {l : List α} (h : ∀ x ∈ l, f x = some (g x)) : l.filterMap f = l.map g := by
  induction l with
  | nil => rfl
  | cons x l ih => rw [List.filterMap_cons, h x List.mem_cons_self, ih fun y hy => h y (List.mem_cons_of_mem _ hy), List.map_cons]
/-! share_in -/
def N_share_in : List Str := ["game", "state", "player", "loads", "index"]
def P_share_in (ds : List PyData) (d : PyData) : Prop := ∃ (b : Bl) (s : Stt) (p : Nat), VB b ∧ isSt b s ∧ p < b.ps.length ∧ ds = [gD b, stD s, nD p] ∧ d = pD (share b s p)
theorem sc_share_in : FnScope N_share_in ["game", "state", "player"] (defScope (topS 39)) := ⟨rfl, rfl, rfl, by decide +kernel, rfl, by decide +kernel, by decide +kernel⟩
theorem w_share_in (T : Bt k) (F_loads_of : Fn k 2 "loads_of" (spP k P_loads_of)) (F_ones : Fn k 1 "ones" (spP k P_ones)) (F_ratio : Fn k 1 "ratio" (spP k P_ratio)) (F_sum_of : Fn k 3 "sum_of" (spP k P_sum_of)) (FC : FunC k.K "share_in" (topS 39) f fd cdv) (hm : k.mg "share_in" = some (.ref f)) : Fn k 4 "share_in" (spP k P_share_in) := by
  refine fn_def FC hm (FC.binds fun _ _ _ _ _ _ us hl => match us, hl with | [_, _, _], _ => rfl) sc_share_in (fun ds d ⟨_, _, _, _, _, _, e, _⟩ => by rw [e]; rfl) fun ds d ⟨b, s, p, hb, hs, hp, e1, e2⟩ n => ?_
  subst e1; subst e2
  have h3 : s.length ≤ 3 := by rw [hs.1]; exact hb.p3
  have hlt : p < s.length := by rw [hs.1]; exact hp
  obtain ⟨w, hw⟩ : ∃ w, s[p]? = some w := ⟨_, List.getElem?_eq_getElem hlt⟩
  have hix := hs.ix hb hw
  refine gs_cons ?_
  refine gs_set 3 rfl (by dsimp only [cdOf, Cd.blk, Cd.gen]; decide +kernel) ?_
  refine ge_call F_loads_of (by dsimp only [cdOf, Cd.blk, Cd.gen]; decide +kernel) rfl ?_
  refine ga_cons ?_
  refine ge_nm 0 rfl (by first | exact Or.inl rfl | exact Or.inr (.inl rfl) | exact Or.inr (.inr rfl)) rfl ?_
  refine ga_cons ?_
  refine ge_nm 1 rfl (by first | exact Or.inl rfl | exact Or.inr (.inl rfl) | exact Or.inr (.inr rfl)) rfl ?_
  refine ga_cons ?_
  refine ge_call F_ones (by dsimp only [cdOf, Cd.blk, Cd.gen]; decide +kernel) rfl ?_
  refine ga_cons ?_
  refine ge_nm 0 rfl (by first | exact Or.inl rfl | exact Or.inr (.inl rfl) | exact Or.inr (.inr rfl)) rfl ?_
  refine ga_nil ?_
  refine ⟨_, ⟨b, hb.p3, rfl, rfl⟩, ?_⟩
  refine ga_nil ?_
  refine ⟨_, ⟨b, s, hb, hs.1, rfl, rfl⟩, ?_⟩
  refine gs_cons ?_
  refine gs_ret ?_
  refine ge_call F_sum_of (by dsimp only [cdOf, Cd.blk, Cd.gen]; decide +kernel) rfl ?_
  refine ga_cons ?_
  refine ge_lc [("index", 4)] ([4] ++ ([])) (by dsimp only [cdOf, Cd.blk, Cd.gen]; decide +kernel) (by decide) (lcH_f (fun d => some (pD (rat (b.cost (unN d)) (Mir.cnt s (unN d))))) ?_)
  refine gi_tup ?_
  refine ge_ixT ?_
  refine ge_nm 1 rfl (by first | exact Or.inl rfl | exact Or.inr (.inl rfl) | exact Or.inr (.inr rfl)) rfl ?_
  refine ge_nm 2 rfl (by first | exact Or.inl rfl | exact Or.inr (.inl rfl) | exact Or.inr (.inr rfl)) rfl ?_
  refine ⟨_, _, _, rfl, rfl, atN_map hw, ?_⟩
  refine ⟨_, rfl, ?_⟩
  refine ⟨fun d hd => ?_, ?_, ?_⟩
  · obtain ⟨i, hi, rfl⟩ := List.mem_map.mp hd
    have hir := hix.1 i hi
    obtain ⟨r, hr⟩ : ∃ r, b.rs[i]? = some r := ⟨_, List.getElem?_eq_getElem hir⟩
    have hc := cnt_le s i
    have hp3 := hb.p3
    have hp1 := hb.p1
    refine gg_name 4 rfl (by dsimp only [cdOf, Cd.blk, Cd.gen]; decide +kernel) ?_
    refine gps_nil ?_
    refine ite_t (rfl) ?_
    refine ge_call F_ratio (by dsimp only [cdOf, Cd.blk, Cd.gen]; decide +kernel) rfl ?_
    refine ga_cons ?_
    refine ge_ixT ?_
    refine ge_ixT ?_
    refine ge_ixT ?_
    refine ge_ixT ?_
    refine ge_nm 0 rfl (by first | exact Or.inl rfl | exact Or.inr (.inl rfl) | exact Or.inr (.inr rfl)) rfl ?_
    refine ge_int ?_
    refine ⟨_, _, _, rfl, rfl, rfl, ?_⟩
    refine ge_nm 4 rfl (by first | exact Or.inl rfl | exact Or.inr (.inl rfl) | exact Or.inr (.inr rfl)) rfl ?_
    refine ⟨_, _, _, rfl, rfl, atN_map hr, ?_⟩
    refine ge_int ?_
    refine ⟨_, _, _, rfl, rfl, rfl, ?_⟩
    refine ge_int ?_
    refine ⟨_, _, nD r.2.2, rfl, rfl, ?_, ?_⟩
    · exact atN (i := 0) (by rw [List.getElem?_replicate, if_pos (by omega)])
    refine ga_cons ?_
    refine ge_ixL ?_
    refine ge_nm 3 rfl (by first | exact Or.inl rfl | exact Or.inr (.inl rfl) | exact Or.inr (.inr rfl)) rfl ?_
    refine ge_nm 4 rfl (by first | exact Or.inl rfl | exact Or.inr (.inl rfl) | exact Or.inr (.inr rfl)) rfl ?_
    refine ⟨_, _, nD (Mir.cnt s i), rfl, rfl, ?_, ?_⟩
    · exact atN (by rw [List.getElem?_map, List.getElem?_range hir]; rfl)
    refine ga_nil ?_
    refine ⟨_, ⟨r.2.2, Mir.cnt s i, cnt_pos (List.mem_of_getElem? hw) hi, by omega, rfl, rfl⟩, ?_, rfl⟩
    rw [← cost_get hr]
    rfl
  · rw [List.length_map]; exact Nat.le_trans hix.2 (by decide)
  · have e : (w.map nD).filterMap (fun d => some (pD (rat (b.cost (unN d)) (Mir.cnt s (unN d))))) = (w.map fun i => rat (b.cost i) (Mir.cnt s i)).map pD := by
      rw [fm_some (g := fun d => pD (rat (b.cost (unN d)) (Mir.cnt s (unN d)))) (fun _ _ => rfl), List.map_map, List.map_map]
      rfl
    rw [e]
    refine ga_nil ?_
    refine ⟨_, ⟨_, fun x hx => ?_, fun i => ?_, rfl, rfl⟩, ?_, rfl⟩
    · obtain ⟨i, hi, rfl⟩ := List.mem_map.mp hx
      have := sx_le hb s i
      exact v6_sm (one_v6 (cnt_pos (List.mem_of_getElem? hw) hi) h3) (by omega)
    · have := part_le hb (s := s) hix.2 i
      exact v6_sm (share_list_v6 h3 hw i) (by omega)
    · unfold share
      rw [getD_some hw]
/-! shares -/
def N_shares : List Str := ["building", "state", "game", "player"]
def P_shares (ds : List PyData) (d : PyData) : Prop := ∃ (b : Bl) (s : Stt), VS b ∧ isSt b s ∧ ds = [bD b, stD s] ∧ d = .tuple ((List.range b.ps.length).map fun p => pD (share b s p))
theorem sc_shares : FnScope N_shares ["building", "state"] (defScope (topS 40)) := ⟨rfl, rfl, rfl, by decide +kernel, rfl, by decide +kernel, by decide +kernel⟩
theorem fm_rng {β : Type} {m : Nat} {f : PyData → Option β} {g : Nat → β} (h : ∀ i, f (nD i) = some (g i)) : (rngD 0 m).filterMap f = (List.range m).map g := by
  unfold rngD
  rw [List.filterMap_map]
  refine fm_some fun i _ => ?_
  show f (.int (0 + (i : Nat))) = _
  have : (0 : Int) + (i : Nat) = (i : Int) := by omega
  rw [this]
  exact h i
theorem rng_mem {m : Nat} {d : PyData} (h : d ∈ rngD 0 m) : ∃ i, i < m ∧ d = nD i := by
  obtain ⟨i, hi⟩ := List.mem_iff_getElem?.mp h
  obtain ⟨h3, rfl⟩ := rngD_get hi
  exact ⟨i, h3, by rw [show (0 : Int) + (i : Nat) = (i : Int) by omega]⟩
theorem w_shares (T : Bt k) (F_need_built : Fn k 7 "need_built" (spP k P_need_built)) (F_share_in : Fn k 4 "share_in" (spP k P_share_in)) (FC : FunC k.K "shares" (topS 40) f fd cdv) (hm : k.mg "shares" = some (.ref f)) : Fn k 8 "shares" (spP k P_shares) := by
  refine fn_def FC hm (FC.binds fun _ _ _ _ _ _ us hl => match us, hl with | [_, _], _ => rfl) sc_shares (fun ds d ⟨_, _, _, _, e, _⟩ => by rw [e]; rfl) fun ds d ⟨b, s, hb, hs, e1, e2⟩ n => ?_
  subst e1; subst e2
  have p3 := hb.p3
  refine gs_cons ?_
  refine gs_set 2 rfl (by dsimp only [cdOf, Cd.blk, Cd.gen]; decide +kernel) ?_
  refine ge_call F_need_built (by dsimp only [cdOf, Cd.blk, Cd.gen]; decide +kernel) rfl ?_
  refine ga_cons ?_
  refine ge_nm 0 rfl (by first | exact Or.inl rfl | exact Or.inr (.inl rfl) | exact Or.inr (.inr rfl)) rfl ?_
  refine ga_cons ?_
  refine ge_nm 1 rfl (by first | exact Or.inl rfl | exact Or.inr (.inl rfl) | exact Or.inr (.inr rfl)) rfl ?_
  refine ga_nil ?_
  refine ⟨_, ⟨b, s, hb, hs, rfl, rfl⟩, ?_⟩
  refine gs_cons ?_
  refine gs_ret ?_
  refine ge_tupleOf rfl T.tuple ?_
  refine ge_lc [("player", 3)] ([3] ++ ([])) (by dsimp only [cdOf, Cd.blk, Cd.gen]; decide +kernel) (by decide) (lcH_f (fun d => some (pD (share b s (unN d)))) ?_)
  refine gi_rng1 rfl T.range ?_
  refine ge_len rfl T.len ?_
  refine ge_ixT ?_
  refine ge_nm 2 rfl (by first | exact Or.inl rfl | exact Or.inr (.inl rfl) | exact Or.inr (.inr rfl)) rfl ?_
  refine ge_int ?_
  refine ⟨_, _, _, rfl, rfl, rfl, ?_⟩
  refine ⟨_, (by first | exact Or.inl rfl | exact Or.inr rfl), ?_⟩
  rw [List.length_map]
  refine ⟨_, rfl, by omega, by omega, ?_⟩
  rw [show ((b.ps.length : Nat) : Int).toNat = b.ps.length by omega]
  refine ⟨fun d hd => ?_, ?_, ?_⟩
  · obtain ⟨i, hi, rfl⟩ := rng_mem hd
    refine gg_name 3 rfl (by dsimp only [cdOf, Cd.blk, Cd.gen]; decide +kernel) ?_
    refine gps_nil ?_
    refine ite_t (rfl) ?_
    refine ge_call F_share_in (by dsimp only [cdOf, Cd.blk, Cd.gen]; decide +kernel) rfl ?_
    refine ga_cons ?_
    refine ge_nm 2 rfl (by first | exact Or.inl rfl | exact Or.inr (.inl rfl) | exact Or.inr (.inr rfl)) rfl ?_
    refine ga_cons ?_
    refine ge_nm 1 rfl (by first | exact Or.inl rfl | exact Or.inr (.inl rfl) | exact Or.inr (.inr rfl)) rfl ?_
    refine ga_cons ?_
    refine ge_nm 3 rfl (by first | exact Or.inl rfl | exact Or.inr (.inl rfl) | exact Or.inr (.inr rfl)) rfl ?_
    refine ga_nil ?_
    exact ⟨_, ⟨b, s, i, hb.toVB, hs, hi, rfl, rfl⟩, rfl, rfl⟩
  · rw [rngD_len]; exact Nat.le_trans p3 (by decide)
  · rw [fm_rng (g := fun p => pD (share b s p)) (fun i => rfl)]
    exact ⟨_, .inl rfl, rfl, rfl⟩
/-! all_states -/
def N_all_states : List Str := ["some", "rows", "ways", "row", "way"]
def P_all_states (ds : List PyData) (d : PyData) : Prop := ∃ (b : Bl), VS b ∧ ds = [.list (b.wss.map fun ws => .list (ws.map tD))] ∧ d = .list (b.states.map stD)
theorem sc_all_states : FnScope N_all_states ["some"] (defScope (topS 32)) := ⟨rfl, rfl, rfl, by decide +kernel, rfl, by decide +kernel, by decide +kernel⟩
def sn : PyData → PyData → PyData
  | .tuple xs, w => .tuple (xs ++ [w])
  | d, _ => d
theorem prod1_D (rows : List Stt) (ws : Stt) : (rows.map stD).flatMap (fun d => (ws.map tD).map (sn d)) = (prod1 rows ws).map stD := by
  unfold prod1
  induction rows with
  | nil => rfl
  | cons r rows ih =>
    rw [List.map_cons, List.flatMap_cons, List.flatMap_cons, List.map_append, ih, List.map_map, List.map_map]
    congr 1
    refine List.map_congr_left fun w _ => ?_
    show PyData.tuple (r.map tD ++ [tD w]) = .tuple ((r ++ [w]).map tD)
    rw [List.map_append]
    rfl
theorem wss_len (b : Bl) : b.wss.length = b.ps.length := by unfold Bl.wss; rw [List.length_map]
theorem wss8 {b : Bl} (hs : VS b) : ∀ ws ∈ b.wss, ws.length ≤ 8 := fun ws hw => by
  obtain ⟨p, hp, rfl⟩ := List.mem_map.mp hw
  exact hs.w8 p hp
theorem part_states {b : Bl} (hs : VS b) (i : Nat) : (prod (b.wss.take i)).length ≤ 512 ∧ ∀ s ∈ prod (b.wss.take i), s.length ≤ 3 := by
  have h1 := prod_len (wz := b.wss.take i) fun ws h => wss8 hs ws (List.mem_of_mem_take h)
  have h2 : (b.wss.take i).length ≤ 3 := by
    rw [List.length_take, wss_len]
    have := hs.p3
    omega
  have h3 : 8 ^ (b.wss.take i).length ≤ 8 ^ 3 := Nat.pow_le_pow_right (by decide) h2
  refine ⟨by omega, fun s hs' => ?_⟩
  have := ((prod_mem _ _ rfl s).mp hs').1
  omega
theorem w_all_states (T : Bt k) (FC : FunC k.K "all_states" (topS 32) f fd cdv) (hm : k.mg "all_states" = some (.ref f)) : Fn k 1 "all_states" (spP k P_all_states) := by
  refine fn_def FC hm (FC.binds fun _ _ _ _ _ _ us hl => match us, hl with | [_], _ => rfl) sc_all_states (fun ds d ⟨_, _, e, _⟩ => by rw [e]; rfl) fun ds d ⟨b, hb, e1, e2⟩ n => ?_
  subst e1; subst e2
  refine gs_cons ?_
  refine gs_set 1 rfl (by dsimp only [cdOf, Cd.blk, Cd.gen]; decide +kernel) ?_
  refine ge_lst ?_
  refine ga_cons ?_
  refine ge_tup ?_
  refine ga_nil ?_
  refine ⟨(show 0 ≤ sizeLine by decide), ?_⟩
  refine ga_nil ?_
  refine ⟨(show 1 ≤ sizeLine by decide), ?_⟩
  refine gs_cons ?_
  refine gs_for [2] [2] ?_
  refine gi_list ?_
  refine ge_nm 0 rfl (by first | exact Or.inl rfl | exact Or.inr (.inl rfl) | exact Or.inr (.inr rfl)) rfl ?_
  refine ⟨_, rfl, ?_⟩
  refine ⟨fun i g => g = ⟨[.dat (.list (b.wss.map fun ws => .list (ws.map tD))), .dat (.list ((prod (b.wss.take i)).map stD)), .non, .non, .non], none⟩, rfl, fun i d g2 hd e => ?_, fun g2 e => ?_⟩
  · subst e
    rw [List.getElem?_map] at hd
    cases hw : b.wss[i]? with
    | none => rw [hw] at hd; cases hd
    | some ws =>
      rw [hw] at hd; cases hd
      have hps := part_states hb i
      have hw8 := wss8 hb ws (List.mem_of_getElem? hw)
      refine gg_name 2 rfl (by dsimp only [cdOf, Cd.blk, Cd.gen]; decide +kernel) ?_
      refine gs_cons ?_
      refine gs_setLc2 1 [("row", 3), ("way", 4)] ([3] ++ ([])) [4] ([4] ++ ([])) rfl rfl rfl rfl (by decide +kernel) (by dsimp only [cdOf, Cd.blk, Cd.gen]; decide +kernel) (by decide) (by decide) (by decide) ?_
      refine gi_list ?_
      refine ge_nm 1 rfl (by first | exact Or.inl rfl | exact Or.inr (.inl rfl) | exact Or.inr (.inr rfl)) rfl ?_
      refine ⟨_, rfl, ?_⟩
      refine ⟨ws.map tD, sn, fun d hd => ?_, ?_, ?_⟩
      · obtain ⟨r, hr, rfl⟩ := List.mem_map.mp hd
        have hr3 := hps.2 r hr
        refine gg_name 3 rfl (by dsimp only [cdOf, Cd.blk, Cd.gen]; decide +kernel) ?_
        refine gi_list ?_
        refine ge_nm 2 rfl (by first | exact Or.inl rfl | exact Or.inr (.inl rfl) | exact Or.inr (.inr rfl)) rfl ?_
        refine ⟨_, rfl, ?_⟩
        refine ⟨rfl, rfl, fun m es h => ?_, fun d1 hd1 => ?_⟩
        · simp [GS.wp, GS.set, gStart, N_all_states] at h
        · obtain ⟨w, hw', rfl⟩ := List.mem_map.mp hd1
          refine gg_name 4 rfl (by dsimp only [cdOf, Cd.blk, Cd.gen]; decide +kernel) ?_
          refine ge_tup ?_
          refine ga_star ?_
          refine ge_nm 3 rfl (by first | exact Or.inl rfl | exact Or.inr (.inl rfl) | exact Or.inr (.inr rfl)) rfl ?_
          refine ⟨_, (by first | exact Or.inl rfl | exact Or.inr rfl), ?_⟩
          refine ga_cons ?_
          refine ge_nm 4 rfl (by first | exact Or.inl rfl | exact Or.inr (.inl rfl) | exact Or.inr (.inr rfl)) rfl ?_
          refine ga_nil ?_
          refine ⟨by rw [List.length_append, List.length_map]; exact Nat.le_trans (show _ ≤ 10 by simp only [List.length_singleton]; omega) (by decide), rfl, rfl⟩
      · rw [List.length_map, List.length_map]
        have := Nat.mul_le_mul hps.1 hw8
        exact Nat.le_trans this (by decide)
      · refine gs_nil ?_
        show (_ : GS) = (_ : GS)
        rw [prod_take hw, prod1_D]
        rfl
  · subst e
    refine gs_cons ?_
    refine gs_ret ?_
    refine ge_nm 1 rfl (by first | exact Or.inl rfl | exact Or.inr (.inl rfl) | exact Or.inr (.inr rfl)) rfl ?_
    refine ⟨?_, rfl⟩
    rw [List.length_map, List.take_length]
    rfl
end
end Wk
set_option Elab.async false
set_option linter.all false
set_option maxRecDepth 100000
set_option maxHeartbeats 4000000
namespace Mir
open PySem Gh Wk
def unS : PyData → Stt
  | .tuple xs => xs.map unT
  | _ => []
theorem unS_stD (s : Stt) : unS (stD s) = s := by
  show (s.map tD).map unT = s
  rw [List.map_map]
  have : (unT ∘ tD) = id := by funext w; exact unT_tD w
  rw [this, List.map_id]
abbrev psD (b : Bl) (s : Stt) : PyData := .tuple [nD (price b s), stD s]
def best (b : Bl) : PyData := match b.states.map (psD b) with
  | [] => .none
  | x :: xs => PySem.W.minD x xs
def mn (l : List Nat) : Nat := l.foldl min (l.headD 0)
def mx (l : List Nat) : Nat := l.foldl max 0
def Bl.least (b : Bl) : Nat := mn (b.states.map (price b))
def Bl.lo (b : Bl) : Nat := mn (b.due.map (price b))
def Bl.hi (b : Bl) : Nat := mx (b.due.map (price b))
def pricesD (b : Bl) : PyData := if b.least = 0 then .none else .tuple [pD (rat b.lo b.least), pD (rat b.hi b.least)]
theorem foldl_min : ∀ (l : List Nat) (a : Nat), (l.foldl min a = a ∨ l.foldl min a ∈ l) ∧ l.foldl min a ≤ a ∧ ∀ x ∈ l, l.foldl min a ≤ x
  | [], a => ⟨.inl rfl, Nat.le_refl _, fun x h => by cases h⟩
  | y :: l, a => by
    obtain ⟨h1, h2, h3⟩ := foldl_min l (min a y)
    rw [List.foldl_cons]
    refine ⟨?_, by omega, fun x hx => ?_⟩
    · rcases h1 with h1 | h1
      · rcases Nat.le_total a y with h | h
        · exact .inl (h1.trans (Nat.min_eq_left h))
        · exact .inr (by rw [h1, Nat.min_eq_right h]; exact List.mem_cons_self)
      · exact .inr (List.mem_cons_of_mem _ h1)
    · rcases List.mem_cons.mp hx with rfl | hx
      · omega
      · exact h3 x hx
theorem foldl_max : ∀ (l : List Nat) (a : Nat), (l.foldl max a = a ∨ l.foldl max a ∈ l) ∧ a ≤ l.foldl max a ∧ ∀ x ∈ l, x ≤ l.foldl max a
  | [], a => ⟨.inl rfl, Nat.le_refl _, fun x h => by cases h⟩
  | y :: l, a => by
    obtain ⟨h1, h2, h3⟩ := foldl_max l (max a y)
    rw [List.foldl_cons]
    refine ⟨?_, by omega, fun x hx => ?_⟩
    · rcases h1 with h1 | h1
      · rcases Nat.le_total a y with h | h
        · exact .inr (by rw [h1, Nat.max_eq_right h]; exact List.mem_cons_self)
        · exact .inl (h1.trans (Nat.max_eq_left h))
      · exact .inr (List.mem_cons_of_mem _ h1)
    · rcases List.mem_cons.mp hx with rfl | hx
      · omega
      · exact h3 x hx
theorem mn_mem {l : List Nat} (h : l ≠ []) : mn l ∈ l := by
  cases l with
  | nil => exact absurd rfl h
  | cons x l =>
    unfold mn
    rcases (foldl_min (x :: l) x).1 with e | e
    · show (x :: l).foldl min x ∈ x :: l
      rw [e]; exact List.mem_cons_self
    · exact e
theorem mn_le {l : List Nat} {x : Nat} (h : x ∈ l) : mn l ≤ x := (foldl_min l _).2.2 x h
theorem mx_le {l : List Nat} {x : Nat} (h : x ∈ l) : x ≤ mx l := (foldl_max l 0).2.2 x h
theorem mx_mem {l : List Nat} (h : l ≠ []) : mx l ∈ l := by
  cases l with
  | nil => exact absurd rfl h
  | cons x l =>
    rcases (foldl_max (x :: l) 0).1 with e | e
    · have := mx_le (l := x :: l) List.mem_cons_self
      have e' : mx (x :: l) = 0 := e
      have : x = 0 := by omega
      rw [e', ← this]; exact List.mem_cons_self
    · exact e
theorem ps_lt {p q : Nat} {s t : PyData} (h : p ≠ q) : PySem.W.dataLt (.tuple [nD p, s]) (.tuple [nD q, t]) = decide (p < q) := by
  have h1 : PySem.W.alike (nD p) (nD q) = true := by show PySem.W.alike (.int _) (.int _) = true; unfold PySem.W.alike; rfl
  have h2 : PyData.eqv (nD p) (nD q) = false := by rw [eqvN]; exact decide_eq_false h
  have h3 := PySem.W.dataLt_all_no (xs := [s]) (ys := [t]) h1 h2
  have h4 : PySem.W.dataLt (.tuple [nD p, s]) (.tuple [nD q, t]) = PyProof.Rows.lexLt PyProof.Rows.itemOrd (PySem.W.keyToksAll [nD p, s]) (PySem.W.keyToksAll [nD q, t]) := by
    show PyProof.Rows.lexLt PyProof.Rows.itemOrd (PySem.W.keyToks (.tuple [nD p, s])) (PySem.W.keyToks (.tuple [nD q, t])) = _
    simp only [PySem.W.keyToks]
  rw [h4, h3, PySem.W.dataLt_int]
  by_cases hlt : p < q
  · rw [decide_eq_true hlt, decide_eq_true (by omega)]
  · rw [decide_eq_false hlt, decide_eq_false (by omega)]
theorem minD_ps {α : Type} (f : α → Nat) (g : α → PyData) : ∀ (l : List α) (a : α), ∃ z, (z = a ∨ z ∈ l) ∧ PySem.W.minD (.tuple [nD (f a), g a]) (l.map fun x => .tuple [nD (f x), g x]) = .tuple [nD (f z), g z] ∧ f z ≤ f a ∧ ∀ x ∈ l, f z ≤ f x
  | [], a => ⟨a, .inl rfl, rfl, Nat.le_refl _, fun x h => by cases h⟩
  | y :: l, a => by
    have key : PySem.W.minD (.tuple [nD (f a), g a]) ((y :: l).map fun x => .tuple [nD (f x), g x]) = PySem.W.minD (if PySem.W.dataLt (.tuple [nD (f y), g y]) (.tuple [nD (f a), g a]) then .tuple [nD (f y), g y] else .tuple [nD (f a), g a]) (l.map fun x => .tuple [nD (f x), g x]) := rfl
    rw [key]
    by_cases h : PySem.W.dataLt (.tuple [nD (f y), g y]) (.tuple [nD (f a), g a]) = true
    · rw [if_pos h]
      obtain ⟨z, h1, h2, h3, h4⟩ := minD_ps f g l y
      have hle : f y ≤ f a := by
        by_cases e : f y = f a
        · omega
        · rw [ps_lt e] at h
          have := of_decide_eq_true h
          omega
      refine ⟨z, ?_, h2, by omega, fun x hx => ?_⟩
      · rcases h1 with rfl | h1
        · exact .inr List.mem_cons_self
        · exact .inr (List.mem_cons_of_mem _ h1)
      · rcases List.mem_cons.mp hx with rfl | hx
        · exact h3
        · exact h4 x hx
    · rw [if_neg h]
      obtain ⟨z, h1, h2, h3, h4⟩ := minD_ps f g l a
      have hle : f a ≤ f y := by
        by_cases e : f y = f a
        · omega
        · rw [ps_lt e] at h
          have := of_decide_eq_false (Bool.eq_false_iff.mpr h)
          omega
      refine ⟨z, ?_, h2, h3, fun x hx => ?_⟩
      · rcases h1 with rfl | h1
        · exact .inl rfl
        · exact .inr (List.mem_cons_of_mem _ h1)
      · rcases List.mem_cons.mp hx with rfl | hx
        · omega
        · exact h4 x hx
theorem states_ne {b : Bl} (hb : VB b) : b.states ≠ [] := by
  intro z
  have key : ∀ l : List (Nat × Nat), (∀ p ∈ l, b.ws p ≠ []) → ∃ s : Stt, s.length = l.length ∧ ∀ (i : Nat) p w, l[i]? = some p → s[i]? = some w → w ∈ b.ws p := by
    intro l
    induction l with
    | nil => intro _; exact ⟨[], rfl, fun i p w h => by simp at h⟩
    | cons p l ih =>
      intro h
      obtain ⟨s, h1, h2⟩ := ih fun q hq => h q (List.mem_cons_of_mem _ hq)
      obtain ⟨w, hw⟩ := List.exists_mem_of_ne_nil _ (h p List.mem_cons_self)
      refine ⟨w :: s, by simp [h1], fun i q v hq hv => ?_⟩
      cases i with
      | zero => simp at hq hv; subst hq; subst hv; exact hw
      | succ i => exact h2 i q v (by simpa using hq) (by simpa using hv)
  obtain ⟨s, h1, h2⟩ := key b.ps fun p hp => (hb.pl p hp).2.2.2
  have : s ∈ b.states := states_mem.mpr ⟨h1, h2⟩
  rw [z] at this; cases this
theorem best_spec {b : Bl} (hb : VB b) : ∃ s, s ∈ b.states ∧ best b = psD b s ∧ price b s = b.least := by
  have hne := states_ne hb
  unfold best Bl.least
  cases h : b.states with
  | nil => exact absurd h hne
  | cons s l =>
    obtain ⟨z, h1, h2, h3, h4⟩ := minD_ps (price b) (fun s => stD s) l s
    have hz0 : z ∈ s :: l := by
      rcases h1 with rfl | h1
      · exact List.mem_cons_self
      · exact List.mem_cons_of_mem _ h1
    refine ⟨z, hz0, h2, ?_⟩
    have hm := mn_mem (l := (s :: l).map (price b)) (by simp)
    have hz : price b z ∈ (s :: l).map (price b) := List.mem_map.mpr ⟨z, hz0, rfl⟩
    have h5 := mn_le hz
    obtain ⟨x, hx, e⟩ := List.mem_map.mp hm
    have h6 : price b z ≤ price b x := by
      rcases List.mem_cons.mp hx with rfl | hx
      · exact h3
      · exact h4 x hx
    omega
theorem alike_st : ∀ (s t : Stt), PySem.W.alikeAll (s.map tD) (t.map tD) = true
  | [], _ => by unfold PySem.W.alikeAll; rfl
  | x :: a, [] => by unfold PySem.W.alikeAll; rfl
  | x :: a, y :: b => by
    rw [List.map_cons, List.map_cons]
    unfold PySem.W.alikeAll
    rw [alike_st a b, alike_tD]
    rfl
theorem alike_ps (b : Bl) (s t : Stt) : PySem.W.alike (psD b s) (psD b t) = true := by
  show PySem.W.alike (.tuple [nD _, .tuple (s.map tD)]) (.tuple [nD _, .tuple (t.map tD)]) = true
  simp only [PySem.W.alike, PySem.W.alikeAll, alike_st]
  rfl
theorem depth_st (s : Stt) : (stD s).depth ≤ 2 := by
  show PyData.depth (.tuple (s.map tD)) ≤ 2
  unfold PyData.depth
  have := depth_all (ds := s.map tD) (m := 1) fun d hd => by
    obtain ⟨w, _, rfl⟩ := List.mem_map.mp hd
    rw [depth_tD]; exact Nat.le_refl _
  omega
theorem depth_ps (b : Bl) (s : Stt) : (psD b s).depth ≤ 3 := by
  show PyData.depth (.tuple [nD _, stD s]) ≤ 3
  unfold PyData.depth
  have := depth_all (ds := [nD (price b s), stD s]) (m := 2) fun d hd => by
    rcases List.mem_cons.mp hd with rfl | hd
    · show PyData.depth (.int _) ≤ 2
      unfold PyData.depth; exact Nat.zero_le _
    · have : d = stD s := by simpa using hd
      subst this
      exact depth_st s
  omega
theorem price_le {b : Bl} (hb : VB b) (s : Stt) : price b s ≤ 360 := by
  unfold price
  have h := sum_le (l := (List.range b.rs.length).map fun i => if 0 < cnt s i then b.cost i else 0) (m := 60) fun x hx => by
    obtain ⟨i, _, rfl⟩ := List.mem_map.mp hx
    have := cost_le hb i
    split <;> omega
  rw [List.length_map, List.length_range] at h
  have := hb.r6
  omega
end Mir
set_option Elab.async false
set_option linter.all false
set_option maxRecDepth 100000
set_option maxHeartbeats 4000000
namespace Wk
open PySem PySem.Spec PyProof.Rows L2 Gh Mir
section
variable {k : Kit} {f : Addr} {fd : FuncData} {cdv : Value}
abbrev wssD (b : Bl) : PyData := .list (b.wss.map fun ws => .list (ws.map tD))
/-! does_stand -/
def N_does_stand : List Str := ["game", "some", "state", "player", "ways", "here", "way"]
def P_does_stand (ds : List PyData) (d : PyData) : Prop := ∃ (b : Bl) (s : Stt), VS b ∧ isSt b s ∧ ds = [gD b, wssD b, stD s] ∧ d = .bool (stands b s)
theorem sc_does_stand : FnScope N_does_stand ["game", "some", "state"] (defScope (topS 41)) := ⟨rfl, rfl, rfl, by decide +kernel, rfl, by decide +kernel, by decide +kernel⟩
theorem any_stands {b : Bl} {s : Stt} {i : Nat} {ws : Stt} : ((ws.map tD).any fun d => lessR (share b (s.set i (unT d)) i) (share b s i)) = !stands1 b s i ws := by
  unfold stands1
  rw [List.any_map]
  have e : ((fun d => lessR (share b (s.set i (unT d)) i) (share b s i)) ∘ tD) = fun w => lessR (share b (s.set i w) i) (share b s i) := by
    funext w
    show lessR (share b (s.set i (unT (tD w))) i) (share b s i) = _
    rw [unT_tD]
  rw [e]
  induction ws with
  | nil => rfl
  | cons w ws ih => rw [List.any_cons, List.all_cons, ih, Bool.not_and, Bool.not_not]
theorem w_does_stand (T : Bt k) (F_share_in : Fn k 4 "share_in" (spP k P_share_in)) (F_less : Fn k 1 "less" (spP k P_less)) (F_moved : Fn k 1 "moved" (spP k P_moved)) (TB : k.Tb (cdOf N_does_stand (topS 41) 5 cdv)) (FC : FunC k.K "does_stand" (topS 41) f fd cdv) (hm : k.mg "does_stand" = some (.ref f)) : Fn k 6 "does_stand" (spP k P_does_stand) := by
  refine fn_def FC hm (FC.binds fun _ _ _ _ _ _ us hl => match us, hl with | [_, _, _], _ => rfl) sc_does_stand (fun ds d ⟨_, _, _, _, e, _⟩ => by rw [e]; rfl) fun ds d ⟨b, s, hs, hst, e1, e2⟩ n => ?_
  subst e1; subst e2
  have hb := hs.toVB
  have p3 := hb.p3
  have hsl := hst.1
  refine gs_cons ?_
  refine gs_for [3, 4, 5, 6] ([3] ++ ([4] ++ ([]))) ?_
  refine gi_en rfl T.enum ?_
  refine ge_nm 1 rfl (by first | exact Or.inl rfl | exact Or.inr (.inl rfl) | exact Or.inr (.inr rfl)) rfl ?_
  refine ⟨_, (by first | exact Or.inl rfl | exact Or.inr rfl), ?_⟩
  refine ⟨fun i g => g = ⟨[.dat (gD b), .dat (wssD b), .dat (stD s), .non, .non, .non, .non], none⟩ ∧ ((b.wss.zipIdx.take i).all fun x => stands1 b s x.2 x.1) = true, ⟨rfl, rfl⟩, fun i d g2 hd e => ?_, fun g2 e => ?_⟩
  · obtain ⟨e, hall⟩ := e
    subst e
    obtain ⟨x, hx, rfl⟩ := enD_get hd
    rw [List.getElem?_map] at hx
    cases hw : b.wss[i]? with
    | none => rw [hw] at hx; cases hx
    | some ws =>
      rw [hw] at hx; cases hx
      have hil : i < b.ps.length := by
        have := (List.getElem?_eq_some_iff.mp hw).1
        rw [wss_len] at this; exact this
      have hq : b.ps[i]? = some b.ps[i] := List.getElem?_eq_getElem hil
      have hws : ws = b.ws b.ps[i] := by
        unfold Bl.wss at hw
        rw [List.getElem?_map, hq] at hw
        exact (Option.some.inj hw).symm
      have hz : b.wss.zipIdx[i]? = some (ws, i) := by rw [List.getElem?_zipIdx, hw]; simp
      refine gg_tup ?_
      refine gg_cons ?_
      refine gg_name 3 rfl (by dsimp only [cdOf, Cd.blk, Cd.gen]; decide +kernel) ?_
      refine gg_cons ?_
      refine gg_name 4 rfl (by dsimp only [cdOf, Cd.blk, Cd.gen]; decide +kernel) ?_
      refine gg_nil ?_
      refine gs_cons ?_
      refine gs_set 5 rfl (by dsimp only [cdOf, Cd.blk, Cd.gen]; decide +kernel) ?_
      refine ge_call F_share_in (by dsimp only [cdOf, Cd.blk, Cd.gen]; decide +kernel) rfl ?_
      refine ga_cons ?_
      refine ge_nm 0 rfl (by first | exact Or.inl rfl | exact Or.inr (.inl rfl) | exact Or.inr (.inr rfl)) rfl ?_
      refine ga_cons ?_
      refine ge_nm 2 rfl (by first | exact Or.inl rfl | exact Or.inr (.inl rfl) | exact Or.inr (.inr rfl)) rfl ?_
      refine ga_cons ?_
      refine ge_nm 3 rfl (by first | exact Or.inl rfl | exact Or.inr (.inl rfl) | exact Or.inr (.inr rfl)) rfl ?_
      refine ga_nil ?_
      refine ⟨_, ⟨b, s, i, hb, hst, hil, rfl, rfl⟩, ?_⟩
      refine gs_cons ?_
      refine gs_if ?_
      refine gt_val ?_
      refine ge_any [("way", 6)] ([6] ++ ([])) TB (by dsimp only [cdOf, Cd.blk, Cd.gen]; decide +kernel) rfl T.any (by dsimp only [cdOf, Cd.blk, Cd.gen]; decide +kernel) (by decide) ?_
      refine gi_list ?_
      refine ge_nm 4 rfl (by first | exact Or.inl rfl | exact Or.inr (.inl rfl) | exact Or.inr (.inr rfl)) rfl ?_
      refine ⟨_, rfl, ?_⟩
      refine ⟨fun d => lessR (share b (s.set i (unT d)) i) (share b s i), fun d => true, fun d hd => ?_, ?_⟩
      · obtain ⟨w, hmem, rfl⟩ := List.mem_map.mp hd
        have hst2 : isSt b (s.set i w) := isSt_set hst hq (hws ▸ hmem)
        refine gg_name 6 rfl (by dsimp only [cdOf, Cd.blk, Cd.gen]; decide +kernel) ?_
        refine gps_nil ?_
        refine ite_t (rfl) ?_
        refine ge_call F_less (by dsimp only [cdOf, Cd.blk, Cd.gen]; decide +kernel) rfl ?_
        refine ga_cons ?_
        refine ge_call F_share_in (by dsimp only [cdOf, Cd.blk, Cd.gen]; decide +kernel) rfl ?_
        refine ga_cons ?_
        refine ge_nm 0 rfl (by first | exact Or.inl rfl | exact Or.inr (.inl rfl) | exact Or.inr (.inr rfl)) rfl ?_
        refine ga_cons ?_
        refine ge_call F_moved (by dsimp only [cdOf, Cd.blk, Cd.gen]; decide +kernel) rfl ?_
        refine ga_cons ?_
        refine ge_nm 2 rfl (by first | exact Or.inl rfl | exact Or.inr (.inl rfl) | exact Or.inr (.inr rfl)) rfl ?_
        refine ga_cons ?_
        refine ge_nm 3 rfl (by first | exact Or.inl rfl | exact Or.inr (.inl rfl) | exact Or.inr (.inr rfl)) rfl ?_
        refine ga_cons ?_
        refine ge_nm 6 rfl (by first | exact Or.inl rfl | exact Or.inr (.inl rfl) | exact Or.inr (.inr rfl)) rfl ?_
        refine ga_nil ?_
        refine ⟨_, ⟨s, i, w, by omega, by omega, rfl, rfl⟩, ?_⟩
        refine ga_cons ?_
        refine ge_nm 3 rfl (by first | exact Or.inl rfl | exact Or.inr (.inl rfl) | exact Or.inr (.inr rfl)) rfl ?_
        refine ga_nil ?_
        refine ⟨_, ⟨b, s.set i w, i, hb, hst2, hil, rfl, rfl⟩, ?_⟩
        refine ga_cons ?_
        refine ge_nm 5 rfl (by first | exact Or.inl rfl | exact Or.inr (.inl rfl) | exact Or.inr (.inr rfl)) rfl ?_
        refine ga_nil ?_
        refine ⟨_, ⟨_, _, share_sm hb hst2 hil, share_sm hb hst hil, rfl, rfl⟩, rfl, ?_, rfl⟩
        show _ = PyData.bool (lessR (share b (s.set i (unT (tD w))) i) (share b s i))
        rw [unT_tD]
      · rw [List.filter_eq_self.mpr fun _ _ => rfl]
        refine ⟨_, rfl, ?_⟩
        rw [any_stands]
        refine ite_b (fun h => ?_) (fun h => ?_)
        · refine gs_cons ?_
          refine gs_ret ?_
          refine ge_bl ?_
          refine ⟨?_, rfl⟩
          have e : stands b s = false := by
            unfold stands
            exact List.all_eq_false.mpr ⟨(ws, i), List.mem_of_getElem? hz, by simpa using h⟩
          rw [e]
        · refine gs_nil ?_
          refine gs_nil ?_
          refine ⟨rfl, ?_⟩
          rw [List.take_add_one, hz, List.all_append, hall]
          simpa using h
  · obtain ⟨e, hall⟩ := e
    subst e
    have e1 : stands b s = true := by
      unfold stands
      rw [enD_len, List.length_map] at hall
      rw [List.take_of_length_le (by simp)] at hall
      exact hall
    refine gs_cons ?_
    refine gs_ret ?_
    refine ge_bl ?_
    rw [e1]
    exact ⟨rfl, rfl⟩
/-! standing_of, building_states -/
def N_standing_of : List Str := ["game", "some", "state"]
def P_standing_of (ds : List PyData) (d : PyData) : Prop := ∃ (b : Bl), VS b ∧ ds = [gD b] ∧ d = .list (b.due.map stD)
theorem sc_standing_of : FnScope N_standing_of ["game"] (defScope (topS 42)) := ⟨rfl, rfl, rfl, by decide +kernel, rfl, by decide +kernel, by decide +kernel⟩
theorem states_len {b : Bl} (hs : VS b) : b.states.length ≤ 512 := by
  have h := (part_states hs b.wss.length).1
  rw [List.take_length] at h
  exact h
theorem fm_filter (p : Stt → Bool) : ∀ l : List Stt, (l.map stD).filterMap (fun d => if p (unS d) = true then some d else none) = (l.filter p).map stD
  | [] => rfl
  | s :: l => by
    rw [List.map_cons, List.filterMap_cons, fm_filter p l, List.filter_cons, unS_stD]
    cases h : p s with
    | true => rw [if_pos rfl, if_pos rfl]; rfl
    | false => rw [if_neg Bool.false_ne_true, if_neg Bool.false_ne_true]
theorem w_standing_of (T : Bt k) (F_choices_of : Fn k 3 "choices_of" (spP k P_choices_of)) (F_all_states : Fn k 1 "all_states" (spP k P_all_states)) (F_does_stand : Fn k 6 "does_stand" (spP k P_does_stand)) (FC : FunC k.K "standing_of" (topS 42) f fd cdv) (hm : k.mg "standing_of" = some (.ref f)) : Fn k 7 "standing_of" (spP k P_standing_of) := by
  refine fn_def FC hm (FC.binds fun _ _ _ _ _ _ us hl => match us, hl with | [_], _ => rfl) sc_standing_of (fun ds d ⟨_, _, e, _⟩ => by rw [e]; rfl) fun ds d ⟨b, hs, e1, e2⟩ n => ?_
  subst e1; subst e2
  refine gs_cons ?_
  refine gs_set 1 rfl (by dsimp only [cdOf, Cd.blk, Cd.gen]; decide +kernel) ?_
  refine ge_call F_choices_of (by dsimp only [cdOf, Cd.blk, Cd.gen]; decide +kernel) rfl ?_
  refine ga_cons ?_
  refine ge_nm 0 rfl (by first | exact Or.inl rfl | exact Or.inr (.inl rfl) | exact Or.inr (.inr rfl)) rfl ?_
  refine ga_nil ?_
  refine ⟨_, ⟨b, hs, rfl, rfl⟩, ?_⟩
  refine gs_cons ?_
  refine gs_ret ?_
  refine ge_lc [("state", 2)] ([2] ++ ([])) (by dsimp only [cdOf, Cd.blk, Cd.gen]; decide +kernel) (by decide) (lcH_f (fun d => if stands b (unS d) = true then some d else none) ?_)
  refine gi_list ?_
  refine ge_call F_all_states (by dsimp only [cdOf, Cd.blk, Cd.gen]; decide +kernel) rfl ?_
  refine ga_cons ?_
  refine ge_nm 1 rfl (by first | exact Or.inl rfl | exact Or.inr (.inl rfl) | exact Or.inr (.inr rfl)) rfl ?_
  refine ga_nil ?_
  refine ⟨_, ⟨b, hs, rfl, rfl⟩, ?_⟩
  refine ⟨_, rfl, ?_⟩
  refine ⟨fun d hd => ?_, ?_, ?_, rfl⟩
  · obtain ⟨s, hmem, rfl⟩ := List.mem_map.mp hd
    have hst := states_mem.mp hmem
    refine gg_name 2 rfl (by dsimp only [cdOf, Cd.blk, Cd.gen]; decide +kernel) ?_
    refine gps_one ?_
    refine gt_val ?_
    refine ge_call F_does_stand (by dsimp only [cdOf, Cd.blk, Cd.gen]; decide +kernel) rfl ?_
    refine ga_cons ?_
    refine ge_nm 0 rfl (by first | exact Or.inl rfl | exact Or.inr (.inl rfl) | exact Or.inr (.inr rfl)) rfl ?_
    refine ga_cons ?_
    refine ge_nm 1 rfl (by first | exact Or.inl rfl | exact Or.inr (.inl rfl) | exact Or.inr (.inr rfl)) rfl ?_
    refine ga_cons ?_
    refine ge_nm 2 rfl (by first | exact Or.inl rfl | exact Or.inr (.inl rfl) | exact Or.inr (.inr rfl)) rfl ?_
    refine ga_nil ?_
    refine ⟨_, ⟨b, s, hs, hst, rfl, rfl⟩, ?_⟩
    refine ⟨_, rfl, ?_⟩
    rw [unS_stD]
    refine ite_b (fun h => ?_) (fun h => ?_)
    · refine ge_nm 2 rfl (by first | exact Or.inl rfl | exact Or.inr (.inl rfl) | exact Or.inr (.inr rfl)) rfl ?_
      exact ⟨if_pos h, rfl⟩
    · exact ⟨if_neg (by rw [h]; decide), rfl⟩
  · rw [List.length_map]; exact Nat.le_trans (states_len hs) (by decide)
  · rw [fm_filter]
    rfl
def N_building_states : List Str := ["building"]
def P_building_states (ds : List PyData) (d : PyData) : Prop := ∃ (b : Bl), VS b ∧ ds = [bD b] ∧ d = .tuple (b.due.map stD)
theorem sc_building_states : FnScope N_building_states ["building"] (defScope (topS 43)) := ⟨rfl, rfl, rfl, by decide +kernel, rfl, by decide +kernel, by decide +kernel⟩
theorem w_building_states (T : Bt k) (F_need_building : Fn k 6 "need_building" (spP k P_need_building)) (F_standing_of : Fn k 7 "standing_of" (spP k P_standing_of)) (FC : FunC k.K "building_states" (topS 43) f fd cdv) (hm : k.mg "building_states" = some (.ref f)) : Fn k 8 "building_states" (spP k P_building_states) := by
  refine fn_def FC hm (FC.binds fun _ _ _ _ _ _ us hl => match us, hl with | [_], _ => rfl) sc_building_states (fun ds d ⟨_, _, e, _⟩ => by rw [e]; rfl) fun ds d ⟨b, hs, e1, e2⟩ n => ?_
  subst e1; subst e2
  refine gs_cons ?_
  refine gs_ret ?_
  refine ge_tupleOf rfl T.tuple ?_
  refine ge_call F_standing_of (by dsimp only [cdOf, Cd.blk, Cd.gen]; decide +kernel) rfl ?_
  refine ga_cons ?_
  refine ge_call F_need_building (by dsimp only [cdOf, Cd.blk, Cd.gen]; decide +kernel) rfl ?_
  refine ga_cons ?_
  refine ge_nm 0 rfl (by first | exact Or.inl rfl | exact Or.inr (.inl rfl) | exact Or.inr (.inr rfl)) rfl ?_
  refine ga_nil ?_
  refine ⟨_, ⟨b, hs.toVB, rfl, rfl⟩, ?_⟩
  refine ga_nil ?_
  refine ⟨_, ⟨b, hs, rfl, rfl⟩, ?_⟩
  exact ⟨_, .inl rfl, rfl, rfl⟩
/-! price_of -/
def N_price_of : List Str := ["game", "state", "road", "load"]
def P_price_of (ds : List PyData) (d : PyData) : Prop := ∃ (b : Bl) (s : Stt), VB b ∧ s.length = b.ps.length ∧ ds = [gD b, stD s] ∧ d = nD (price b s)
theorem sc_price_of : FnScope N_price_of ["game", "state"] (defScope (topS 44)) := ⟨rfl, rfl, rfl, by decide +kernel, rfl, by decide +kernel, by decide +kernel⟩
def prF : PyData → Int
  | .tuple [.tuple [_, _, .tuple (.int c :: _)], .int l] => if 0 < l then c else 0
  | _ => 0
theorem zip_loads {b : Bl} {s : Stt} {j : Nat} : zipD (b.rs.map (rG j)) ((List.range b.rs.length).map fun i => nD (Mir.cnt s i)) = (List.range b.rs.length).map fun i => .tuple [rG j (b.rs.getD i (0, 0, 0)), nD (Mir.cnt s i)] := by
  apply List.ext_getElem?
  intro i
  unfold zipD
  rw [List.getElem?_zipWith, List.getElem?_map, List.getElem?_map, List.getElem?_map]
  by_cases h : i < b.rs.length
  · have e : b.rs.getD i (0, 0, 0) = b.rs[i] := by rw [List.getD_eq_getElem?_getD, List.getElem?_eq_getElem h]; rfl
    rw [List.getElem?_range h, List.getElem?_eq_getElem h]
    show some (PyData.tuple [rG j b.rs[i], nD (Mir.cnt s i)]) = some (PyData.tuple [rG j (b.rs.getD i (0, 0, 0)), nD (Mir.cnt s i)])
    rw [e]
  · rw [List.getElem?_eq_none (l := b.rs) (by omega), List.getElem?_eq_none (l := List.range b.rs.length) (by simp; omega)]
    rfl
theorem w_price_of (T : Bt k) (F_loads_of : Fn k 2 "loads_of" (spP k P_loads_of)) (F_ones : Fn k 1 "ones" (spP k P_ones)) (TB : k.Tb (cdOf N_price_of (topS 44) 2 cdv)) (FC : FunC k.K "price_of" (topS 44) f fd cdv) (hm : k.mg "price_of" = some (.ref f)) : Fn k 3 "price_of" (spP k P_price_of) := by
  refine fn_def FC hm (FC.binds fun _ _ _ _ _ _ us hl => match us, hl with | [_, _], _ => rfl) sc_price_of (fun ds d ⟨_, _, _, _, e, _⟩ => by rw [e]; rfl) fun ds d ⟨b, s, hb, hl, e1, e2⟩ n => ?_
  subst e1; subst e2
  refine gs_cons ?_
  refine gs_ret ?_
  refine ge_sumG [("road", 2), ("load", 3)] ([2] ++ ([3] ++ ([]))) TB (by dsimp only [cdOf, Cd.blk, Cd.gen]; decide +kernel) rfl T.sum (by dsimp only [cdOf, Cd.blk, Cd.gen]; decide +kernel) (by decide) ?_
  refine gi_zip rfl T.zip ?_
  refine ge_ixT ?_
  refine ge_nm 0 rfl (by first | exact Or.inl rfl | exact Or.inr (.inl rfl) | exact Or.inr (.inr rfl)) rfl ?_
  refine ge_int ?_
  refine ⟨_, _, _, rfl, rfl, rfl, ?_⟩
  refine ge_call F_loads_of (by dsimp only [cdOf, Cd.blk, Cd.gen]; decide +kernel) rfl ?_
  refine ga_cons ?_
  refine ge_nm 0 rfl (by first | exact Or.inl rfl | exact Or.inr (.inl rfl) | exact Or.inr (.inr rfl)) rfl ?_
  refine ga_cons ?_
  refine ge_nm 1 rfl (by first | exact Or.inl rfl | exact Or.inr (.inl rfl) | exact Or.inr (.inr rfl)) rfl ?_
  refine ga_cons ?_
  refine ge_call F_ones (by dsimp only [cdOf, Cd.blk, Cd.gen]; decide +kernel) rfl ?_
  refine ga_cons ?_
  refine ge_nm 0 rfl (by first | exact Or.inl rfl | exact Or.inr (.inl rfl) | exact Or.inr (.inr rfl)) rfl ?_
  refine ga_nil ?_
  refine ⟨_, ⟨b, hb.p3, rfl, rfl⟩, ?_⟩
  refine ga_nil ?_
  refine ⟨_, ⟨b, s, hb, hl, rfl, rfl⟩, ?_⟩
  refine ⟨_, _, (by first | exact Or.inl rfl | exact Or.inr rfl), (by first | exact Or.inl rfl | exact Or.inr rfl), ?_⟩
  rw [zip_loads]
  obtain ⟨j, hj⟩ : ∃ j, b.ps.length = j + 1 := ⟨b.ps.length - 1, by have := hb.p1; omega⟩
  have hF : ∀ r c, prF (.tuple [rG b.ps.length r, nD c]) = if 0 < c then (r.2.2 : Int) else 0 := fun r c => by
    rw [hj]
    show (if (0 : Int) < (c : Int) then (r.2.2 : Int) else 0) = _
    by_cases h : 0 < c
    · rw [if_pos h, if_pos (by omega)]
    · rw [if_neg h, if_neg (by omega)]
  refine ⟨prF, fun d hd => ?_, ?_, rfl⟩
  · obtain ⟨i, hi, rfl⟩ := List.mem_map.mp hd
    refine gg_tup ?_
    refine gg_cons ?_
    refine gg_name 2 rfl (by dsimp only [cdOf, Cd.blk, Cd.gen]; decide +kernel) ?_
    refine gg_cons ?_
    refine gg_name 3 rfl (by dsimp only [cdOf, Cd.blk, Cd.gen]; decide +kernel) ?_
    refine gg_nil ?_
    refine gps_one ?_
    refine gt_gt ?_
    refine ge_nm 3 rfl (by first | exact Or.inl rfl | exact Or.inr (.inl rfl) | exact Or.inr (.inr rfl)) rfl ?_
    refine ge_int ?_
    refine ⟨_, _, rfl, rfl, ?_⟩
    refine ite_b (fun h => ?_) (fun h => ?_)
    · have h : 0 < Mir.cnt s i := by have := of_decide_eq_true h; omega
      refine ge_ixT ?_
      refine ge_ixT ?_
      refine ge_nm 2 rfl (by first | exact Or.inl rfl | exact Or.inr (.inl rfl) | exact Or.inr (.inr rfl)) rfl ?_
      refine ge_int ?_
      refine ⟨_, _, _, rfl, rfl, rfl, ?_⟩
      refine ge_int ?_
      refine ⟨_, _, nD (b.rs.getD i (0, 0, 0)).2.2, rfl, rfl, ?_, rfl, ?_⟩
      · exact atN (i := 0) (by rw [List.getElem?_replicate, if_pos (by omega)])
      · rw [hF, if_pos h]
    · have h : ¬ 0 < Mir.cnt s i := by have := of_decide_eq_false h; omega
      refine ⟨rfl, ?_⟩
      rw [hF, if_neg h]
  · have e1 : ((List.range b.rs.length).map fun i => PyData.tuple [rG b.ps.length (b.rs.getD i (0, 0, 0)), nD (Mir.cnt s i)]).map prF = ((List.range b.rs.length).map fun i => if 0 < Mir.cnt s i then b.cost i else 0).map fun n : Nat => (n : Int) := by
      rw [List.map_map, List.map_map]
      refine List.map_congr_left fun i _ => ?_
      show prF _ = (((if 0 < Mir.cnt s i then b.cost i else 0) : Nat) : Int)
      rw [hF]
      unfold Bl.cost
      split <;> rfl
    rw [e1, sumN]
    rfl
/-! cheapest_building, building_prices -/
def N_cheapest_building : List Str := ["building", "game", "state"]
def P_cheapest_building (ds : List PyData) (d : PyData) : Prop := ∃ (b : Bl), VS b ∧ ds = [bD b] ∧ d = best b
theorem sc_cheapest_building : FnScope N_cheapest_building ["building"] (defScope (topS 45)) := ⟨rfl, rfl, rfl, by decide +kernel, rfl, by decide +kernel, by decide +kernel⟩

theorem w_cheapest_building (T : Bt k) (F_need_building : Fn k 6 "need_building" (spP k P_need_building)) (F_choices_of : Fn k 3 "choices_of" (spP k P_choices_of)) (F_all_states : Fn k 1 "all_states" (spP k P_all_states)) (F_price_of : Fn k 3 "price_of" (spP k P_price_of)) (FC : FunC k.K "cheapest_building" (topS 45) f fd cdv) (hm : k.mg "cheapest_building" = some (.ref f)) : Fn k 7 "cheapest_building" (spP k P_cheapest_building) := by
  refine fn_def FC hm (FC.binds fun _ _ _ _ _ _ us hl => match us, hl with | [_], _ => rfl) sc_cheapest_building (fun ds d ⟨_, _, e, _⟩ => by rw [e]; rfl) fun ds d ⟨b, hs, e1, e2⟩ n => ?_
  subst e1; subst e2
  refine gs_cons ?_
  refine gs_set 1 rfl (by dsimp only [cdOf, Cd.blk, Cd.gen]; decide +kernel) ?_
  refine ge_call F_need_building (by dsimp only [cdOf, Cd.blk, Cd.gen]; decide +kernel) rfl ?_
  refine ga_cons ?_
  refine ge_nm 0 rfl (by first | exact Or.inl rfl | exact Or.inr (.inl rfl) | exact Or.inr (.inr rfl)) rfl ?_
  refine ga_nil ?_
  refine ⟨_, ⟨b, hs.toVB, rfl, rfl⟩, ?_⟩
  refine gs_cons ?_
  refine gs_ret ?_
  refine ge_minD rfl T.min ?_
  refine ge_lc [("state", 2)] ([2] ++ ([])) (by dsimp only [cdOf, Cd.blk, Cd.gen]; decide +kernel) (by decide) (lcH_f (fun d => some (.tuple [nD (price b (unS d)), d])) ?_)
  refine gi_list ?_
  refine ge_call F_all_states (by dsimp only [cdOf, Cd.blk, Cd.gen]; decide +kernel) rfl ?_
  refine ga_cons ?_
  refine ge_call F_choices_of (by dsimp only [cdOf, Cd.blk, Cd.gen]; decide +kernel) rfl ?_
  refine ga_cons ?_
  refine ge_nm 1 rfl (by first | exact Or.inl rfl | exact Or.inr (.inl rfl) | exact Or.inr (.inr rfl)) rfl ?_
  refine ga_nil ?_
  refine ⟨_, ⟨b, hs, rfl, rfl⟩, ?_⟩
  refine ga_nil ?_
  refine ⟨_, ⟨b, hs, rfl, rfl⟩, ?_⟩
  refine ⟨_, rfl, ?_⟩
  refine ⟨fun d hd => ?_, ?_, ?_⟩
  · obtain ⟨s, hmem, rfl⟩ := List.mem_map.mp hd
    have hst := states_mem.mp hmem
    refine gg_name 2 rfl (by dsimp only [cdOf, Cd.blk, Cd.gen]; decide +kernel) ?_
    refine gps_nil ?_
    refine ite_t (rfl) ?_
    refine ge_tup ?_
    refine ga_cons ?_
    refine ge_call F_price_of (by dsimp only [cdOf, Cd.blk, Cd.gen]; decide +kernel) rfl ?_
    refine ga_cons ?_
    refine ge_nm 1 rfl (by first | exact Or.inl rfl | exact Or.inr (.inl rfl) | exact Or.inr (.inr rfl)) rfl ?_
    refine ga_cons ?_
    refine ge_nm 2 rfl (by first | exact Or.inl rfl | exact Or.inr (.inl rfl) | exact Or.inr (.inr rfl)) rfl ?_
    refine ga_nil ?_
    refine ⟨_, ⟨b, s, hs.toVB, hst.1, rfl, rfl⟩, ?_⟩
    refine ga_cons ?_
    refine ge_nm 2 rfl (by first | exact Or.inl rfl | exact Or.inr (.inl rfl) | exact Or.inr (.inr rfl)) rfl ?_
    refine ga_nil ?_
    refine ⟨(show 2 ≤ sizeLine by decide), ?_⟩
    refine ⟨?_, rfl⟩
    rw [unS_stD]
  · rw [List.length_map]; exact Nat.le_trans (states_len hs) (by decide)
  · have e : (b.states.map stD).filterMap (fun d => some (.tuple [nD (price b (unS d)), d])) = b.states.map (psD b) := by
      rw [fm_some (g := fun d => PyData.tuple [nD (price b (unS d)), d]) (fun _ _ => rfl), List.map_map]
      refine List.map_congr_left fun s _ => ?_
      show PyData.tuple [nD (price b (unS (stD s))), stD s] = psD b s
      rw [unS_stD]
    rw [e]
    have hne := states_ne hs.toVB
    cases h : b.states.map (psD b) with
    | nil => exact absurd (List.map_eq_nil_iff.mp h) hne
    | cons x xs =>
      refine ⟨x, xs, rfl, ⟨fun y hy z hz => ?_, fun y hy => ?_⟩, ?_, ?_, rfl⟩
      · rw [← h] at hy hz
        obtain ⟨s, _, rfl⟩ := List.mem_map.mp hy
        obtain ⟨t, _, rfl⟩ := List.mem_map.mp hz
        exact alike_ps b s t
      · rw [← h] at hy
        obtain ⟨s, _, rfl⟩ := List.mem_map.mp hy
        exact fun z => by cases z
      · rw [← h]
        refine Nat.le_trans (depth_all (m := 3) fun d hd => ?_) (by decide)
        obtain ⟨s, _, rfl⟩ := List.mem_map.mp hd
        exact depth_ps b s
      · unfold best
        rw [h]
def N_building_prices : List Str := ["building", "game", "least", "some", "state"]
def P_building_prices (ds : List PyData) (d : PyData) : Prop := ∃ (b : Bl), VS b ∧ b.due ≠ [] ∧ ds = [bD b] ∧ d = pricesD b
theorem sc_building_prices : FnScope N_building_prices ["building"] (defScope (topS 46)) := ⟨rfl, rfl, rfl, by decide +kernel, rfl, by decide +kernel, by decide +kernel⟩
theorem lo_le {b : Bl} (hb : VB b) (h : b.due ≠ []) : b.lo ≤ 360 ∧ b.hi ≤ 360 ∧ b.least ≤ 360 := by
  have h1 : b.due.map (price b) ≠ [] := fun z => h (List.map_eq_nil_iff.mp z)
  obtain ⟨s, _, e1⟩ := List.mem_map.mp (mn_mem h1)
  obtain ⟨t, _, e2⟩ := List.mem_map.mp (mx_mem h1)
  obtain ⟨u, _, _, e3⟩ := best_spec hb
  have a1 := price_le hb s
  have a2 := price_le hb t
  have a3 := price_le hb u
  exact ⟨by show mn _ ≤ _; omega, by show mx _ ≤ _; omega, by omega⟩
theorem w_building_prices (T : Bt k) (F_need_building : Fn k 6 "need_building" (spP k P_need_building)) (F_cheapest_building : Fn k 7 "cheapest_building" (spP k P_cheapest_building)) (F_standing_of : Fn k 7 "standing_of" (spP k P_standing_of)) (F_price_of : Fn k 3 "price_of" (spP k P_price_of)) (F_ratio : Fn k 1 "ratio" (spP k P_ratio)) (FC : FunC k.K "building_prices" (topS 46) f fd cdv) (hm : k.mg "building_prices" = some (.ref f)) : Fn k 8 "building_prices" (spP k P_building_prices) := by
  refine fn_def FC hm (FC.binds fun _ _ _ _ _ _ us hl => match us, hl with | [_], _ => rfl) sc_building_prices (fun ds d ⟨_, _, _, e, _⟩ => by rw [e]; rfl) fun ds d ⟨b, hs, hdue, e1, e2⟩ n => ?_
  subst e1; subst e2
  obtain ⟨s0, hm0, hb0, hl0⟩ := best_spec hs.toVB
  obtain ⟨k1, k2, k3⟩ := lo_le hs.toVB hdue
  refine gs_cons ?_
  refine gs_set 1 rfl (by dsimp only [cdOf, Cd.blk, Cd.gen]; decide +kernel) ?_
  refine ge_call F_need_building (by dsimp only [cdOf, Cd.blk, Cd.gen]; decide +kernel) rfl ?_
  refine ga_cons ?_
  refine ge_nm 0 rfl (by first | exact Or.inl rfl | exact Or.inr (.inl rfl) | exact Or.inr (.inr rfl)) rfl ?_
  refine ga_nil ?_
  refine ⟨_, ⟨b, hs.toVB, rfl, rfl⟩, ?_⟩
  refine gs_cons ?_
  refine gs_set 2 rfl (by dsimp only [cdOf, Cd.blk, Cd.gen]; decide +kernel) ?_
  refine ge_ixT ?_
  refine ge_call F_cheapest_building (by dsimp only [cdOf, Cd.blk, Cd.gen]; decide +kernel) rfl ?_
  refine ga_cons ?_
  refine ge_nm 0 rfl (by first | exact Or.inl rfl | exact Or.inr (.inl rfl) | exact Or.inr (.inr rfl)) rfl ?_
  refine ga_nil ?_
  refine ⟨_, ⟨b, hs, rfl, rfl⟩, ?_⟩
  refine ge_int ?_
  refine ⟨_, _, nD (price b s0), hb0, rfl, rfl, ?_⟩
  rw [hl0]
  refine gs_cons ?_
  refine gs_if ?_
  refine gt_eq ?_
  refine ge_nm 2 rfl (by first | exact Or.inl rfl | exact Or.inr (.inl rfl) | exact Or.inr (.inr rfl)) rfl ?_
  refine ge_int ?_
  refine ⟨rfl, rfl, ?_⟩
  rw [eqvI]
  refine ite_b (fun h => ?_) (fun h => ?_)
  · have h : b.least = 0 := by have := of_decide_eq_true h; omega
    refine gs_cons ?_
    refine gs_ret ?_
    refine ge_non ?_
    refine ⟨?_, rfl⟩
    unfold pricesD
    rw [if_pos h]
  · have h : b.least ≠ 0 := by have := of_decide_eq_false h; omega
    refine gs_nil ?_
    refine gs_cons ?_
    refine gs_setLc 3 [("state", 4)] ([4] ++ ([])) rfl rfl rfl rfl (by decide +kernel) (by dsimp only [cdOf, Cd.blk, Cd.gen]; decide +kernel) (by decide) (lcH_f (fun d => some (nD (price b (unS d)))) ?_)
    refine gi_list ?_
    refine ge_call F_standing_of (by dsimp only [cdOf, Cd.blk, Cd.gen]; decide +kernel) rfl ?_
    refine ga_cons ?_
    refine ge_nm 1 rfl (by first | exact Or.inl rfl | exact Or.inr (.inl rfl) | exact Or.inr (.inr rfl)) rfl ?_
    refine ga_nil ?_
    refine ⟨_, ⟨b, hs, rfl, rfl⟩, ?_⟩
    refine ⟨_, rfl, ?_⟩
    refine ⟨fun d hd => ?_, ?_, ?_⟩
    · obtain ⟨s, hmem, rfl⟩ := List.mem_map.mp hd
      have hst := states_mem.mp (List.mem_filter.mp hmem).1
      refine gg_name 4 rfl (by dsimp only [cdOf, Cd.blk, Cd.gen]; decide +kernel) ?_
      refine gps_nil ?_
      refine ite_t (rfl) ?_
      refine ge_call F_price_of (by dsimp only [cdOf, Cd.blk, Cd.gen]; decide +kernel) rfl ?_
      refine ga_cons ?_
      refine ge_nm 1 rfl (by first | exact Or.inl rfl | exact Or.inr (.inl rfl) | exact Or.inr (.inr rfl)) rfl ?_
      refine ga_cons ?_
      refine ge_nm 4 rfl (by first | exact Or.inl rfl | exact Or.inr (.inl rfl) | exact Or.inr (.inr rfl)) rfl ?_
      refine ga_nil ?_
      refine ⟨_, ⟨b, s, hs.toVB, hst.1, rfl, rfl⟩, ?_, rfl⟩
      rw [unS_stD]
    · rw [List.length_map]
      exact Nat.le_trans (List.length_filter_le _ _) (Nat.le_trans (states_len hs) (by decide))
    · have e : (b.due.map stD).filterMap (fun d => some (nD (price b (unS d)))) = (b.due.map (price b)).map nD := by
        rw [fm_some (g := fun d => nD (price b (unS d))) (fun _ _ => rfl), List.map_map, List.map_map]
        refine List.map_congr_left fun s _ => ?_
        show nD (price b (unS (stD s))) = nD (price b s)
        rw [unS_stD]
      rw [e]
      have hne : b.due.map (price b) ≠ [] := fun z => hdue (List.map_eq_nil_iff.mp z)
      refine gs_cons ?_
      refine gs_ret ?_
      refine ge_tup ?_
      refine ga_cons ?_
      refine ge_call F_ratio (by dsimp only [cdOf, Cd.blk, Cd.gen]; decide +kernel) rfl ?_
      refine ga_cons ?_
      refine ge_minL rfl T.min ?_
      refine ge_nm 3 rfl (by first | exact Or.inl rfl | exact Or.inr (.inl rfl) | exact Or.inr (.inr rfl)) rfl ?_
      refine ⟨_, (b.lo : Nat), congrArg PyData.list (mapN_ints _), List.mem_map.mpr ⟨b.lo, mn_mem hne, rfl⟩, fun y hy => ?_, ?_⟩
      · obtain ⟨x, hx, rfl⟩ := List.mem_map.mp hy
        have : b.lo ≤ x := mn_le hx
        omega
      refine ga_cons ?_
      refine ge_nm 2 rfl (by first | exact Or.inl rfl | exact Or.inr (.inl rfl) | exact Or.inr (.inr rfl)) rfl ?_
      refine ga_nil ?_
      refine ⟨_, ⟨b.lo, b.least, by omega, by omega, rfl, rfl⟩, ?_⟩
      refine ga_cons ?_
      refine ge_call F_ratio (by dsimp only [cdOf, Cd.blk, Cd.gen]; decide +kernel) rfl ?_
      refine ga_cons ?_
      refine ge_maxL rfl T.max ?_
      refine ge_nm 3 rfl (by first | exact Or.inl rfl | exact Or.inr (.inl rfl) | exact Or.inr (.inr rfl)) rfl ?_
      refine ⟨_, (b.hi : Nat), congrArg PyData.list (mapN_ints _), List.mem_map.mpr ⟨b.hi, mx_mem hne, rfl⟩, fun y hy => ?_, ?_⟩
      · obtain ⟨x, hx, rfl⟩ := List.mem_map.mp hy
        have : x ≤ b.hi := mx_le hx
        omega
      refine ga_cons ?_
      refine ge_nm 2 rfl (by first | exact Or.inl rfl | exact Or.inr (.inl rfl) | exact Or.inr (.inr rfl)) rfl ?_
      refine ga_nil ?_
      refine ⟨_, ⟨b.hi, b.least, by omega, by omega, rfl, rfl⟩, ?_⟩
      refine ga_nil ?_
      refine ⟨(show 2 ≤ sizeLine by decide), ?_⟩
      refine ⟨?_, rfl⟩
      unfold pricesD
      rw [if_neg h]
end
end Wk
set_option Elab.async false
set_option linter.all false
set_option maxRecDepth 100000
set_option maxHeartbeats 4000000
namespace Wk
open PySem PySem.Spec PyProof.Rows L2 Gh Mir
section
variable {k : Kit} {f : Addr} {fd : FuncData} {cdv : Value}
/-! _law_ratio .. -/
def N__law_ratio : List Str := ["_law_top", "_law_bottom", "_law_one", "_law_other"]
theorem sc__law_ratio : FnScope N__law_ratio ["_law_top", "_law_bottom"] (defScope (topS 51)) := ⟨rfl, rfl, rfl, by decide +kernel, rfl, by decide +kernel, by decide +kernel⟩
theorem w__law_ratio (T : Bt k) (FC : FunC k.K "_law_ratio" (topS 51) f fd cdv) (hm : k.mg "_law_ratio" = some (.ref f)) : Fn k 1 "_law_ratio" (spP k P_ratio) := by
  refine fn_def FC hm (FC.binds fun _ _ _ _ _ _ us hl => match us, hl with | [_, _], _ => rfl) sc__law_ratio (fun ds d ⟨a, b, _, _, e, _⟩ => by rw [e]; rfl) fun ds d ⟨a, b, h0, h1, e1, e2⟩ n => ?_
  subst e1; subst e2
  refine gs_cons ?_
  refine gs_par 2 3 rfl rfl (by decide) rfl rfl ?_ (fun env h => by cases env; cases h; rfl)
  refine ga_cons ?_
  refine ge_abs rfl T.abs ?_
  refine ge_nm 0 rfl (by first | exact Or.inl rfl | exact Or.inr (.inl rfl) | exact Or.inr (.inr rfl)) rfl ?_
  refine ⟨_, rfl, ?_⟩
  refine ga_cons ?_
  refine ge_abs rfl T.abs ?_
  refine ge_nm 1 rfl (by first | exact Or.inl rfl | exact Or.inr (.inl rfl) | exact Or.inr (.inr rfl)) rfl ?_
  refine ⟨_, rfl, ?_⟩
  refine ga_nil ?_
  refine ⟨_, _, rfl, ?_⟩
  rw [if_neg (by omega), if_neg (by omega)]
  refine gs_cons ?_
  refine gs_while [] (fun m g => ∃ x : Nat, Nat.gcd x m = Nat.gcd a b ∧ g = ⟨[.dat (nD a), .dat (nD b), .dat (nD x), .dat (nD m)], none⟩) ⟨b, a, rfl, rfl⟩ ?_
  rintro m g2 ⟨x, hg, rfl⟩
  refine gt_ne ?_
  refine ge_nm 3 rfl (by first | exact Or.inl rfl | exact Or.inr (.inl rfl) | exact Or.inr (.inr rfl)) rfl ?_
  refine ge_int ?_
  refine ⟨rfl, rfl, ?_⟩
  rw [eqvI]
  refine ite_b (fun h => ?_) (fun h => ?_)
  · have h : m ≠ 0 := by
      intro z; subst z; simp at h
    refine gs_cons ?_
    refine gs_par 2 3 rfl rfl (by decide) rfl rfl ?_ (fun env h => by cases env; cases h; rfl)
    refine ga_cons ?_
    refine ge_nm 3 rfl (by first | exact Or.inl rfl | exact Or.inr (.inl rfl) | exact Or.inr (.inr rfl)) rfl ?_
    refine ga_cons ?_
    refine ge_mod ?_
    refine ge_intI rfl T.int ?_
    refine ge_nm 2 rfl (by first | exact Or.inl rfl | exact Or.inr (.inl rfl) | exact Or.inr (.inr rfl)) rfl ?_
    refine ⟨_, rfl, ?_⟩
    refine ge_nm 3 rfl (by first | exact Or.inl rfl | exact Or.inr (.inl rfl) | exact Or.inr (.inr rfl)) rfl ?_
    refine ⟨_, _, rfl, rfl, by omega, ?_⟩
    refine ga_nil ?_
    refine ⟨_, _, rfl, ?_⟩
    refine gs_nil ?_
    have e : (x : Int) % (m : Int) = ((x % m : Nat) : Int) := by omega
    refine ⟨x % m, Nat.mod_lt _ (by omega), m, ?_, ?_⟩
    · rw [← hg, Nat.gcd_comm x m, Nat.gcd_rec m x, Nat.gcd_comm]
    · show (⟨[.dat (nD a), .dat (nD b), .dat (nD m), .dat (.int ((x : Int) % (m : Int)))], none⟩ : GS) = _
      rw [e]
  · have h : m = 0 := by
      by_cases z : m = 0
      · exact z
      · have : ¬ ((m : Int) = 0) := by omega
        simp [this] at h
        omega
    subst h
    rw [Nat.gcd_zero_right] at hg
    subst hg
    have hp : 0 < Nat.gcd a b := Nat.gcd_pos_of_pos_right _ h0
    have hp2 : Nat.gcd a b ≤ b := Nat.gcd_le_right _ h0
    refine gs_cons ?_
    refine gs_ret ?_
    refine ge_if ?_
    refine gt_gt ?_
    refine ge_nm 1 rfl (by first | exact Or.inl rfl | exact Or.inr (.inl rfl) | exact Or.inr (.inr rfl)) rfl ?_
    refine ge_int ?_
    refine ⟨_, _, rfl, rfl, ?_⟩
    refine ite_t (decide_eq_true (by omega)) ?_
    refine ge_tup ?_
    refine ga_cons ?_
    refine ge_fdiv ?_
    refine ge_nm 0 rfl (by first | exact Or.inl rfl | exact Or.inr (.inl rfl) | exact Or.inr (.inr rfl)) rfl ?_
    refine ge_nm 2 rfl (by first | exact Or.inl rfl | exact Or.inr (.inl rfl) | exact Or.inr (.inr rfl)) rfl ?_
    refine ⟨_, _, rfl, rfl, ⟨by omega, by omega⟩, ?_⟩
    refine ga_cons ?_
    refine ge_fdiv ?_
    refine ge_nm 1 rfl (by first | exact Or.inl rfl | exact Or.inr (.inl rfl) | exact Or.inr (.inr rfl)) rfl ?_
    refine ge_nm 2 rfl (by first | exact Or.inl rfl | exact Or.inr (.inl rfl) | exact Or.inr (.inr rfl)) rfl ?_
    refine ⟨_, _, rfl, rfl, ⟨by omega, by omega⟩, ?_⟩
    refine ga_nil ?_
    refine ⟨(show 2 ≤ sizeLine by decide), ?_⟩
    exact ⟨rfl, rfl⟩
def N__law_plus : List Str := ["_law_one", "_law_other"]
theorem sc__law_plus : FnScope N__law_plus ["_law_one", "_law_other"] (defScope (topS 52)) := ⟨rfl, rfl, rfl, by decide +kernel, rfl, by decide +kernel, by decide +kernel⟩
theorem w__law_plus (T : Bt k) (F__law_ratio : Fn k 1 "_law_ratio" (spP k P_ratio)) (FC : FunC k.K "_law_plus" (topS 52) f fd cdv) (hm : k.mg "_law_plus" = some (.ref f)) : Fn k 2 "_law_plus" (spP k P_plus) := by
  refine fn_def FC hm (FC.binds fun _ _ _ _ _ _ us hl => match us, hl with | [_, _], _ => rfl) sc__law_plus (fun ds d ⟨a, b, _, _, e, _⟩ => by rw [e]; rfl) fun ds d ⟨x, y, hx, hy, e1, e2⟩ n => ?_
  subst e1; subst e2
  have hx1 := hx.a
  have hx2 := hx.b
  have hy1 := hy.a
  have hy2 := hy.b
  refine gs_cons ?_
  refine gs_ret ?_
  refine ge_call F__law_ratio (by dsimp only [cdOf, Cd.blk, Cd.gen]; decide +kernel) rfl ?_
  refine ga_cons ?_
  refine ge_add ?_
  refine ge_mul ?_
  refine ge_ixT ?_
  refine ge_nm 0 rfl (by first | exact Or.inl rfl | exact Or.inr (.inl rfl) | exact Or.inr (.inr rfl)) rfl ?_
  refine ge_int ?_
  refine ⟨_, _, _, rfl, rfl, rfl, ?_⟩
  refine ge_ixT ?_
  refine ge_nm 1 rfl (by first | exact Or.inl rfl | exact Or.inr (.inl rfl) | exact Or.inr (.inr rfl)) rfl ?_
  refine ge_int ?_
  refine ⟨_, _, _, rfl, rfl, rfl, ?_⟩
  refine ⟨_, _, rfl, rfl, cm (by omega), ?_⟩
  refine ge_mul ?_
  refine ge_ixT ?_
  refine ge_nm 1 rfl (by first | exact Or.inl rfl | exact Or.inr (.inl rfl) | exact Or.inr (.inr rfl)) rfl ?_
  refine ge_int ?_
  refine ⟨_, _, _, rfl, rfl, rfl, ?_⟩
  refine ge_ixT ?_
  refine ge_nm 0 rfl (by first | exact Or.inl rfl | exact Or.inr (.inl rfl) | exact Or.inr (.inr rfl)) rfl ?_
  refine ge_int ?_
  refine ⟨_, _, _, rfl, rfl, rfl, ?_⟩
  refine ⟨_, _, rfl, rfl, cm (by omega), ?_⟩
  refine ⟨_, _, rfl, rfl, ?_⟩
  refine ga_cons ?_
  refine ge_mul ?_
  refine ge_ixT ?_
  refine ge_nm 0 rfl (by first | exact Or.inl rfl | exact Or.inr (.inl rfl) | exact Or.inr (.inr rfl)) rfl ?_
  refine ge_int ?_
  refine ⟨_, _, _, rfl, rfl, rfl, ?_⟩
  refine ge_ixT ?_
  refine ge_nm 1 rfl (by first | exact Or.inl rfl | exact Or.inr (.inl rfl) | exact Or.inr (.inr rfl)) rfl ?_
  refine ge_int ?_
  refine ⟨_, _, _, rfl, rfl, rfl, ?_⟩
  refine ⟨_, _, rfl, rfl, cm (by omega), ?_⟩
  refine ga_nil ?_
  exact ⟨_, ⟨x.1 * y.2 + y.1 * x.2, x.2 * y.2, (sm_mul hx hy).1, (sm_mul hx hy).2, by simp, rfl⟩, rfl, rfl⟩
def N__law_less : List Str := ["_law_one", "_law_other"]
theorem sc__law_less : FnScope N__law_less ["_law_one", "_law_other"] (defScope (topS 55)) := ⟨rfl, rfl, rfl, by decide +kernel, rfl, by decide +kernel, by decide +kernel⟩
theorem w__law_less (T : Bt k) (FC : FunC k.K "_law_less" (topS 55) f fd cdv) (hm : k.mg "_law_less" = some (.ref f)) : Fn k 1 "_law_less" (spP k P_less) := by
  refine fn_def FC hm (FC.binds fun _ _ _ _ _ _ us hl => match us, hl with | [_, _], _ => rfl) sc__law_less (fun ds d ⟨a, b, _, _, e, _⟩ => by rw [e]; rfl) fun ds d ⟨x, y, hx, hy, e1, e2⟩ n => ?_
  subst e1; subst e2
  have hx2 := hx.b
  have hy2 := hy.b
  refine gs_cons ?_
  refine gs_ret ?_
  refine ge_lt ?_
  refine ge_mul ?_
  refine ge_ixT ?_
  refine ge_nm 0 rfl (by first | exact Or.inl rfl | exact Or.inr (.inl rfl) | exact Or.inr (.inr rfl)) rfl ?_
  refine ge_int ?_
  refine ⟨_, _, _, rfl, rfl, rfl, ?_⟩
  refine ge_ixT ?_
  refine ge_nm 1 rfl (by first | exact Or.inl rfl | exact Or.inr (.inl rfl) | exact Or.inr (.inr rfl)) rfl ?_
  refine ge_int ?_
  refine ⟨_, _, _, rfl, rfl, rfl, ?_⟩
  refine ⟨_, _, rfl, rfl, cm (by omega), ?_⟩
  refine ge_mul ?_
  refine ge_ixT ?_
  refine ge_nm 1 rfl (by first | exact Or.inl rfl | exact Or.inr (.inl rfl) | exact Or.inr (.inr rfl)) rfl ?_
  refine ge_int ?_
  refine ⟨_, _, _, rfl, rfl, rfl, ?_⟩
  refine ge_ixT ?_
  refine ge_nm 0 rfl (by first | exact Or.inl rfl | exact Or.inr (.inl rfl) | exact Or.inr (.inr rfl)) rfl ?_
  refine ge_int ?_
  refine ⟨_, _, _, rfl, rfl, rfl, ?_⟩
  refine ⟨_, _, rfl, rfl, cm (by omega), ?_⟩
  refine ⟨_, _, rfl, rfl, ?_, rfl⟩
  have e : decide ((x.1 : Int) * (y.2 : Int) < (y.1 : Int) * (x.2 : Int)) = lessR x y := by
    unfold lessR
    by_cases h : x.1 * y.2 < y.1 * x.2
    · rw [decide_eq_true h, decide_eq_true]; exact_mod_cast h
    · rw [decide_eq_false h, decide_eq_false]; exact_mod_cast h
  rw [e]
def N__law_sum : List Str := ["_law_some", "_law_found", "_law_one"]
theorem sc__law_sum : FnScope N__law_sum ["_law_some"] (defScope (topS 54)) := ⟨rfl, rfl, rfl, by decide +kernel, rfl, by decide +kernel, by decide +kernel⟩
theorem w__law_sum (T : Bt k) (F__law_plus : Fn k 2 "_law_plus" (spP k P_plus)) (FC : FunC k.K "_law_sum" (topS 54) f fd cdv) (hm : k.mg "_law_sum" = some (.ref f)) : Fn k 3 "_law_sum" (spP k P_sum_of) := by
  refine fn_def FC hm (FC.binds fun _ _ _ _ _ _ us hl => match us, hl with | [_], _ => rfl) sc__law_sum (fun ds d ⟨l, _, _, e, _⟩ => by rw [e]; rfl) fun ds d ⟨l, h1, h2, e1, e2⟩ n => ?_
  subst e1; subst e2
  refine gs_cons ?_
  refine gs_set 1 rfl (by dsimp only [cdOf, Cd.blk, Cd.gen]; decide +kernel) ?_
  refine ge_tup ?_
  refine ga_cons ?_
  refine ge_int ?_
  refine ga_cons ?_
  refine ge_int ?_
  refine ga_nil ?_
  refine ⟨(show 2 ≤ sizeLine by decide), ?_⟩
  refine gs_cons ?_
  refine gs_for [2] [2] ?_
  refine gi_list ?_
  refine ge_nm 0 rfl (by first | exact Or.inl rfl | exact Or.inr (.inl rfl) | exact Or.inr (.inr rfl)) rfl ?_
  refine ⟨_, rfl, ?_⟩
  refine ⟨fun i g => g = ⟨[.dat (.list (l.map pD)), .dat (pD (sumR (l.take i))), .non], none⟩, rfl, fun i d g2 hd e => ?_, fun g2 e => ?_⟩
  · subst e
    rw [List.getElem?_map] at hd
    cases hx : l[i]? with
    | none => rw [hx] at hd; cases hd
    | some x =>
      rw [hx] at hd; cases hd
      refine gg_name 2 rfl (by dsimp only [cdOf, Cd.blk, Cd.gen]; decide +kernel) ?_
      refine gs_cons ?_
      refine gs_set 1 rfl (by dsimp only [cdOf, Cd.blk, Cd.gen]; decide +kernel) ?_
      refine ge_call F__law_plus (by dsimp only [cdOf, Cd.blk, Cd.gen]; decide +kernel) rfl ?_
      refine ga_cons ?_
      refine ge_nm 1 rfl (by first | exact Or.inl rfl | exact Or.inr (.inl rfl) | exact Or.inr (.inr rfl)) rfl ?_
      refine ga_cons ?_
      refine ge_nm 2 rfl (by first | exact Or.inl rfl | exact Or.inr (.inl rfl) | exact Or.inr (.inr rfl)) rfl ?_
      refine ga_nil ?_
      refine ⟨_, ⟨sumR (l.take i), x, h2 i, h1 x (List.mem_of_getElem? hx), rfl, rfl⟩, ?_⟩
      refine gs_nil ?_
      have e : sumR (l.take (i + 1)) = plusR (sumR (l.take i)) x := by
        unfold sumR
        rw [List.take_add_one, hx, List.foldl_append]; rfl
      show (⟨[.dat (.list (l.map pD)), .dat (pD (plusR (sumR (l.take i)) x)), .non], none⟩ : GS) = _
      rw [← e]
  · subst e
    refine gs_cons ?_
    refine gs_ret ?_
    refine ge_nm 1 rfl (by first | exact Or.inl rfl | exact Or.inr (.inl rfl) | exact Or.inr (.inr rfl)) rfl ?_
    refine ⟨?_, rfl⟩
    rw [List.length_map, List.take_length]
/-! the row -/
def Pr_taken (ds : List PyData) : Prop := ∃ m : Nat, 0 < m ∧ m < 2 ^ 30 ∧ ds = [nD m]
def Po_taken (ds : List PyData) (d : PyData) : Prop := ∀ m : Nat, ds = [nD m] → ∃ i : Nat, i < m ∧ d = nD i
def N__law_taken : List Str := ["_law_row", "_law_many", "_law_found", "_law_cell"]
theorem sc__law_taken : FnScope N__law_taken ["_law_row", "_law_many"] (defScope (topS 48)) := ⟨rfl, rfl, rfl, by decide +kernel, rfl, by decide +kernel, by decide +kernel⟩
theorem emodN (x : Int) {m : Nat} (h : 0 < m) : ∃ i : Nat, i < m ∧ x % (m : Int) = (i : Int) := by
  have h1 := Int.emod_nonneg x (show (m : Int) ≠ 0 by omega)
  have h2 := Int.emod_lt_of_pos x (show 0 < (m : Int) by omega)
  exact ⟨(x % (m : Int)).toNat, by omega, by omega⟩
theorem po_of {x : Int} {m : Nat} (h : 0 < m) : Po_taken [nD m] (.int (x % (m : Int))) := fun m' e => by
  have e' : m = m' := by
    have := (List.cons.inj e).1
    have := PyData.int.inj this
    omega
  subst e'
  obtain ⟨i, hi, e⟩ := emodN x h
  exact ⟨i, hi, by rw [e]⟩
theorem w__law_taken (T : Bt k) (FC : FunC k.K "_law_taken" (topS 48) f fd cdv) (hm : k.mg "_law_taken" = some (.ref f)) : Fn k 1 "_law_taken" (spR k Pr_taken Po_taken) := by
  refine fn_defR FC hm (FC.binds fun _ _ _ _ _ _ us hl => match us, hl with | [_, _], _ => rfl) sc__law_taken (fun ds ⟨m, _, _, e⟩ => by rw [e]; rfl) fun ds ρ ⟨m, h0, h1, e⟩ ok n => ?_
  subst e
  have po : ∀ x : Int, Po_taken [nD m] (.int (x % (m : Int))) := fun x => po_of h0
  have i0 := ok.i0
  refine gs_cons ?_
  refine gs_if ?_
  refine gt_gt ?_
  refine ge_row 0 (j := 3) (z := ρ.rs) rfl (by first | exact Or.inl rfl | exact Or.inr (.inl rfl) | exact Or.inr (.inr rfl)) rfl rfl rfl ?_
  refine ge_int ?_
  refine ⟨_, _, rfl, rfl, ?_⟩
  refine ite_b (fun h => ?_) (fun h => ?_)
  · refine gs_cons ?_
    refine gs_set 2 rfl (by dsimp only [cdOf, Cd.blk, Cd.gen]; decide +kernel) ?_
    refine ge_mod ?_
    refine ge_intI rfl T.int ?_
    refine ge_row 0 (j := 3) (z := ρ.rs) rfl (by first | exact Or.inl rfl | exact Or.inr (.inl rfl) | exact Or.inr (.inr rfl)) rfl rfl rfl ?_
    refine ⟨_, rfl, ?_⟩
    refine ge_nm 1 rfl (by first | exact Or.inl rfl | exact Or.inr (.inl rfl) | exact Or.inr (.inr rfl)) rfl ?_
    refine ⟨_, _, rfl, rfl, by omega, ?_⟩
    refine gs_cons ?_
    refine gs_rowSet 0 (j := 3) (jn := 3) rfl (by first | exact Or.inl rfl | exact Or.inr (.inl rfl) | exact Or.inr (.inr rfl)) rfl rfl ?_
    refine ge_fdiv ?_
    refine ge_row 0 (j := 3) (z := ρ.rs) rfl (by first | exact Or.inl rfl | exact Or.inr (.inl rfl) | exact Or.inr (.inr rfl)) rfl rfl rfl ?_
    refine ge_nm 1 rfl (by first | exact Or.inl rfl | exact Or.inr (.inl rfl) | exact Or.inr (.inr rfl)) rfl ?_
    refine ⟨_, _, rfl, rfl, ⟨by omega, by omega⟩, ?_⟩
    refine ⟨_, ρ, { ρ with rs := ρ.rs / (m : Int) }, rfl, rfl, rfl, rfl, rfl, rfl, ?_⟩
    refine gs_cons ?_
    refine gs_ret ?_
    refine ge_nm 2 rfl (by first | exact Or.inl rfl | exact Or.inr (.inl rfl) | exact Or.inr (.inr rfl)) rfl ?_
    exact ⟨po _, _, rfl, ⟨i0⟩, rfl⟩
  · refine gs_nil ?_
    refine gs_cons ?_
    refine gs_rowSet 0 (j := 1) (jn := 1) rfl (by first | exact Or.inl rfl | exact Or.inr (.inl rfl) | exact Or.inr (.inr rfl)) rfl rfl ?_
    refine ge_add ?_
    refine ge_row 0 (j := 1) (z := ρ.i) rfl (by first | exact Or.inl rfl | exact Or.inr (.inl rfl) | exact Or.inr (.inr rfl)) rfl rfl rfl ?_
    refine ge_int ?_
    refine ⟨_, _, rfl, rfl, ?_⟩
    refine ⟨_, ρ, { ρ with i := ρ.i + 1 }, rfl, rfl, rfl, rfl, rfl, rfl, ?_⟩
    refine gs_cons ?_
    refine gs_if ?_
    refine gt_gt ?_
    refine ge_row 0 (j := 1) (z := ρ.i + 1) rfl (by first | exact Or.inl rfl | exact Or.inr (.inl rfl) | exact Or.inr (.inr rfl)) rfl rfl rfl ?_
    refine ge_rowLen 0 (ρ := { ρ with i := ρ.i + 1 }) rfl T.len rfl (by first | exact Or.inl rfl | exact Or.inr (.inl rfl) | exact Or.inr (.inr rfl)) rfl rfl ?_
    refine ⟨_, _, rfl, rfl, ?_⟩
    refine ite_b (fun h => ?_) (fun h => ?_)
    · refine gs_cons ?_
      refine gs_rowSet 0 (j := 2) (jn := 2) rfl (by first | exact Or.inl rfl | exact Or.inr (.inl rfl) | exact Or.inr (.inr rfl)) rfl rfl ?_
      refine ge_mod ?_
      refine ge_intI rfl T.int ?_
      refine ge_add ?_
      refine ge_mul ?_
      refine ge_row 0 (j := 2) (z := ρ.sd) (ρ := { ρ with i := ρ.i + 1 }) rfl (by first | exact Or.inl rfl | exact Or.inr (.inl rfl) | exact Or.inr (.inr rfl)) rfl rfl rfl ?_
      refine ge_int ?_
      refine ⟨_, _, rfl, rfl, .inr ⟨by decide, by decide⟩, ?_⟩
      refine ge_int ?_
      refine ⟨_, _, rfl, rfl, ?_⟩
      refine ⟨_, rfl, ?_⟩
      refine ge_int ?_
      refine ⟨_, _, rfl, rfl, by decide, ?_⟩
      refine ⟨_, { ρ with i := ρ.i + 1 }, { ρ with i := ρ.i + 1, sd := (ρ.sd * 48271 + 11) % 2147483647 }, rfl, rfl, rfl, rfl, rfl, rfl, ?_⟩
      refine gs_cons ?_
      refine gs_ret ?_
      refine ge_mod ?_
      refine ge_intI rfl T.int ?_
      refine ge_fdiv ?_
      refine ge_row 0 (j := 2) (z := (ρ.sd * 48271 + 11) % 2147483647) rfl (by first | exact Or.inl rfl | exact Or.inr (.inl rfl) | exact Or.inr (.inr rfl)) rfl rfl rfl ?_
      refine ge_int ?_
      refine ⟨_, _, rfl, rfl, ⟨by decide, by decide⟩, ?_⟩
      refine ⟨_, rfl, ?_⟩
      refine ge_nm 1 rfl (by first | exact Or.inl rfl | exact Or.inr (.inl rfl) | exact Or.inr (.inr rfl)) rfl ?_
      refine ⟨_, _, rfl, rfl, by omega, ?_⟩
      exact ⟨po _, _, rfl, ⟨show 0 ≤ ρ.i + 1 by omega⟩, rfl⟩
    · have h := of_decide_eq_false h
      have hlt : ρ.i.toNat < ρ.ns.length := by
        have h2 : ¬ ((ρ.ns.length : Nat) : Int) < ρ.i + 1 := h
        omega
      refine gs_nil ?_
      refine gs_cons ?_
      refine gs_set 3 rfl (by dsimp only [cdOf, Cd.blk, Cd.gen]; decide +kernel) ?_
      refine ge_rowCell 0 (ρ := { ρ with i := ρ.i + 1 }) rfl (by first | exact Or.inl rfl | exact Or.inr (.inl rfl) | exact Or.inr (.inr rfl)) rfl rfl ?_
      refine ge_sub ?_
      refine ge_row 0 (j := 1) (z := ρ.i + 1) rfl (by first | exact Or.inl rfl | exact Or.inr (.inl rfl) | exact Or.inr (.inr rfl)) rfl rfl rfl ?_
      refine ge_int ?_
      refine ⟨_, _, rfl, rfl, ?_⟩
      refine ⟨_, ρ.ns[ρ.i.toNat], rfl, ?_, ?_⟩
      · have e : ρ.i + 1 - 1 = ((ρ.i.toNat : Nat) : Int) := by omega
        rw [e]
        exact atN (List.getElem?_eq_getElem hlt)
      generalize ρ.ns[ρ.i.toNat] = cell
      refine gs_cons ?_
      refine gs_rowSet 0 (j := 2) (jn := 2) rfl (by first | exact Or.inl rfl | exact Or.inr (.inl rfl) | exact Or.inr (.inr rfl)) rfl rfl ?_
      refine ge_mod ?_
      refine ge_intI rfl T.int ?_
      refine ge_add ?_
      refine ge_add ?_
      refine ge_mul ?_
      refine ge_row 0 (j := 2) (z := ρ.sd) (ρ := { ρ with i := ρ.i + 1 }) rfl (by first | exact Or.inl rfl | exact Or.inr (.inl rfl) | exact Or.inr (.inr rfl)) rfl rfl rfl ?_
      refine ge_int ?_
      refine ⟨_, _, rfl, rfl, .inr ⟨by decide, by decide⟩, ?_⟩
      refine ge_nm 3 rfl (by first | exact Or.inl rfl | exact Or.inr (.inl rfl) | exact Or.inr (.inr rfl)) rfl ?_
      refine ⟨_, _, rfl, rfl, ?_⟩
      refine ge_int ?_
      refine ⟨_, _, rfl, rfl, ?_⟩
      refine ⟨_, rfl, ?_⟩
      refine ge_int ?_
      refine ⟨_, _, rfl, rfl, by decide, ?_⟩
      refine ⟨_, { ρ with i := ρ.i + 1 }, { ρ with i := ρ.i + 1, sd := (ρ.sd * 48271 + cell + 11) % 2147483647 }, rfl, rfl, rfl, rfl, rfl, rfl, ?_⟩
      refine gs_cons ?_
      refine gs_if ?_
      refine gt_ge ?_
      refine ge_nm 3 rfl (by first | exact Or.inl rfl | exact Or.inr (.inl rfl) | exact Or.inr (.inr rfl)) rfl ?_
      refine ge_pow ?_
      refine ge_int ?_
      refine ge_int ?_
      refine ⟨_, _, rfl, rfl, ⟨by decide, by decide, by decide⟩, ?_⟩
      refine ⟨_, _, rfl, rfl, ?_⟩
      refine ite_b (fun h => ?_) (fun h => ?_)
      · refine gs_cons ?_
        refine gs_rowSet 0 (j := 3) (jn := 3) rfl (by first | exact Or.inl rfl | exact Or.inr (.inl rfl) | exact Or.inr (.inr rfl)) rfl rfl ?_
        refine ge_fdiv ?_
        refine ge_nm 3 rfl (by first | exact Or.inl rfl | exact Or.inr (.inl rfl) | exact Or.inr (.inr rfl)) rfl ?_
        refine ge_nm 1 rfl (by first | exact Or.inl rfl | exact Or.inr (.inl rfl) | exact Or.inr (.inr rfl)) rfl ?_
        refine ⟨_, _, rfl, rfl, ⟨by omega, by omega⟩, ?_⟩
        refine ⟨_, { ρ with i := ρ.i + 1, sd := (ρ.sd * 48271 + cell + 11) % 2147483647 }, { ρ with i := ρ.i + 1, sd := (ρ.sd * 48271 + cell + 11) % 2147483647, rs := cell / (m : Int) }, rfl, rfl, rfl, rfl, rfl, rfl, ?_⟩
        refine gs_nil ?_
        refine gs_cons ?_
        refine gs_ret ?_
        refine ge_mod ?_
        refine ge_intI rfl T.int ?_
        refine ge_nm 3 rfl (by first | exact Or.inl rfl | exact Or.inr (.inl rfl) | exact Or.inr (.inr rfl)) rfl ?_
        refine ⟨_, rfl, ?_⟩
        refine ge_nm 1 rfl (by first | exact Or.inl rfl | exact Or.inr (.inl rfl) | exact Or.inr (.inr rfl)) rfl ?_
        refine ⟨_, _, rfl, rfl, by omega, ?_⟩
        exact ⟨po _, _, rfl, ⟨show 0 ≤ ρ.i + 1 by omega⟩, rfl⟩
      · refine gs_nil ?_
        refine gs_cons ?_
        refine gs_ret ?_
        refine ge_mod ?_
        refine ge_intI rfl T.int ?_
        refine ge_nm 3 rfl (by first | exact Or.inl rfl | exact Or.inr (.inl rfl) | exact Or.inr (.inr rfl)) rfl ?_
        refine ⟨_, rfl, ?_⟩
        refine ge_nm 1 rfl (by first | exact Or.inl rfl | exact Or.inr (.inl rfl) | exact Or.inr (.inr rfl)) rfl ?_
        refine ⟨_, _, rfl, rfl, by omega, ?_⟩
        exact ⟨po _, _, rfl, ⟨show 0 ≤ ρ.i + 1 by omega⟩, rfl⟩
def Pr_pick (ds : List PyData) : Prop := ∃ xs : List PyData, xs ≠ [] ∧ xs.length < 2 ^ 30 ∧ ds = [.list xs]
def Po_pick (ds : List PyData) (d : PyData) : Prop := ∀ xs, ds = [.list xs] → d ∈ xs
def N__law_pick : List Str := ["_law_row", "_law_things"]
theorem sc__law_pick : FnScope N__law_pick ["_law_row", "_law_things"] (defScope (topS 49)) := ⟨rfl, rfl, rfl, by decide +kernel, rfl, by decide +kernel, by decide +kernel⟩
theorem w__law_pick (T : Bt k) (F__law_taken : Fn k 1 "_law_taken" (spR k Pr_taken Po_taken)) (FC : FunC k.K "_law_pick" (topS 49) f fd cdv) (hm : k.mg "_law_pick" = some (.ref f)) : Fn k 2 "_law_pick" (spR k Pr_pick Po_pick) := by
  refine fn_defR FC hm (FC.binds fun _ _ _ _ _ _ us hl => match us, hl with | [_, _], _ => rfl) sc__law_pick (fun ds ⟨m, _, _, e⟩ => by rw [e]; rfl) fun ds ρ ⟨xs, h0, h1, e⟩ ok n => ?_
  subst e
  have hl : 0 < xs.length := List.length_pos_iff.mpr h0
  refine gs_cons ?_
  refine gs_ret ?_
  refine ge_ixL ?_
  refine ge_nm 1 rfl (by first | exact Or.inl rfl | exact Or.inr (.inl rfl) | exact Or.inr (.inr rfl)) rfl ?_
  refine ge_callR 0 F__law_taken (by dsimp only [cdOf, Cd.blk, Cd.gen]; decide +kernel) rfl rfl (by first | exact Or.inl rfl | exact Or.inr (.inl rfl) | exact Or.inr (.inr rfl)) rfl ?_
  refine ga_cons ?_
  refine ge_len rfl T.len ?_
  refine ge_nm 1 rfl (by first | exact Or.inl rfl | exact Or.inr (.inl rfl) | exact Or.inr (.inr rfl)) rfl ?_
  refine ⟨_, (by first | exact Or.inl rfl | exact Or.inr rfl), ?_⟩
  refine ga_nil ?_
  refine ⟨ρ, rfl, ok, ⟨xs.length, hl, h1, rfl⟩, fun d ρ' er ok' po => ?_⟩
  obtain ⟨i, hi, rfl⟩ := po xs.length rfl
  refine ⟨_, _, xs[i], rfl, rfl, atN (List.getElem?_eq_getElem hi), fun ys e => ?_, ρ', rfl, ok', ?_⟩
  · cases e
    exact List.getElem_mem hi
  · exact er
end
end Wk
set_option Elab.async false
set_option linter.all false
set_option maxRecDepth 100000
set_option maxHeartbeats 4000000
namespace Wk
open PySem PySem.Spec PyProof.Rows L2 Gh Mir
section
variable {k : Kit} {f : Addr} {fd : FuncData} {cdv : Value}
theorem at0 {α : Type} {x : α} {l : List α} : atI (x :: l) 0 = some x := atN (i := 0) rfl
theorem at1 {α : Type} {x y : α} {l : List α} : atI (x :: y :: l) 1 = some y := atN (i := 1) rfl
/-! _law_alike, of equal data -/
def okD : Nat → PyData → Prop
  | 0, .int _ => True
  | _ + 1, .int _ => True
  | l + 1, .tuple ds => ds.length ≤ 1000 ∧ ∀ x ∈ ds, okD l x
  | _, _ => False
def P_alike (l : Nat) (ds : List PyData) (r : PyData) : Prop := ∃ d, okD l d ∧ ds = [d, d] ∧ r = .bool true
def N__law_alike : List Str := ["_law_found", "_law_due", "_law_k"]
theorem sc__law_alike : FnScope N__law_alike ["_law_found", "_law_due"] (defScope (topS 50)) := ⟨rfl, rfl, rfl, by decide +kernel, rfl, by decide +kernel, by decide +kernel⟩
theorem fm_none {α β : Type} (l : List α) : l.filterMap (fun _ => (none : Option β)) = [] := by
  induction l with
  | nil => rfl
  | cons x l ih => rw [List.filterMap_cons]; exact ih
theorem w__law_alike (T : Bt k) (FC : FunC k.K "_law_alike" (topS 50) f fd cdv) (hm : k.mg "_law_alike" = some (.ref f)) : ∀ l : Nat, Fn k (l + 1) "_law_alike" (spP k (P_alike l)) := by
  have hints : ∀ (lv : Nat) (i : Int) n, GSs k n (cdOf N__law_alike (topS 50) lv cdv) (defBody (topS 50)) (gStart N__law_alike [.int i, .int i]) { nx := fun g => PyData.bool true = .none ∧ g.row = none, rt := fun d' g => d' = .bool true ∧ g.row = none } := by
    intro lv i n
    refine gs_cons ?_
    refine gs_if ?_
    refine gt_val ?_
    refine ge_isi2 rfl T.isi rfl T.tuple bt_tuple ty_tuple rfl T.list bt_list ty_list ?_
    refine ge_nm 1 rfl (by first | exact Or.inl rfl | exact Or.inr (.inl rfl) | exact Or.inr (.inr rfl)) rfl ?_
    refine ⟨_, rfl, ?_⟩
    refine ite_f (rfl) ?_
    refine gs_nil ?_
    refine gs_cons ?_
    refine gs_if ?_
    refine gt_w ?_
    refine gw_or ?_
    refine gt_isN ?_
    refine ge_nm 1 rfl (by first | exact Or.inl rfl | exact Or.inr (.inl rfl) | exact Or.inr (.inr rfl)) rfl ?_
    refine ite_f (rfl) ?_
    refine gw_or1 ?_
    refine gt_val ?_
    refine ge_isi rfl T.isi rfl T.str bt_str ty_str ?_
    refine ge_nm 1 rfl (by first | exact Or.inl rfl | exact Or.inr (.inl rfl) | exact Or.inr (.inr rfl)) rfl ?_
    refine ⟨_, rfl, ?_⟩
    refine ite_f (rfl) ?_
    refine gs_nil ?_
    refine gs_cons ?_
    refine gs_ret ?_
    refine ge_and ?_
    refine ge_isi rfl T.isi rfl T.int bt_int ty_int ?_
    refine ge_nm 0 rfl (by first | exact Or.inl rfl | exact Or.inr (.inl rfl) | exact Or.inr (.inr rfl)) rfl ?_
    refine ⟨_, rfl, ?_⟩
    refine ite_t (rfl) ?_
    refine ge_and ?_
    refine ge_eq ?_
    refine ge_isi rfl T.isi rfl T.bool bt_bool ty_bool ?_
    refine ge_nm 0 rfl (by first | exact Or.inl rfl | exact Or.inr (.inl rfl) | exact Or.inr (.inr rfl)) rfl ?_
    refine ge_isi rfl T.isi rfl T.bool bt_bool ty_bool ?_
    refine ge_nm 1 rfl (by first | exact Or.inl rfl | exact Or.inr (.inl rfl) | exact Or.inr (.inr rfl)) rfl ?_
    refine ⟨rfl, rfl, ?_⟩
    refine ⟨_, rfl, ?_⟩
    refine ite_t (rfl) ?_
    refine ge_one ?_
    refine ge_eq ?_
    refine ge_nm 0 rfl (by first | exact Or.inl rfl | exact Or.inr (.inl rfl) | exact Or.inr (.inr rfl)) rfl ?_
    refine ge_nm 1 rfl (by first | exact Or.inl rfl | exact Or.inr (.inl rfl) | exact Or.inr (.inr rfl)) rfl ?_
    refine ⟨rfl, rfl, ?_, rfl⟩
    rw [eqvI, decide_eq_true rfl]
  intro l
  induction l with
  | zero =>
    refine fn_def FC hm (FC.binds fun _ _ _ _ _ _ us hl => match us, hl with | [_, _], _ => rfl) sc__law_alike (fun ds d ⟨_, _, e, _⟩ => by rw [e]; rfl) fun ds r ⟨d, ho, e1, e2⟩ n => ?_
    subst e1; subst e2
    cases d <;> first | exact ho.elim | exact hints 0 _ n
  | succ l ih =>
    refine fn_def FC hm (FC.binds fun _ _ _ _ _ _ us hl => match us, hl with | [_, _], _ => rfl) sc__law_alike (fun ds d ⟨_, _, e, _⟩ => by rw [e]; rfl) fun ds r ⟨d, ho, e1, e2⟩ n => ?_
    subst e1; subst e2
    cases d with
    | int i => exact hints _ i n
    | tuple xs =>
      obtain ⟨hl, hx⟩ := ho
      have F__law_alike := ih
      refine gs_cons ?_
      refine gs_if ?_
      refine gt_val ?_
      refine ge_isi2 rfl T.isi rfl T.tuple bt_tuple ty_tuple rfl T.list bt_list ty_list ?_
      refine ge_nm 1 rfl (by first | exact Or.inl rfl | exact Or.inr (.inl rfl) | exact Or.inr (.inr rfl)) rfl ?_
      refine ⟨_, rfl, ?_⟩
      refine ite_t (rfl) ?_
      refine gs_cons ?_
      refine gs_if ?_
      refine gt_w ?_
      refine gw_or ?_
      refine gt_not ?_
      refine gt_val ?_
      refine ge_isi2 rfl T.isi rfl T.tuple bt_tuple ty_tuple rfl T.list bt_list ty_list ?_
      refine ge_nm 0 rfl (by first | exact Or.inl rfl | exact Or.inr (.inl rfl) | exact Or.inr (.inr rfl)) rfl ?_
      refine ⟨_, rfl, ?_⟩
      refine ite_f (rfl) ?_
      refine gw_or1 ?_
      refine gt_ne ?_
      refine ge_isi rfl T.isi rfl T.list bt_list ty_list ?_
      refine ge_nm 0 rfl (by first | exact Or.inl rfl | exact Or.inr (.inl rfl) | exact Or.inr (.inr rfl)) rfl ?_
      refine ge_isi rfl T.isi rfl T.list bt_list ty_list ?_
      refine ge_nm 1 rfl (by first | exact Or.inl rfl | exact Or.inr (.inl rfl) | exact Or.inr (.inr rfl)) rfl ?_
      refine ⟨rfl, rfl, ?_⟩
      refine ite_f (rfl) ?_
      refine gs_nil ?_
      refine gs_cons ?_
      refine gs_if ?_
      refine gt_ne ?_
      refine ge_len rfl T.len ?_
      refine ge_nm 0 rfl (by first | exact Or.inl rfl | exact Or.inr (.inl rfl) | exact Or.inr (.inr rfl)) rfl ?_
      refine ⟨_, (by first | exact Or.inl rfl | exact Or.inr rfl), ?_⟩
      refine ge_len rfl T.len ?_
      refine ge_nm 1 rfl (by first | exact Or.inl rfl | exact Or.inr (.inl rfl) | exact Or.inr (.inr rfl)) rfl ?_
      refine ⟨_, (by first | exact Or.inl rfl | exact Or.inr rfl), ?_⟩
      refine ⟨rfl, rfl, ?_⟩
      refine ite_f (by rw [eqvN, decide_eq_true rfl]; rfl) ?_
      refine gs_nil ?_
      refine gs_cons ?_
      refine gs_ret ?_
      refine ge_eq ?_
      refine ge_lc [("_law_k", 2)] ([2] ++ ([])) (by dsimp only [cdOf, Cd.blk, Cd.gen]; decide +kernel) (by decide) (lcH_f (fun d => none) ?_)
      refine gi_rng1 rfl T.range ?_
      refine ge_len rfl T.len ?_
      refine ge_nm 1 rfl (by first | exact Or.inl rfl | exact Or.inr (.inl rfl) | exact Or.inr (.inr rfl)) rfl ?_
      refine ⟨_, (by first | exact Or.inl rfl | exact Or.inr rfl), ?_⟩
      refine ⟨_, rfl, by omega, by omega, ?_⟩
      rw [show ((xs.length : Nat) : Int).toNat = xs.length by omega]
      refine ⟨fun d hd => ?_, ?_, ?_⟩
      · obtain ⟨i, hi, rfl⟩ := rng_mem hd
        have hxi : xs[i]? = some xs[i] := List.getElem?_eq_getElem hi
        refine gg_name 2 rfl (by dsimp only [cdOf, Cd.blk, Cd.gen]; decide +kernel) ?_
        refine gps_one ?_
        refine gt_not ?_
        refine gt_val ?_
        refine ge_call F__law_alike (by dsimp only [cdOf, Cd.blk]; omega) rfl ?_
        refine ga_cons ?_
        refine ge_ixT ?_
        refine ge_nm 0 rfl (by first | exact Or.inl rfl | exact Or.inr (.inl rfl) | exact Or.inr (.inr rfl)) rfl ?_
        refine ge_nm 2 rfl (by first | exact Or.inl rfl | exact Or.inr (.inl rfl) | exact Or.inr (.inr rfl)) rfl ?_
        refine ⟨_, _, _, rfl, rfl, atN hxi, ?_⟩
        refine ga_cons ?_
        refine ge_ixT ?_
        refine ge_nm 1 rfl (by first | exact Or.inl rfl | exact Or.inr (.inl rfl) | exact Or.inr (.inr rfl)) rfl ?_
        refine ge_nm 2 rfl (by first | exact Or.inl rfl | exact Or.inr (.inl rfl) | exact Or.inr (.inr rfl)) rfl ?_
        refine ⟨_, _, _, rfl, rfl, atN hxi, ?_⟩
        refine ga_nil ?_
        refine ⟨_, ⟨_, hx _ (List.getElem_mem hi), rfl, rfl⟩, ?_⟩
        refine ⟨_, rfl, ?_⟩
        refine ite_f (rfl) ?_
        exact ⟨rfl, rfl⟩
      · rw [rngD_len]; exact Nat.le_trans hl (by decide)
      · rw [fm_none]
        refine ge_lst ?_
        refine ga_nil ?_
        refine ⟨(show 0 ≤ sizeLine by decide), ?_⟩
        exact ⟨rfl, rfl, rfl, rfl⟩
    | none => exact ho.elim
    | bool b => exact ho.elim
    | str s => exact ho.elim
    | list xs => exact ho.elim
    | dict kvs => exact ho.elim
/-! _law_game_ways -/
structure RdsOf (rds : List PyData) (es : Es) : Prop where
  len : rds.length = es.length
  get : ∀ (i : Nat) e, es[i]? = some e → ∃ t, rds[i]? = some (.tuple (nD e.1 :: nD e.2 :: t))
def P__law_game_ways (ds : List PyData) (d : PyData) : Prop := ∃ (sz : Nat) (es : Es) (p : Nat × Nat) (rds rest : List PyData), sz ≤ 4 ∧ es.length ≤ 6 ∧ (∀ e ∈ es, e.2 < sz) ∧ p.1 < sz ∧ RdsOf rds es ∧ ds = [.tuple (nD sz :: .tuple rds :: rest), pD p] ∧ d = .list ((ways sz es p.1 p.2).map tD)
def N__law_game_ways : List Str := ["_law_game_here", "_law_player", "_law_found", "_law_rows", "_law_turn", "_law_more", "_law_way", "_law_nodes", "_law_k", "_law_one"]
theorem sc__law_game_ways : FnScope N__law_game_ways ["_law_game_here", "_law_player"] (defScope (topS 56)) := ⟨rfl, rfl, rfl, by decide +kernel, rfl, by decide +kernel, by decide +kernel⟩
def glF (g : Nat) : PyData → Option PyData
  | .tuple [a, b] => if lastN (unT b) = g then some a else none
  | _ => none
def ngF (g : Nat) : PyData → Option PyData
  | .tuple [a, b] => if lastN (unT b) = g then none else some (.tuple [a, b])
  | _ => none
theorem glF_r (g : Nat) (r : Mir.Row) : glF g (rowD r) = if lastN r.2 = g then some (tD r.1) else none := by
  show (if lastN (unT (tD r.2)) = g then some (tD r.1) else none) = _
  rw [unT_tD]
theorem ngF_r (g : Nat) (r : Mir.Row) : ngF g (rowD r) = if lastN r.2 = g then none else some (rowD r) := by
  show (if lastN (unT (tD r.2)) = g then none else some (rowD r)) = _
  rw [unT_tD]
theorem gl_fm (g : Nat) : ∀ rows : List Mir.Row, (rows.map rowD).filterMap (glF g) = (gl g rows).map tD
  | [] => rfl
  | r :: rows => by
    rw [List.map_cons, List.filterMap_cons, gl_fm g rows, glF_r]
    unfold gl
    rw [List.filter_cons]
    by_cases h : lastN r.2 = g
    · rw [if_pos h, if_pos (decide_eq_true h)]; rfl
    · rw [if_neg h, if_neg (by rw [decide_eq_false h]; decide)]
theorem ng_fm (g : Nat) : ∀ rows : List Mir.Row, (rows.map rowD).filterMap (ngF g) = (ng g rows).map rowD
  | [] => rfl
  | r :: rows => by
    rw [List.map_cons, List.filterMap_cons, ng_fm g rows, ngF_r]
    unfold ng
    rw [List.filter_cons]
    by_cases h : lastN r.2 = g
    · rw [if_pos h, if_neg (by rw [decide_eq_true h]; decide)]
    · rw [if_neg h, if_pos (by rw [decide_eq_false h]; rfl)]; rfl
set_option maxHeartbeats 16000000 in
theorem w__law_game_ways (T : Bt k) (FC : FunC k.K "_law_game_ways" (topS 56) f fd cdv) (hm : k.mg "_law_game_ways" = some (.ref f)) : Fn k 2 "_law_game_ways" (spP k P__law_game_ways) := by
  refine fn_def FC hm (FC.binds fun _ _ _ _ _ _ us hl => match us, hl with | [_, _], _ => rfl) sc__law_game_ways (fun ds d ⟨_, _, _, _, _, _, _, _, _, _, e, _⟩ => by rw [e]; rfl) fun ds d ⟨sz, es, p, rds, rest, hn, hl6, he, hs, hrd, e1, e2⟩ n => ?_
  subst e1; subst e2
  have hrl := hrd.len
  refine gs_cons ?_
  refine gs_par 2 3 rfl rfl (by decide) rfl rfl ?_ (fun env h => by cases env; cases h; rfl)
  refine ga_cons ?_
  refine ge_lst ?_
  refine ga_nil ?_
  refine ⟨(show 0 ≤ sizeLine by decide), ?_⟩
  refine ga_cons ?_
  refine ge_lst ?_
  refine ga_cons ?_
  refine ge_tup ?_
  refine ga_cons ?_
  refine ge_tup ?_
  refine ga_nil ?_
  refine ⟨(show 0 ≤ sizeLine by decide), ?_⟩
  refine ga_cons ?_
  refine ge_tup ?_
  refine ga_cons ?_
  refine ge_ixT ?_
  refine ge_nm 1 rfl (by first | exact Or.inl rfl | exact Or.inr (.inl rfl) | exact Or.inr (.inr rfl)) rfl ?_
  refine ge_int ?_
  refine ⟨_, _, _, rfl, rfl, rfl, ?_⟩
  refine ga_nil ?_
  refine ⟨(show 1 ≤ sizeLine by decide), ?_⟩
  refine ga_nil ?_
  refine ⟨(show 2 ≤ sizeLine by decide), ?_⟩
  refine ga_nil ?_
  refine ⟨(show 1 ≤ sizeLine by decide), ?_⟩
  refine ga_nil ?_
  refine ⟨_, _, rfl, ?_⟩
  refine gs_cons ?_
  refine gs_for [4, 5, 6, 7, 8] [4] ?_
  refine gi_rng1 rfl T.range ?_
  refine ge_ixT ?_
  refine ge_nm 0 rfl (by first | exact Or.inl rfl | exact Or.inr (.inl rfl) | exact Or.inr (.inr rfl)) rfl ?_
  refine ge_int ?_
  refine ⟨_, _, _, rfl, rfl, at0, ?_⟩
  refine ⟨_, rfl, by omega, by omega, ?_⟩
  rw [show ((sz : Nat) : Int).toNat = sz by omega]
  refine ⟨fun t g' => ∃ (rows : List Mir.Row) (acc : List (List Nat)), acc ++ waysN es p.2 (sz - t) rows = waysN es p.2 sz [([], [p.1])] ∧ (∀ r ∈ rows, RowOk sz es.length (sz - t) r) ∧ rows.length ≤ 6 ^ t ∧
    g' = ⟨[.dat (.tuple (nD sz :: .tuple rds :: rest)), .dat (pD p), .dat (.list (acc.map tD)), .dat (.list (rows.map rowD)), .non, .non, .non, .non, .non, .non], none⟩, ⟨[([], [p.1])], [], rfl, fun r hr => (by simp at hr; subst hr; exact row_start hs), by simp, rfl⟩, fun t d g2 hd e => ?_, fun g2 e => ?_⟩
  · obtain ⟨rows, acc, htot, hok, hrl2, e⟩ := e
    subst e
    obtain ⟨ht, rfl⟩ := rngD_get hd
    obtain ⟨m, hm⟩ : ∃ m, sz - t = m + 1 := ⟨sz - t - 1, by omega⟩
    have hm' : sz - (t + 1) = m := by omega
    rw [hm] at htot hok
    have htl : (acc ++ waysN es p.2 (m + 1) rows).length ≤ 20736 := by
      rw [htot]
      have h1 := waysN_len es p.2 hl6 sz [([], [p.1])]
      have h2 : 12 ^ sz ≤ 12 ^ 4 := Nat.pow_le_pow_right (by decide) hn
      simp only [List.length_singleton, Nat.one_mul] at h1
      omega
    rw [List.length_append] at htl
    have hrl3 : rows.length ≤ 1296 := by
      have h2 : 6 ^ t ≤ 6 ^ 4 := Nat.pow_le_pow_right (by decide) (by omega)
      omega
    have mol : ∀ i, (more es (rows.take i)).length ≤ 7776 := fun i => by
      have h1 := more_len es (rows.take i)
      have h2 : es.length * (rows.take i).length ≤ 6 * 1296 := Nat.mul_le_mul hl6 (by rw [List.length_take]; omega)
      omega
    refine gg_name 4 rfl (by dsimp only [cdOf, Cd.blk, Cd.gen]; decide +kernel) ?_
    refine gs_cons ?_
    refine gs_new 5 rfl (by dsimp only [cdOf, Cd.blk, Cd.gen]; decide +kernel) ?_
    refine ga_nil ?_
    refine ⟨(show 0 ≤ sizeLine by decide), fun mm => ?_⟩
    refine gs_cons ?_
    refine gs_for [6, 7, 8] ([6] ++ ([7] ++ ([]))) ?_
    refine gi_list ?_
    refine ge_nm 3 rfl (by first | exact Or.inl rfl | exact Or.inr (.inl rfl) | exact Or.inr (.inr rfl)) rfl ?_
    refine ⟨_, rfl, ?_⟩
    refine ⟨fun i g' => g' = ⟨[.dat (.tuple (nD sz :: .tuple rds :: rest)), .dat (pD p), .dat (.list (acc.map tD)), .dat (.list (rows.map rowD)), .dat (.int (0 + (t : Nat))), .mu mm ((more es (rows.take i)).map rowD), .non, .non, .non, .non], none⟩, rfl, fun i d g2 hd e => ?_, fun g2 e => ?_⟩
    · subst e
      rw [List.getElem?_map] at hd
      cases hx : rows[i]? with
      | none => rw [hx] at hd; cases hd
      | some r =>
        rw [hx] at hd; cases hd
        have ok := hok r (List.mem_of_getElem? hx)
        have wl := wayL ok hn
        refine gg_tup ?_
        refine gg_cons ?_
        refine gg_name 6 rfl (by dsimp only [cdOf, Cd.blk, Cd.gen]; decide +kernel) ?_
        refine gg_cons ?_
        refine gg_name 7 rfl (by dsimp only [cdOf, Cd.blk, Cd.gen]; decide +kernel) ?_
        refine gg_nil ?_
        refine gs_cons ?_
        refine gs_for [8] [8] ?_
        refine gi_rng1 rfl T.range ?_
        refine ge_len rfl T.len ?_
        refine ge_ixT ?_
        refine ge_nm 0 rfl (by first | exact Or.inl rfl | exact Or.inr (.inl rfl) | exact Or.inr (.inr rfl)) rfl ?_
        refine ge_int ?_
        refine ⟨_, _, _, rfl, rfl, at1, ?_⟩
        refine ⟨_, (by first | exact Or.inl rfl | exact Or.inr rfl), ?_⟩
        rw [hrl]
        refine ⟨_, rfl, by omega, by omega, ?_⟩
        rw [show ((es.length : Nat) : Int).toNat = es.length by omega]
        refine ⟨fun j g' => g' = ⟨[.dat (.tuple (nD sz :: .tuple rds :: rest)), .dat (pD p), .dat (.list (acc.map tD)), .dat (.list (rows.map rowD)), .dat (.int (0 + (t : Nat))), .mu mm ((more es (rows.take i) ++ (es.zipIdx.take j).filterMap (ext1 r)).map rowD), .dat (tD r.1), .dat (tD r.2), .non, .non], none⟩, ?_, fun j d g3 hd e => ?_, fun g3 e => ?_⟩
        · show (⟨[.dat (.tuple (nD sz :: .tuple rds :: rest)), .dat (pD p), .dat (.list (acc.map tD)), .dat (.list (rows.map rowD)), .dat (.int (0 + (t : Nat))), .mu mm ((more es (rows.take i)).map rowD), .dat (tD r.1), .dat (tD r.2), .non, .non], none⟩ : GS) = _
          simp
        · subst e
          obtain ⟨hj, hd'⟩ := rngD_get hd
          have e0 : (0 : Int) + (j : Nat) = (j : Int) := by omega
          rw [e0] at hd'
          subst hd'
          have hes : es[j]? = some es[j] := List.getElem?_eq_getElem hj
          generalize es[j] = rd at hes
          obtain ⟨tl, hrds⟩ := hrd.get j rd hes
          have xt := ext_take (r := r) hes
          have ql : (more es (rows.take i) ++ (es.zipIdx.take j).filterMap (ext1 r)).length ≤ 7782 := by
            have h1 := mol i
            have h2 : ((es.zipIdx.take j).filterMap (ext1 r)).length ≤ 6 := by
              refine Nat.le_trans (List.length_filterMap_le _ _) ?_
              rw [List.length_take]; omega
            rw [List.length_append]; omega
          have same : ext1 r (rd, j) = none → (es.zipIdx.take (j + 1)).filterMap (ext1 r) = (es.zipIdx.take j).filterMap (ext1 r) := fun z => by rw [xt, z]; simp
          refine gg_name 8 rfl (by dsimp only [cdOf, Cd.blk, Cd.gen]; decide +kernel) ?_
          refine gs_cons ?_
          refine gs_if ?_
          refine gt_w ?_
          refine gw_and ?_
          refine gt_eq ?_
          refine ge_ixT ?_
          refine ge_ixT ?_
          refine ge_ixT ?_
          refine ge_nm 0 rfl (by first | exact Or.inl rfl | exact Or.inr (.inl rfl) | exact Or.inr (.inr rfl)) rfl ?_
          refine ge_int ?_
          refine ⟨_, _, _, rfl, rfl, at1, ?_⟩
          refine ge_nm 8 rfl (by first | exact Or.inl rfl | exact Or.inr (.inl rfl) | exact Or.inr (.inr rfl)) rfl ?_
          refine ⟨_, _, _, rfl, rfl, atN hrds, ?_⟩
          refine ge_int ?_
          refine ⟨_, _, _, rfl, rfl, at0, ?_⟩
          refine ge_ixT ?_
          refine ge_nm 7 rfl (by first | exact Or.inl rfl | exact Or.inr (.inl rfl) | exact Or.inr (.inr rfl)) rfl ?_
          refine ge_neg ?_
          refine ge_int ?_
          refine ⟨_, rfl, ?_⟩
          refine ⟨_, _, _, rfl, rfl, atLastN ok.ne, ?_⟩
          refine ⟨rfl, rfl, ?_⟩
          rw [eqvN]
          refine ite_b (fun h1 => ?_) (fun h1 => ?_)
          · have h1 := of_decide_eq_true h1
            refine gw_and1 ?_
            refine gt_niT ?_
            refine ge_ixT ?_
            refine ge_ixT ?_
            refine ge_ixT ?_
            refine ge_nm 0 rfl (by first | exact Or.inl rfl | exact Or.inr (.inl rfl) | exact Or.inr (.inr rfl)) rfl ?_
            refine ge_int ?_
            refine ⟨_, _, _, rfl, rfl, at1, ?_⟩
            refine ge_nm 8 rfl (by first | exact Or.inl rfl | exact Or.inr (.inl rfl) | exact Or.inr (.inr rfl)) rfl ?_
            refine ⟨_, _, _, rfl, rfl, atN hrds, ?_⟩
            refine ge_int ?_
            refine ⟨_, _, _, rfl, rfl, at1, ?_⟩
            refine ge_nm 7 rfl (by first | exact Or.inl rfl | exact Or.inr (.inl rfl) | exact Or.inr (.inr rfl)) rfl ?_
            refine ⟨_, r.2.map (fun n : Nat => (n : Int)), rfl, tD_ints _, ?_⟩
            rw [memN]
            refine ite_b (fun h2 => ?_) (fun h2 => ?_)
            · have h2 : rd.2 ∉ r.2 := by simpa using h2
              have xe : ext1 r (rd, j) = some (r.1 ++ [j], r.2 ++ [rd.2]) := if_pos ⟨h1, h2⟩
              rw [xe] at xt
              refine gs_cons ?_
              refine gs_app 5 rfl (by first | exact Or.inl rfl | exact Or.inr (.inl rfl) | exact Or.inr (.inr rfl)) ⟨_, _, rfl⟩ ?_
              refine ge_tup ?_
              refine ga_cons ?_
              refine ge_catT ?_
              refine ge_nm 6 rfl (by first | exact Or.inl rfl | exact Or.inr (.inl rfl) | exact Or.inr (.inr rfl)) rfl ?_
              refine ge_tup ?_
              refine ga_cons ?_
              refine ge_nm 8 rfl (by first | exact Or.inl rfl | exact Or.inr (.inl rfl) | exact Or.inr (.inr rfl)) rfl ?_
              refine ga_nil ?_
              refine ⟨(show 1 ≤ sizeLine by decide), ?_⟩
              refine ⟨_, _, rfl, rfl, by rw [List.length_map]; exact Nat.le_trans (show _ ≤ 10 by simp only [List.length_singleton]; omega) (by decide), ?_⟩
              refine ga_cons ?_
              refine ge_catT ?_
              refine ge_nm 7 rfl (by first | exact Or.inl rfl | exact Or.inr (.inl rfl) | exact Or.inr (.inr rfl)) rfl ?_
              refine ge_tup ?_
              refine ga_cons ?_
              refine ge_ixT ?_
              refine ge_ixT ?_
              refine ge_ixT ?_
              refine ge_nm 0 rfl (by first | exact Or.inl rfl | exact Or.inr (.inl rfl) | exact Or.inr (.inr rfl)) rfl ?_
              refine ge_int ?_
              refine ⟨_, _, _, rfl, rfl, at1, ?_⟩
              refine ge_nm 8 rfl (by first | exact Or.inl rfl | exact Or.inr (.inl rfl) | exact Or.inr (.inr rfl)) rfl ?_
              refine ⟨_, _, _, rfl, rfl, atN hrds, ?_⟩
              refine ge_int ?_
              refine ⟨_, _, _, rfl, rfl, at1, ?_⟩
              refine ga_nil ?_
              refine ⟨(show 1 ≤ sizeLine by decide), ?_⟩
              refine ⟨_, _, rfl, rfl, by rw [List.length_map]; exact Nat.le_trans (show _ ≤ 10 by simp only [List.length_singleton]; omega) (by decide), ?_⟩
              refine ga_nil ?_
              refine ⟨(show 2 ≤ sizeLine by decide), fun m' ds e => ?_⟩
              cases e
              refine ⟨?_, ?_⟩
              · rw [List.length_map]
                exact Nat.lt_of_le_of_lt (show _ ≤ 100000 by omega) (by decide)
              · refine gs_nil ?_
                refine gs_nil ?_
                show (⟨[.dat (.tuple (nD sz :: .tuple rds :: rest)), .dat (pD p), .dat (.list (acc.map tD)), .dat (.list (rows.map rowD)), .dat (.int (0 + (t : Nat))), .mu mm ((more es (rows.take i) ++ (es.zipIdx.take j).filterMap (ext1 r)).map rowD ++ [.tuple [.tuple (r.1.map nD ++ [nD j]), .tuple (r.2.map nD ++ [nD rd.2])]]), .dat (tD r.1), .dat (tD r.2), .non, .non], none⟩ : GS) = _
                rw [xt, ← List.append_assoc]
                show _ = (⟨[_, _, _, _, _, .mu mm (((more es (rows.take i) ++ (es.zipIdx.take j).filterMap (ext1 r)) ++ [(r.1 ++ [j], r.2 ++ [rd.2])]).map rowD), _, _, _, _], none⟩ : GS)
                rw [List.map_append (l₂ := [(r.1 ++ [j], r.2 ++ [rd.2])])]
                show _ = (⟨[_, _, _, _, _, .mu mm (_ ++ [.tuple [.tuple ((r.1 ++ [j]).map nD), .tuple ((r.2 ++ [rd.2]).map nD)]]), _, _, _, _], none⟩ : GS)
                rw [List.map_append (l₁ := r.1), List.map_append (l₁ := r.2)]
                rfl
            · have h2 : rd.2 ∈ r.2 := by simpa using h2
              refine gs_nil ?_
              refine gs_nil ?_
              show (_ : GS) = (_ : GS)
              rw [same (if_neg (fun z => z.2 h2))]
              rfl
          · have h1 := of_decide_eq_false h1
            refine ite_f (rfl) ?_
            refine gs_nil ?_
            refine gs_nil ?_
            show (_ : GS) = (_ : GS)
            rw [same (if_neg (fun z => h1 z.1))]
            rfl
        · subst e
          refine gs_nil ?_
          show (_ : GS) = (_ : GS)
          rw [more_take hx, ← ext_all, rngD_len]
          rfl
    · subst e
      have e1 : (rows.map rowD).length = rows.length := List.length_map ..
      rw [e1, List.take_length]
      have ml : (more es rows).length ≤ 7776 := by have := mol rows.length; rw [List.take_length] at this; exact this
      have mok := row_more he hok
      refine gs_frz 5 rfl ?_
      refine gs_cons ?_
      refine gs_set 2 rfl (by dsimp only [cdOf, Cd.blk, Cd.gen]; decide +kernel) ?_
      refine ge_catL ?_
      refine ge_nm 2 rfl (by first | exact Or.inl rfl | exact Or.inr (.inl rfl) | exact Or.inr (.inr rfl)) rfl ?_
      refine ge_lc [("_law_way", 6), ("_law_nodes", 7)] ([6] ++ ([7] ++ ([]))) (by dsimp only [cdOf, Cd.blk, Cd.gen]; decide +kernel) (by decide) (lcH_f (glF p.2) ?_)
      refine gi_list ?_
      refine ge_nm 5 rfl (by first | exact Or.inl rfl | exact Or.inr (.inl rfl) | exact Or.inr (.inr rfl)) rfl ?_
      refine ⟨_, rfl, ?_⟩
      refine ⟨fun d hd => ?_, ?_, ?_⟩
      · obtain ⟨r, hr, rfl⟩ := List.mem_map.mp hd
        refine gg_tup ?_
        refine gg_cons ?_
        refine gg_name 6 rfl (by dsimp only [cdOf, Cd.blk, Cd.gen]; decide +kernel) ?_
        refine gg_cons ?_
        refine gg_name 7 rfl (by dsimp only [cdOf, Cd.blk, Cd.gen]; decide +kernel) ?_
        refine gg_nil ?_
        refine gps_one ?_
        refine gt_eq ?_
        refine ge_ixT ?_
        refine ge_nm 7 rfl (by first | exact Or.inl rfl | exact Or.inr (.inl rfl) | exact Or.inr (.inr rfl)) rfl ?_
        refine ge_neg ?_
        refine ge_int ?_
        refine ⟨_, rfl, ?_⟩
        refine ⟨_, _, _, rfl, rfl, atLastN (mok r hr).ne, ?_⟩
        refine ge_ixT ?_
        refine ge_nm 1 rfl (by first | exact Or.inl rfl | exact Or.inr (.inl rfl) | exact Or.inr (.inr rfl)) rfl ?_
        refine ge_int ?_
        refine ⟨_, _, _, rfl, rfl, rfl, ?_⟩
        refine ⟨rfl, rfl, ?_⟩
        rw [eqvN]
        refine ite_b (fun h => ?_) (fun h => ?_)
        · refine ge_nm 6 rfl (by first | exact Or.inl rfl | exact Or.inr (.inl rfl) | exact Or.inr (.inr rfl)) rfl ?_
          exact ⟨by rw [glF_r, if_pos (of_decide_eq_true h)], rfl⟩
        · exact ⟨by rw [glF_r, if_neg (of_decide_eq_false h)], rfl⟩
      · rw [List.length_map]; exact Nat.le_trans ml (by decide)
      · rw [gl_fm]
        have gll := gl_len p.2 (more es rows)
        refine ⟨_, _, rfl, rfl, by rw [List.length_map, List.length_map]; exact Nat.le_trans (show _ ≤ 100000 by omega) (by decide), ?_⟩
        refine gs_cons ?_
        refine gs_setLc 3 [("_law_one", 9)] ([9] ++ ([])) rfl rfl rfl rfl (by decide +kernel) (by dsimp only [cdOf, Cd.blk, Cd.gen]; decide +kernel) (by decide) (lcH_f (ngF p.2) ?_)
        refine gi_list ?_
        refine ge_nm 5 rfl (by first | exact Or.inl rfl | exact Or.inr (.inl rfl) | exact Or.inr (.inr rfl)) rfl ?_
        refine ⟨_, rfl, ?_⟩
        refine ⟨fun d hd => ?_, ?_, ?_⟩
        · obtain ⟨r, hr, rfl⟩ := List.mem_map.mp hd
          refine gg_name 9 rfl (by dsimp only [cdOf, Cd.blk, Cd.gen]; decide +kernel) ?_
          refine gps_one ?_
          refine gt_ne ?_
          refine ge_ixT ?_
          refine ge_ixT ?_
          refine ge_nm 9 rfl (by first | exact Or.inl rfl | exact Or.inr (.inl rfl) | exact Or.inr (.inr rfl)) rfl ?_
          refine ge_int ?_
          refine ⟨_, _, _, rfl, rfl, rfl, ?_⟩
          refine ge_neg ?_
          refine ge_int ?_
          refine ⟨_, rfl, ?_⟩
          refine ⟨_, _, _, rfl, rfl, atLastN (mok r hr).ne, ?_⟩
          refine ge_ixT ?_
          refine ge_nm 1 rfl (by first | exact Or.inl rfl | exact Or.inr (.inl rfl) | exact Or.inr (.inr rfl)) rfl ?_
          refine ge_int ?_
          refine ⟨_, _, _, rfl, rfl, rfl, ?_⟩
          refine ⟨rfl, rfl, ?_⟩
          rw [eqvN]
          refine ite_b (fun h => ?_) (fun h => ?_)
          · refine ge_nm 9 rfl (by first | exact Or.inl rfl | exact Or.inr (.inl rfl) | exact Or.inr (.inr rfl)) rfl ?_
            exact ⟨by rw [ngF_r, if_neg (by simpa using h)], rfl⟩
          · exact ⟨by rw [ngF_r, if_pos (by simpa using h)], rfl⟩
        · rw [List.length_map]; exact Nat.le_trans ml (by decide)
        · rw [ng_fm]
          refine gs_nil ?_
          refine ⟨ng p.2 (more es rows), acc ++ gl p.2 (more es rows), ?_, fun r hr => ?_, ?_, ?_⟩
          · rw [List.append_assoc, hm']; exact htot
          · rw [hm']; exact mok r (List.mem_filter.mp hr).1
          · have h1 := more_len es rows
            have h2 := ng_len p.2 (more es rows)
            have h3 : es.length * rows.length ≤ 6 * 6 ^ t := Nat.mul_le_mul hl6 hrl2
            rw [Nat.pow_succ]
            omega
          · show (⟨[_, _, .dat (.list (acc.map tD ++ (gl p.2 (more es rows)).map tD)), _, _, _, _, _, _, _], none⟩ : GS) = _
            rw [← List.map_append]
  · obtain ⟨rows, acc, htot, hok, hrl2, e⟩ := e
    subst e
    rw [rngD_len, Nat.sub_self] at htot
    have htot : acc = waysN es p.2 sz [([], [p.1])] := by
      have : waysN es p.2 0 rows = [] := rfl
      rw [this, List.append_nil] at htot
      exact htot
    subst htot
    refine gs_cons ?_
    refine gs_ret ?_
    refine ge_sorted rfl T.sorted ?_
    refine ge_nm 2 rfl (by first | exact Or.inl rfl | exact Or.inr (.inl rfl) | exact Or.inr (.inr rfl)) rfl ?_
    refine ⟨_, rfl, allAlike_tD _, sortable_tD (fun w hw => (waysN_mem he sz _ (fun r hr => (by simp at hr; subst hr; exact row_start hs)) w hw).1), fun d hd => ?_, ?_, rfl⟩
    · obtain ⟨w, _, rfl⟩ := List.mem_map.mp hd
      rw [depth_tD]; decide
    · unfold ways
      rw [sortT_D]
end
end Wk
set_option Elab.async false
set_option linter.all false
set_option maxRecDepth 100000
set_option maxHeartbeats 4000000
namespace Wk
open PySem PySem.Spec PyProof.Rows L2 Gh Mir
section
variable {k : Kit} {f : Addr} {fd : FuncData} {cdv : Value}
theorem mem_ints {d : PyData} (l : List Int) (h : d ∈ l.map PyData.int) : ∃ z, d = .int z := by
  obtain ⟨z, _, rfl⟩ := List.mem_map.mp h
  exact ⟨z, rfl⟩
/-! _law_table -/
def Pr_table (ds : List PyData) : Prop := ∃ j : Nat, j ≤ 3 ∧ ds = [nD j, .bool false]
def Po_table (ds : List PyData) (d : PyData) : Prop := ∃ xs, d = .tuple xs
def N__law_table : List Str := ["_law_row", "_law_length", "_law_is_straight", "_law_step", "_law_here", "_law_found", "_law_k"]
theorem sc__law_table : FnScope N__law_table ["_law_row", "_law_length", "_law_is_straight"] (defScope (topS 57)) := ⟨rfl, rfl, rfl, by decide +kernel, rfl, by decide +kernel, by decide +kernel⟩
theorem w__law_table (T : Bt k) (F__law_pick : Fn k 2 "_law_pick" (spR k Pr_pick Po_pick)) (FC : FunC k.K "_law_table" (topS 57) f fd cdv) (hm : k.mg "_law_table" = some (.ref f)) : Fn k 3 "_law_table" (spR k Pr_table Po_table) := by
  refine fn_defR FC hm (FC.binds fun _ _ _ _ _ _ us hl => match us, hl with | [_, _, _], _ => rfl) sc__law_table (fun ds ⟨m, _, e⟩ => by rw [e]; rfl) fun ds ρ ⟨j, hj, e⟩ ok n => ?_
  subst e
  refine gs_cons ?_
  refine gs_cell3 3 4 5 rfl rfl rfl (by dsimp only [cdOf, Cd.blk, Cd.gen]; decide +kernel) (by dsimp only [cdOf, Cd.blk, Cd.gen]; decide +kernel) (by dsimp only [cdOf, Cd.blk, Cd.gen]; decide +kernel) (by decide) (by decide) ?_ (fun env h => by cases env; cases h; rfl)
  refine ge_callR 0 F__law_pick (by dsimp only [cdOf, Cd.blk, Cd.gen]; decide +kernel) rfl rfl (by first | exact Or.inl rfl | exact Or.inr (.inl rfl) | exact Or.inr (.inr rfl)) rfl ?_
  refine ga_cons ?_
  refine ge_lst ?_
  refine ga_cons ?_
  refine ge_int ?_
  refine ga_cons ?_
  refine ge_int ?_
  refine ga_cons ?_
  refine ge_int ?_
  refine ga_cons ?_
  refine ge_int ?_
  refine ga_nil ?_
  refine ⟨(show 4 ≤ sizeLine by decide), ?_⟩
  refine ga_nil ?_
  refine ⟨ρ, rfl, ok, ⟨[.int 0, .int 1, .int 2, .int 5], by simp, by simp, rfl⟩, fun d ρ1 er1 ok1 po => ?_⟩
  obtain ⟨s, rfl⟩ := mem_ints [0, 1, 2, 5] (po _ rfl)
  refine ge_callR 0 F__law_pick (by dsimp only [cdOf, Cd.blk, Cd.gen]; decide +kernel) rfl rfl (by first | exact Or.inl rfl | exact Or.inr (.inl rfl) | exact Or.inr (.inr rfl)) rfl ?_
  refine ga_cons ?_
  refine ge_lst ?_
  refine ga_cons ?_
  refine ge_int ?_
  refine ga_cons ?_
  refine ge_int ?_
  refine ga_cons ?_
  refine ge_int ?_
  refine ga_cons ?_
  refine ge_int ?_
  refine ga_nil ?_
  refine ⟨(show 4 ≤ sizeLine by decide), ?_⟩
  refine ga_nil ?_
  refine ⟨ρ1, rfl, ok1, ⟨[.int 0, .int 1, .int 3, .int 10], by simp, by simp, rfl⟩, fun d ρ2 er2 ok2 po => ?_⟩
  obtain ⟨h, rfl⟩ := mem_ints [0, 1, 3, 10] (po _ rfl)
  intro m
  refine gs_cons ?_
  refine gs_if ?_
  refine gt_val ?_
  refine ge_nm 2 rfl (by first | exact Or.inl rfl | exact Or.inr (.inl rfl) | exact Or.inr (.inr rfl)) rfl ?_
  refine ⟨_, rfl, ?_⟩
  refine ite_f (rfl) ?_
  refine gs_nil ?_
  refine gs_cons ?_
  refine gs_for [6] [6] ?_
  refine gi_rng1 rfl T.range ?_
  refine ge_nm 1 rfl (by first | exact Or.inl rfl | exact Or.inr (.inl rfl) | exact Or.inr (.inr rfl)) rfl ?_
  refine ⟨_, rfl, by omega, by omega, ?_⟩
  refine ⟨fun i g => ∃ (h : Int) (xs : List PyData) (ρ' : RowS), xs.length = i ∧ RowOk ρ' ∧ ρ'.r = ρ.r ∧ g = ⟨[.row, .dat (nD j), .dat (.bool false), .dat (.int s), .dat (.int h), .mu m xs, .non], some ρ'⟩, ⟨h, [], ρ2, rfl, ok2, er2.trans er1, rfl⟩, fun i d g2 hd e => ?_, fun g2 e => ?_⟩
  · obtain ⟨h, xs, ρ3, hx, ok3, er3, rfl⟩ := e
    have hi := (rngD_get hd).1
    refine gg_name 6 rfl (by dsimp only [cdOf, Cd.blk, Cd.gen]; decide +kernel) ?_
    refine gs_cons ?_
    refine gs_set 4 rfl (by dsimp only [cdOf, Cd.blk, Cd.gen]; decide +kernel) ?_
    refine ge_add ?_
    refine ge_nm 4 rfl (by first | exact Or.inl rfl | exact Or.inr (.inl rfl) | exact Or.inr (.inr rfl)) rfl ?_
    refine ge_callR 0 F__law_pick (by dsimp only [cdOf, Cd.blk, Cd.gen]; decide +kernel) rfl rfl (by first | exact Or.inl rfl | exact Or.inr (.inl rfl) | exact Or.inr (.inr rfl)) rfl ?_
    refine ga_cons ?_
    refine ge_lst ?_
    refine ga_cons ?_
    refine ge_int ?_
    refine ga_cons ?_
    refine ge_int ?_
    refine ga_cons ?_
    refine ge_int ?_
    refine ga_cons ?_
    refine ge_int ?_
    refine ga_cons ?_
    refine ge_int ?_
    refine ga_nil ?_
    refine ⟨(show 5 ≤ sizeLine by decide), ?_⟩
    refine ga_nil ?_
    refine ⟨ρ3, rfl, ok3, ⟨[.int 0, .int 0, .int 1, .int 2, .int 7], by simp, by simp, rfl⟩, fun d ρ4 er4 ok4 po => ?_⟩
    obtain ⟨z, rfl⟩ := mem_ints [0, 0, 1, 2, 7] (po _ rfl)
    refine ⟨_, _, rfl, rfl, ?_⟩
    refine gs_cons ?_
    refine gs_app 5 rfl (by first | exact Or.inl rfl | exact Or.inr (.inl rfl) | exact Or.inr (.inr rfl)) ⟨_, _, rfl⟩ ?_
    refine ge_nm 4 rfl (by first | exact Or.inl rfl | exact Or.inr (.inl rfl) | exact Or.inr (.inr rfl)) rfl ?_
    refine fun m' ds e => ?_
    cases e
    refine ⟨Nat.lt_of_le_of_lt (show _ ≤ 10 by omega) (by decide), ?_⟩
    refine gs_nil ?_
    exact ⟨h + z, xs ++ [.int (h + z)], ρ4, by rw [List.length_append, hx]; rfl, ok4, er4.trans er3, rfl⟩
  · obtain ⟨h, xs, ρ3, hx, ok3, er3, rfl⟩ := e
    refine gs_frz 5 rfl ?_
    refine gs_cons ?_
    refine gs_ret ?_
    refine ge_tupleOf rfl T.tuple ?_
    refine ge_nm 5 rfl (by first | exact Or.inl rfl | exact Or.inr (.inl rfl) | exact Or.inr (.inr rfl)) rfl ?_
    refine ⟨_, (by first | exact Or.inl rfl | exact Or.inr rfl), ?_⟩
    exact ⟨⟨_, rfl⟩, ρ3, rfl, ok3, er3⟩
/-! _law_game -/
structure GOk (sz : Nat) (es : Es) : Prop where
  n2 : 2 ≤ sz
  n4 : sz ≤ 4
  l6 : es.length ≤ 6
  e : ∀ x ∈ es, x.1 < sz ∧ x.2 < sz ∧ x.1 ≠ x.2
  b2 : sz = 2 → es[0]? = some (0, 1)
  b3 : 2 < sz → es[0]? = some (0, 1) ∧ es[1]? = some (1, sz - 1)
def pOk (sz : Nat) (es : Es) (p : Nat × Nat) : Prop := p.1 < sz ∧ p.2 < sz ∧ p.1 ≠ p.2 ∧ ways sz es p.1 p.2 ≠ []
theorem gl_mem {g : Nat} {rows : List Mir.Row} {r : Mir.Row} (h : r ∈ rows) (e : lastN r.2 = g) : r.1 ∈ gl g rows := List.mem_map.mpr ⟨r, List.mem_filter.mpr ⟨h, decide_eq_true e⟩, rfl⟩
theorem ng_mem {g : Nat} {rows : List Mir.Row} {r : Mir.Row} (h : r ∈ rows) (e : lastN r.2 ≠ g) : r ∈ ng g rows := List.mem_filter.mpr ⟨h, by rw [decide_eq_false e]; rfl⟩
theorem more_mem {es : Es} {rows : List Mir.Row} {r : Mir.Row} {j : Nat} {e : Nat × Nat} (h : r ∈ rows) (he : es[j]? = some e) (h1 : e.1 = lastN r.2) (h2 : e.2 ∉ r.2) : (r.1 ++ [j], r.2 ++ [e.2]) ∈ more es rows := by
  refine List.mem_flatMap.mpr ⟨r, h, List.mem_filterMap.mpr ⟨(e, j), ?_, if_pos ⟨h1, h2⟩⟩⟩
  refine List.mem_of_getElem? (i := j) ?_
  rw [List.getElem?_zipIdx, he]; simp
theorem base_ways {sz : Nat} {es : Es} (h : GOk sz es) : ways sz es 0 (sz - 1) ≠ [] := by
  have key : ∃ w, w ∈ waysN es (sz - 1) sz [([], [0])] := by
    by_cases h2 : sz = 2
    · subst h2
      have m1 := more_mem (rows := [([], [0])]) List.mem_cons_self (h.b2 rfl) rfl (by simp)
      exact ⟨_, List.mem_append_left _ (gl_mem m1 rfl)⟩
    · have h3 : 2 < sz := by have := h.n2; omega
      obtain ⟨b1, b2⟩ := h.b3 h3
      obtain ⟨m, rfl⟩ : ∃ m, sz = m + 2 := ⟨sz - 2, by omega⟩
      have m1 := more_mem (rows := [([], [0])]) List.mem_cons_self b1 rfl (by simp)
      have n1 := ng_mem (g := m + 2 - 1) m1 (by show (1 : Nat) ≠ _; omega)
      have m2 := more_mem n1 b2 rfl (by simp; omega)
      exact ⟨_, List.mem_append_right _ (List.mem_append_left _ (gl_mem m2 rfl))⟩
  obtain ⟨w, hw⟩ := key
  intro z
  have : w ∈ ways sz es 0 (sz - 1) := (sortT_perm _).mem_iff.mpr hw
  rw [z] at this; cases this
theorem base_ok {sz : Nat} {es : Es} (h : GOk sz es) : pOk sz es (0, sz - 1) := ⟨by have := h.n2; show 0 < sz; omega, by have := h.n2; show sz - 1 < sz; omega, by have := h.n2; show 0 ≠ sz - 1; omega, base_ways h⟩
theorem eqv_nil (ws : Stt) : PyData.eqv (.list (ws.map tD)) (.list []) = ws.isEmpty := by
  cases ws with
  | nil => unfold PyData.eqv; unfold PyData.eqvAll; rfl
  | cons w ws => unfold PyData.eqv; rw [List.map_cons]; unfold PyData.eqvAll; rfl
def Pr_game (ds : List PyData) : Prop := ∃ j : Nat, 1 ≤ j ∧ j ≤ 3 ∧ ds = [nD j, nD j, .bool false]
def Po_game (ds : List PyData) (d : PyData) : Prop := ∀ j : Nat, ds = [nD j, nD j, .bool false] → ∃ (sz : Nat) (es : Es) (rds : List PyData) (ps : List (Nat × Nat)), GOk sz es ∧ 1 ≤ es.length ∧ RdsOf rds es ∧ ps.length = j ∧ (∀ p ∈ ps, pOk sz es p) ∧ d = .tuple [nD sz, .tuple rds, .tuple (ps.map pD)]
def N__law_game : List Str := ["_law_row", "_law_many", "_law_length", "_law_is_straight", "_law_size", "_law_roads", "_law_turn", "_law_start", "_law_players", "_law_k", "_law_player", "_law_has_way"]
theorem sc__law_game : FnScope N__law_game ["_law_row", "_law_many", "_law_length", "_law_is_straight"] (defScope (topS 58)) := ⟨rfl, rfl, rfl, by decide +kernel, rfl, by decide +kernel, by decide +kernel⟩
theorem rds_app {rds : List PyData} {es : Es} {e : Nat × Nat} {t : List PyData} (h : RdsOf rds es) : RdsOf (rds ++ [.tuple (nD e.1 :: nD e.2 :: t)]) (es ++ [e]) := by
  refine ⟨by simp [h.len], fun i x hx => ?_⟩
  have hl := h.len
  rcases getElem?_snoc hx with hx | ⟨rfl, rfl⟩
  · obtain ⟨t', ht⟩ := h.get i x hx
    have := (List.getElem?_eq_some_iff.mp ht).1
    exact ⟨t', by rw [List.getElem?_append_left this]; exact ht⟩
  · exact ⟨t, by rw [List.getElem?_append_right (by omega), ← hl]; simp⟩
theorem other_end {s b sz : Nat} (hs : s < sz) (hb : b < sz - 1) : (s + 1 + b) % sz < sz ∧ s ≠ (s + 1 + b) % sz := by
  refine ⟨Nat.mod_lt _ (by omega), fun z => ?_⟩
  by_cases h : s + 1 + b < sz
  · rw [Nat.mod_eq_of_lt h] at z; omega
  · rw [Nat.mod_eq_sub_mod (by omega), Nat.mod_eq_of_lt (by omega)] at z; omega
set_option maxHeartbeats 16000000 in
theorem w__law_game (T : Bt k) (F__law_taken : Fn k 1 "_law_taken" (spR k Pr_taken Po_taken)) (F__law_table : Fn k 3 "_law_table" (spR k Pr_table Po_table)) (F__law_game_ways : Fn k 2 "_law_game_ways" (spP k P__law_game_ways)) (FC : FunC k.K "_law_game" (topS 58) f fd cdv) (hm : k.mg "_law_game" = some (.ref f)) : Fn k 4 "_law_game" (spR k Pr_game Po_game) := by
  refine fn_defR FC hm (FC.binds fun _ _ _ _ _ _ us hl => match us, hl with | [_, _, _, _], _ => rfl) sc__law_game (fun ds ⟨m, _, _, e⟩ => by rw [e]; rfl) fun ds ρ ⟨j, hj1, hj, e⟩ ok n => ?_
  subst e
  refine gs_cons ?_
  refine gs_set 4 rfl (by dsimp only [cdOf, Cd.blk, Cd.gen]; decide +kernel) ?_
  refine ge_add ?_
  refine ge_int ?_
  refine ge_callR 0 F__law_taken (by dsimp only [cdOf, Cd.blk, Cd.gen]; decide +kernel) rfl rfl (by first | exact Or.inl rfl | exact Or.inr (.inl rfl) | exact Or.inr (.inr rfl)) rfl ?_
  refine ga_cons ?_
  refine ge_int ?_
  refine ga_nil ?_
  refine ⟨ρ, rfl, ok, ⟨3, by decide, by decide, rfl⟩, fun d ρ1 er1 ok1 po => ?_⟩
  obtain ⟨i0, hi0, rfl⟩ := po 3 rfl
  refine ⟨_, _, rfl, rfl, ?_⟩
  obtain ⟨sz, hsz⟩ : ∃ sz, sz = 2 + i0 := ⟨_, rfl⟩
  have esz : (2 : Int) + (i0 : Int) = (sz : Int) := by omega
  rw [esz]
  have n2 : 2 ≤ sz := by omega
  have n4 : sz ≤ 4 := by omega
  have esz1 : (sz : Int) - 1 = ((sz - 1 : Nat) : Int) := by omega
  -- what follows the first roads
  have rest : ∀ (m : Addr) (es : Es) (rds : List PyData) (ρ' : RowS), GOk sz es → 1 ≤ es.length → es.length ≤ 2 → RdsOf rds es → RowOk ρ' → ρ'.r = ρ.r →
      GSs k n (cdOf N__law_game (topS 58) 3 cdv) ((defBody (topS 58)).drop 3) ⟨[.row, .dat (nD j), .dat (nD j), .dat (.bool false), .dat (nD sz), .mu m rds, .non, .non, .non, .non, .non, .non], some ρ'⟩ { nx := fun g => False, rt := fun d' g => Po_game [nD j, nD j, .bool false] d' ∧ ∃ ρ', g.row = some ρ' ∧ RowOk ρ' ∧ ρ'.r = ρ.r } := by
    intro m es rds ρ' go hl1 hl2 hrd ok' er'
    refine gs_cons ?_
    refine gs_for [6, 7] [6] ?_
    refine gi_rng1 rfl T.range ?_
    refine ge_add ?_
    refine ge_int ?_
    refine ge_callR 0 F__law_taken (by dsimp only [cdOf, Cd.blk, Cd.gen]; decide +kernel) rfl rfl (by first | exact Or.inl rfl | exact Or.inr (.inl rfl) | exact Or.inr (.inr rfl)) rfl ?_
    refine ga_cons ?_
    refine ge_int ?_
    refine ga_nil ?_
    refine ⟨ρ', rfl, ok', ⟨4, by decide, by decide, rfl⟩, fun d ρ2 er2 ok2 po => ?_⟩
    obtain ⟨i1, hi1, rfl⟩ := po 4 rfl
    refine ⟨_, _, rfl, rfl, ?_⟩
    refine ⟨_, rfl, by omega, by omega, ?_⟩
    rw [show ((1 : Int) + (i1 : Int)).toNat = 1 + i1 by omega]
    refine ⟨fun t g => ∃ (es : Es) (rds : List PyData) (ρ' : RowS), GOk sz es ∧ 1 ≤ es.length ∧ es.length ≤ 2 + t ∧ RdsOf rds es ∧ RowOk ρ' ∧ ρ'.r = ρ.r ∧ g = ⟨[.row, .dat (nD j), .dat (nD j), .dat (.bool false), .dat (nD sz), .mu m rds, .non, .non, .non, .non, .non, .non], some ρ'⟩, ⟨es, rds, ρ2, go, hl1, hl2, hrd, ok2, er2.trans er', rfl⟩, fun t d g2 hd e => ?_, fun g2 e => ?_⟩
    · obtain ⟨es, rds, ρ3, go, hl1, hl2, hrd, ok3, er3, rfl⟩ := e
      have ht := (rngD_get hd).1
      have hrl := hrd.len
      refine gg_name 6 rfl (by dsimp only [cdOf, Cd.blk, Cd.gen]; decide +kernel) ?_
      refine gs_cons ?_
      refine gs_set 7 rfl (by dsimp only [cdOf, Cd.blk, Cd.gen]; decide +kernel) ?_
      refine ge_callR 0 F__law_taken (by dsimp only [cdOf, Cd.blk, Cd.gen]; decide +kernel) rfl rfl (by first | exact Or.inl rfl | exact Or.inr (.inl rfl) | exact Or.inr (.inr rfl)) rfl ?_
      refine ga_cons ?_
      refine ge_nm 4 rfl (by first | exact Or.inl rfl | exact Or.inr (.inl rfl) | exact Or.inr (.inr rfl)) rfl ?_
      refine ga_nil ?_
      refine ⟨ρ3, rfl, ok3, ⟨sz, by omega, by omega, rfl⟩, fun d ρ4 er4 ok4 po => ?_⟩
      obtain ⟨s, hs, rfl⟩ := po sz rfl
      refine gs_cons ?_
      refine gs_app 5 rfl (by first | exact Or.inl rfl | exact Or.inr (.inl rfl) | exact Or.inr (.inr rfl)) ⟨_, _, rfl⟩ ?_
      refine ge_tup ?_
      refine ga_cons ?_
      refine ge_nm 7 rfl (by first | exact Or.inl rfl | exact Or.inr (.inl rfl) | exact Or.inr (.inr rfl)) rfl ?_
      refine ga_cons ?_
      refine ge_mod ?_
      refine ge_intI rfl T.int ?_
      refine ge_add ?_
      refine ge_add ?_
      refine ge_nm 7 rfl (by first | exact Or.inl rfl | exact Or.inr (.inl rfl) | exact Or.inr (.inr rfl)) rfl ?_
      refine ge_int ?_
      refine ⟨_, _, rfl, rfl, ?_⟩
      refine ge_callR 0 F__law_taken (by dsimp only [cdOf, Cd.blk, Cd.gen]; decide +kernel) rfl rfl (by first | exact Or.inl rfl | exact Or.inr (.inl rfl) | exact Or.inr (.inr rfl)) rfl ?_
      refine ga_cons ?_
      refine ge_sub ?_
      refine ge_nm 4 rfl (by first | exact Or.inl rfl | exact Or.inr (.inl rfl) | exact Or.inr (.inr rfl)) rfl ?_
      refine ge_int ?_
      refine ⟨_, _, rfl, rfl, ?_⟩
      refine ga_nil ?_
      refine ⟨ρ4, rfl, ok4, ⟨sz - 1, by omega, by omega, by rw [esz1]⟩, fun d ρ5 er5 ok5 po => ?_⟩
      obtain ⟨b, hb, rfl⟩ := po (sz - 1) (by rw [esz1])
      refine ⟨_, _, rfl, rfl, ?_⟩
      refine ⟨_, rfl, ?_⟩
      refine ge_nm 4 rfl (by first | exact Or.inl rfl | exact Or.inr (.inl rfl) | exact Or.inr (.inr rfl)) rfl ?_
      refine ⟨_, _, rfl, rfl, by omega, ?_⟩
      have ee : ((s : Int) + 1 + (b : Int)) % (sz : Int) = (((s + 1 + b) % sz : Nat) : Int) := by
          rw [show (s : Int) + 1 + (b : Int) = ((s + 1 + b : Nat) : Int) by omega]; rfl
      rw [ee]
      obtain ⟨o1, o2⟩ := other_end hs hb
      refine ga_cons ?_
      refine ge_callR 0 F__law_table (by dsimp only [cdOf, Cd.blk, Cd.gen]; decide +kernel) rfl rfl (by first | exact Or.inl rfl | exact Or.inr (.inl rfl) | exact Or.inr (.inr rfl)) rfl ?_
      refine ga_cons ?_
      refine ge_nm 2 rfl (by first | exact Or.inl rfl | exact Or.inr (.inl rfl) | exact Or.inr (.inr rfl)) rfl ?_
      refine ga_cons ?_
      refine ge_nm 3 rfl (by first | exact Or.inl rfl | exact Or.inr (.inl rfl) | exact Or.inr (.inr rfl)) rfl ?_
      refine ga_nil ?_
      refine ⟨ρ5, rfl, ok5, ⟨j, hj, rfl⟩, fun d ρ6 er6 ok6 po => ?_⟩
      obtain ⟨xs, rfl⟩ := po
      refine ga_nil ?_
      refine ⟨(show 3 ≤ sizeLine by decide), ?_⟩
      refine fun m' ds e => ?_
      cases e
      refine ⟨Nat.lt_of_le_of_lt (show _ ≤ 10 by omega) (by decide), ?_⟩
      refine gs_nil ?_
      refine ⟨es ++ [(s, (s + 1 + b) % sz)], rds ++ [.tuple [nD s, nD ((s + 1 + b) % sz), .tuple xs]], ρ6, ⟨n2, n4, by simp only [List.length_append, List.length_singleton]; omega, fun x hx => ?_, fun h => ?_, fun h => ?_⟩, by simp only [List.length_append, List.length_singleton]; omega, by simp only [List.length_append, List.length_singleton]; omega, rds_app (e := (s, (s + 1 + b) % sz)) (t := [.tuple xs]) hrd, ok6, er6.trans (er5.trans (er4.trans er3)), rfl⟩
      · rcases List.mem_append.mp hx with z | z
        · exact go.e x z
        · simp at z; subst z; exact ⟨hs, o1, o2⟩
      · rw [List.getElem?_append_left (by omega)]; exact go.b2 h
      · obtain ⟨b1, b2⟩ := go.b3 h
        have := (List.getElem?_eq_some_iff.mp b2).1
        exact ⟨by rw [List.getElem?_append_left (by omega)]; exact b1, by rw [List.getElem?_append_left (by omega)]; exact b2⟩
    · obtain ⟨es, rds, ρ3, go, hl1, hl2, hrd, ok3, er3, rfl⟩ := e
      have he2 : ∀ e ∈ es, e.2 < sz := fun e he => (go.e e he).2.1
      refine gs_frz 5 rfl ?_
      refine gs_cons ?_
      refine gs_new 8 rfl (by dsimp only [cdOf, Cd.blk, Cd.gen]; decide +kernel) ?_
      refine ga_nil ?_
      refine ⟨(show 0 ≤ sizeLine by decide), fun mp => ?_⟩
      refine gs_cons ?_
      refine gs_for [7, 9, 10, 11] [9] ?_
      refine gi_rng1 rfl T.range ?_
      refine ge_nm 1 rfl (by first | exact Or.inl rfl | exact Or.inr (.inl rfl) | exact Or.inr (.inr rfl)) rfl ?_
      refine ⟨_, rfl, by omega, by omega, ?_⟩
      rw [show ((j : Nat) : Int).toNat = j by omega]
      refine ⟨fun i g => ∃ (ps : List (Nat × Nat)) (ρ' : RowS), ps.length = i ∧ (∀ p ∈ ps, pOk sz es p) ∧ RowOk ρ' ∧ ρ'.r = ρ.r ∧ g = ⟨[.row, .dat (nD j), .dat (nD j), .dat (.bool false), .dat (nD sz), .dat (.list rds), .non, .non, .mu mp (ps.map pD), .non, .non, .non], some ρ'⟩, ⟨[], ρ3, rfl, fun p hp => (by cases hp), ok3, er3, rfl⟩, fun i d g2 hd e => ?_, fun g2 e => ?_⟩
      · obtain ⟨ps, ρ4, hpl, hps, ok4, er4, rfl⟩ := e
        have hi := (rngD_get hd).1
        have fin : ∀ q : Nat × Nat, pOk sz es q → (ps ++ [q]).length = i + 1 ∧ ∀ p ∈ ps ++ [q], pOk sz es p := fun q hq => by
          refine ⟨by simp [hpl], fun p hp => ?_⟩
          rcases List.mem_append.mp hp with z | z
          · exact hps p z
          · simp at z; subst z; exact hq
        have happ : ∀ q : Nat × Nat, ps.map pD ++ [pD q] = (ps ++ [q]).map pD := fun q => by rw [List.map_append]; rfl
        have hsz8 : (ps.map pD).length < sizeLine := by rw [List.length_map]; exact Nat.lt_of_le_of_lt (show _ ≤ 10 by omega) (by decide)
        refine gg_name 9 rfl (by dsimp only [cdOf, Cd.blk, Cd.gen]; decide +kernel) ?_
        refine gs_cons ?_
        refine gs_set 7 rfl (by dsimp only [cdOf, Cd.blk, Cd.gen]; decide +kernel) ?_
        refine ge_callR 0 F__law_taken (by dsimp only [cdOf, Cd.blk, Cd.gen]; decide +kernel) rfl rfl (by first | exact Or.inl rfl | exact Or.inr (.inl rfl) | exact Or.inr (.inr rfl)) rfl ?_
        refine ga_cons ?_
        refine ge_nm 4 rfl (by first | exact Or.inl rfl | exact Or.inr (.inl rfl) | exact Or.inr (.inr rfl)) rfl ?_
        refine ga_nil ?_
        refine ⟨ρ4, rfl, ok4, ⟨sz, by omega, by omega, rfl⟩, fun d ρ5 er5 ok5 po => ?_⟩
        obtain ⟨s, hs, rfl⟩ := po sz rfl
        refine gs_cons ?_
        refine gs_set 10 rfl (by dsimp only [cdOf, Cd.blk, Cd.gen]; decide +kernel) ?_
        refine ge_tup ?_
        refine ga_cons ?_
        refine ge_nm 7 rfl (by first | exact Or.inl rfl | exact Or.inr (.inl rfl) | exact Or.inr (.inr rfl)) rfl ?_
        refine ga_cons ?_
        refine ge_mod ?_
        refine ge_intI rfl T.int ?_
        refine ge_add ?_
        refine ge_add ?_
        refine ge_nm 7 rfl (by first | exact Or.inl rfl | exact Or.inr (.inl rfl) | exact Or.inr (.inr rfl)) rfl ?_
        refine ge_int ?_
        refine ⟨_, _, rfl, rfl, ?_⟩
        refine ge_callR 0 F__law_taken (by dsimp only [cdOf, Cd.blk, Cd.gen]; decide +kernel) rfl rfl (by first | exact Or.inl rfl | exact Or.inr (.inl rfl) | exact Or.inr (.inr rfl)) rfl ?_
        refine ga_cons ?_
        refine ge_sub ?_
        refine ge_nm 4 rfl (by first | exact Or.inl rfl | exact Or.inr (.inl rfl) | exact Or.inr (.inr rfl)) rfl ?_
        refine ge_int ?_
        refine ⟨_, _, rfl, rfl, ?_⟩
        refine ga_nil ?_
        refine ⟨ρ5, rfl, ok5, ⟨sz - 1, by omega, by omega, by rw [esz1]⟩, fun d ρ6 er6 ok6 po => ?_⟩
        obtain ⟨b, hb, rfl⟩ := po (sz - 1) (by rw [esz1])
        refine ⟨_, _, rfl, rfl, ?_⟩
        refine ⟨_, rfl, ?_⟩
        refine ge_nm 4 rfl (by first | exact Or.inl rfl | exact Or.inr (.inl rfl) | exact Or.inr (.inr rfl)) rfl ?_
        refine ⟨_, _, rfl, rfl, by omega, ?_⟩
        have ee : ((s : Int) + 1 + (b : Int)) % (sz : Int) = (((s + 1 + b) % sz : Nat) : Int) := by
          rw [show (s : Int) + 1 + (b : Int) = ((s + 1 + b : Nat) : Int) by omega]; rfl
        rw [ee]
        obtain ⟨o1, o2⟩ := other_end hs hb
        refine ga_nil ?_
        refine ⟨(show 2 ≤ sizeLine by decide), ?_⟩
        obtain ⟨q, hq⟩ : ∃ q : Nat × Nat, q = (s, (s + 1 + b) % sz) := ⟨_, rfl⟩
        have eq1 : PyData.tuple [nD s, nD ((s + 1 + b) % sz)] = pD q := by rw [hq]
        have hq1 : q.1 < sz := by rw [hq]; exact hs
        have hq2 : q.2 < sz := by rw [hq]; exact o1
        have hq3 : q.1 ≠ q.2 := by rw [hq]; exact o2
        rw [eq1]
        refine gs_cons ?_
        refine gs_set 11 rfl (by dsimp only [cdOf, Cd.blk, Cd.gen]; decide +kernel) ?_
        refine ge_ne ?_
        refine ge_call F__law_game_ways (by dsimp only [cdOf, Cd.blk, Cd.gen]; decide +kernel) rfl ?_
        refine ga_cons ?_
        refine ge_tup ?_
        refine ga_cons ?_
        refine ge_nm 4 rfl (by first | exact Or.inl rfl | exact Or.inr (.inl rfl) | exact Or.inr (.inr rfl)) rfl ?_
        refine ga_cons ?_
        refine ge_tupleOf rfl T.tuple ?_
        refine ge_nm 5 rfl (by first | exact Or.inl rfl | exact Or.inr (.inl rfl) | exact Or.inr (.inr rfl)) rfl ?_
        refine ⟨_, (by first | exact Or.inl rfl | exact Or.inr rfl), ?_⟩
        refine ga_nil ?_
        refine ⟨(show 2 ≤ sizeLine by decide), ?_⟩
        refine ga_cons ?_
        refine ge_nm 10 rfl (by first | exact Or.inl rfl | exact Or.inr (.inl rfl) | exact Or.inr (.inr rfl)) rfl ?_
        refine ga_nil ?_
        refine ⟨_, ⟨sz, es, q, rds, [], n4, go.l6, he2, hq1, hrd, rfl, rfl⟩, ?_⟩
        refine ge_lst ?_
        refine ga_nil ?_
        refine ⟨(show 0 ≤ sizeLine by decide), ?_⟩
        refine ⟨shaped_ws _, rfl, ?_⟩
        rw [eqv_nil]
        refine gs_cons ?_
        refine gs_app 8 rfl (by first | exact Or.inl rfl | exact Or.inr (.inl rfl) | exact Or.inr (.inr rfl)) ⟨_, _, rfl⟩ ?_
        refine ge_if ?_
        refine gt_w ?_
        refine gw_and ?_
        refine gt_val ?_
        refine ge_nm 11 rfl (by first | exact Or.inl rfl | exact Or.inr (.inl rfl) | exact Or.inr (.inr rfl)) rfl ?_
        refine ⟨_, rfl, ?_⟩
        refine ite_b (fun hw => ?_) (fun hw => ?_)
        · have hw' : ways sz es q.1 q.2 ≠ [] := fun z => by rw [z] at hw; cases hw
          refine gw_and1 ?_
          refine gt_eq ?_
          refine ge_callR 0 F__law_taken (by dsimp only [cdOf, Cd.blk, Cd.gen]; decide +kernel) rfl rfl (by first | exact Or.inl rfl | exact Or.inr (.inl rfl) | exact Or.inr (.inr rfl)) rfl ?_
          refine ga_cons ?_
          refine ge_int ?_
          refine ga_nil ?_
          refine ⟨ρ6, rfl, ok6, ⟨3, by decide, by decide, rfl⟩, fun d ρ7 er7 ok7 po => ?_⟩
          obtain ⟨i3, hi3, rfl⟩ := po 3 rfl
          refine ge_int ?_
          refine ⟨rfl, rfl, ?_⟩
          rw [eqvI]
          refine ite_b (fun h0 => ?_) (fun h0 => ?_)
          · refine ge_nm 10 rfl (by first | exact Or.inl rfl | exact Or.inr (.inl rfl) | exact Or.inr (.inr rfl)) rfl ?_
            refine fun m' ds e => ?_
            cases e
            refine ⟨hsz8, ?_⟩
            refine gs_nil ?_
            refine ⟨ps ++ [q], ρ7, (fin q ⟨hq1, hq2, hq3, hw'⟩).1, (fin q ⟨hq1, hq2, hq3, hw'⟩).2, ok7, er7.trans (er6.trans (er5.trans er4)), ?_⟩
            rw [← happ]
            rfl
          · refine ge_tup ?_
            refine ga_cons ?_
            refine ge_int ?_
            refine ga_cons ?_
            refine ge_sub ?_
            refine ge_nm 4 rfl (by first | exact Or.inl rfl | exact Or.inr (.inl rfl) | exact Or.inr (.inr rfl)) rfl ?_
            refine ge_int ?_
            refine ⟨_, _, rfl, rfl, ?_⟩
            rw [esz1]
            refine ga_nil ?_
            refine ⟨(show 2 ≤ sizeLine by decide), ?_⟩
            refine fun m' ds e => ?_
            cases e
            refine ⟨hsz8, ?_⟩
            refine gs_nil ?_
            refine ⟨ps ++ [(0, sz - 1)], ρ7, (fin _ (base_ok go)).1, (fin _ (base_ok go)).2, ok7, er7.trans (er6.trans (er5.trans er4)), ?_⟩
            rw [← happ]
            rfl
        · refine ite_f rfl ?_
          refine ge_tup ?_
          refine ga_cons ?_
          refine ge_int ?_
          refine ga_cons ?_
          refine ge_sub ?_
          refine ge_nm 4 rfl (by first | exact Or.inl rfl | exact Or.inr (.inl rfl) | exact Or.inr (.inr rfl)) rfl ?_
          refine ge_int ?_
          refine ⟨_, _, rfl, rfl, ?_⟩
          rw [esz1]
          refine ga_nil ?_
          refine ⟨(show 2 ≤ sizeLine by decide), ?_⟩
          refine fun m' ds e => ?_
          cases e
          refine ⟨hsz8, ?_⟩
          refine gs_nil ?_
          refine ⟨ps ++ [(0, sz - 1)], ρ6, (fin _ (base_ok go)).1, (fin _ (base_ok go)).2, ok6, er6.trans (er5.trans er4), ?_⟩
          rw [← happ]
          rfl
      · obtain ⟨ps, ρ4, hpl, hps, ok4, er4, rfl⟩ := e
        rw [rngD_len] at hpl
        refine gs_frz 8 rfl ?_
        refine gs_cons ?_
        refine gs_ret ?_
        refine ge_tup ?_
        refine ga_cons ?_
        refine ge_nm 4 rfl (by first | exact Or.inl rfl | exact Or.inr (.inl rfl) | exact Or.inr (.inr rfl)) rfl ?_
        refine ga_cons ?_
        refine ge_tupleOf rfl T.tuple ?_
        refine ge_nm 5 rfl (by first | exact Or.inl rfl | exact Or.inr (.inl rfl) | exact Or.inr (.inr rfl)) rfl ?_
        refine ⟨_, (by first | exact Or.inl rfl | exact Or.inr rfl), ?_⟩
        refine ga_cons ?_
        refine ge_tupleOf rfl T.tuple ?_
        refine ge_nm 8 rfl (by first | exact Or.inl rfl | exact Or.inr (.inl rfl) | exact Or.inr (.inr rfl)) rfl ?_
        refine ⟨_, (by first | exact Or.inl rfl | exact Or.inr rfl), ?_⟩
        refine ga_nil ?_
        refine ⟨(show 3 ≤ sizeLine by decide), ?_⟩
        refine ⟨fun j' ej => ?_, ρ4, rfl, ok4, er4⟩
        have : j' = j := by
          have := (List.cons.inj ej).1
          have := PyData.int.inj this
          omega
        subst this
        exact ⟨sz, es, rds, ps, go, hl1, hrd, hpl, hps, rfl⟩
  refine gs_cons ?_
  refine gs_new 5 rfl (by dsimp only [cdOf, Cd.blk, Cd.gen]; decide +kernel) ?_
  refine ga_cons ?_
  refine ge_tup ?_
  refine ga_cons ?_
  refine ge_int ?_
  refine ga_cons ?_
  refine ge_sub ?_
  refine ge_nm 4 rfl (by first | exact Or.inl rfl | exact Or.inr (.inl rfl) | exact Or.inr (.inr rfl)) rfl ?_
  refine ge_int ?_
  refine ⟨_, _, rfl, rfl, ?_⟩
  rw [esz1]
  refine ga_cons ?_
  refine ge_callR 0 F__law_table (by dsimp only [cdOf, Cd.blk, Cd.gen]; decide +kernel) rfl rfl (by first | exact Or.inl rfl | exact Or.inr (.inl rfl) | exact Or.inr (.inr rfl)) rfl ?_
  refine ga_cons ?_
  refine ge_nm 2 rfl (by first | exact Or.inl rfl | exact Or.inr (.inl rfl) | exact Or.inr (.inr rfl)) rfl ?_
  refine ga_cons ?_
  refine ge_nm 3 rfl (by first | exact Or.inl rfl | exact Or.inr (.inl rfl) | exact Or.inr (.inr rfl)) rfl ?_
  refine ga_nil ?_
  refine ⟨ρ1, rfl, ok1, ⟨j, hj, rfl⟩, fun d ρ2 er2 ok2 po => ?_⟩
  obtain ⟨xs, rfl⟩ := po
  refine ga_nil ?_
  refine ⟨(show 3 ≤ sizeLine by decide), ?_⟩
  refine ga_nil ?_
  refine ⟨(show 1 ≤ sizeLine by decide), fun m => ?_⟩
  refine gs_cons ?_
  refine gs_if ?_
  refine gt_gt ?_
  refine ge_nm 4 rfl (by first | exact Or.inl rfl | exact Or.inr (.inl rfl) | exact Or.inr (.inr rfl)) rfl ?_
  refine ge_int ?_
  refine ⟨_, _, rfl, rfl, ?_⟩
  refine ite_b (fun h => ?_) (fun h => ?_)
  · have h : 2 < sz := by have := of_decide_eq_true h; omega
    refine gs_cons ?_
    refine gs_new 5 rfl (by dsimp only [cdOf, Cd.blk, Cd.gen]; decide +kernel) ?_
    refine ga_cons ?_
    refine ge_tup ?_
    refine ga_cons ?_
    refine ge_int ?_
    refine ga_cons ?_
    refine ge_int ?_
    refine ga_cons ?_
    refine ge_callR 0 F__law_table (by dsimp only [cdOf, Cd.blk, Cd.gen]; decide +kernel) rfl rfl (by first | exact Or.inl rfl | exact Or.inr (.inl rfl) | exact Or.inr (.inr rfl)) rfl ?_
    refine ga_cons ?_
    refine ge_nm 2 rfl (by first | exact Or.inl rfl | exact Or.inr (.inl rfl) | exact Or.inr (.inr rfl)) rfl ?_
    refine ga_cons ?_
    refine ge_nm 3 rfl (by first | exact Or.inl rfl | exact Or.inr (.inl rfl) | exact Or.inr (.inr rfl)) rfl ?_
    refine ga_nil ?_
    refine ⟨ρ2, rfl, ok2, ⟨j, hj, rfl⟩, fun d ρ3 er3 ok3 po => ?_⟩
    obtain ⟨ys, rfl⟩ := po
    refine ga_nil ?_
    refine ⟨(show 3 ≤ sizeLine by decide), ?_⟩
    refine ga_cons ?_
    refine ge_tup ?_
    refine ga_cons ?_
    refine ge_int ?_
    refine ga_cons ?_
    refine ge_sub ?_
    refine ge_nm 4 rfl (by first | exact Or.inl rfl | exact Or.inr (.inl rfl) | exact Or.inr (.inr rfl)) rfl ?_
    refine ge_int ?_
    refine ⟨_, _, rfl, rfl, ?_⟩
    rw [esz1]
    refine ga_cons ?_
    refine ge_callR 0 F__law_table (by dsimp only [cdOf, Cd.blk, Cd.gen]; decide +kernel) rfl rfl (by first | exact Or.inl rfl | exact Or.inr (.inl rfl) | exact Or.inr (.inr rfl)) rfl ?_
    refine ga_cons ?_
    refine ge_nm 2 rfl (by first | exact Or.inl rfl | exact Or.inr (.inl rfl) | exact Or.inr (.inr rfl)) rfl ?_
    refine ga_cons ?_
    refine ge_nm 3 rfl (by first | exact Or.inl rfl | exact Or.inr (.inl rfl) | exact Or.inr (.inr rfl)) rfl ?_
    refine ga_nil ?_
    refine ⟨ρ3, rfl, ok3, ⟨j, hj, rfl⟩, fun d ρ4 er4 ok4 po => ?_⟩
    obtain ⟨zs, rfl⟩ := po
    refine ga_nil ?_
    refine ⟨(show 3 ≤ sizeLine by decide), ?_⟩
    refine ga_nil ?_
    refine ⟨(show 2 ≤ sizeLine by decide), fun m' => ?_⟩
    refine gs_nil ?_
    refine rest m' [(0, 1), (1, sz - 1)] [.tuple [nD 0, nD 1, .tuple ys], .tuple [nD 1, nD (sz - 1), .tuple zs]] ρ4 ⟨n2, n4, (show 2 ≤ 6 by decide), fun x hx => ?_, fun z => by omega, fun _ => ⟨rfl, rfl⟩⟩ (show 1 ≤ 2 by decide) (show 2 ≤ 2 by decide) ⟨rfl, fun i e he => ?_⟩ ok4 (er4.trans (er3.trans (er2.trans er1)))
    · simp at hx
      rcases hx with rfl | rfl
      · exact ⟨by show 0 < sz; omega, by show 1 < sz; omega, by decide⟩
      · exact ⟨by show 1 < sz; omega, by show sz - 1 < sz; omega, by show 1 ≠ sz - 1; omega⟩
    · match i, he with
      | 0, he => cases he; exact ⟨_, rfl⟩
      | 1, he => cases he; exact ⟨_, rfl⟩
      | i + 2, he => simp at he
  · have h : sz = 2 := by have := of_decide_eq_false h; omega
    refine gs_nil ?_
    refine rest m [(0, 1)] [.tuple [nD 0, nD (sz - 1), .tuple xs]] ρ2 ⟨n2, n4, (by decide), fun x hx => ?_, fun _ => rfl, fun z => by omega⟩ (by decide) (by decide) ⟨rfl, fun i e he => ?_⟩ ok2 (er2.trans er1)
    · simp at hx
      subst hx
      exact ⟨by show 0 < sz; omega, by show 1 < sz; omega, by decide⟩
    · match i, he with
      | 0, he => cases he; subst h; exact ⟨_, rfl⟩
      | i + 1, he => simp at he
end
end Wk
set_option Elab.async false
set_option linter.all false
set_option maxRecDepth 100000
set_option maxHeartbeats 4000000
namespace Wk
open PySem PySem.Spec PyProof.Rows L2 Gh Mir
section
variable {k : Kit} {f : Addr} {fd : FuncData} {cdv : Value}
/-! _law_building -/
def Pr_building (ds : List PyData) : Prop := ds = []
def Po_building (ds : List PyData) (d : PyData) : Prop := ∃ b : Bl, VB b ∧ d = bD b
def N__law_building : List Str := ["_law_row", "_law_many", "_law_game_here", "_law_one"]
theorem sc__law_building : FnScope N__law_building ["_law_row"] (defScope (topS 60)) := ⟨rfl, rfl, rfl, by decide +kernel, rfl, by decide +kernel, by decide +kernel⟩
theorem w__law_building (T : Bt k) (F__law_taken : Fn k 1 "_law_taken" (spR k Pr_taken Po_taken)) (F__law_pick : Fn k 2 "_law_pick" (spR k Pr_pick Po_pick)) (F__law_game : Fn k 4 "_law_game" (spR k Pr_game Po_game)) (FC : FunC k.K "_law_building" (topS 60) f fd cdv) (hm : k.mg "_law_building" = some (.ref f)) : Fn k 5 "_law_building" (spR k Pr_building Po_building) := by
  refine fn_defR FC hm (FC.binds fun _ _ _ _ _ _ us hl => match us, hl with | [_], _ => rfl) sc__law_building (fun ds e => by rw [show ds = [] from e]; rfl) fun ds ρ e ok n => ?_
  have e : ds = [] := e
  subst e
  refine gs_cons ?_
  refine gs_set 1 rfl (by dsimp only [cdOf, Cd.blk, Cd.gen]; decide +kernel) ?_
  refine ge_add ?_
  refine ge_int ?_
  refine ge_callR 0 F__law_taken (by dsimp only [cdOf, Cd.blk, Cd.gen]; decide +kernel) rfl rfl (by first | exact Or.inl rfl | exact Or.inr (.inl rfl) | exact Or.inr (.inr rfl)) rfl ?_
  refine ga_cons ?_
  refine ge_int ?_
  refine ga_nil ?_
  refine ⟨ρ, rfl, ok, ⟨3, by decide, by decide, rfl⟩, fun d ρ1 er1 ok1 po => ?_⟩
  obtain ⟨i0, hi0, rfl⟩ := po 3 rfl
  refine ⟨_, _, rfl, rfl, ?_⟩
  obtain ⟨j, hj⟩ : ∃ j, j = 1 + i0 := ⟨_, rfl⟩
  have ej : (1 : Int) + (i0 : Int) = (j : Int) := by omega
  rw [ej]
  refine gs_cons ?_
  refine gs_set 2 rfl (by dsimp only [cdOf, Cd.blk, Cd.gen]; decide +kernel) ?_
  refine ge_callR 0 F__law_game (by dsimp only [cdOf, Cd.blk, Cd.gen]; decide +kernel) rfl rfl (by first | exact Or.inl rfl | exact Or.inr (.inl rfl) | exact Or.inr (.inr rfl)) rfl ?_
  refine ga_cons ?_
  refine ge_nm 1 rfl (by first | exact Or.inl rfl | exact Or.inr (.inl rfl) | exact Or.inr (.inr rfl)) rfl ?_
  refine ga_cons ?_
  refine ge_nm 1 rfl (by first | exact Or.inl rfl | exact Or.inr (.inl rfl) | exact Or.inr (.inr rfl)) rfl ?_
  refine ga_cons ?_
  refine ge_bl ?_
  refine ga_nil ?_
  refine ⟨ρ1, rfl, ok1, ⟨j, by omega, by omega, rfl⟩, fun d ρ2 er2 ok2 po => ?_⟩
  obtain ⟨sz, es, rds, ps, go, hl1, hrd, hpl, hps, rfl⟩ := po j rfl
  have hrl := hrd.len
  have hl6 := go.l6
  refine gs_cons ?_
  refine gs_ret ?_
  refine ge_tup ?_
  refine ga_cons ?_
  refine ge_ixT ?_
  refine ge_nm 2 rfl (by first | exact Or.inl rfl | exact Or.inr (.inl rfl) | exact Or.inr (.inr rfl)) rfl ?_
  refine ge_int ?_
  refine ⟨_, _, _, rfl, rfl, rfl, ?_⟩
  refine ga_cons ?_
  refine ge_tupleOf rfl T.tuple ?_
  refine ge_lc [("_law_one", 3)] ([3] ++ ([])) (by dsimp only [cdOf, Cd.blk, Cd.gen]; decide +kernel) (by decide) ?_
  show GI _ _ _ _ _ _ _
  refine gi_tup ?_
  refine ge_ixT ?_
  refine ge_nm 2 rfl (by first | exact Or.inl rfl | exact Or.inr (.inl rfl) | exact Or.inr (.inr rfl)) rfl ?_
  refine ge_int ?_
  refine ⟨_, _, _, rfl, rfl, rfl, ?_⟩
  refine ⟨_, rfl, ?_⟩
  refine ⟨fun i acc ρ' => ∃ rs : List Mir.Rd, rs.length = i ∧ acc = rs.map rB ∧ (∀ (a : Nat) r, rs[a]? = some r → es[a]? = some (r.1, r.2.1) ∧ r.2.2 ≤ 60) ∧ ∃ ρ3, ρ' = some ρ3 ∧ RowOk ρ3 ∧ ρ3.r = ρ.r, ⟨[], rfl, rfl, fun a r h => (by simp at h), ρ2, rfl, ok2, er2.trans er1⟩, fun i d acc ρ' hd e => ?_, fun acc ρ' e => ?_⟩
  · obtain ⟨rs, hrs, rfl, hr, ρ3, rfl, ok3, er3⟩ := e
    have hi : i < es.length := by have := (List.getElem?_eq_some_iff.mp hd).1; omega
    have hes : es[i]? = some es[i] := List.getElem?_eq_getElem hi
    generalize es[i] = ed at hes
    obtain ⟨t, ht⟩ := hrd.get i ed hes
    rw [ht] at hd
    cases hd
    refine gg_name 3 rfl (by dsimp only [cdOf, Cd.blk, Cd.gen]; decide +kernel) ?_
    refine gps_nil ?_
    refine ite_t (rfl) ?_
    refine ge_catT ?_
    refine ge_slTo ?_
    refine ge_nm 3 rfl (by first | exact Or.inl rfl | exact Or.inr (.inl rfl) | exact Or.inr (.inr rfl)) rfl ?_
    refine ge_int ?_
    refine ⟨_, 2, rfl, rfl, ?_⟩
    refine ge_tup ?_
    refine ga_cons ?_
    refine ge_callR 0 F__law_pick (by dsimp only [cdOf, Cd.blk, Cd.gen]; decide +kernel) rfl rfl (by first | exact Or.inl rfl | exact Or.inr (.inl rfl) | exact Or.inr (.inr rfl)) rfl ?_
    refine ga_cons ?_
    refine ge_lst ?_
    refine ga_cons ?_
    refine ge_int ?_
    refine ga_cons ?_
    refine ge_int ?_
    refine ga_cons ?_
    refine ge_int ?_
    refine ga_cons ?_
    refine ge_int ?_
    refine ga_cons ?_
    refine ge_int ?_
    refine ga_cons ?_
    refine ge_int ?_
    refine ga_cons ?_
    refine ge_callR 0 F__law_taken (by dsimp only [cdOf, Cd.blk, Cd.gen]; decide +kernel) rfl rfl (by first | exact Or.inl rfl | exact Or.inr (.inl rfl) | exact Or.inr (.inr rfl)) rfl ?_
    refine ga_cons ?_
    refine ge_int ?_
    refine ga_nil ?_
    refine ⟨ρ3, rfl, ok3, ⟨30, by decide, by decide, rfl⟩, fun d ρ4 er4 ok4 po => ?_⟩
    obtain ⟨z, hz, rfl⟩ := po 30 rfl
    refine ga_nil ?_
    refine ⟨(show 7 ≤ sizeLine by decide), ?_⟩
    refine ga_nil ?_
    refine ⟨ρ4, rfl, ok4, ⟨[.int 0, .int 1, .int 2, .int 6, .int 12, .int 60, nD z], by simp, by simp, rfl⟩, fun d ρ5 er5 ok5 po => ?_⟩
    have hc : ∃ c : Nat, c ≤ 60 ∧ d = nD c := by
      have := po _ rfl
      simp only [List.mem_cons, List.not_mem_nil, or_false] at this
      rcases this with rfl | rfl | rfl | rfl | rfl | rfl | rfl
      · exact ⟨0, by decide, rfl⟩
      · exact ⟨1, by decide, rfl⟩
      · exact ⟨2, by decide, rfl⟩
      · exact ⟨6, by decide, rfl⟩
      · exact ⟨12, by decide, rfl⟩
      · exact ⟨60, by decide, rfl⟩
      · exact ⟨z, by omega, rfl⟩
    obtain ⟨c, hc, rfl⟩ := hc
    refine ga_nil ?_
    refine ⟨(show 1 ≤ sizeLine by decide), ?_⟩
    refine ⟨_, _, rfl, rfl, (show 3 ≤ sizeLine by decide), ?_⟩
    refine ⟨by rw [List.length_map]; exact Nat.lt_of_le_of_lt (show _ ≤ 10 by omega) (by decide), rs ++ [(ed.1, ed.2, c)], by simp [hrs], ?_, fun a r h => ?_, ρ5, rfl, ok5, er5.trans (er4.trans er3)⟩
    · rw [List.map_append]
      rfl
    · rcases getElem?_snoc h with h | ⟨rfl, rfl⟩
      · exact hr a r h
      · exact ⟨by rw [hrs]; exact hes, hc⟩
  · obtain ⟨rs, hrs, rfl, hr, ρ3, rfl, ok3, er3⟩ := e
    refine ⟨_, .inl rfl, ?_⟩
    refine ga_cons ?_
    refine ge_ixT ?_
    refine ge_nm 2 rfl (by first | exact Or.inl rfl | exact Or.inr (.inl rfl) | exact Or.inr (.inr rfl)) rfl ?_
    refine ge_int ?_
    refine ⟨_, _, _, rfl, rfl, rfl, ?_⟩
    refine ga_nil ?_
    refine ⟨(show 3 ≤ sizeLine by decide), ?_⟩
    have hes : rs.map (fun r => (r.1, r.2.1)) = es := by
      apply List.ext_getElem?
      intro a
      rw [List.getElem?_map]
      cases h : rs[a]? with
      | none =>
        have := List.getElem?_eq_none_iff.mp h
        rw [List.getElem?_eq_none (by omega)]; rfl
      | some r => exact (hr a r h).1.symm
    refine ⟨⟨⟨sz, rs, ps⟩, ⟨go.n2, go.n4, by show 1 ≤ rs.length; omega, by show rs.length ≤ 6; omega, by show 1 ≤ ps.length; omega, by show ps.length ≤ 3; omega, fun r hr' => ?_, fun p hp => ?_⟩, rfl⟩, ρ3, rfl, ok3, er3⟩
    · obtain ⟨a, ha⟩ := List.mem_iff_getElem?.mp hr'
      obtain ⟨h1, h2⟩ := hr a r ha
      obtain ⟨g1, g2, g3⟩ := go.e _ (List.mem_of_getElem? h1)
      exact ⟨g1, g2, g3, h2⟩
    · obtain ⟨g1, g2, g3, g4⟩ := hps p hp
      refine ⟨g1, g2, g3, ?_⟩
      show ways sz (rs.map fun r => (r.1, r.2.1)) p.1 p.2 ≠ []
      rw [hes]; exact g4
/-! _law_states -/
theorem rds_b (b : Bl) : RdsOf (b.rs.map rB) b.es := by
  refine ⟨by rw [List.length_map, es_len], fun i e h => ?_⟩
  unfold Bl.es at h
  rw [List.getElem?_map] at h
  cases hr : b.rs[i]? with
  | none => rw [hr] at h; cases h
  | some r =>
    rw [hr] at h; cases h
    exact ⟨[nD r.2.2], by rw [List.getElem?_map, hr]; rfl⟩
theorem wg_b {b : Bl} (hb : VB b) {p : Nat × Nat} (hp : p ∈ b.ps) : P__law_game_ways [bD b, pD p] (.list ((b.ws p).map tD)) :=
  ⟨b.n, b.es, p, b.rs.map rB, [.tuple (b.ps.map pD)], hb.n4, by rw [es_len]; exact hb.r6, es_lt (vb_lt hb), (hb.pl p hp).1, rds_b b, rfl, rfl⟩
def statesD (b : Bl) : PyData := if (∀ p ∈ b.ps, (b.ws p).length ≤ 8) then .list (b.states.map stD) else .none
def P__law_states (ds : List PyData) (d : PyData) : Prop := ∃ b : Bl, VB b ∧ ds = [bD b] ∧ d = statesD b
def N__law_states : List Str := ["_law_game_here", "_law_some", "_law_rows", "_law_ways", "_law_more", "_law_one", "_law_player", "_law_way"]
theorem sc__law_states : FnScope N__law_states ["_law_game_here"] (defScope (topS 59)) := ⟨rfl, rfl, rfl, by decide +kernel, rfl, by decide +kernel, by decide +kernel⟩
def wsF (b : Bl) : PyData → PyData
  | .tuple [x, y] => .list ((b.ws (unN x, unN y)).map tD)
  | _ => .none
theorem wsF_p (b : Bl) (p : Nat × Nat) : wsF b (pD p) = .list ((b.ws p).map tD) := rfl
def lenF : PyData → PyData
  | .list xs => nD xs.length
  | _ => .none
theorem w__law_states (T : Bt k) (F__law_game_ways : Fn k 2 "_law_game_ways" (spP k P__law_game_ways)) (FC : FunC k.K "_law_states" (topS 59) f fd cdv) (hm : k.mg "_law_states" = some (.ref f)) : Fn k 3 "_law_states" (spP k P__law_states) := by
  refine fn_def FC hm (FC.binds fun _ _ _ _ _ _ us hl => match us, hl with | [_], _ => rfl) sc__law_states (fun ds d ⟨_, _, e, _⟩ => by rw [e]; rfl) fun ds d ⟨b, hb, e1, e2⟩ n => ?_
  subst e1; subst e2
  have p3 := hb.p3
  have p1 := hb.p1
  have wl := wss_len b
  refine gs_cons ?_
  refine gs_par 1 2 rfl rfl (by decide) rfl rfl ?_ (fun env h => by cases env; cases h; rfl)
  refine ga_cons ?_
  refine ge_lc [("_law_player", 6)] ([6] ++ ([])) (by dsimp only [cdOf, Cd.blk, Cd.gen]; decide +kernel) (by decide) (lcH_f (fun d => some (wsF b d)) ?_)
  refine gi_tup ?_
  refine ge_ixT ?_
  refine ge_nm 0 rfl (by first | exact Or.inl rfl | exact Or.inr (.inl rfl) | exact Or.inr (.inr rfl)) rfl ?_
  refine ge_int ?_
  refine ⟨_, _, _, rfl, rfl, rfl, ?_⟩
  refine ⟨_, rfl, ?_⟩
  refine ⟨fun d hd => ?_, ?_, ?_⟩
  · obtain ⟨p, hp, rfl⟩ := List.mem_map.mp hd
    refine gg_name 6 rfl (by dsimp only [cdOf, Cd.blk, Cd.gen]; decide +kernel) ?_
    refine gps_nil ?_
    refine ite_t (rfl) ?_
    refine ge_call F__law_game_ways (by dsimp only [cdOf, Cd.blk, Cd.gen]; decide +kernel) rfl ?_
    refine ga_cons ?_
    refine ge_nm 0 rfl (by first | exact Or.inl rfl | exact Or.inr (.inl rfl) | exact Or.inr (.inr rfl)) rfl ?_
    refine ga_cons ?_
    refine ge_nm 6 rfl (by first | exact Or.inl rfl | exact Or.inr (.inl rfl) | exact Or.inr (.inr rfl)) rfl ?_
    refine ga_nil ?_
    exact ⟨_, wg_b hb hp, rfl, rfl⟩
  · rw [List.length_map]; exact Nat.le_trans p3 (by decide)
  have e0 : (b.ps.map pD).filterMap (fun d => some (wsF b d)) = b.wss.map fun ws => .list (ws.map tD) := by
    rw [fm_some (g := wsF b) (fun _ _ => rfl), List.map_map]
    unfold Bl.wss
    rw [List.map_map]
    rfl
  rw [e0]
  refine ga_cons ?_
  refine ge_lst ?_
  refine ga_cons ?_
  refine ge_tup ?_
  refine ga_nil ?_
  refine ⟨(show 0 ≤ sizeLine by decide), ?_⟩
  refine ga_nil ?_
  refine ⟨(show 1 ≤ sizeLine by decide), ?_⟩
  refine ga_nil ?_
  refine ⟨_, _, rfl, ?_⟩
  refine gs_cons ?_
  refine gs_if ?_
  refine gt_gt ?_
  refine ge_maxL rfl T.max ?_
  refine ge_lc [("_law_one", 5)] ([5] ++ ([])) (by dsimp only [cdOf, Cd.blk, Cd.gen]; decide +kernel) (by decide) (lcH_f (fun d => some (lenF d)) ?_)
  refine gi_list ?_
  refine ge_nm 1 rfl (by first | exact Or.inl rfl | exact Or.inr (.inl rfl) | exact Or.inr (.inr rfl)) rfl ?_
  refine ⟨_, rfl, ?_⟩
  refine ⟨fun d hd => ?_, ?_, ?_⟩
  · obtain ⟨ws, hw, rfl⟩ := List.mem_map.mp hd
    refine gg_name 5 rfl (by dsimp only [cdOf, Cd.blk, Cd.gen]; decide +kernel) ?_
    refine gps_nil ?_
    refine ite_t (rfl) ?_
    refine ge_len rfl T.len ?_
    refine ge_nm 5 rfl (by first | exact Or.inl rfl | exact Or.inr (.inl rfl) | exact Or.inr (.inr rfl)) rfl ?_
    refine ⟨_, (by first | exact Or.inl rfl | exact Or.inr rfl), ?_⟩
    exact ⟨rfl, rfl⟩
  · rw [List.length_map, wl]; exact Nat.le_trans p3 (by decide)
  have e1 : (b.wss.map fun ws => PyData.list (ws.map tD)).filterMap (fun d => some (lenF d)) = (b.wss.map List.length).map nD := by
    rw [fm_some (g := lenF) (fun _ _ => rfl), List.map_map, List.map_map]
    refine List.map_congr_left fun ws _ => ?_
    show nD (ws.map tD).length = nD ws.length
    rw [List.length_map]
  rw [e1]
  have hne : b.wss.map List.length ≠ [] := fun z => by
    have := congrArg List.length z
    rw [List.length_map, wl] at this
    simp at this
    rw [this] at p1
    simp at p1
  refine ⟨_, (mx (b.wss.map List.length) : Nat), congrArg PyData.list (mapN_ints _), List.mem_map.mpr ⟨_, mx_mem hne, rfl⟩, fun y hy => ?_, ?_⟩
  · obtain ⟨x, hx, rfl⟩ := List.mem_map.mp hy
    have := mx_le hx
    omega
  refine ge_int ?_
  refine ⟨_, _, rfl, rfl, ?_⟩
  refine ite_b (fun h => ?_) (fun h => ?_)
  · have h : 8 < mx (b.wss.map List.length) := by have := of_decide_eq_true h; omega
    refine gs_cons ?_
    refine gs_ret ?_
    refine ge_non ?_
    refine ⟨?_, rfl⟩
    unfold statesD
    rw [if_neg]
    intro z
    obtain ⟨ws, hw, e⟩ := List.mem_map.mp (mx_mem hne)
    obtain ⟨p, hp, rfl⟩ := List.mem_map.mp hw
    have := z p hp
    omega
  · have h : mx (b.wss.map List.length) ≤ 8 := by have := of_decide_eq_false h; omega
    have w8 : ∀ p ∈ b.ps, (b.ws p).length ≤ 8 := fun p hp => Nat.le_trans (mx_le (List.mem_map.mpr ⟨b.ws p, List.mem_map.mpr ⟨p, hp, rfl⟩, rfl⟩)) h
    have hs : VS b := ⟨hb, w8⟩
    have slen := states_len hs
    refine gs_nil ?_
    refine gs_cons ?_
    refine gs_for [3, 4, 5] [3] ?_
    refine gi_list ?_
    refine ge_nm 1 rfl (by first | exact Or.inl rfl | exact Or.inr (.inl rfl) | exact Or.inr (.inr rfl)) rfl ?_
    refine ⟨_, rfl, ?_⟩
    refine ⟨fun i g => g = ⟨[.dat (bD b), .dat (wssD b), .dat (.list ((prod (b.wss.take i)).map stD)), .non, .non, .non, .non, .non], none⟩, rfl, fun i d g2 hd e => ?_, fun g2 e => ?_⟩
    · subst e
      rw [List.getElem?_map] at hd
      cases hw : b.wss[i]? with
      | none => rw [hw] at hd; cases hd
      | some ws =>
        rw [hw] at hd; cases hd
        have hps := part_states hs i
        have hw8 := wss8 hs ws (List.mem_of_getElem? hw)
        refine gg_name 3 rfl (by dsimp only [cdOf, Cd.blk, Cd.gen]; decide +kernel) ?_
        refine gs_cons ?_
        refine gs_set 4 rfl (by dsimp only [cdOf, Cd.blk, Cd.gen]; decide +kernel) ?_
        refine ge_lst ?_
        refine ga_nil ?_
        refine ⟨(show 0 ≤ sizeLine by decide), ?_⟩
        refine gs_cons ?_
        refine gs_for [5] [5] ?_
        refine gi_list ?_
        refine ge_nm 2 rfl (by first | exact Or.inl rfl | exact Or.inr (.inl rfl) | exact Or.inr (.inr rfl)) rfl ?_
        refine ⟨_, rfl, ?_⟩
        refine ⟨fun t g => g = ⟨[.dat (bD b), .dat (wssD b), .dat (.list ((prod (b.wss.take i)).map stD)), .dat (.list (ws.map tD)), .dat (.list ((prod1 ((prod (b.wss.take i)).take t) ws).map stD)), .non, .non, .non], none⟩, rfl, fun t d g3 hd e => ?_, fun g3 e => ?_⟩
        · subst e
          rw [List.getElem?_map] at hd
          cases hr : (prod (b.wss.take i))[t]? with
          | none => rw [hr] at hd; cases hd
          | some r =>
            rw [hr] at hd; cases hd
            have hr3 := hps.2 r (List.mem_of_getElem? hr)
            refine gg_name 5 rfl (by dsimp only [cdOf, Cd.blk, Cd.gen]; decide +kernel) ?_
            refine gs_cons ?_
            refine gs_set 4 rfl (by dsimp only [cdOf, Cd.blk, Cd.gen]; decide +kernel) ?_
            refine ge_catL ?_
            refine ge_nm 4 rfl (by first | exact Or.inl rfl | exact Or.inr (.inl rfl) | exact Or.inr (.inr rfl)) rfl ?_
            refine ge_lc [("_law_way", 7)] ([7] ++ ([])) (by dsimp only [cdOf, Cd.blk, Cd.gen]; decide +kernel) (by decide) (lcH_f (fun d => some (sn (stD r) d)) ?_)
            refine gi_list ?_
            refine ge_nm 3 rfl (by first | exact Or.inl rfl | exact Or.inr (.inl rfl) | exact Or.inr (.inr rfl)) rfl ?_
            refine ⟨_, rfl, ?_⟩
            refine ⟨fun d hd => ?_, ?_, ?_⟩
            · obtain ⟨w, hw', rfl⟩ := List.mem_map.mp hd
              refine gg_name 7 rfl (by dsimp only [cdOf, Cd.blk, Cd.gen]; decide +kernel) ?_
              refine gps_nil ?_
              refine ite_t (rfl) ?_
              refine ge_catT ?_
              refine ge_nm 5 rfl (by first | exact Or.inl rfl | exact Or.inr (.inl rfl) | exact Or.inr (.inr rfl)) rfl ?_
              refine ge_tup ?_
              refine ga_cons ?_
              refine ge_nm 7 rfl (by first | exact Or.inl rfl | exact Or.inr (.inl rfl) | exact Or.inr (.inr rfl)) rfl ?_
              refine ga_nil ?_
              refine ⟨(show 1 ≤ sizeLine by decide), ?_⟩
              refine ⟨_, _, rfl, rfl, by rw [List.length_map]; exact Nat.le_trans (show _ ≤ 10 by simp only [List.length_singleton]; omega) (by decide), ?_⟩
              exact ⟨rfl, rfl⟩
            · rw [List.length_map]; exact Nat.le_trans hw8 (by decide)
            · rw [fm_some (g := sn (stD r)) (fun _ _ => rfl)]
              refine ⟨_, _, rfl, rfl, ?_, ?_⟩
              · rw [List.length_map, List.length_map, List.length_map, prod1_len, List.length_take]
                have h1 : min t (prod (b.wss.take i)).length * ws.length ≤ 512 * 8 := Nat.mul_le_mul (by omega) hw8
                exact Nat.le_trans (show _ ≤ 10000 by omega) (by decide)
              · refine gs_nil ?_
                show (_ : GS) = (_ : GS)
                have e5 : (prod1 ((prod (b.wss.take i)).take (t + 1)) ws).map stD = (prod1 ((prod (b.wss.take i)).take t) ws).map stD ++ (ws.map tD).map (sn (stD r)) := by
                  rw [← prod1_D, ← prod1_D, List.take_add_one, hr, List.map_append, List.flatMap_append]
                  show _ ++ List.flatMap (fun d => (ws.map tD).map (sn d)) [stD r] = _
                  rw [List.flatMap_cons, List.flatMap_nil, List.append_nil]
                rw [e5]
                rfl
        · subst e
          have e6 : ((prod (b.wss.take i)).map stD).length = (prod (b.wss.take i)).length := List.length_map ..
          rw [e6, List.take_length, ← prod_take hw]
          refine gs_cons ?_
          refine gs_set 2 rfl (by dsimp only [cdOf, Cd.blk, Cd.gen]; decide +kernel) ?_
          refine ge_nm 4 rfl (by first | exact Or.inl rfl | exact Or.inr (.inl rfl) | exact Or.inr (.inr rfl)) rfl ?_
          refine gs_nil ?_
          rfl
    · subst e
      have e7 : (b.wss.map fun ws => PyData.list (ws.map tD)).length = b.wss.length := List.length_map ..
      rw [e7, List.take_length]
      refine gs_cons ?_
      refine gs_ret ?_
      refine ge_if ?_
      refine gt_le ?_
      refine ge_len rfl T.len ?_
      refine ge_nm 2 rfl (by first | exact Or.inl rfl | exact Or.inr (.inl rfl) | exact Or.inr (.inr rfl)) rfl ?_
      refine ⟨_, (by first | exact Or.inl rfl | exact Or.inr rfl), ?_⟩
      refine ge_int ?_
      refine ⟨_, _, rfl, rfl, ?_⟩
      have e8 : (b.states.map stD).length = b.states.length := List.length_map ..
      refine ite_t (decide_eq_true ?_) ?_
      · show (((b.states.map stD).length : Nat) : Int) ≤ 1000
        rw [e8]; omega
      refine ge_nm 2 rfl (by first | exact Or.inl rfl | exact Or.inr (.inl rfl) | exact Or.inr (.inr rfl)) rfl ?_
      refine ⟨?_, rfl⟩
      unfold statesD
      rw [if_pos w8]
      rfl
end
end Wk
set_option Elab.async false
set_option linter.all false
set_option maxRecDepth 100000
set_option maxHeartbeats 4000000
namespace Wk
open PySem PySem.Spec PyProof.Rows L2 Gh Mir
section
variable {k : Kit} {f : Addr} {fd : FuncData} {cdv : Value}
def inF (i : Nat) (d : PyData) : Option PyData := if i ∈ unT d then some d else none
theorem inF_w (i : Nat) (w : List Nat) : inF i (tD w) = if i ∈ w then some (tD w) else none := by
  unfold inF
  rw [unT_tD]
theorem in_fm (i : Nat) : ∀ s : Stt, (s.map tD).filterMap (inF i) = (s.filter fun w => decide (i ∈ w)).map tD
  | [] => rfl
  | w :: s => by
    rw [List.map_cons, List.filterMap_cons, in_fm i s, inF_w, List.filter_cons]
    by_cases h : i ∈ w
    · rw [if_pos h, if_pos (decide_eq_true h)]; rfl
    · rw [if_neg h, if_neg (by rw [decide_eq_false h]; decide)]
/-! _law_share -/
def N__law_share : List Str := ["_law_building_here", "_law_state", "_law_player", "_law_k", "_law_way"]
def P__law_share (ds : List PyData) (d : PyData) : Prop := ∃ (b : Bl) (s : Stt) (p : Nat), VB b ∧ isSt b s ∧ p < b.ps.length ∧ ds = [bD b, stD s, nD p] ∧ d = pD (share b s p)
theorem sc__law_share : FnScope N__law_share ["_law_building_here", "_law_state", "_law_player"] (defScope (topS 61)) := ⟨rfl, rfl, rfl, by decide +kernel, rfl, by decide +kernel, by decide +kernel⟩
theorem w__law_share (T : Bt k) (F__law_ratio : Fn k 1 "_law_ratio" (spP k P_ratio)) (F__law_sum : Fn k 3 "_law_sum" (spP k P_sum_of)) (FC : FunC k.K "_law_share" (topS 61) f fd cdv) (hm : k.mg "_law_share" = some (.ref f)) : Fn k 4 "_law_share" (spP k P__law_share) := by
  refine fn_def FC hm (FC.binds fun _ _ _ _ _ _ us hl => match us, hl with | [_, _, _], _ => rfl) sc__law_share (fun ds d ⟨_, _, _, _, _, _, e, _⟩ => by rw [e]; rfl) fun ds d ⟨b, s, p, hb, hs, hp, e1, e2⟩ n => ?_
  subst e1; subst e2
  have h3 : s.length ≤ 3 := by rw [hs.1]; exact hb.p3
  have hlt : p < s.length := by rw [hs.1]; exact hp
  obtain ⟨w, hw⟩ : ∃ w, s[p]? = some w := ⟨_, List.getElem?_eq_getElem hlt⟩
  have hix := hs.ix hb hw
  refine gs_cons ?_
  refine gs_ret ?_
  refine ge_call F__law_sum (by dsimp only [cdOf, Cd.blk, Cd.gen]; decide +kernel) rfl ?_
  refine ga_cons ?_
  refine ge_lc [("_law_k", 3)] ([3] ++ ([])) (by dsimp only [cdOf, Cd.blk, Cd.gen]; decide +kernel) (by decide) (lcH_f (fun d => some (pD (rat (b.cost (unN d)) (Mir.cnt s (unN d))))) ?_)
  refine gi_tup ?_
  refine ge_ixT ?_
  refine ge_nm 1 rfl (by first | exact Or.inl rfl | exact Or.inr (.inl rfl) | exact Or.inr (.inr rfl)) rfl ?_
  refine ge_nm 2 rfl (by first | exact Or.inl rfl | exact Or.inr (.inl rfl) | exact Or.inr (.inr rfl)) rfl ?_
  refine ⟨_, _, _, rfl, rfl, atN_map hw, ?_⟩
  refine ⟨_, rfl, ?_⟩
  refine ⟨fun d hd => ?_, ?_, ?_⟩
  · obtain ⟨i, hi, rfl⟩ := List.mem_map.mp hd
    have hir := hix.1 i hi
    obtain ⟨r, hr⟩ : ∃ r, b.rs[i]? = some r := ⟨_, List.getElem?_eq_getElem hir⟩
    have hc := cnt_le s i
    refine gg_name 3 rfl (by dsimp only [cdOf, Cd.blk, Cd.gen]; decide +kernel) ?_
    refine gps_nil ?_
    refine ite_t (rfl) ?_
    refine ge_call F__law_ratio (by dsimp only [cdOf, Cd.blk, Cd.gen]; decide +kernel) rfl ?_
    refine ga_cons ?_
    refine ge_ixT ?_
    refine ge_ixT ?_
    refine ge_ixT ?_
    refine ge_nm 0 rfl (by first | exact Or.inl rfl | exact Or.inr (.inl rfl) | exact Or.inr (.inr rfl)) rfl ?_
    refine ge_int ?_
    refine ⟨_, _, _, rfl, rfl, rfl, ?_⟩
    refine ge_nm 3 rfl (by first | exact Or.inl rfl | exact Or.inr (.inl rfl) | exact Or.inr (.inr rfl)) rfl ?_
    refine ⟨_, _, _, rfl, rfl, atN_map hr, ?_⟩
    refine ge_int ?_
    refine ⟨_, _, _, rfl, rfl, rfl, ?_⟩
    refine ga_cons ?_
    refine ge_len rfl T.len ?_
    refine ge_lc [("_law_way", 4)] ([4] ++ ([])) (by dsimp only [cdOf, Cd.blk, Cd.gen]; decide +kernel) (by decide) (lcH_f (inF i) ?_)
    refine gi_tup ?_
    refine ge_nm 1 rfl (by first | exact Or.inl rfl | exact Or.inr (.inl rfl) | exact Or.inr (.inr rfl)) rfl ?_
    refine ⟨_, rfl, ?_⟩
    refine ⟨fun d hd => ?_, ?_, ?_⟩
    · obtain ⟨v, hv, rfl⟩ := List.mem_map.mp hd
      refine gg_name 4 rfl (by dsimp only [cdOf, Cd.blk, Cd.gen]; decide +kernel) ?_
      refine gps_one ?_
      refine gt_inT ?_
      refine ge_nm 3 rfl (by first | exact Or.inl rfl | exact Or.inr (.inl rfl) | exact Or.inr (.inr rfl)) rfl ?_
      refine ge_nm 4 rfl (by first | exact Or.inl rfl | exact Or.inr (.inl rfl) | exact Or.inr (.inr rfl)) rfl ?_
      refine ⟨_, v.map (fun n : Nat => (n : Int)), rfl, tD_ints _, ?_⟩
      rw [memN]
      refine ite_b (fun h => ?_) (fun h => ?_)
      · refine ge_nm 4 rfl (by first | exact Or.inl rfl | exact Or.inr (.inl rfl) | exact Or.inr (.inr rfl)) rfl ?_
        exact ⟨by rw [inF_w, if_pos (of_decide_eq_true h)], rfl⟩
      · exact ⟨by rw [inF_w, if_neg (of_decide_eq_false h)], rfl⟩
    · rw [List.length_map]; exact Nat.le_trans h3 (by decide)
    · rw [in_fm]
      refine ⟨_, .inl rfl, ?_⟩
      rw [List.length_map]
      refine ga_nil ?_
      refine ⟨_, ⟨r.2.2, Mir.cnt s i, cnt_pos (List.mem_of_getElem? hw) hi, by omega, rfl, rfl⟩, ?_, rfl⟩
      rw [← cost_get hr]
      rfl
  · rw [List.length_map]; exact Nat.le_trans hix.2 (by decide)
  · have e : (w.map nD).filterMap (fun d => some (pD (rat (b.cost (unN d)) (Mir.cnt s (unN d))))) = (w.map fun i => rat (b.cost i) (Mir.cnt s i)).map pD := by
      rw [fm_some (g := fun d => pD (rat (b.cost (unN d)) (Mir.cnt s (unN d)))) (fun _ _ => rfl), List.map_map, List.map_map]
      rfl
    rw [e]
    refine ga_nil ?_
    refine ⟨_, ⟨_, fun x hx => ?_, fun i => ?_, rfl, rfl⟩, ?_, rfl⟩
    · obtain ⟨i, hi, rfl⟩ := List.mem_map.mp hx
      have := sx_le hb s i
      exact v6_sm (one_v6 (cnt_pos (List.mem_of_getElem? hw) hi) h3) (by omega)
    · have := part_le hb (s := s) hix.2 i
      exact v6_sm (share_list_v6 h3 hw i) (by omega)
    · unfold share
      rw [getD_some hw]
/-! _law_price -/
def N__law_price : List Str := ["_law_building_here", "_law_state", "_law_k", "_law_way"]
def P__law_price (ds : List PyData) (d : PyData) : Prop := ∃ (b : Bl) (s : Stt), VB b ∧ s.length = b.ps.length ∧ ds = [bD b, stD s] ∧ d = nD (price b s)
theorem sc__law_price : FnScope N__law_price ["_law_building_here", "_law_state"] (defScope (topS 62)) := ⟨rfl, rfl, rfl, by decide +kernel, rfl, by decide +kernel, by decide +kernel⟩
theorem fm_congr {α β : Type} {f g : α → Option β} : ∀ {l : List α}, (∀ x ∈ l, f x = g x) → l.filterMap f = l.filterMap g
  | [], _ => rfl
  | x :: l, h => by rw [List.filterMap_cons, List.filterMap_cons, h x List.mem_cons_self, fm_congr fun y hy => h y (List.mem_cons_of_mem _ hy)]
theorem sum_fm (p : Nat → Bool) (c : Nat → Nat) : ∀ l : List Nat, (l.filterMap fun i => if p i = true then some (c i) else none).sum = (l.map fun i => if p i = true then c i else 0).sum
  | [] => rfl
  | i :: l => by
    rw [List.filterMap_cons, List.map_cons, List.sum_cons, ← sum_fm p c l]
    cases h : p i with
    | true => rw [if_pos rfl, if_pos rfl]; rfl
    | false => rw [if_neg Bool.false_ne_true, if_neg Bool.false_ne_true, Nat.zero_add]
theorem w__law_price (T : Bt k) (FC : FunC k.K "_law_price" (topS 62) f fd cdv) (hm : k.mg "_law_price" = some (.ref f)) : Fn k 1 "_law_price" (spP k P__law_price) := by
  refine fn_def FC hm (FC.binds fun _ _ _ _ _ _ us hl => match us, hl with | [_, _], _ => rfl) sc__law_price (fun ds d ⟨_, _, _, _, e, _⟩ => by rw [e]; rfl) fun ds d ⟨b, s, hb, hs, e1, e2⟩ n => ?_
  subst e1; subst e2
  have r6 := hb.r6
  have p3 := hb.p3
  refine gs_cons ?_
  refine gs_ret ?_
  refine ge_sumL rfl T.sum ?_
  refine ge_lc [("_law_k", 2)] ([2] ++ ([])) (by dsimp only [cdOf, Cd.blk, Cd.gen]; decide +kernel) (by decide) (lcH_f (fun d => if decide (0 < Mir.cnt s (unN d)) = true then some (nD (b.cost (unN d))) else none) ?_)
  refine gi_rng1 rfl T.range ?_
  refine ge_len rfl T.len ?_
  refine ge_ixT ?_
  refine ge_nm 0 rfl (by first | exact Or.inl rfl | exact Or.inr (.inl rfl) | exact Or.inr (.inr rfl)) rfl ?_
  refine ge_int ?_
  refine ⟨_, _, _, rfl, rfl, rfl, ?_⟩
  refine ⟨_, (by first | exact Or.inl rfl | exact Or.inr rfl), ?_⟩
  rw [List.length_map]
  refine ⟨_, rfl, by omega, by omega, ?_⟩
  rw [show ((b.rs.length : Nat) : Int).toNat = b.rs.length by omega]
  refine ⟨fun d hd => ?_, ?_, ?_⟩
  · obtain ⟨i, hi, rfl⟩ := rng_mem hd
    obtain ⟨r, hr⟩ : ∃ r, b.rs[i]? = some r := ⟨_, List.getElem?_eq_getElem hi⟩
    refine gg_name 2 rfl (by dsimp only [cdOf, Cd.blk, Cd.gen]; decide +kernel) ?_
    refine gps_one ?_
    refine gt_ne ?_
    refine ge_lc [("_law_way", 3)] ([3] ++ ([])) (by dsimp only [cdOf, Cd.blk, Cd.gen]; decide +kernel) (by decide) (lcH_f (inF i) ?_)
    refine gi_tup ?_
    refine ge_nm 1 rfl (by first | exact Or.inl rfl | exact Or.inr (.inl rfl) | exact Or.inr (.inr rfl)) rfl ?_
    refine ⟨_, rfl, ?_⟩
    refine ⟨fun d hd => ?_, ?_, ?_⟩
    · obtain ⟨v, hv, rfl⟩ := List.mem_map.mp hd
      refine gg_name 3 rfl (by dsimp only [cdOf, Cd.blk, Cd.gen]; decide +kernel) ?_
      refine gps_one ?_
      refine gt_inT ?_
      refine ge_nm 2 rfl (by first | exact Or.inl rfl | exact Or.inr (.inl rfl) | exact Or.inr (.inr rfl)) rfl ?_
      refine ge_nm 3 rfl (by first | exact Or.inl rfl | exact Or.inr (.inl rfl) | exact Or.inr (.inr rfl)) rfl ?_
      refine ⟨_, v.map (fun n : Nat => (n : Int)), rfl, tD_ints _, ?_⟩
      rw [memN]
      refine ite_b (fun h => ?_) (fun h => ?_)
      · refine ge_nm 3 rfl (by first | exact Or.inl rfl | exact Or.inr (.inl rfl) | exact Or.inr (.inr rfl)) rfl ?_
        exact ⟨by rw [inF_w, if_pos (of_decide_eq_true h)], rfl⟩
      · exact ⟨by rw [inF_w, if_neg (of_decide_eq_false h)], rfl⟩
    · rw [List.length_map, hs]; exact Nat.le_trans p3 (by decide)
    · rw [in_fm]
      refine ge_lst ?_
      refine ga_nil ?_
      refine ⟨(show 0 ≤ sizeLine by decide), ?_⟩
      refine ⟨shaped_ws _, rfl, ?_⟩
      rw [eqv_nil]
      have hc : (!(s.filter fun w => decide (i ∈ w)).isEmpty) = decide (0 < Mir.cnt s i) := by
        unfold Mir.cnt
        cases h : s.filter fun w => decide (i ∈ w) with
        | nil => rfl
        | cons x l => rw [List.length_cons, decide_eq_true (by omega)]; rfl
      rw [hc]
      refine ite_b (fun h => ?_) (fun h => ?_)
      · refine ge_ixT ?_
        refine ge_ixT ?_
        refine ge_ixT ?_
        refine ge_nm 0 rfl (by first | exact Or.inl rfl | exact Or.inr (.inl rfl) | exact Or.inr (.inr rfl)) rfl ?_
        refine ge_int ?_
        refine ⟨_, _, _, rfl, rfl, rfl, ?_⟩
        refine ge_nm 2 rfl (by first | exact Or.inl rfl | exact Or.inr (.inl rfl) | exact Or.inr (.inr rfl)) rfl ?_
        refine ⟨_, _, _, rfl, rfl, atN_map hr, ?_⟩
        refine ge_int ?_
        refine ⟨_, _, _, rfl, rfl, rfl, ?_⟩
        refine ⟨?_, rfl⟩
        show (if decide (0 < Mir.cnt s i) = true then some (nD (b.cost i)) else none) = _
        rw [if_pos h, cost_get hr]
      · refine ⟨?_, rfl⟩
        show (if decide (0 < Mir.cnt s i) = true then some (nD (b.cost i)) else none) = _
        rw [if_neg (by rw [h]; decide)]
  · rw [rngD_len]; exact Nat.le_trans r6 (by decide)
  · have e : (rngD 0 b.rs.length).filterMap (fun d => if decide (0 < Mir.cnt s (unN d)) = true then some (nD (b.cost (unN d))) else none) = ((List.range b.rs.length).filterMap fun i => if decide (0 < Mir.cnt s i) = true then some (b.cost i) else none).map nD := by
      unfold rngD
      rw [List.filterMap_map, List.map_filterMap]
      refine fm_congr fun i _ => ?_
      have e0 : unN (.int (0 + (i : Nat))) = i := by show ((0 : Int) + (i : Nat)).toNat = i; omega
      show (if decide (0 < Mir.cnt s (unN (.int (0 + (i : Nat))))) = true then some (nD (b.cost (unN (.int (0 + (i : Nat)))))) else none) = _
      rw [e0]
      cases decide (0 < Mir.cnt s i) <;> rfl
    rw [e]
    refine ⟨_, congrArg PyData.list (mapN_ints _), ?_, rfl⟩
    rw [sumN, sum_fm]
    have e2 : ((List.range b.rs.length).map fun i => if decide (0 < Mir.cnt s i) = true then b.cost i else 0) = (List.range b.rs.length).map fun i => if 0 < Mir.cnt s i then b.cost i else 0 := by
      refine List.map_congr_left fun i _ => ?_
      by_cases h : 0 < Mir.cnt s i
      · rw [if_pos h, if_pos (decide_eq_true h)]
      · rw [if_neg h, if_neg (by rw [decide_eq_false h]; decide)]
    rw [e2]
    rfl
end
end Wk
set_option Elab.async false
set_option linter.all false
set_option maxRecDepth 100000
set_option maxHeartbeats 4000000
/-! the plain law: a state that stands at most 1 + 1/2 + .. + 1/k from the least, every standing one at most k from it -/
namespace Mir
open PySem Gh Wk
/-- a sum over the roads -/
def sg (R : Nat) (f : Nat → Nat) : Nat := ((List.range R).map f).sum
theorem sg_succ (R : Nat) (f : Nat → Nat) : sg (R + 1) f = sg R f + f R := by
  unfold sg
  rw [List.range_succ, List.map_append, List.sum_append]
  simp
theorem sg_add (f g : Nat → Nat) : ∀ R, sg R (fun i => f i + g i) = sg R f + sg R g
  | 0 => rfl
  | R + 1 => by rw [sg_succ, sg_succ, sg_succ, sg_add f g R]; omega
theorem sg_le {f g : Nat → Nat} : ∀ R, (∀ i, i < R → f i ≤ g i) → sg R f ≤ sg R g
  | 0, _ => Nat.le_refl _
  | R + 1, h => by
    rw [sg_succ, sg_succ]
    have h1 := sg_le R fun i hi => h i (by omega)
    have h2 := h R (by omega)
    omega
theorem sg_congr {f g : Nat → Nat} (R : Nat) (h : ∀ i, i < R → f i = g i) : sg R f = sg R g :=
  Nat.le_antisymm (sg_le R fun i hi => Nat.le_of_eq (h i hi)) (sg_le R fun i hi => Nat.le_of_eq (h i hi).symm)
theorem sg_mul (c : Nat) (f : Nat → Nat) : ∀ R, sg R (fun i => c * f i) = c * sg R f
  | 0 => rfl
  | R + 1 => by rw [sg_succ, sg_succ, sg_mul c f R, Nat.mul_add]
theorem sg_zero : ∀ R, sg R (fun _ => 0) = 0
  | 0 => rfl
  | R + 1 => by rw [sg_succ, sg_zero R]
theorem sg_one {R i : Nat} (h : i < R) (f : Nat → Nat) : sg R (fun j => if j = i then f j else 0) = f i := by
  induction R with
  | zero => omega
  | succ R ih =>
    rw [sg_succ]
    by_cases e : R = i
    · subst e
      have : sg R (fun j => if j = R then f j else 0) = sg R fun _ => 0 := sg_congr R fun j hj => by rw [if_neg (by omega)]
      rw [this, sg_zero, if_pos rfl, Nat.zero_add]
    · rw [ih (by omega), if_neg e, Nat.add_zero]
/-- over a way's roads, each once -/
theorem sum_way {R : Nat} (f : Nat → Nat) : ∀ (w : List Nat), w.Nodup → (∀ i ∈ w, i < R) → (w.map f).sum = sg R fun i => if i ∈ w then f i else 0
  | [], _, _ => by
    have : sg R (fun i => if i ∈ ([] : List Nat) then f i else 0) = sg R fun _ => 0 := sg_congr R fun i _ => by rw [if_neg (by simp)]
    rw [this, sg_zero]; rfl
  | x :: w, nd, h => by
    have nd' := List.nodup_cons.mp nd
    rw [List.map_cons, List.sum_cons, sum_way f w nd'.2 fun i hi => h i (List.mem_cons_of_mem _ hi), ← sg_one (h x List.mem_cons_self) f, ← sg_add]
    refine sg_congr R fun i _ => ?_
    by_cases e : i = x
    · subst e
      rw [if_pos rfl, if_neg nd'.1, if_pos List.mem_cons_self]; omega
    · rw [if_neg e, Nat.zero_add]
      by_cases hm : i ∈ w
      · rw [if_pos hm, if_pos (List.mem_cons_of_mem _ hm)]
      · rw [if_neg hm, if_neg (fun z => by rcases List.mem_cons.mp z with z | z; · exact e z
                                           · exact hm z)]
/-! ways pass each road once -/
structure RowN (es : Es) (r : Row) : Prop where
  nd : r.1.Nodup
  en : ∀ i ∈ r.1, ∃ e, es[i]? = some e ∧ e.2 ∈ r.2
theorem rown_ext {es : Es} {row r : Row} (h : RowN es row) (hr : r ∈ ext es row) : RowN es r := by
  obtain ⟨x, hx, hr⟩ := List.mem_filterMap.mp hr
  obtain ⟨h1, h2, rfl⟩ := ext1_mem hr
  have hx' := List.mem_zipIdx hx
  have hlt : x.2 < es.length := by have := hx'.2.1; omega
  have hx3 : x.1 = es[x.2]'hlt := by have := hx'.2.2; simpa using this
  have hget : es[x.2]? = some x.1 := by rw [hx3]; exact List.getElem?_eq_getElem hlt
  refine ⟨?_, fun i hi => ?_⟩
  · show (row.1 ++ [x.2]).Nodup
    rw [List.nodup_append]
    refine ⟨h.nd, by simp, fun a ha b hb => ?_⟩
    simp at hb; subst hb
    intro z
    obtain ⟨e, he, hm⟩ := h.en a ha
    rw [z, hget] at he
    cases he
    exact h2 hm
  · rcases List.mem_append.mp hi with z | z
    · obtain ⟨e, he, hm⟩ := h.en i z
      exact ⟨e, he, List.mem_append_left _ hm⟩
    · simp at z; subst z
      exact ⟨x.1, hget, List.mem_append_right _ (by simp)⟩
theorem waysN_nd {es : Es} {g : Nat} : ∀ (m : Nat) (rows : List Row), (∀ r ∈ rows, RowN es r) → ∀ w ∈ waysN es g m rows, w.Nodup
  | 0, _, _, w, hw => by cases hw
  | m + 1, rows, h, w, hw => by
    unfold waysN at hw
    have hm : ∀ r ∈ more es rows, RowN es r := fun r hr => by
      obtain ⟨q, hq, hr⟩ := List.mem_flatMap.mp hr
      exact rown_ext (h q hq) hr
    rcases List.mem_append.mp hw with z | z
    · obtain ⟨r, hr, rfl⟩ := List.mem_map.mp z
      exact (hm r (List.mem_filter.mp hr).1).nd
    · exact waysN_nd m _ (fun r hr => hm r (List.mem_filter.mp hr).1) w z
theorem ways_nd {n : Nat} {es : Es} {s g : Nat} {w : List Nat} (h : w ∈ ways n es s g) : w.Nodup :=
  waysN_nd n _ (fun r hr => (by simp at hr; subst hr; exact ⟨List.nodup_nil, fun i hi => (by cases hi)⟩)) w ((sortT_perm _).mem_iff.mp h)
theorem st_nd {b : Bl} {s : Stt} (h : isSt b s) {w : List Nat} (hw : w ∈ s) : w.Nodup := by
  obtain ⟨i, hi⟩ := List.mem_iff_getElem?.mp hw
  have hl := (List.getElem?_eq_some_iff.mp hi).1
  obtain ⟨p, hp⟩ : ∃ p, b.ps[i]? = some p := ⟨_, List.getElem?_eq_getElem (by rw [← h.1]; exact hl)⟩
  exact ways_nd (h.2 i p w hp hi)
/-! the potential, in sixths -/
def h6 : Nat → Nat
  | 0 => 0
  | 1 => 6
  | 2 => 9
  | _ => 11
def phi (b : Bl) (s : Stt) : Nat := sg b.rs.length fun i => b.cost i * h6 (cnt s i)
theorem h6_succ {n : Nat} (h : n ≤ 2) : h6 (n + 1) = h6 n + 6 / (n + 1) := by
  have : n = 0 ∨ n = 1 ∨ n = 2 := by omega
  rcases this with rfl | rfl | rfl <;> rfl
theorem cnt_cons (w : List Nat) (s : Stt) (i : Nat) : cnt (w :: s) i = (if i ∈ w then 1 else 0) + cnt s i := by
  unfold cnt
  rw [List.filter_cons]
  by_cases h : i ∈ w
  · rw [if_pos (decide_eq_true h), if_pos h, List.length_cons]; omega
  · rw [if_neg (by rw [decide_eq_false h]; decide), if_neg h]; omega
/-- the loads without a player -/
theorem cnt_split : ∀ {s : Stt} {p : Nat} {w : List Nat} (i : Nat), s[p]? = some w → cnt s i = (if i ∈ w then 1 else 0) + cnt (s.eraseIdx p) i
  | [], _, _, _, h => by simp at h
  | v :: s, 0, w, i, h => by
    simp at h; subst h
    exact cnt_cons v s i
  | v :: s, p + 1, w, i, h => by
    have h' : s[p]? = some w := by simpa using h
    rw [cnt_cons, cnt_split i h', List.eraseIdx_cons_succ, cnt_cons]; omega
theorem erase_set {s : Stt} {p : Nat} {w : List Nat} : (s.set p w).eraseIdx p = s.eraseIdx p := by
  induction s generalizing p with
  | nil => rfl
  | cons v s ih =>
    cases p with
    | zero => rfl
    | succ p => rw [List.set_cons_succ, List.eraseIdx_cons_succ, List.eraseIdx_cons_succ, ih]
theorem erase_len {s : Stt} {p : Nat} (h : p < s.length) : (s.eraseIdx p).length + 1 = s.length := by
  rw [List.length_eraseIdx, if_pos h]; omega
/-- a player's share: what it adds to the potential of the others -/
theorem phi_split {b : Bl} (hb : VB b) {s : Stt} (hs : isSt b s) {p : Nat} {w : List Nat} (hw : s[p]? = some w) : phi b s = phi b (s.eraseIdx p) + sh6 b s p := by
  have hlt := (List.getElem?_eq_some_iff.mp hw).1
  have h3 : s.length ≤ 3 := by rw [hs.1]; exact hb.p3
  have he := erase_len hlt
  unfold sh6
  rw [getD_some hw, sum_way (sx b s) w (st_nd hs (List.mem_of_getElem? hw)) (hs.ix hb hw).1]
  unfold phi
  rw [← sg_add]
  refine sg_congr _ fun i _ => ?_
  rw [cnt_split i hw]
  have hc := cnt_le (s.eraseIdx p) i
  by_cases h : i ∈ w
  · rw [if_pos h, if_pos h]
    unfold sx
    rw [cnt_split i hw, if_pos h, Nat.add_comm 1, h6_succ (by omega), Nat.mul_add]
  · rw [if_neg h, if_neg h, Nat.zero_add, Nat.add_zero]
theorem isSt_get {b : Bl} {s : Stt} (hs : isSt b s) {p : Nat} (hp : p < b.ps.length) : ∃ w q, s[p]? = some w ∧ b.ps[p]? = some q ∧ w ∈ b.ws q := by
  have hlt : p < s.length := by rw [hs.1]; exact hp
  exact ⟨s[p], b.ps[p], List.getElem?_eq_getElem hlt, List.getElem?_eq_getElem hp, hs.2 p _ _ (List.getElem?_eq_getElem hp) (List.getElem?_eq_getElem hlt)⟩
/-- no player gains: said in sixths -/
def calm6 (b : Bl) (s : Stt) : Prop := ∀ (p : Nat) q w, b.ps[p]? = some q → w ∈ b.ws q → sh6 b s p ≤ sh6 b (s.set p w) p
theorem stands_iff {b : Bl} (hb : VB b) {s : Stt} (hs : isSt b s) : stands b s = true ↔ calm6 b s := by
  have h3 : s.length ≤ 3 := by rw [hs.1]; exact hb.p3
  have key : ∀ (p : Nat) q w, b.ps[p]? = some q → w ∈ b.ws q → lessR (share b (s.set p w) p) (share b s p) = decide (sh6 b (s.set p w) p < sh6 b s p) := fun p q w hq hw => by
    have hp := (List.getElem?_eq_some_iff.mp hq).1
    obtain ⟨v, _, hv, _, _⟩ := isSt_get hs hp
    have hlt : p < s.length := by rw [hs.1]; exact hp
    have hv2 : (s.set p w)[p]? = some w := List.getElem?_set_self hlt
    exact less_v6 (share_v6 (by rw [List.length_set]; exact h3) hv2) (share_v6 h3 hv)
  have wl := wss_len b
  constructor
  · intro h p q w hq hw
    unfold stands at h
    have hp := (List.getElem?_eq_some_iff.mp hq).1
    have hz : b.wss[p]? = some (b.ws q) := by unfold Bl.wss; rw [List.getElem?_map, hq]; rfl
    have hm : (b.ws q, p) ∈ b.wss.zipIdx := by
      refine List.mem_of_getElem? (i := p) ?_
      rw [List.getElem?_zipIdx, hz]; simp
    have h1 := List.all_eq_true.mp h _ hm
    have h2 := List.all_eq_true.mp h1 w hw
    rw [key p q w hq hw] at h2
    have : ¬ sh6 b (s.set p w) p < sh6 b s p := by simpa using h2
    omega
  · intro h
    unfold stands
    refine List.all_eq_true.mpr fun x hx => ?_
    have hx' := List.mem_zipIdx hx
    have hlt : x.2 < b.wss.length := by have := hx'.2.1; omega
    have hx3 : x.1 = b.wss[x.2]'hlt := by have := hx'.2.2; simpa using this
    have hq : b.ps[x.2]? = some (b.ps[x.2]'(by omega)) := List.getElem?_eq_getElem (by omega)
    have hws : x.1 = b.ws (b.ps[x.2]'(by omega)) := by
      have z1 : b.wss[x.2]? = some x.1 := by rw [hx3]; exact List.getElem?_eq_getElem hlt
      have z2 : b.wss[x.2]? = some (b.ws (b.ps[x.2]'(by omega))) := by unfold Bl.wss; rw [List.getElem?_map, hq]; rfl
      rw [z1] at z2
      exact Option.some.inj z2
    unfold stands1
    refine List.all_eq_true.mpr fun w hw => ?_
    rw [key x.2 _ w hq (hws ▸ hw)]
    have := h x.2 _ w hq (hws ▸ hw)
    rw [decide_eq_false (by omega)]
    rfl
/-- a list's element of least value -/
theorem argmin {α : Type} (f : α → Nat) : ∀ (l : List α), l ≠ [] → ∃ x ∈ l, ∀ y ∈ l, f x ≤ f y
  | [], h => absurd rfl h
  | [x], _ => ⟨x, List.mem_cons_self, fun y hy => by simp at hy; subst hy; exact Nat.le_refl _⟩
  | x :: z :: l, _ => by
    obtain ⟨y, hy, h⟩ := argmin f (z :: l) (by simp)
    by_cases c : f x ≤ f y
    · refine ⟨x, List.mem_cons_self, fun u hu => ?_⟩
      rcases List.mem_cons.mp hu with rfl | hu
      · exact Nat.le_refl _
      · exact Nat.le_trans c (h u hu)
    · refine ⟨y, List.mem_cons_of_mem _ hy, fun u hu => ?_⟩
      rcases List.mem_cons.mp hu with rfl | hu
      · omega
      · exact h u hu
theorem price_sg (b : Bl) (s : Stt) : price b s = sg b.rs.length fun i => if 0 < cnt s i then b.cost i else 0 := rfl
def mk6 : Nat → Nat
  | 1 => 6
  | 2 => 9
  | _ => 11
theorem phi_lo (b : Bl) (s : Stt) : 6 * price b s ≤ phi b s := by
  rw [price_sg, ← sg_mul]
  unfold phi
  refine sg_le _ fun i _ => ?_
  by_cases h : 0 < cnt s i
  · rw [if_pos h, Nat.mul_comm]
    refine Nat.mul_le_mul_left _ ?_
    have : cnt s i = 1 ∨ cnt s i = 2 ∨ 3 ≤ cnt s i := by omega
    rcases this with e | e | e
    · rw [e]; decide
    · rw [e]; decide
    · obtain ⟨m, hm⟩ : ∃ m, cnt s i = m + 3 := ⟨cnt s i - 3, by omega⟩
      rw [hm]; show 6 ≤ 11; decide
  · rw [if_neg h]; omega
theorem phi_hi {b : Bl} (hb : VB b) {s : Stt} (hs : isSt b s) : phi b s ≤ mk6 b.ps.length * price b s := by
  have p1 := hb.p1
  have p3 := hb.p3
  rw [price_sg, ← sg_mul]
  unfold phi
  refine sg_le _ fun i _ => ?_
  have hc := cnt_le s i
  rw [hs.1] at hc
  by_cases h : 0 < cnt s i
  · rw [if_pos h, Nat.mul_comm]
    refine Nat.mul_le_mul_right _ ?_
    have hp : b.ps.length = 1 ∨ b.ps.length = 2 ∨ b.ps.length = 3 := by omega
    have hcc : cnt s i = 1 ∨ cnt s i = 2 ∨ cnt s i = 3 := by omega
    rcases hp with e | e | e <;> rcases hcc with f | f | f <;> rw [e] at hc ⊢ <;> rw [f] at hc ⊢ <;> first | decide | omega
  · have e : cnt s i = 0 := by omega
    rw [e]
    show b.cost i * 0 ≤ _
    omega
/-- a state that stands, not far from the least -/
theorem stable {b : Bl} (hb : VB b) : ∃ s ∈ b.due, 6 * price b s ≤ mk6 b.ps.length * b.least := by
  obtain ⟨s, hs, hmin⟩ := argmin (phi b) b.states (states_ne hb)
  obtain ⟨o, ho, _, hol⟩ := best_spec hb
  have hst := states_mem.mp hs
  refine ⟨s, List.mem_filter.mpr ⟨hs, (stands_iff hb hst).mpr fun p q w hq hw => ?_⟩, ?_⟩
  · have hp := (List.getElem?_eq_some_iff.mp hq).1
    obtain ⟨v, _, hv, _, _⟩ := isSt_get hst hp
    have hst2 := isSt_set hst hq hw
    have hlt : p < s.length := by rw [hst.1]; exact hp
    have hv2 : (s.set p w)[p]? = some w := List.getElem?_set_self hlt
    have h1 := phi_split hb hst hv
    have h2 := phi_split hb hst2 hv2
    rw [erase_set] at h2
    have h3 := hmin _ (states_mem.mpr hst2)
    omega
  · have h1 := phi_lo b s
    have h2 := hmin o ho
    have h3 := phi_hi hb (states_mem.mp ho)
    rw [hol] at h3
    omega
theorem due_ne {b : Bl} (hb : VB b) : b.due ≠ [] := by
  obtain ⟨s, hs, _⟩ := stable hb
  intro z
  rw [z] at hs; cases hs
/-- all shares together: the price -/
theorem shares_sum (b : Bl) (S : Stt) : ∀ (R : Nat) (s : Stt), (∀ w ∈ s, w.Nodup ∧ ∀ i ∈ w, i < R) → (s.map fun w => (w.map (sx b S)).sum).sum = sg R fun i => cnt s i * sx b S i
  | R, [], _ => by
    have : sg R (fun i => cnt [] i * sx b S i) = sg R fun _ => 0 := sg_congr R fun i _ => by show 0 * _ = 0; omega
    rw [this, sg_zero]; rfl
  | R, w :: s, h => by
    obtain ⟨h1, h2⟩ := h w List.mem_cons_self
    rw [List.map_cons, List.sum_cons, shares_sum b S R s fun v hv => h v (List.mem_cons_of_mem _ hv), sum_way _ w h1 h2, ← sg_add]
    refine sg_congr R fun i _ => ?_
    rw [cnt_cons, Nat.add_mul]
    by_cases hm : i ∈ w
    · rw [if_pos hm, if_pos hm, Nat.one_mul]
    · rw [if_neg hm, if_neg hm, Nat.zero_mul]
theorem price_shares {b : Bl} (hb : VB b) {s : Stt} (hs : isSt b s) : (s.map fun w => (w.map (sx b s)).sum).sum = 6 * price b s := by
  rw [shares_sum b s b.rs.length s fun w hw => ⟨st_nd hs hw, (hs.ix2 hb hw).1⟩, price_sg, ← sg_mul]
  have h3 : s.length ≤ 3 := by rw [hs.1]; exact hb.p3
  refine sg_congr _ fun i _ => ?_
  by_cases h : 0 < cnt s i
  · rw [if_pos h]
    unfold sx
    rw [Nat.mul_left_comm, div6 h (Nat.le_trans (cnt_le s i) h3), Nat.mul_comm]
  · have e : cnt s i = 0 := by omega
    rw [if_neg h, e]; omega
/-- a player on a way of a state: at most the whole price -/
theorem way_price {b : Bl} (hb : VB b) {o : Stt} (ho : isSt b o) {w : List Nat} (hw : w ∈ o) (S : Stt) : (w.map (sx b S)).sum ≤ 6 * price b o := by
  rw [sum_way _ w (st_nd ho hw) (ho.ix2 hb hw).1, price_sg, ← sg_mul]
  refine sg_le _ fun i _ => ?_
  by_cases h : i ∈ w
  · rw [if_pos h, if_pos (cnt_pos hw h)]
    unfold sx
    rw [Nat.mul_comm 6]
    exact Nat.mul_le_mul_left _ (Nat.div_le_self _ _)
  · rw [if_neg h]; exact Nat.zero_le _
theorem anarchy {b : Bl} (hb : VB b) {s : Stt} (h : s ∈ b.due) : price b s ≤ b.ps.length * b.least := by
  obtain ⟨hm, hst⟩ := List.mem_filter.mp h
  have hs := states_mem.mp hm
  have hc := (stands_iff hb hs).mp hst
  obtain ⟨o, ho, _, hol⟩ := best_spec hb
  have hos := states_mem.mp ho
  have h1 := price_shares hb hs
  have h2 : (s.map fun w => (w.map (sx b s)).sum).sum ≤ (s.map fun w => (w.map (sx b s)).sum).length * (6 * b.least) := by
    refine sum_le fun x hx => ?_
    obtain ⟨p, hp⟩ := List.mem_iff_getElem?.mp hx
    rw [List.getElem?_map] at hp
    cases hw : s[p]? with
    | none => rw [hw] at hp; cases hp
    | some w =>
      rw [hw] at hp
      have hx2 : (w.map (sx b s)).sum = x := Option.some.inj hp
      have hlt := (List.getElem?_eq_some_iff.mp hw).1
      have hpl : p < b.ps.length := by rw [← hs.1]; exact hlt
      obtain ⟨v, q, hv, hq, hvq⟩ := isSt_get hos hpl
      have h3 := hc p q v hq hvq
      have e1 : sh6 b s p = x := by unfold sh6; rw [getD_some hw]; exact hx2
      have e2 : sh6 b (s.set p v) p = (v.map (sx b (s.set p v))).sum := by unfold sh6; rw [getD_some (List.getElem?_set_self hlt)]
      have h4 := way_price hb hos (List.mem_of_getElem? hv) (s.set p v)
      rw [hol] at h4
      omega
  rw [List.length_map, hs.1, h1, Nat.mul_left_comm] at h2
  omega
/-! at the end -/
theorem rat_cross {a b : Nat} (hb : 0 < b) : (rat a b).1 * b = a * (rat a b).2 ∧ 0 < (rat a b).2 := by
  have hg : 0 < Nat.gcd a b := Nat.gcd_pos_of_pos_right _ hb
  obtain ⟨a', ha⟩ := Nat.gcd_dvd_left a b
  obtain ⟨b', hb'⟩ := Nat.gcd_dvd_right a b
  have e1 : a / Nat.gcd a b = a' := by
    have := Nat.mul_div_cancel_left a' hg
    rw [← ha] at this; exact this
  have e2 : b / Nat.gcd a b = b' := by
    have := Nat.mul_div_cancel_left b' hg
    rw [← hb'] at this; exact this
  unfold rat
  rw [e1, e2]
  constructor
  · show a' * b = a * b'
    generalize Nat.gcd a b = g at *
    rw [ha, hb', Nat.mul_left_comm, Nat.mul_assoc]
  · rcases Nat.eq_zero_or_pos b' with z | z
    · rw [z, Nat.mul_zero] at hb'; omega
    · exact z
/-- x is not less than a rest, by products -/
theorem not_less_rat {x : Rt} {M a b : Nat} (hx : 0 < x.2) (hv : x.1 * 6 = x.2 * M) (hb : 0 < b) (h : 6 * a ≤ M * b) : lessR x (rat a b) = false := by
  obtain ⟨h1, h2⟩ := rat_cross (a := a) hb
  unfold lessR
  refine decide_eq_false fun z => ?_
  -- x1 * y2 < y1 * x2, and y1 * b = a * y2
  have k1 : x.1 * (rat a b).2 * (6 * b) < (rat a b).1 * x.2 * (6 * b) := Nat.mul_lt_mul_of_pos_right z (by omega)
  have k2 : x.1 * (rat a b).2 * (6 * b) = (x.2 * (rat a b).2) * (M * b) := by
    have : x.1 * (rat a b).2 * (6 * b) = (x.1 * 6) * ((rat a b).2 * b) := by
      simp only [Nat.mul_assoc, Nat.mul_left_comm, Nat.mul_comm]
    rw [this, hv]
    simp only [Nat.mul_assoc, Nat.mul_left_comm, Nat.mul_comm]
  have k3 : (rat a b).1 * x.2 * (6 * b) = (x.2 * (rat a b).2) * (6 * a) := by
    have : (rat a b).1 * x.2 * (6 * b) = ((rat a b).1 * b) * (x.2 * 6) := by
      simp only [Nat.mul_assoc, Nat.mul_left_comm, Nat.mul_comm]
    rw [this, h1]
    simp only [Nat.mul_assoc, Nat.mul_left_comm, Nat.mul_comm]
  rw [k2, k3] at k1
  have := Nat.lt_of_mul_lt_mul_left k1
  omega
end Mir
set_option Elab.async false
set_option linter.all false
set_option maxRecDepth 100000
set_option maxHeartbeats 4000000
namespace Wk
open PySem PySem.Spec PyProof.Rows L2 Gh Mir
section
variable {k : Kit} {f : Addr} {fd : FuncData} {cdv : Value}
def N_law : List Str := ["_law_script", "_law_row", "_law_building_here", "_law_states_here", "_law_state", "_law_due", "_law_one", "_law_stands", "_law_player", "_law_here", "_law_way", "_law_least", "_law_found", "_law_totals", "_law_most", "_law_k"]
theorem sc_law : FnScope N_law ["_law_script"] (defScope (topS 63)) := ⟨rfl, rfl, rfl, by decide +kernel, rfl, by decide +kernel, by decide +kernel⟩
theorem ok_int (l : Nat) (i : Int) : okD l (.int i) := by cases l <;> exact trivial
theorem ok_tD (l : Nat) {w : List Nat} (h : w.length ≤ 1000) : okD (l + 1) (tD w) := ⟨by rw [List.length_map]; exact h, fun x hx => by
  obtain ⟨i, _, rfl⟩ := List.mem_map.mp hx
  exact ok_int l _⟩
theorem ok_pD (l : Nat) (p : Nat × Nat) : okD (l + 1) (pD p) := ⟨(show 2 ≤ 1000 by decide), fun x hx => by
  rcases List.mem_cons.mp hx with rfl | hx
  · exact ok_int l _
  · have : x = nD p.2 := by simpa using hx
    subst this
    exact ok_int l _⟩
theorem ok_stD (l : Nat) {b : Bl} (hb : VB b) {s : Stt} (hs : isSt b s) : okD (l + 2) (stD s) := ⟨by
  have := hb.p3
  rw [List.length_map, hs.1]; omega, fun x hx => by
  obtain ⟨w, hw, rfl⟩ := List.mem_map.mp hx
  have := (hs.ix2 hb hw).2
  exact ok_tD l (by omega)⟩
theorem ok_psD {b : Bl} (hb : VB b) {s : Stt} (hs : isSt b s) : okD 3 (psD b s) := ⟨(show 2 ≤ 1000 by decide), fun x hx => by
  rcases List.mem_cons.mp hx with rfl | hx
  · exact ok_int 2 _
  · have : x = stD s := by simpa using hx
    subst this
    exact ok_stD 0 hb hs⟩
theorem shaped_sts (ss : List Stt) : SeqAt.shaped (.list (ss.map stD)) = true := by
  unfold SeqAt.shaped
  have hst : ∀ s : Stt, (stD s).canLay0 = true := fun s => by
    show PyData.canLay0 (.tuple (s.map tD)) = true
    unfold PyData.canLay0
    exact can_all fun d hd => by
      obtain ⟨w, _, rfl⟩ := List.mem_map.mp hd
      exact canLay_tD w
  have h1 : PyData.canLay0 (.list (ss.map stD)) = true := by
    unfold PyData.canLay0
    exact can_all fun d hd => by
      obtain ⟨s, _, rfl⟩ := List.mem_map.mp hd
      exact hst s
  have h2 : PyData.depth (.list (ss.map stD)) ≤ 64 := by
    unfold PyData.depth
    have := depth_all (ds := ss.map stD) (m := 2) fun d hd => by
      obtain ⟨s, _, rfl⟩ := List.mem_map.mp hd
      exact depth_st s
    omega
  rw [h1, decide_eq_true h2]; rfl
theorem eqv_nils (ss : List Stt) : PyData.eqv (.list (ss.map stD)) (.list []) = ss.isEmpty := by
  cases ss with
  | nil => unfold PyData.eqv; unfold PyData.eqvAll; rfl
  | cons w ws => unfold PyData.eqv; rw [List.map_cons]; unfold PyData.eqvAll; rfl
/-- the first players do not gain -/
def stP (b : Bl) (s : Stt) (i : Nat) : Bool := (b.wss.zipIdx.take i).all fun x => stands1 b s x.2 x.1
theorem stP_succ {b : Bl} {s : Stt} {i : Nat} {ws : Stt} (h : b.wss[i]? = some ws) : stP b s (i + 1) = (stP b s i && stands1 b s i ws) := by
  unfold stP
  have hz : b.wss.zipIdx[i]? = some (ws, i) := by rw [List.getElem?_zipIdx, h]; simp
  rw [List.take_add_one, hz, List.all_append]
  simp
theorem stP_all (b : Bl) (s : Stt) : stP b s b.ps.length = stands b s := by
  unfold stP stands
  rw [List.take_of_length_le (by rw [List.length_zipIdx, wss_len]; exact Nat.le_refl _)]
/-- the sums of 1/1 .. 1/k -/
def ones1 (j : Nat) : List Rt := (List.range j).map fun i => (1, i + 1)
theorem ones1_sm {j : Nat} (h : j ≤ 3) : (∀ x ∈ ones1 j, Sm x) ∧ (∀ i, Sm (sumR ((ones1 j).take i))) ∧ (1 ≤ j → 0 < (sumR (ones1 j)).2 ∧ (sumR (ones1 j)).1 * 6 = (sumR (ones1 j)).2 * mk6 j) := by
  have hv : ∀ i, V6 (sumR ((ones1 j).take i)) (((List.range j).map fun i => 6 / (i + 1)).take i).sum := fun i => by
    refine sum_v6 (by simp [ones1]) fun a x M h1 h2 => ?_
    rw [List.getElem?_take] at h1 h2
    split at h1
    · rename_i ha
      rw [if_pos ha] at h2
      unfold ones1 at h1
      rw [List.getElem?_map] at h1 h2
      by_cases hj : a < j
      · rw [List.getElem?_range hj] at h1 h2
        cases h1; cases h2
        have : a = 0 ∨ a = 1 ∨ a = 2 := by omega
        rcases this with rfl | rfl | rfl
        · exact ⟨by decide, by decide, by decide⟩
        · exact ⟨by decide, by decide, by decide⟩
        · exact ⟨by decide, by decide, by decide⟩
      · rw [List.getElem?_eq_none (by simpa using hj)] at h1; cases h1
    · cases h1
  have hb : ∀ i, (((List.range j).map fun i => 6 / (i + 1)).take i).sum ≤ 1000 := fun i => by
    have := sum_le (l := ((List.range j).map fun i => 6 / (i + 1)).take i) (m := 6) fun x hx => by
      obtain ⟨a, _, rfl⟩ := List.mem_map.mp (List.mem_of_mem_take hx)
      exact Nat.div_le_self _ _
    rw [List.length_take, List.length_map, List.length_range] at this
    omega
  refine ⟨fun x hx => ?_, fun i => v6_sm (hv i) (by have := hb i; omega), fun h1 => ?_⟩
  · obtain ⟨a, ha, rfl⟩ := List.mem_map.mp hx
    have := List.mem_range.mp ha
    exact ⟨(show 1 < 2 ^ 30 by decide), Nat.succ_pos _, by show a + 1 < 2 ^ 14; omega⟩
  · have : j = 1 ∨ j = 2 ∨ j = 3 := by omega
    rcases this with rfl | rfl | rfl <;> decide
/-- what the law promises: it answers True -/
def spLaw (k : Kit) : Sp := fun vs H Q _ => ∃ (a : Addr) (ns : List Int), vs = [.ref a] ∧ SqL k.K H a (ns.map .int) ∧ Tabs k.T H ∧ ∀ H', Q (.bl true) H'
/-- the view without the tables -/
def noTab (H : Hp) : Hp := fun a => match H a with
  | some (.tbl _) => none
  | o => o
theorem noTab_sub (H : Hp) : Ex (noTab H) H := fun a o h => by
  unfold noTab at h
  cases q : H a with
  | none => rw [q] at h; cases h
  | some u =>
    rw [q] at h
    cases u <;> first | exact h | cases h
theorem noTab_view (H : Hp) : View (noTab H) := fun a ps h => by
  unfold noTab at h
  cases q : H a with
  | none => rw [q] at h; cases h
  | some u =>
    rw [q] at h
    cases u <;> cases h
theorem noTab_seq {K : PySem.W.Frag} {H : Hp} {a : Addr} {xs : List V} (h : SqL K H a xs) : SqL K (noTab H) a xs := by
  rcases h with (h | ⟨o, h⟩) | h
  · exact .inl (.inl (by unfold noTab; rw [h]))
  · exact .inl (.inr ⟨o, by unfold noTab; rw [h]⟩)
  · exact .inr h
theorem at_law {H : Hp} {a : Addr} (ht : Tabs k.T H) : At k ⟨noTab H, H⟩ ⟨List.replicate 16 .non, none⟩ (start N_law [.ref a]) H (noTab H) where
  view := noTab_view H
  sub := noTab_sub H
  e0 := Ex.refl _
  eH := fun a o e _ _ => e
  fr := fun a o e => .inl e
  eK := fun a e => e
  tabs := ht
  len := rfl
  dat := fun i d e => by
    have e : (List.replicate 16 SV.non)[i]? = some (SV.dat d) := e
    rw [List.getElem?_replicate] at e
    split at e <;> cases e
  mt := fun i m es e => by
    have e : (List.replicate 16 SV.non)[i]? = some (SV.mu m es) := e
    rw [List.getElem?_replicate] at e
    split at e <;> cases e
  dist := fun i j m es es' e _ => by
    have e : (List.replicate 16 SV.non)[i]? = some (SV.mu m es) := e
    rw [List.getElem?_replicate] at e
    split at e <;> cases e
  rowS := fun i e => by
    have e : (List.replicate 16 SV.non)[i]? = some SV.row := e
    rw [List.getElem?_replicate] at e
    split at e <;> cases e
  row := fun ρ e => by cases e
/-- the callees of the law -/
structure Cal (k : Kit) : Prop where
  building : Fn k 5 "_law_building" (spR k Pr_building Po_building)
  states : Fn k 3 "_law_states" (spP k P__law_states)
  pick : Fn k 2 "_law_pick" (spR k Pr_pick Po_pick)
  alike : Fn k 4 "_law_alike" (spP k (P_alike 3))
  shares : Fn k 8 "shares" (spP k P_shares)
  share : Fn k 4 "_law_share" (spP k P__law_share)
  ways : Fn k 2 "_law_game_ways" (spP k P__law_game_ways)
  less : Fn k 1 "_law_less" (spP k P_less)
  bstates : Fn k 8 "building_states" (spP k P_building_states)
  price : Fn k 1 "_law_price" (spP k P__law_price)
  cheapest : Fn k 7 "cheapest_building" (spP k P_cheapest_building)
  prices : Fn k 8 "building_prices" (spP k P_building_prices)
  ratio : Fn k 1 "_law_ratio" (spP k P_ratio)
  sum : Fn k 3 "_law_sum" (spP k P_sum_of)
set_option maxHeartbeats 40000000 in
theorem law_rest (T : Bt k) (C : Cal k) (n : Ent) (r sa : Addr) (ns : List Int) :
    GSs k n (cdOf N_law (topS 63) 8 cdv) ((defBody (topS 63)).drop 1) ⟨[.non, .row, .non, .non, .non, .non, .non, .non, .non, .non, .non, .non, .non, .non, .non, .non], some ⟨r, sa, ns, 0, 4246, 0⟩⟩ { nx := fun g => False, rt := fun d' g => d' = .bool true } := by
  have F__law_building := C.building
  have F__law_states := C.states
  have F__law_pick := C.pick
  have F__law_alike := C.alike
  have F_shares := C.shares
  have F__law_share := C.share
  have F__law_game_ways := C.ways
  have F__law_less := C.less
  have F_building_states := C.bstates
  have F__law_price := C.price
  have F_cheapest_building := C.cheapest
  have F_building_prices := C.prices
  have F__law_ratio := C.ratio
  have F__law_sum := C.sum
  refine gs_cons ?_
  refine gs_set 2 rfl (by dsimp only [cdOf, Cd.blk, Cd.gen]; decide +kernel) ?_
  refine ge_callR 1 F__law_building (by dsimp only [cdOf, Cd.blk, Cd.gen]; decide +kernel) rfl rfl (by first | exact Or.inl rfl | exact Or.inr (.inl rfl) | exact Or.inr (.inr rfl)) rfl ?_
  refine ga_nil ?_
  refine ⟨_, rfl, ⟨Int.le_refl 0⟩, rfl, fun d ρ1 er1 ok1 po => ?_⟩
  obtain ⟨b, hb, rfl⟩ := po
  refine gs_cons ?_
  refine gs_set 3 rfl (by dsimp only [cdOf, Cd.blk, Cd.gen]; decide +kernel) ?_
  refine ge_call F__law_states (by dsimp only [cdOf, Cd.blk, Cd.gen]; decide +kernel) rfl ?_
  refine ga_cons ?_
  refine ge_nm 2 rfl (by first | exact Or.inl rfl | exact Or.inr (.inl rfl) | exact Or.inr (.inr rfl)) rfl ?_
  refine ga_nil ?_
  refine ⟨_, ⟨b, hb, rfl, rfl⟩, ?_⟩
  by_cases w8 : ∀ p ∈ b.ps, (b.ws p).length ≤ 8
  case neg =>
    have es : statesD b = .none := if_neg w8
    rw [es]
    refine gs_cons ?_
    refine gs_if ?_
    refine gt_isN ?_
    refine ge_nm 3 rfl (by first | exact Or.inl rfl | exact Or.inr (.inl rfl) | exact Or.inr (.inr rfl)) rfl ?_
    refine ite_t (rfl) ?_
    refine gs_cons ?_
    refine gs_ret ?_
    refine ge_bl ?_
    exact rfl
  have es : statesD b = .list (b.states.map stD) := if_pos w8
  rw [es]
  have hs : VS b := ⟨hb, w8⟩
  have slen := states_len hs
  have p1 := hb.p1
  have p3 := hb.p3
  refine gs_cons ?_
  refine gs_if ?_
  refine gt_isN ?_
  refine ge_nm 3 rfl (by first | exact Or.inl rfl | exact Or.inr (.inl rfl) | exact Or.inr (.inr rfl)) rfl ?_
  refine ite_f (rfl) ?_
  refine gs_nil ?_
  refine gs_cons ?_
  refine gs_asg (ts := ([4] ++ ([5] ++ ([])))) ?_ (hw := fun env h => by cases env; cases h; rfl)
  refine ge_tup ?_
  refine ga_cons ?_
  refine ge_callR 1 F__law_pick (by dsimp only [cdOf, Cd.blk, Cd.gen]; decide +kernel) rfl rfl (by first | exact Or.inl rfl | exact Or.inr (.inl rfl) | exact Or.inr (.inr rfl)) rfl ?_
  refine ga_cons ?_
  refine ge_nm 3 rfl (by first | exact Or.inl rfl | exact Or.inr (.inl rfl) | exact Or.inr (.inr rfl)) rfl ?_
  refine ga_nil ?_
  refine ⟨ρ1, rfl, ok1, ⟨b.states.map stD, fun z => states_ne hb (List.map_eq_nil_iff.mp z), by rw [List.length_map]; omega, rfl⟩, fun d ρ2 er2 ok2 po => ?_⟩
  obtain ⟨s0, hs0, rfl⟩ := List.mem_map.mp (po _ rfl)
  have hst0 := states_mem.mp hs0
  have hsl0 := hst0.1
  refine ga_cons ?_
  refine ge_lst ?_
  refine ga_nil ?_
  refine ⟨(show 0 ≤ sizeLine by decide), ?_⟩
  refine ga_nil ?_
  refine ⟨(show 2 ≤ sizeLine by decide), ?_⟩
  refine gg_tup ?_
  refine gg_cons ?_
  refine gg_name 4 rfl (by dsimp only [cdOf, Cd.blk, Cd.gen]; decide +kernel) ?_
  refine gg_cons ?_
  refine gg_name 5 rfl (by dsimp only [cdOf, Cd.blk, Cd.gen]; decide +kernel) ?_
  refine gg_nil ?_
  -- the shares
  refine gs_cons ?_
  refine gs_if ?_
  refine gt_not ?_
  refine gt_val ?_
  refine ge_call F__law_alike (by dsimp only [cdOf, Cd.blk, Cd.gen]; decide +kernel) rfl ?_
  refine ga_cons ?_
  refine ge_call F_shares (by dsimp only [cdOf, Cd.blk, Cd.gen]; decide +kernel) rfl ?_
  refine ga_cons ?_
  refine ge_nm 2 rfl (by first | exact Or.inl rfl | exact Or.inr (.inl rfl) | exact Or.inr (.inr rfl)) rfl ?_
  refine ga_cons ?_
  refine ge_nm 4 rfl (by first | exact Or.inl rfl | exact Or.inr (.inl rfl) | exact Or.inr (.inr rfl)) rfl ?_
  refine ga_nil ?_
  refine ⟨_, ⟨b, s0, hs, hst0, rfl, rfl⟩, ?_⟩
  refine ga_cons ?_
  refine ge_tupleOf rfl T.tuple ?_
  refine ge_lc [("_law_player", 8)] ([8] ++ ([])) (by dsimp only [cdOf, Cd.blk, Cd.gen]; decide +kernel) (by decide) (lcH_f (fun d => some (pD (share b s0 (unN d)))) ?_)
  refine gi_rng1 rfl T.range ?_
  refine ge_len rfl T.len ?_
  refine ge_nm 4 rfl (by first | exact Or.inl rfl | exact Or.inr (.inl rfl) | exact Or.inr (.inr rfl)) rfl ?_
  refine ⟨_, (by first | exact Or.inl rfl | exact Or.inr rfl), ?_⟩
  rw [List.length_map, hsl0]
  refine ⟨_, rfl, by omega, by omega, ?_⟩
  rw [show ((b.ps.length : Nat) : Int).toNat = b.ps.length by omega]
  refine ⟨fun d hd => ?_, ?_, ?_⟩
  · obtain ⟨i, hi, rfl⟩ := rng_mem hd
    refine gg_name 8 rfl (by dsimp only [cdOf, Cd.blk, Cd.gen]; decide +kernel) ?_
    refine gps_nil ?_
    refine ite_t (rfl) ?_
    refine ge_call F__law_share (by dsimp only [cdOf, Cd.blk, Cd.gen]; decide +kernel) rfl ?_
    refine ga_cons ?_
    refine ge_nm 2 rfl (by first | exact Or.inl rfl | exact Or.inr (.inl rfl) | exact Or.inr (.inr rfl)) rfl ?_
    refine ga_cons ?_
    refine ge_nm 4 rfl (by first | exact Or.inl rfl | exact Or.inr (.inl rfl) | exact Or.inr (.inr rfl)) rfl ?_
    refine ga_cons ?_
    refine ge_nm 8 rfl (by first | exact Or.inl rfl | exact Or.inr (.inl rfl) | exact Or.inr (.inr rfl)) rfl ?_
    refine ga_nil ?_
    exact ⟨_, ⟨b, s0, i, hb, hst0, hi, rfl, rfl⟩, rfl, rfl⟩
  · rw [rngD_len]; exact Nat.le_trans p3 (by decide)
  rw [fm_rng (g := fun p => pD (share b s0 p)) (fun i => rfl)]
  refine ⟨_, .inl rfl, ?_⟩
  refine ga_nil ?_
  have oksh : okD 3 (.tuple ((List.range b.ps.length).map fun p => pD (share b s0 p))) := by
    refine ⟨by rw [List.length_map, List.length_range]; omega, fun x hx => ?_⟩
    obtain ⟨i, _, rfl⟩ := List.mem_map.mp hx
    exact ok_pD 1 _
  refine ⟨_, ⟨_, oksh, rfl, rfl⟩, ?_⟩
  refine ⟨_, rfl, ?_⟩
  refine ite_f (rfl) ?_
  refine gs_nil ?_
  -- the states that stand
  refine gs_cons ?_
  refine gs_for [6, 7, 8, 9, 10] [6] ?_
  refine gi_list ?_
  refine ge_nm 3 rfl (by first | exact Or.inl rfl | exact Or.inr (.inl rfl) | exact Or.inr (.inr rfl)) rfl ?_
  refine ⟨_, rfl, ?_⟩
  refine ⟨fun i g => g = ⟨[.non, .row, .dat (bD b), .dat (.list (b.states.map stD)), .dat (stD s0), .dat (.list (((b.states.take i).filter (stands b)).map stD)), .non, .non, .non, .non, .non, .non, .non, .non, .non, .non], some ρ2⟩, rfl, fun i d g2 hd e => ?_, fun g2 e => ?_⟩
  · subst e
    rw [List.getElem?_map] at hd
    cases hx : b.states[i]? with
    | none => rw [hx] at hd; cases hd
    | some s =>
      rw [hx] at hd; cases hd
      have hst := states_mem.mp (List.mem_of_getElem? hx)
      have hsl := hst.1
      refine gg_name 6 rfl (by dsimp only [cdOf, Cd.blk, Cd.gen]; decide +kernel) ?_
      refine gs_cons ?_
      refine gs_set 7 rfl (by dsimp only [cdOf, Cd.blk, Cd.gen]; decide +kernel) ?_
      refine ge_bl ?_
      refine gs_cons ?_
      refine gs_for [8, 9, 10] [8] ?_
      refine gi_rng1 rfl T.range ?_
      refine ge_len rfl T.len ?_
      refine ge_nm 6 rfl (by first | exact Or.inl rfl | exact Or.inr (.inl rfl) | exact Or.inr (.inr rfl)) rfl ?_
      refine ⟨_, (by first | exact Or.inl rfl | exact Or.inr rfl), ?_⟩
      rw [List.length_map, hsl]
      refine ⟨_, rfl, by omega, by omega, ?_⟩
      rw [show ((b.ps.length : Nat) : Int).toNat = b.ps.length by omega]
      refine ⟨fun j g => g = ⟨[.non, .row, .dat (bD b), .dat (.list (b.states.map stD)), .dat (stD s0), .dat (.list (((b.states.take i).filter (stands b)).map stD)), .dat (stD s), .dat (.bool (stP b s j)), .non, .non, .non, .non, .non, .non, .non, .non], some ρ2⟩, rfl, fun j d g3 hd e => ?_, fun g3 e => ?_⟩
      · subst e
        obtain ⟨hj, rfl⟩ := rngD_get hd
        have e0 : (0 : Int) + (j : Nat) = (j : Int) := by omega
        rw [e0]
        have hq : b.ps[j]? = some b.ps[j] := List.getElem?_eq_getElem hj
        generalize b.ps[j] = q at hq
        have hqm := List.mem_of_getElem? hq
        have hwj : b.wss[j]? = some (b.ws q) := by unfold Bl.wss; rw [List.getElem?_map, hq]; rfl
        have hw8 := w8 q hqm
        refine gg_name 8 rfl (by dsimp only [cdOf, Cd.blk, Cd.gen]; decide +kernel) ?_
        refine gs_cons ?_
        refine gs_set 9 rfl (by dsimp only [cdOf, Cd.blk, Cd.gen]; decide +kernel) ?_
        refine ge_call F__law_share (by dsimp only [cdOf, Cd.blk, Cd.gen]; decide +kernel) rfl ?_
        refine ga_cons ?_
        refine ge_nm 2 rfl (by first | exact Or.inl rfl | exact Or.inr (.inl rfl) | exact Or.inr (.inr rfl)) rfl ?_
        refine ga_cons ?_
        refine ge_nm 6 rfl (by first | exact Or.inl rfl | exact Or.inr (.inl rfl) | exact Or.inr (.inr rfl)) rfl ?_
        refine ga_cons ?_
        refine ge_nm 8 rfl (by first | exact Or.inl rfl | exact Or.inr (.inl rfl) | exact Or.inr (.inr rfl)) rfl ?_
        refine ga_nil ?_
        refine ⟨_, ⟨b, s, j, hb, hst, hj, rfl, rfl⟩, ?_⟩
        refine gs_cons ?_
        refine gs_for [10] [10] ?_
        refine gi_list ?_
        refine ge_call F__law_game_ways (by dsimp only [cdOf, Cd.blk, Cd.gen]; decide +kernel) rfl ?_
        refine ga_cons ?_
        refine ge_nm 2 rfl (by first | exact Or.inl rfl | exact Or.inr (.inl rfl) | exact Or.inr (.inr rfl)) rfl ?_
        refine ga_cons ?_
        refine ge_ixT ?_
        refine ge_ixT ?_
        refine ge_nm 2 rfl (by first | exact Or.inl rfl | exact Or.inr (.inl rfl) | exact Or.inr (.inr rfl)) rfl ?_
        refine ge_int ?_
        refine ⟨_, _, _, rfl, rfl, rfl, ?_⟩
        refine ge_nm 8 rfl (by first | exact Or.inl rfl | exact Or.inr (.inl rfl) | exact Or.inr (.inr rfl)) rfl ?_
        refine ⟨_, _, _, rfl, rfl, atN_map hq, ?_⟩
        refine ga_nil ?_
        refine ⟨_, wg_b hb hqm, ?_⟩
        refine ⟨_, rfl, ?_⟩
        refine ⟨fun t g => g = ⟨[.non, .row, .dat (bD b), .dat (.list (b.states.map stD)), .dat (stD s0), .dat (.list (((b.states.take i).filter (stands b)).map stD)), .dat (stD s), .dat (.bool (stP b s j && stands1 b s j ((b.ws q).take t))), .dat (nD j), .dat (pD (share b s j)), .non, .non, .non, .non, .non, .non], some ρ2⟩, ?_, fun t d g4 hd e => ?_, fun g4 e => ?_⟩
        · have e1 : (stP b s j && stands1 b s j ((b.ws q).take 0)) = stP b s j := by
            show (stP b s j && true) = _
            rw [Bool.and_true]
          show (_ : GS) = (_ : GS)
          rw [e1]
          rfl
        · subst e
          rw [List.getElem?_map] at hd
          cases hw : (b.ws q)[t]? with
          | none => rw [hw] at hd; cases hd
          | some w =>
            rw [hw] at hd; cases hd
            have hwm := List.mem_of_getElem? hw
            have hst2 : isSt b (s.set j w) := isSt_set hst hq hwm
            have hjl : j < s.length := by omega
            have ecut : PyData.tuple ((s.map tD).take j ++ [tD w] ++ (s.map tD).drop (j + 1)) = stD (s.set j w) := by
              show _ = PyData.tuple (List.map tD _)
              rw [set_cut hjl, List.map_append, List.map_cons, List.map_take, List.map_drop, List.append_assoc]
              rfl
            have et : stands1 b s j ((b.ws q).take (t + 1)) = (stands1 b s j ((b.ws q).take t) && !lessR (share b (s.set j w) j) (share b s j)) := by
              unfold stands1
              rw [List.take_add_one, hw, List.all_append]
              simp
            refine gg_name 10 rfl (by dsimp only [cdOf, Cd.blk, Cd.gen]; decide +kernel) ?_
            refine gs_cons ?_
            refine gs_if ?_
            refine gt_val ?_
            refine ge_call F__law_less (by dsimp only [cdOf, Cd.blk, Cd.gen]; decide +kernel) rfl ?_
            refine ga_cons ?_
            refine ge_call F__law_share (by dsimp only [cdOf, Cd.blk, Cd.gen]; decide +kernel) rfl ?_
            refine ga_cons ?_
            refine ge_nm 2 rfl (by first | exact Or.inl rfl | exact Or.inr (.inl rfl) | exact Or.inr (.inr rfl)) rfl ?_
            refine ga_cons ?_
            refine ge_catT ?_
            refine ge_catT ?_
            refine ge_slTo ?_
            refine ge_nm 6 rfl (by first | exact Or.inl rfl | exact Or.inr (.inl rfl) | exact Or.inr (.inr rfl)) rfl ?_
            refine ge_nm 8 rfl (by first | exact Or.inl rfl | exact Or.inr (.inl rfl) | exact Or.inr (.inr rfl)) rfl ?_
            refine ⟨_, j, rfl, rfl, ?_⟩
            refine ge_tup ?_
            refine ga_cons ?_
            refine ge_nm 10 rfl (by first | exact Or.inl rfl | exact Or.inr (.inl rfl) | exact Or.inr (.inr rfl)) rfl ?_
            refine ga_nil ?_
            refine ⟨(show 1 ≤ sizeLine by decide), ?_⟩
            refine ⟨_, _, rfl, rfl, ?_, ?_⟩
            · rw [List.length_take, List.length_map]
              exact Nat.le_trans (show _ ≤ 10 by simp only [List.length_singleton]; omega) (by decide)
            refine ge_slFrom ?_
            refine ge_nm 6 rfl (by first | exact Or.inl rfl | exact Or.inr (.inl rfl) | exact Or.inr (.inr rfl)) rfl ?_
            refine ge_add ?_
            refine ge_nm 8 rfl (by first | exact Or.inl rfl | exact Or.inr (.inl rfl) | exact Or.inr (.inr rfl)) rfl ?_
            refine ge_int ?_
            refine ⟨_, _, rfl, rfl, ?_⟩
            refine ⟨_, j + 1, rfl, rfl, ?_⟩
            refine ⟨_, _, rfl, rfl, ?_, ?_⟩
            · rw [List.length_append, List.length_take, List.length_drop, List.length_map]
              exact Nat.le_trans (show _ ≤ 10 by simp only [List.length_singleton]; omega) (by decide)
            rw [ecut]
            refine ga_cons ?_
            refine ge_nm 8 rfl (by first | exact Or.inl rfl | exact Or.inr (.inl rfl) | exact Or.inr (.inr rfl)) rfl ?_
            refine ga_nil ?_
            refine ⟨_, ⟨b, s.set j w, j, hb, hst2, hj, rfl, rfl⟩, ?_⟩
            refine ga_cons ?_
            refine ge_nm 9 rfl (by first | exact Or.inl rfl | exact Or.inr (.inl rfl) | exact Or.inr (.inr rfl)) rfl ?_
            refine ga_nil ?_
            refine ⟨_, ⟨_, _, share_sm hb hst2 hj, share_sm hb hst hj, rfl, rfl⟩, ?_⟩
            refine ⟨_, rfl, ?_⟩
            refine ite_b (fun h => ?_) (fun h => ?_)
            · refine gs_cons ?_
              refine gs_set 7 rfl (by dsimp only [cdOf, Cd.blk, Cd.gen]; decide +kernel) ?_
              refine ge_bl ?_
              refine gs_nil ?_
              refine gs_nil ?_
              show (_ : GS) = (_ : GS)
              rw [et, h, Bool.not_true, Bool.and_false, Bool.and_false]
              rfl
            · refine gs_nil ?_
              refine gs_nil ?_
              show (_ : GS) = (_ : GS)
              rw [et, h, Bool.not_false, Bool.and_true]
              rfl
        · subst e
          refine gs_nil ?_
          have e2 : ((b.ws q).map tD).length = (b.ws q).length := List.length_map ..
          show (_ : GS) = (_ : GS)
          rw [e2, List.take_length, stP_succ hwj]
          rfl
      · subst e
        rw [rngD_len, stP_all]
        refine gs_cons ?_
        refine gs_set 5 rfl (by dsimp only [cdOf, Cd.blk, Cd.gen]; decide +kernel) ?_
        refine ge_catL ?_
        refine ge_nm 5 rfl (by first | exact Or.inl rfl | exact Or.inr (.inl rfl) | exact Or.inr (.inr rfl)) rfl ?_
        refine ge_repL ?_
        refine ge_lst ?_
        refine ga_cons ?_
        refine ge_nm 6 rfl (by first | exact Or.inl rfl | exact Or.inr (.inl rfl) | exact Or.inr (.inr rfl)) rfl ?_
        refine ga_nil ?_
        refine ⟨(show 1 ≤ sizeLine by decide), ?_⟩
        refine ge_intB rfl T.int ?_
        refine ge_nm 7 rfl (by first | exact Or.inl rfl | exact Or.inr (.inl rfl) | exact Or.inr (.inr rfl)) rfl ?_
        refine ⟨_, rfl, ?_⟩
        refine ⟨_, _, rfl, rfl, ?_, ?_, ?_, ?_⟩
        · split <;> decide
        · split <;> decide
        · split
          · show 1 * 1 ≤ sizeLine
            decide
          · show 1 * 0 ≤ sizeLine
            decide
        have hdl : ((b.states.take i).filter (stands b)).length ≤ 512 := Nat.le_trans (List.length_filter_le _ _) (by rw [List.length_take]; omega)
        have erep : (List.replicate (if stands b s = true then (1 : Int) else 0).toNat [stD s]).flatten = ([s].filter (stands b)).map stD := by
          rw [List.filter_cons, List.filter_nil]
          cases stands b s <;> rfl
        rw [erep]
        refine ⟨_, _, rfl, rfl, ?_, ?_⟩
        · have : ([s].filter (stands b)).length ≤ 1 := List.length_filter_le _ _
          rw [List.length_map, List.length_map]
          exact Nat.le_trans (show _ ≤ 1000 by omega) (by decide)
        refine gs_nil ?_
        show (_ : GS) = (_ : GS)
        have e5 : ((b.states.take (i + 1)).filter (stands b)).map stD = ((b.states.take i).filter (stands b)).map stD ++ ([s].filter (stands b)).map stD := by
          rw [List.take_add_one, hx, List.filter_append, List.map_append]
          rfl
        rw [e5]
        rfl
  subst e
  have e6 : (b.states.map stD).length = b.states.length := List.length_map ..
  rw [e6, List.take_length]
  have edue : b.states.filter (stands b) = b.due := rfl
  rw [edue]
  have hdne := due_ne hb
  have hdlen : b.due.length ≤ 512 := Nat.le_trans (List.length_filter_le _ _) slen
  have hdst : ∀ s ∈ b.due, isSt b s := fun s h => states_mem.mp (List.mem_filter.mp h).1
  refine gs_cons ?_
  refine gs_if ?_
  refine gt_w ?_
  refine gw_or ?_
  refine gt_eq ?_
  refine ge_nm 5 rfl (by first | exact Or.inl rfl | exact Or.inr (.inl rfl) | exact Or.inr (.inr rfl)) rfl ?_
  refine ge_lst ?_
  refine ga_nil ?_
  refine ⟨(show 0 ≤ sizeLine by decide), ?_⟩
  refine ⟨shaped_sts _, rfl, ?_⟩
  rw [eqv_nils]
  have hde : b.due.isEmpty = false := by
    cases h : b.due with
    | nil => exact absurd h hdne
    | cons x l => rfl
  rw [hde]
  refine ite_f (rfl) ?_
  refine gw_or1 ?_
  refine gt_not ?_
  refine gt_val ?_
  refine ge_call F__law_alike (by dsimp only [cdOf, Cd.blk, Cd.gen]; decide +kernel) rfl ?_
  refine ga_cons ?_
  refine ge_call F_building_states (by dsimp only [cdOf, Cd.blk, Cd.gen]; decide +kernel) rfl ?_
  refine ga_cons ?_
  refine ge_nm 2 rfl (by first | exact Or.inl rfl | exact Or.inr (.inl rfl) | exact Or.inr (.inr rfl)) rfl ?_
  refine ga_nil ?_
  refine ⟨_, ⟨b, hs, rfl, rfl⟩, ?_⟩
  refine ga_cons ?_
  refine ge_tupleOf rfl T.tuple ?_
  refine ge_nm 5 rfl (by first | exact Or.inl rfl | exact Or.inr (.inl rfl) | exact Or.inr (.inr rfl)) rfl ?_
  refine ⟨_, (by first | exact Or.inl rfl | exact Or.inr rfl), ?_⟩
  refine ga_nil ?_
  have okst : okD 3 (.tuple (b.due.map stD)) := by
    refine ⟨by rw [List.length_map]; omega, fun x hx => ?_⟩
    obtain ⟨s, h, rfl⟩ := List.mem_map.mp hx
    exact ok_stD 0 hb (hdst s h)
  refine ⟨_, ⟨_, okst, rfl, rfl⟩, ?_⟩
  refine ⟨_, rfl, ?_⟩
  refine ite_f (rfl) ?_
  refine gs_nil ?_
  -- the least sum of prices
  refine gs_cons ?_
  refine gs_set 11 rfl (by dsimp only [cdOf, Cd.blk, Cd.gen]; decide +kernel) ?_
  refine ge_minD rfl T.min ?_
  refine ge_lc [("_law_one", 6)] ([6] ++ ([])) (by dsimp only [cdOf, Cd.blk, Cd.gen]; decide +kernel) (by decide) (lcH_f (fun d => some (.tuple [nD (price b (unS d)), d])) ?_)
  refine gi_list ?_
  refine ge_nm 3 rfl (by first | exact Or.inl rfl | exact Or.inr (.inl rfl) | exact Or.inr (.inr rfl)) rfl ?_
  refine ⟨_, rfl, ?_⟩
  refine ⟨fun d hd => ?_, ?_, ?_⟩
  · obtain ⟨s, hmem, rfl⟩ := List.mem_map.mp hd
    have hst := states_mem.mp hmem
    refine gg_name 6 rfl (by dsimp only [cdOf, Cd.blk, Cd.gen]; decide +kernel) ?_
    refine gps_nil ?_
    refine ite_t (rfl) ?_
    refine ge_tup ?_
    refine ga_cons ?_
    refine ge_call F__law_price (by dsimp only [cdOf, Cd.blk, Cd.gen]; decide +kernel) rfl ?_
    refine ga_cons ?_
    refine ge_nm 2 rfl (by first | exact Or.inl rfl | exact Or.inr (.inl rfl) | exact Or.inr (.inr rfl)) rfl ?_
    refine ga_cons ?_
    refine ge_nm 6 rfl (by first | exact Or.inl rfl | exact Or.inr (.inl rfl) | exact Or.inr (.inr rfl)) rfl ?_
    refine ga_nil ?_
    refine ⟨_, ⟨b, s, hb, hst.1, rfl, rfl⟩, ?_⟩
    refine ga_cons ?_
    refine ge_nm 6 rfl (by first | exact Or.inl rfl | exact Or.inr (.inl rfl) | exact Or.inr (.inr rfl)) rfl ?_
    refine ga_nil ?_
    refine ⟨(show 2 ≤ sizeLine by decide), ?_⟩
    refine ⟨?_, rfl⟩
    rw [unS_stD]
  · rw [List.length_map]; exact Nat.le_trans slen (by decide)
  have e7 : (b.states.map stD).filterMap (fun d => some (.tuple [nD (price b (unS d)), d])) = b.states.map (psD b) := by
    rw [fm_some (g := fun d => PyData.tuple [nD (price b (unS d)), d]) (fun _ _ => rfl), List.map_map]
    refine List.map_congr_left fun s _ => ?_
    show PyData.tuple [nD (price b (unS (stD s))), stD s] = psD b s
    rw [unS_stD]
  rw [e7]
  obtain ⟨so, hso, ebest, hlo⟩ := best_spec hb
  have eb2 : best b = .tuple [nD b.least, stD so] := by
    rw [ebest]
    show PyData.tuple [nD (price b so), stD so] = _
    rw [hlo]
  have hbest : ∃ x xs, b.states.map (psD b) = x :: xs ∧ best b = PySem.W.minD x xs := by
    unfold best
    cases h : b.states.map (psD b) with
    | nil => exact absurd (List.map_eq_nil_iff.mp h) (states_ne hb)
    | cons x xs => exact ⟨x, xs, rfl, rfl⟩
  obtain ⟨x, xs, ex, ebx⟩ := hbest
  rw [ex]
  refine ⟨x, xs, rfl, ⟨fun y hy z hz => ?_, fun y hy => ?_⟩, ?_, ?_⟩
  · rw [← ex] at hy hz
    obtain ⟨s, _, rfl⟩ := List.mem_map.mp hy
    obtain ⟨t, _, rfl⟩ := List.mem_map.mp hz
    exact alike_ps b s t
  · rw [← ex] at hy
    obtain ⟨s, _, rfl⟩ := List.mem_map.mp hy
    exact fun z => by cases z
  · rw [← ex]
    refine Nat.le_trans (depth_all (m := 3) fun d hd => ?_) (by decide)
    obtain ⟨s, _, rfl⟩ := List.mem_map.mp hd
    exact depth_ps b s
  rw [← ebx]
  refine gs_cons ?_
  refine gs_if ?_
  refine gt_not ?_
  refine gt_val ?_
  refine ge_call F__law_alike (by dsimp only [cdOf, Cd.blk, Cd.gen]; decide +kernel) rfl ?_
  refine ga_cons ?_
  refine ge_call F_cheapest_building (by dsimp only [cdOf, Cd.blk, Cd.gen]; decide +kernel) rfl ?_
  refine ga_cons ?_
  refine ge_nm 2 rfl (by first | exact Or.inl rfl | exact Or.inr (.inl rfl) | exact Or.inr (.inr rfl)) rfl ?_
  refine ga_nil ?_
  refine ⟨_, ⟨b, hs, rfl, rfl⟩, ?_⟩
  refine ga_cons ?_
  refine ge_nm 11 rfl (by first | exact Or.inl rfl | exact Or.inr (.inl rfl) | exact Or.inr (.inr rfl)) rfl ?_
  refine ga_nil ?_
  refine ⟨_, ⟨best b, by rw [ebest]; exact ok_psD hb (states_mem.mp hso), rfl, rfl⟩, ?_⟩
  refine ⟨_, rfl, ?_⟩
  refine ite_f (rfl) ?_
  refine gs_nil ?_
  refine gs_cons ?_
  refine gs_par 12 13 rfl rfl (by decide) rfl rfl ?_ (fun env h => by cases env; cases h; rfl)
  refine ga_cons ?_
  refine ge_call F_building_prices (by dsimp only [cdOf, Cd.blk, Cd.gen]; decide +kernel) rfl ?_
  refine ga_cons ?_
  refine ge_nm 2 rfl (by first | exact Or.inl rfl | exact Or.inr (.inl rfl) | exact Or.inr (.inr rfl)) rfl ?_
  refine ga_nil ?_
  refine ⟨_, ⟨b, hs, hdne, rfl, rfl⟩, ?_⟩
  refine ga_cons ?_
  refine ge_lc [("_law_one", 6)] ([6] ++ ([])) (by dsimp only [cdOf, Cd.blk, Cd.gen]; decide +kernel) (by decide) (lcH_f (fun d => some (nD (price b (unS d)))) ?_)
  refine gi_list ?_
  refine ge_nm 5 rfl (by first | exact Or.inl rfl | exact Or.inr (.inl rfl) | exact Or.inr (.inr rfl)) rfl ?_
  refine ⟨_, rfl, ?_⟩
  refine ⟨fun d hd => ?_, ?_, ?_⟩
  · obtain ⟨s, hmem, rfl⟩ := List.mem_map.mp hd
    have hst := hdst s hmem
    refine gg_name 6 rfl (by dsimp only [cdOf, Cd.blk, Cd.gen]; decide +kernel) ?_
    refine gps_nil ?_
    refine ite_t (rfl) ?_
    refine ge_call F__law_price (by dsimp only [cdOf, Cd.blk, Cd.gen]; decide +kernel) rfl ?_
    refine ga_cons ?_
    refine ge_nm 2 rfl (by first | exact Or.inl rfl | exact Or.inr (.inl rfl) | exact Or.inr (.inr rfl)) rfl ?_
    refine ga_cons ?_
    refine ge_nm 6 rfl (by first | exact Or.inl rfl | exact Or.inr (.inl rfl) | exact Or.inr (.inr rfl)) rfl ?_
    refine ga_nil ?_
    refine ⟨_, ⟨b, s, hb, hst.1, rfl, rfl⟩, ?_, rfl⟩
    rw [unS_stD]
  · rw [List.length_map]; exact Nat.le_trans hdlen (by decide)
  have e8 : (b.due.map stD).filterMap (fun d => some (nD (price b (unS d)))) = (b.due.map (price b)).map nD := by
    rw [fm_some (g := fun d => nD (price b (unS d))) (fun _ _ => rfl), List.map_map, List.map_map]
    refine List.map_congr_left fun s _ => ?_
    show nD (price b (unS (stD s))) = nD (price b s)
    rw [unS_stD]
  rw [e8]
  have hne : b.due.map (price b) ≠ [] := fun z => hdne (List.map_eq_nil_iff.mp z)
  obtain ⟨k1, k2, k3⟩ := lo_le hb hdne
  refine ga_nil ?_
  refine ⟨_, _, rfl, ?_⟩
  refine gs_cons ?_
  refine gs_if ?_
  refine gt_eq ?_
  refine ge_ixT ?_
  refine ge_nm 11 rfl (by first | exact Or.inl rfl | exact Or.inr (.inl rfl) | exact Or.inr (.inr rfl)) rfl ?_
  refine ge_int ?_
  refine ⟨_, _, nD b.least, eb2, rfl, rfl, ?_⟩
  refine ge_int ?_
  refine ⟨rfl, rfl, ?_⟩
  rw [eqvI]
  refine ite_b (fun h => ?_) (fun h => ?_)
  · have h : b.least = 0 := by have := of_decide_eq_true h; omega
    have ep : pricesD b = .none := if_pos h
    refine gs_cons ?_
    refine gs_ret ?_
    refine ge_isN ?_
    refine ge_nm 12 rfl (by first | exact Or.inl rfl | exact Or.inr (.inl rfl) | exact Or.inr (.inr rfl)) rfl ?_
    show PyData.bool (isNon (pricesD b)) = .bool true
    rw [ep]
    rfl
  have h : b.least ≠ 0 := by have := of_decide_eq_false h; omega
  have hl0 : 0 < b.least := by omega
  have ep : pricesD b = .tuple [pD (rat b.lo b.least), pD (rat b.hi b.least)] := if_neg h
  rw [ep]
  refine gs_nil ?_
  refine gs_cons ?_
  refine gs_if ?_
  refine gt_not ?_
  refine gt_val ?_
  refine ge_call F__law_alike (by dsimp only [cdOf, Cd.blk, Cd.gen]; decide +kernel) rfl ?_
  refine ga_cons ?_
  refine ge_nm 12 rfl (by first | exact Or.inl rfl | exact Or.inr (.inl rfl) | exact Or.inr (.inr rfl)) rfl ?_
  refine ga_cons ?_
  refine ge_tup ?_
  refine ga_cons ?_
  refine ge_call F__law_ratio (by dsimp only [cdOf, Cd.blk, Cd.gen]; decide +kernel) rfl ?_
  refine ga_cons ?_
  refine ge_minL rfl T.min ?_
  refine ge_nm 13 rfl (by first | exact Or.inl rfl | exact Or.inr (.inl rfl) | exact Or.inr (.inr rfl)) rfl ?_
  refine ⟨_, (b.lo : Nat), congrArg PyData.list (mapN_ints _), List.mem_map.mpr ⟨b.lo, mn_mem hne, rfl⟩, fun y hy => ?_, ?_⟩
  · obtain ⟨x, hx, rfl⟩ := List.mem_map.mp hy
    have : b.lo ≤ x := mn_le hx
    omega
  refine ga_cons ?_
  refine ge_ixT ?_
  refine ge_nm 11 rfl (by first | exact Or.inl rfl | exact Or.inr (.inl rfl) | exact Or.inr (.inr rfl)) rfl ?_
  refine ge_int ?_
  refine ⟨_, _, nD b.least, eb2, rfl, rfl, ?_⟩
  refine ga_nil ?_
  refine ⟨_, ⟨b.lo, b.least, hl0, by omega, rfl, rfl⟩, ?_⟩
  refine ga_cons ?_
  refine ge_call F__law_ratio (by dsimp only [cdOf, Cd.blk, Cd.gen]; decide +kernel) rfl ?_
  refine ga_cons ?_
  refine ge_maxL rfl T.max ?_
  refine ge_nm 13 rfl (by first | exact Or.inl rfl | exact Or.inr (.inl rfl) | exact Or.inr (.inr rfl)) rfl ?_
  refine ⟨_, (b.hi : Nat), congrArg PyData.list (mapN_ints _), List.mem_map.mpr ⟨b.hi, mx_mem hne, rfl⟩, fun y hy => ?_, ?_⟩
  · obtain ⟨x, hx, rfl⟩ := List.mem_map.mp hy
    have : x ≤ b.hi := mx_le hx
    omega
  refine ga_cons ?_
  refine ge_ixT ?_
  refine ge_nm 11 rfl (by first | exact Or.inl rfl | exact Or.inr (.inl rfl) | exact Or.inr (.inr rfl)) rfl ?_
  refine ge_int ?_
  refine ⟨_, _, nD b.least, eb2, rfl, rfl, ?_⟩
  refine ga_nil ?_
  refine ⟨_, ⟨b.hi, b.least, hl0, by omega, rfl, rfl⟩, ?_⟩
  refine ga_nil ?_
  refine ⟨(show 2 ≤ sizeLine by decide), ?_⟩
  refine ga_nil ?_
  have okpr : okD 3 (.tuple [pD (rat b.lo b.least), pD (rat b.hi b.least)]) := by
    refine ⟨(show 2 ≤ 1000 by decide), fun x hx => ?_⟩
    rcases List.mem_cons.mp hx with rfl | hx
    · exact ok_pD 1 _
    · have : x = pD (rat b.hi b.least) := by simpa using hx
      subst this
      exact ok_pD 1 _
  refine ⟨_, ⟨_, okpr, rfl, rfl⟩, ?_⟩
  refine ⟨_, rfl, ?_⟩
  refine ite_f (rfl) ?_
  refine gs_nil ?_
  -- the best one that stands, and the worst
  obtain ⟨sm1, sm2, sm3⟩ := ones1_sm p3
  obtain ⟨sm4, sm5⟩ := sm3 p1
  refine gs_cons ?_
  refine gs_set 14 rfl (by dsimp only [cdOf, Cd.blk, Cd.gen]; decide +kernel) ?_
  refine ge_call F__law_sum (by dsimp only [cdOf, Cd.blk, Cd.gen]; decide +kernel) rfl ?_
  refine ga_cons ?_
  refine ge_lc [("_law_k", 15)] ([15] ++ ([])) (by dsimp only [cdOf, Cd.blk, Cd.gen]; decide +kernel) (by decide) (lcH_f (fun d => some (.tuple [.int 1, d])) ?_)
  refine gi_rng2 rfl T.range ?_
  refine ge_int ?_
  refine ge_add ?_
  refine ge_len rfl T.len ?_
  refine ge_nm 4 rfl (by first | exact Or.inl rfl | exact Or.inr (.inl rfl) | exact Or.inr (.inr rfl)) rfl ?_
  refine ⟨_, (by first | exact Or.inl rfl | exact Or.inr rfl), ?_⟩
  rw [List.length_map, hsl0]
  refine ge_int ?_
  refine ⟨_, _, rfl, rfl, ?_⟩
  refine ⟨_, _, rfl, rfl, ⟨by omega, by omega, by omega, by omega⟩, ?_⟩
  rw [show (((b.ps.length : Nat) : Int) + 1 - 1).toNat = b.ps.length by omega]
  refine ⟨fun d hd => ?_, ?_, ?_⟩
  · obtain ⟨i, hi⟩ := List.mem_iff_getElem?.mp hd
    obtain ⟨h3, rfl⟩ := rngD_get hi
    refine gg_name 15 rfl (by dsimp only [cdOf, Cd.blk, Cd.gen]; decide +kernel) ?_
    refine gps_nil ?_
    refine ite_t (rfl) ?_
    refine ge_tup ?_
    refine ga_cons ?_
    refine ge_int ?_
    refine ga_cons ?_
    refine ge_nm 15 rfl (by first | exact Or.inl rfl | exact Or.inr (.inl rfl) | exact Or.inr (.inr rfl)) rfl ?_
    refine ga_nil ?_
    refine ⟨(show 2 ≤ sizeLine by decide), ?_⟩
    exact ⟨rfl, rfl⟩
  · rw [rngD_len]; exact Nat.le_trans p3 (by decide)
  have e9 : (rngD 1 b.ps.length).filterMap (fun d => some (.tuple [.int 1, d])) = (ones1 b.ps.length).map pD := by
    unfold rngD ones1
    rw [List.filterMap_map]
    refine (fm_some (g := fun i : Nat => PyData.tuple [.int 1, .int (1 + (i : Nat))]) (fun _ _ => rfl)).trans ?_
    rw [List.map_map]
    refine List.map_congr_left fun i _ => ?_
    show PyData.tuple [.int 1, .int (1 + (i : Nat))] = PyData.tuple [.int ((1 : Nat) : Int), .int ((i + 1 : Nat) : Int)]
    rw [show (1 : Int) + (i : Nat) = ((i + 1 : Nat) : Int) by omega]
    rfl
  rw [e9]
  refine ga_nil ?_
  refine ⟨_, ⟨_, sm1, sm2, rfl, rfl⟩, ?_⟩
  have smH : Sm (sumR (ones1 b.ps.length)) := by
    have := sm2 (ones1 b.ps.length).length
    rw [List.take_length] at this
    exact this
  have ratSm : ∀ a : Nat, a ≤ 360 → Sm (rat a b.least) := fun a ha => by
    obtain ⟨_, c2⟩ := rat_cross (a := a) hl0
    have h1 : (rat a b.least).1 ≤ a := Nat.div_le_self _ _
    have h2 : (rat a b.least).2 ≤ b.least := Nat.div_le_self _ _
    exact ⟨by omega, c2, by omega⟩
  obtain ⟨sd, hsd, hsd2⟩ := stable hb
  have hlo6 : 6 * b.lo ≤ mk6 b.ps.length * b.least := by
    have : b.lo ≤ price b sd := mn_le (List.mem_map.mpr ⟨sd, hsd, rfl⟩)
    omega
  have hhik : b.hi ≤ b.ps.length * b.least := by
    obtain ⟨s, h1, h2⟩ := List.mem_map.mp (mx_mem hne)
    have h3 := anarchy hb h1
    show mx _ ≤ _
    omega
  have l1 := not_less_rat (a := b.lo) sm4 sm5 hl0 hlo6
  have l2 := not_less_rat (x := (b.ps.length, 1)) (M := 6 * b.ps.length) (a := b.hi) (b := b.least) (show 0 < 1 by decide) (by show b.ps.length * 6 = 1 * (6 * b.ps.length); omega) hl0 (by rw [Nat.mul_assoc]; exact Nat.mul_le_mul_left 6 hhik)
  refine gs_cons ?_
  refine gs_ret ?_
  refine ge_and ?_
  refine ge_notV ?_
  refine ge_call F__law_less (by dsimp only [cdOf, Cd.blk, Cd.gen]; decide +kernel) rfl ?_
  refine ga_cons ?_
  refine ge_nm 14 rfl (by first | exact Or.inl rfl | exact Or.inr (.inl rfl) | exact Or.inr (.inr rfl)) rfl ?_
  refine ga_cons ?_
  refine ge_ixT ?_
  refine ge_nm 12 rfl (by first | exact Or.inl rfl | exact Or.inr (.inl rfl) | exact Or.inr (.inr rfl)) rfl ?_
  refine ge_int ?_
  refine ⟨_, _, _, rfl, rfl, rfl, ?_⟩
  refine ga_nil ?_
  refine ⟨_, ⟨_, _, smH, ratSm _ k1, rfl, rfl⟩, ?_⟩
  rw [l1]
  refine ⟨_, rfl, ?_⟩
  refine ⟨_, rfl, ?_⟩
  refine ite_t (rfl) ?_
  refine ge_one ?_
  refine ge_notV ?_
  refine ge_call F__law_less (by dsimp only [cdOf, Cd.blk, Cd.gen]; decide +kernel) rfl ?_
  refine ga_cons ?_
  refine ge_tup ?_
  refine ga_cons ?_
  refine ge_len rfl T.len ?_
  refine ge_nm 4 rfl (by first | exact Or.inl rfl | exact Or.inr (.inl rfl) | exact Or.inr (.inr rfl)) rfl ?_
  refine ⟨_, (by first | exact Or.inl rfl | exact Or.inr rfl), ?_⟩
  rw [List.length_map, hsl0]
  refine ga_cons ?_
  refine ge_int ?_
  refine ga_nil ?_
  refine ⟨(show 2 ≤ sizeLine by decide), ?_⟩
  refine ga_cons ?_
  refine ge_ixT ?_
  refine ge_nm 12 rfl (by first | exact Or.inl rfl | exact Or.inr (.inl rfl) | exact Or.inr (.inr rfl)) rfl ?_
  refine ge_int ?_
  refine ⟨_, _, _, rfl, rfl, rfl, ?_⟩
  refine ga_nil ?_
  refine ⟨_, ⟨(b.ps.length, 1), _, ⟨by show b.ps.length < 2 ^ 30; omega, (show 0 < 1 by decide), (show 1 < 2 ^ 14 by decide)⟩, ratSm _ k2, rfl, rfl⟩, ?_⟩
  rw [l2]
  refine ⟨_, rfl, ?_⟩
  exact rfl
/-- the law's own promise -/
theorem w_law (T : Bt k) (C : Cal k) (FC : FunC k.K "law" (topS 63) f fd cdv) : FnOk k.P k.w k.K k.mg k.base CX0 9 f fd ["_law_script"] (spLaw k) := by
  obtain ⟨oc, od, kV, doc, pm, an, ct, osl, rfl, lk, hcd⟩ := FC.ex
  refine fn_of lk hcd sc_law (fun vs H Q E ⟨a, ns, e, _⟩ => by rw [e]; rfl) fun A outer s H vs Q E hr ⟨a, ns, e, hS, ht, hQ⟩ => ?_
  subst e
  refine ⟨_, PSs.nox (pss_run (in_cxOf (k := k) (x := "law") (st := topS 63) sc_law hr)), ?_⟩
  have A0 := at_law (a := a) ht
  refine runSs_mono (D := up k ⟨noTab H, H⟩ (noTab H) { nx := fun g => False, rt := fun d' g => d' = .bool true }) ?_ (fun τ H' ⟨_, _, _, _, z⟩ => z.elim) (fun v H' ⟨d', g', τ, H0', A', dq, e⟩ => by subst e; cases dq; exact hQ H') (fun τ H' ⟨_, _, _, _, z⟩ => z.elim) fun τ H' ⟨_, _, _, _, z⟩ => z.elim
  refine gss_row (z1 := 0) (z2 := 4246) (z3 := 0) 1 0 A0 rfl (noTab_seq hS) rfl rfl (by dsimp only [cdOf, Cd.blk, Cd.gen]; decide +kernel) rfl (by first | exact Or.inl rfl | exact Or.inr (.inl rfl) | exact Or.inr (.inr rfl)) (by decide) (fun i e => ?_) (fun r => law_rest T C _ r a ns)
  have e : (List.replicate 16 SV.non)[i]? = some SV.row := e
  rw [List.getElem?_replicate] at e
  split at e <;> cases e
end
end Wk
set_option Elab.async false
set_option linter.all false
set_option maxRecDepth 100000
set_option maxHeartbeats 4000000
namespace Wk
open PySem PySem.Spec PyProof.Rows L2
/-- the tables of the defs named in xs are empty behind the top -/
def OwnTabs (K : PySem.W.Frag) (mg : Str → Option Value) (h : Heap) (xs : List Str) : Prop := ∀ x ∈ xs, ∀ (f c P : Addr) (o : Obj) (fd : FuncData) (e : Value) (dd : Option Addr) (vs : Array Value) (sl : Array (Option Value)), mg x = some (.ref f) → K.lookup f = some o → o.data = .func fd → fd.code = .ref c → K.lookup c = some ⟨e, dd, .fields vs, sl⟩ → vs[11]? = some (.ref P) →
  PySem.W.CodeHd h c P ∧ h.get? P = some { cls := .none, data := .fields #[] }
theorem walk_ofTabs {l : PySem.W.OpenLaw} {n k : Nat} {q : Program} {loose : List Str} {XP : (Str → Option Value) → Heap → Prop} {YP : World → Heap → Prop} {d : DefRec} {K : Params → PySem.W.Frag} {CX : World → CXT} {x : Str} (xs : List Str)
    (hn : l.most = some n) (hn2 : n ≤ sizeLine) (hdf : d.params.defaults = []) (hr : Room k callerA) (hrec : ∀ x ∈ xs, ((recsOf q).any fun e => e.name == x) = true) (hY : ∀ (w : World) (h : Heap), YP w h → (K w.params).In h)
    (F : ∀ (w : World) (mg : Str → Option Value) (fa : Addr) (h : Heap), YP w h → (K w.params).In h → h.Ns mainGlobals mg → mg d.name = some (.ref fa) → OwnTabs (K w.params) mg h xs → LamX.LawAtS l w (K w.params) (CX w) k n x mg fa h)
    (hCX : ∀ (w : World) (H : Hp) (s : Shared) (e : Value) (s' : Shared), CX w [] H s (fun _ _ _ => False) e s' → False) :
    PySem.W.WalkO q loose XP YP l.row.toRowW d [] (fun f vs => PySem.call f vs) := by
  refine Att.attach_callB hn hdf fun w s₀ s₁ mg mb fa o pm cd doc a vs ns G Y ho hd hcd hmg hobj hints hlen hbits hg => ?_
  have KX := hY w _ Y
  have own : OwnTabs (K w.params) mg s₁.heap xs := fun x hx f c P o1 fd1 e dd vs1 sl hf k1 k2 k3 k4 k5 => by
    obtain ⟨dL, hm, hn1⟩ := List.any_eq_true.mp (hrec x hx)
    have hn2 : dL.name = x := beq_iff_eq.mp hn1
    obtain ⟨a', o', fd', c', P', h1, h2, h3, h4, h5, h6⟩ := G.T.tab dL hm
    rw [hn2, hf] at h1
    cases h1
    have g1 := KX _ _ k1
    rw [g1] at h2
    cases h2
    rw [k2] at h3
    cases h3
    rw [k3] at h4
    cases h4
    have h6' := h6
    obtain ⟨⟨oc, vc, e1, _, e3, e4⟩, hP⟩ := h6'
    have g2 := KX _ _ k4
    rw [g2] at e1
    cases e1
    cases e3
    rw [k5] at e4
    cases e4
    exact ⟨PySem.W.CodeHd.of h5 h6, hP⟩
  obtain ⟨fd, cs, sp, hT, nT, C, hb, hsp, hF⟩ := F w mg fa _ Y KX G.T.g hmg own
  exact LamX.law_callTs KX G.T.g G.T.b G.T.builtins G.T.nolimit hg hT nT C G.T.bmain hobj hints (Nat.le_trans hlen hn2) hr hF hb (fun H hH hS => hsp H a ns hlen hbits hH hS) fun H e s' => hCX w H s₁ e s'
end Wk
set_option Elab.async false
set_option linter.all false
set_option maxRecDepth 100000
set_option maxHeartbeats 8000000
namespace Wk
open PySem PySem.Spec PyProof.Rows L2 Gh Mir
def tabNames : List Str := ["is_table", "is_game_road", "is_player", "choices_of", "is_state", "loads_of", "does_stand", "price_of"]
theorem triples_nil : TriplesOk (#[] : Array Value).toList := by first | trivial | (show TriplesOk []; unfold TriplesOk; trivial) | (intro x hx; cases hx) | exact TriplesOk.nil | constructor
theorem all_mk {l : PySem.W.OpenLaw} {w : World} {K : PySem.W.Frag} {h : Heap} {mg : Str → Option Value} {fa : Addr} (X : K.In h) (G : h.Ns mainGlobals mg) (hfa : mg "law" = some (.ref fa)) (OT : OwnTabs K mg h tabNames)
    {oc9 kV9 dc9 pm9 ct9 oc10 kV10 dc10 pm10 ct10 oc17 kV17 dc17 pm17 ct17 oc18 kV18 dc18 pm18 ct18 oc19 kV19 dc19 pm19 ct19 oc20 kV20 dc20 pm20 ct20 oc21 kV21 dc21 pm21 ct21 oc22 kV22 dc22 pm22 ct22 oc23 kV23 dc23 pm23 ct23 oc24 kV24 dc24 pm24 ct24 oc25 kV25 dc25 pm25 ct25 oc27 kV27 dc27 pm27 ct27 oc28 kV28 dc28 pm28 ct28 oc29 kV29 dc29 pm29 ct29 oc30 kV30 dc30 pm30 ct30 oc32 kV32 dc32 pm32 ct32 oc34 kV34 dc34 pm34 ct34 oc36 kV36 dc36 pm36 ct36 oc37 kV37 dc37 pm37 ct37 oc38 kV38 dc38 pm38 ct38 oc39 kV39 dc39 pm39 ct39 oc40 kV40 dc40 pm40 ct40 oc41 kV41 dc41 pm41 ct41 oc42 kV42 dc42 pm42 ct42 oc43 kV43 dc43 pm43 ct43 oc44 kV44 dc44 pm44 ct44 oc45 kV45 dc45 pm45 ct45 oc46 kV46 dc46 pm46 ct46 oc48 kV48 dc48 pm48 ct48 oc49 kV49 dc49 pm49 ct49 oc50 kV50 dc50 pm50 ct50 oc51 kV51 dc51 pm51 ct51 oc52 kV52 dc52 pm52 ct52 oc54 kV54 dc54 pm54 ct54 oc55 kV55 dc55 pm55 ct55 oc56 kV56 dc56 pm56 ct56 oc57 kV57 dc57 pm57 ct57 oc58 kV58 dc58 pm58 ct58 oc59 kV59 dc59 pm59 ct59 oc60 kV60 dc60 pm60 ct60 oc61 kV61 dc61 pm61 ct61 oc62 kV62 dc62 pm62 ct62 oc63 kV63 dc63 pm63 ct63 cd9 cd10 cd19 cd21 cd25 cd27 cd28 cd29 cd30 cd32 cd34 cd36 cd37 cd38 cd39 cd40 cd42 cd43 cd45 cd46 cd48 cd49 cd50 cd51 cd52 cd54 cd55 cd56 cd57 cd58 cd59 cd60 cd61 cd62 cd63 ec17 ec18 ec20 ec22 ec23 ec24 ec41 ec44 : Value}
    {f9 f10 f17 f18 f19 f20 f21 f22 f23 f24 f25 f27 f28 f29 f30 f32 f34 f36 f37 f38 f39 f40 f41 f42 f43 f44 f45 f46 f48 f49 f50 f51 f52 f54 f55 f56 f57 f58 f59 f60 f61 f62 f63 ca17 P17 ca18 P18 ca20 P20 ca22 P22 ca23 P23 ca24 P24 ca41 P41 ca44 P44 : Addr}
    {od9 an9 od10 an10 od17 an17 od18 an18 od19 an19 od20 an20 od21 an21 od22 an22 od23 an23 od24 an24 od25 an25 od27 an27 od28 an28 od29 an29 od30 an30 od32 an32 od34 an34 od36 an36 od37 an37 od38 an38 od39 an39 od40 an40 od41 an41 od42 an42 od43 an43 od44 an44 od45 an45 od46 an46 od48 an48 od49 an49 od50 an50 od51 an51 od52 an52 od54 an54 od55 an55 od56 an56 od57 an57 od58 an58 od59 an59 od60 an60 od61 an61 od62 an62 od63 an63 dd17 dd18 dd20 dd22 dd23 dd24 dd41 dd44 : Option Addr}
    {sl9 sl10 sl17 sl18 sl19 sl20 sl21 sl22 sl23 sl24 sl25 sl27 sl28 sl29 sl30 sl32 sl34 sl36 sl37 sl38 sl39 sl40 sl41 sl42 sl43 sl44 sl45 sl46 sl48 sl49 sl50 sl51 sl52 sl54 sl55 sl56 sl57 sl58 sl59 sl60 sl61 sl62 sl63 sk17 sk18 sk20 sk22 sk23 sk24 sk41 sk44 : Array (Option Value)}
    {vs17 vs18 vs20 vs22 vs23 vs24 vs41 vs44 : Array Value}
    {t_MOST_NODES t_MOST_ROADS t_MOST_PLAYERS t_MOST_COST t_MOST_CHOICES t_MOST_STATES : Tok}
    (a9 : PySem.W.nsIn K mainGlobals "is_in" = some (some (.ref f9)))
    (l9 : K.lookup f9 = some ⟨oc9, od9, .func (PySem.W.fnOf "is_in" "is_in" (defArgs (topS 9)) (defBody (topS 9)) (defScope (topS 9)) .none kV9 dc9 pm9 an9 (cd9) ct9), sl9⟩)
    (c9 : PySem.W.codeIn K (cd9) "is_in" = true)
    (k9 : PySem.W.keepIn K (.ref f9) = true)
    (a10 : PySem.W.nsIn K mainGlobals "all_ways" = some (some (.ref f10)))
    (l10 : K.lookup f10 = some ⟨oc10, od10, .func (PySem.W.fnOf "all_ways" "all_ways" (defArgs (topS 10)) (defBody (topS 10)) (defScope (topS 10)) .none kV10 dc10 pm10 an10 (cd10) ct10), sl10⟩)
    (c10 : PySem.W.codeIn K (cd10) "all_ways" = true)
    (k10 : PySem.W.keepIn K (.ref f10) = true)
    (a17 : PySem.W.nsIn K mainGlobals "is_table" = some (some (.ref f17)))
    (l17 : K.lookup f17 = some ⟨oc17, od17, .func (PySem.W.fnOf "is_table" "is_table" (defArgs (topS 17)) (defBody (topS 17)) (defScope (topS 17)) .none kV17 dc17 pm17 an17 (.ref ca17) ct17), sl17⟩)
    (c17 : PySem.W.codeIn K (.ref ca17) "is_table" = true)
    (k17 : PySem.W.keepIn K (.ref f17) = true)
    (q17 : K.lookup ca17 = some ⟨ec17, dd17, .fields vs17, sk17⟩)
    (v17 : vs17[11]? = some (.ref P17))
    (n17 : K.lookup P17 = none)
    (a18 : PySem.W.nsIn K mainGlobals "is_game_road" = some (some (.ref f18)))
    (l18 : K.lookup f18 = some ⟨oc18, od18, .func (PySem.W.fnOf "is_game_road" "is_game_road" (defArgs (topS 18)) (defBody (topS 18)) (defScope (topS 18)) .none kV18 dc18 pm18 an18 (.ref ca18) ct18), sl18⟩)
    (c18 : PySem.W.codeIn K (.ref ca18) "is_game_road" = true)
    (k18 : PySem.W.keepIn K (.ref f18) = true)
    (q18 : K.lookup ca18 = some ⟨ec18, dd18, .fields vs18, sk18⟩)
    (v18 : vs18[11]? = some (.ref P18))
    (n18 : K.lookup P18 = none)
    (a19 : PySem.W.nsIn K mainGlobals "net_of" = some (some (.ref f19)))
    (l19 : K.lookup f19 = some ⟨oc19, od19, .func (PySem.W.fnOf "net_of" "net_of" (defArgs (topS 19)) (defBody (topS 19)) (defScope (topS 19)) .none kV19 dc19 pm19 an19 (cd19) ct19), sl19⟩)
    (c19 : PySem.W.codeIn K (cd19) "net_of" = true)
    (k19 : PySem.W.keepIn K (.ref f19) = true)
    (a20 : PySem.W.nsIn K mainGlobals "is_player" = some (some (.ref f20)))
    (l20 : K.lookup f20 = some ⟨oc20, od20, .func (PySem.W.fnOf "is_player" "is_player" (defArgs (topS 20)) (defBody (topS 20)) (defScope (topS 20)) .none kV20 dc20 pm20 an20 (.ref ca20) ct20), sl20⟩)
    (c20 : PySem.W.codeIn K (.ref ca20) "is_player" = true)
    (k20 : PySem.W.keepIn K (.ref f20) = true)
    (q20 : K.lookup ca20 = some ⟨ec20, dd20, .fields vs20, sk20⟩)
    (v20 : vs20[11]? = some (.ref P20))
    (n20 : K.lookup P20 = none)
    (a21 : PySem.W.nsIn K mainGlobals "need_game" = some (some (.ref f21)))
    (l21 : K.lookup f21 = some ⟨oc21, od21, .func (PySem.W.fnOf "need_game" "need_game" (defArgs (topS 21)) (defBody (topS 21)) (defScope (topS 21)) .none kV21 dc21 pm21 an21 (cd21) ct21), sl21⟩)
    (c21 : PySem.W.codeIn K (cd21) "need_game" = true)
    (k21 : PySem.W.keepIn K (.ref f21) = true)
    (a22 : PySem.W.nsIn K mainGlobals "choices_of" = some (some (.ref f22)))
    (l22 : K.lookup f22 = some ⟨oc22, od22, .func (PySem.W.fnOf "choices_of" "choices_of" (defArgs (topS 22)) (defBody (topS 22)) (defScope (topS 22)) .none kV22 dc22 pm22 an22 (.ref ca22) ct22), sl22⟩)
    (c22 : PySem.W.codeIn K (.ref ca22) "choices_of" = true)
    (k22 : PySem.W.keepIn K (.ref f22) = true)
    (q22 : K.lookup ca22 = some ⟨ec22, dd22, .fields vs22, sk22⟩)
    (v22 : vs22[11]? = some (.ref P22))
    (n22 : K.lookup P22 = none)
    (a23 : PySem.W.nsIn K mainGlobals "is_state" = some (some (.ref f23)))
    (l23 : K.lookup f23 = some ⟨oc23, od23, .func (PySem.W.fnOf "is_state" "is_state" (defArgs (topS 23)) (defBody (topS 23)) (defScope (topS 23)) .none kV23 dc23 pm23 an23 (.ref ca23) ct23), sl23⟩)
    (c23 : PySem.W.codeIn K (.ref ca23) "is_state" = true)
    (k23 : PySem.W.keepIn K (.ref f23) = true)
    (q23 : K.lookup ca23 = some ⟨ec23, dd23, .fields vs23, sk23⟩)
    (v23 : vs23[11]? = some (.ref P23))
    (n23 : K.lookup P23 = none)
    (a24 : PySem.W.nsIn K mainGlobals "loads_of" = some (some (.ref f24)))
    (l24 : K.lookup f24 = some ⟨oc24, od24, .func (PySem.W.fnOf "loads_of" "loads_of" (defArgs (topS 24)) (defBody (topS 24)) (defScope (topS 24)) .none kV24 dc24 pm24 an24 (.ref ca24) ct24), sl24⟩)
    (c24 : PySem.W.codeIn K (.ref ca24) "loads_of" = true)
    (k24 : PySem.W.keepIn K (.ref f24) = true)
    (q24 : K.lookup ca24 = some ⟨ec24, dd24, .fields vs24, sk24⟩)
    (v24 : vs24[11]? = some (.ref P24))
    (n24 : K.lookup P24 = none)
    (a25 : PySem.W.nsIn K mainGlobals "ones" = some (some (.ref f25)))
    (l25 : K.lookup f25 = some ⟨oc25, od25, .func (PySem.W.fnOf "ones" "ones" (defArgs (topS 25)) (defBody (topS 25)) (defScope (topS 25)) .none kV25 dc25 pm25 an25 (cd25) ct25), sl25⟩)
    (c25 : PySem.W.codeIn K (cd25) "ones" = true)
    (k25 : PySem.W.keepIn K (.ref f25) = true)
    (a27 : PySem.W.nsIn K mainGlobals "ratio" = some (some (.ref f27)))
    (l27 : K.lookup f27 = some ⟨oc27, od27, .func (PySem.W.fnOf "ratio" "ratio" (defArgs (topS 27)) (defBody (topS 27)) (defScope (topS 27)) .none kV27 dc27 pm27 an27 (cd27) ct27), sl27⟩)
    (c27 : PySem.W.codeIn K (cd27) "ratio" = true)
    (k27 : PySem.W.keepIn K (.ref f27) = true)
    (a28 : PySem.W.nsIn K mainGlobals "plus" = some (some (.ref f28)))
    (l28 : K.lookup f28 = some ⟨oc28, od28, .func (PySem.W.fnOf "plus" "plus" (defArgs (topS 28)) (defBody (topS 28)) (defScope (topS 28)) .none kV28 dc28 pm28 an28 (cd28) ct28), sl28⟩)
    (c28 : PySem.W.codeIn K (cd28) "plus" = true)
    (k28 : PySem.W.keepIn K (.ref f28) = true)
    (a29 : PySem.W.nsIn K mainGlobals "less" = some (some (.ref f29)))
    (l29 : K.lookup f29 = some ⟨oc29, od29, .func (PySem.W.fnOf "less" "less" (defArgs (topS 29)) (defBody (topS 29)) (defScope (topS 29)) .none kV29 dc29 pm29 an29 (cd29) ct29), sl29⟩)
    (c29 : PySem.W.codeIn K (cd29) "less" = true)
    (k29 : PySem.W.keepIn K (.ref f29) = true)
    (a30 : PySem.W.nsIn K mainGlobals "sum_of" = some (some (.ref f30)))
    (l30 : K.lookup f30 = some ⟨oc30, od30, .func (PySem.W.fnOf "sum_of" "sum_of" (defArgs (topS 30)) (defBody (topS 30)) (defScope (topS 30)) .none kV30 dc30 pm30 an30 (cd30) ct30), sl30⟩)
    (c30 : PySem.W.codeIn K (cd30) "sum_of" = true)
    (k30 : PySem.W.keepIn K (.ref f30) = true)
    (a32 : PySem.W.nsIn K mainGlobals "all_states" = some (some (.ref f32)))
    (l32 : K.lookup f32 = some ⟨oc32, od32, .func (PySem.W.fnOf "all_states" "all_states" (defArgs (topS 32)) (defBody (topS 32)) (defScope (topS 32)) .none kV32 dc32 pm32 an32 (cd32) ct32), sl32⟩)
    (c32 : PySem.W.codeIn K (cd32) "all_states" = true)
    (k32 : PySem.W.keepIn K (.ref f32) = true)
    (a34 : PySem.W.nsIn K mainGlobals "moved" = some (some (.ref f34)))
    (l34 : K.lookup f34 = some ⟨oc34, od34, .func (PySem.W.fnOf "moved" "moved" (defArgs (topS 34)) (defBody (topS 34)) (defScope (topS 34)) .none kV34 dc34 pm34 an34 (cd34) ct34), sl34⟩)
    (c34 : PySem.W.codeIn K (cd34) "moved" = true)
    (k34 : PySem.W.keepIn K (.ref f34) = true)
    (a36 : PySem.W.nsIn K mainGlobals "as_game" = some (some (.ref f36)))
    (l36 : K.lookup f36 = some ⟨oc36, od36, .func (PySem.W.fnOf "as_game" "as_game" (defArgs (topS 36)) (defBody (topS 36)) (defScope (topS 36)) .none kV36 dc36 pm36 an36 (cd36) ct36), sl36⟩)
    (c36 : PySem.W.codeIn K (cd36) "as_game" = true)
    (k36 : PySem.W.keepIn K (.ref f36) = true)
    (a37 : PySem.W.nsIn K mainGlobals "need_building" = some (some (.ref f37)))
    (l37 : K.lookup f37 = some ⟨oc37, od37, .func (PySem.W.fnOf "need_building" "need_building" (defArgs (topS 37)) (defBody (topS 37)) (defScope (topS 37)) .none kV37 dc37 pm37 an37 (cd37) ct37), sl37⟩)
    (c37 : PySem.W.codeIn K (cd37) "need_building" = true)
    (k37 : PySem.W.keepIn K (.ref f37) = true)
    (a38 : PySem.W.nsIn K mainGlobals "need_built" = some (some (.ref f38)))
    (l38 : K.lookup f38 = some ⟨oc38, od38, .func (PySem.W.fnOf "need_built" "need_built" (defArgs (topS 38)) (defBody (topS 38)) (defScope (topS 38)) .none kV38 dc38 pm38 an38 (cd38) ct38), sl38⟩)
    (c38 : PySem.W.codeIn K (cd38) "need_built" = true)
    (k38 : PySem.W.keepIn K (.ref f38) = true)
    (a39 : PySem.W.nsIn K mainGlobals "share_in" = some (some (.ref f39)))
    (l39 : K.lookup f39 = some ⟨oc39, od39, .func (PySem.W.fnOf "share_in" "share_in" (defArgs (topS 39)) (defBody (topS 39)) (defScope (topS 39)) .none kV39 dc39 pm39 an39 (cd39) ct39), sl39⟩)
    (c39 : PySem.W.codeIn K (cd39) "share_in" = true)
    (k39 : PySem.W.keepIn K (.ref f39) = true)
    (a40 : PySem.W.nsIn K mainGlobals "shares" = some (some (.ref f40)))
    (l40 : K.lookup f40 = some ⟨oc40, od40, .func (PySem.W.fnOf "shares" "shares" (defArgs (topS 40)) (defBody (topS 40)) (defScope (topS 40)) .none kV40 dc40 pm40 an40 (cd40) ct40), sl40⟩)
    (c40 : PySem.W.codeIn K (cd40) "shares" = true)
    (k40 : PySem.W.keepIn K (.ref f40) = true)
    (a41 : PySem.W.nsIn K mainGlobals "does_stand" = some (some (.ref f41)))
    (l41 : K.lookup f41 = some ⟨oc41, od41, .func (PySem.W.fnOf "does_stand" "does_stand" (defArgs (topS 41)) (defBody (topS 41)) (defScope (topS 41)) .none kV41 dc41 pm41 an41 (.ref ca41) ct41), sl41⟩)
    (c41 : PySem.W.codeIn K (.ref ca41) "does_stand" = true)
    (k41 : PySem.W.keepIn K (.ref f41) = true)
    (q41 : K.lookup ca41 = some ⟨ec41, dd41, .fields vs41, sk41⟩)
    (v41 : vs41[11]? = some (.ref P41))
    (n41 : K.lookup P41 = none)
    (a42 : PySem.W.nsIn K mainGlobals "standing_of" = some (some (.ref f42)))
    (l42 : K.lookup f42 = some ⟨oc42, od42, .func (PySem.W.fnOf "standing_of" "standing_of" (defArgs (topS 42)) (defBody (topS 42)) (defScope (topS 42)) .none kV42 dc42 pm42 an42 (cd42) ct42), sl42⟩)
    (c42 : PySem.W.codeIn K (cd42) "standing_of" = true)
    (k42 : PySem.W.keepIn K (.ref f42) = true)
    (a43 : PySem.W.nsIn K mainGlobals "building_states" = some (some (.ref f43)))
    (l43 : K.lookup f43 = some ⟨oc43, od43, .func (PySem.W.fnOf "building_states" "building_states" (defArgs (topS 43)) (defBody (topS 43)) (defScope (topS 43)) .none kV43 dc43 pm43 an43 (cd43) ct43), sl43⟩)
    (c43 : PySem.W.codeIn K (cd43) "building_states" = true)
    (k43 : PySem.W.keepIn K (.ref f43) = true)
    (a44 : PySem.W.nsIn K mainGlobals "price_of" = some (some (.ref f44)))
    (l44 : K.lookup f44 = some ⟨oc44, od44, .func (PySem.W.fnOf "price_of" "price_of" (defArgs (topS 44)) (defBody (topS 44)) (defScope (topS 44)) .none kV44 dc44 pm44 an44 (.ref ca44) ct44), sl44⟩)
    (c44 : PySem.W.codeIn K (.ref ca44) "price_of" = true)
    (k44 : PySem.W.keepIn K (.ref f44) = true)
    (q44 : K.lookup ca44 = some ⟨ec44, dd44, .fields vs44, sk44⟩)
    (v44 : vs44[11]? = some (.ref P44))
    (n44 : K.lookup P44 = none)
    (a45 : PySem.W.nsIn K mainGlobals "cheapest_building" = some (some (.ref f45)))
    (l45 : K.lookup f45 = some ⟨oc45, od45, .func (PySem.W.fnOf "cheapest_building" "cheapest_building" (defArgs (topS 45)) (defBody (topS 45)) (defScope (topS 45)) .none kV45 dc45 pm45 an45 (cd45) ct45), sl45⟩)
    (c45 : PySem.W.codeIn K (cd45) "cheapest_building" = true)
    (k45 : PySem.W.keepIn K (.ref f45) = true)
    (a46 : PySem.W.nsIn K mainGlobals "building_prices" = some (some (.ref f46)))
    (l46 : K.lookup f46 = some ⟨oc46, od46, .func (PySem.W.fnOf "building_prices" "building_prices" (defArgs (topS 46)) (defBody (topS 46)) (defScope (topS 46)) .none kV46 dc46 pm46 an46 (cd46) ct46), sl46⟩)
    (c46 : PySem.W.codeIn K (cd46) "building_prices" = true)
    (k46 : PySem.W.keepIn K (.ref f46) = true)
    (a48 : PySem.W.nsIn K mainGlobals "_law_taken" = some (some (.ref f48)))
    (l48 : K.lookup f48 = some ⟨oc48, od48, .func (PySem.W.fnOf "_law_taken" "_law_taken" (defArgs (topS 48)) (defBody (topS 48)) (defScope (topS 48)) .none kV48 dc48 pm48 an48 (cd48) ct48), sl48⟩)
    (c48 : PySem.W.codeIn K (cd48) "_law_taken" = true)
    (k48 : PySem.W.keepIn K (.ref f48) = true)
    (a49 : PySem.W.nsIn K mainGlobals "_law_pick" = some (some (.ref f49)))
    (l49 : K.lookup f49 = some ⟨oc49, od49, .func (PySem.W.fnOf "_law_pick" "_law_pick" (defArgs (topS 49)) (defBody (topS 49)) (defScope (topS 49)) .none kV49 dc49 pm49 an49 (cd49) ct49), sl49⟩)
    (c49 : PySem.W.codeIn K (cd49) "_law_pick" = true)
    (k49 : PySem.W.keepIn K (.ref f49) = true)
    (a50 : PySem.W.nsIn K mainGlobals "_law_alike" = some (some (.ref f50)))
    (l50 : K.lookup f50 = some ⟨oc50, od50, .func (PySem.W.fnOf "_law_alike" "_law_alike" (defArgs (topS 50)) (defBody (topS 50)) (defScope (topS 50)) .none kV50 dc50 pm50 an50 (cd50) ct50), sl50⟩)
    (c50 : PySem.W.codeIn K (cd50) "_law_alike" = true)
    (k50 : PySem.W.keepIn K (.ref f50) = true)
    (a51 : PySem.W.nsIn K mainGlobals "_law_ratio" = some (some (.ref f51)))
    (l51 : K.lookup f51 = some ⟨oc51, od51, .func (PySem.W.fnOf "_law_ratio" "_law_ratio" (defArgs (topS 51)) (defBody (topS 51)) (defScope (topS 51)) .none kV51 dc51 pm51 an51 (cd51) ct51), sl51⟩)
    (c51 : PySem.W.codeIn K (cd51) "_law_ratio" = true)
    (k51 : PySem.W.keepIn K (.ref f51) = true)
    (a52 : PySem.W.nsIn K mainGlobals "_law_plus" = some (some (.ref f52)))
    (l52 : K.lookup f52 = some ⟨oc52, od52, .func (PySem.W.fnOf "_law_plus" "_law_plus" (defArgs (topS 52)) (defBody (topS 52)) (defScope (topS 52)) .none kV52 dc52 pm52 an52 (cd52) ct52), sl52⟩)
    (c52 : PySem.W.codeIn K (cd52) "_law_plus" = true)
    (k52 : PySem.W.keepIn K (.ref f52) = true)
    (a54 : PySem.W.nsIn K mainGlobals "_law_sum" = some (some (.ref f54)))
    (l54 : K.lookup f54 = some ⟨oc54, od54, .func (PySem.W.fnOf "_law_sum" "_law_sum" (defArgs (topS 54)) (defBody (topS 54)) (defScope (topS 54)) .none kV54 dc54 pm54 an54 (cd54) ct54), sl54⟩)
    (c54 : PySem.W.codeIn K (cd54) "_law_sum" = true)
    (k54 : PySem.W.keepIn K (.ref f54) = true)
    (a55 : PySem.W.nsIn K mainGlobals "_law_less" = some (some (.ref f55)))
    (l55 : K.lookup f55 = some ⟨oc55, od55, .func (PySem.W.fnOf "_law_less" "_law_less" (defArgs (topS 55)) (defBody (topS 55)) (defScope (topS 55)) .none kV55 dc55 pm55 an55 (cd55) ct55), sl55⟩)
    (c55 : PySem.W.codeIn K (cd55) "_law_less" = true)
    (k55 : PySem.W.keepIn K (.ref f55) = true)
    (a56 : PySem.W.nsIn K mainGlobals "_law_game_ways" = some (some (.ref f56)))
    (l56 : K.lookup f56 = some ⟨oc56, od56, .func (PySem.W.fnOf "_law_game_ways" "_law_game_ways" (defArgs (topS 56)) (defBody (topS 56)) (defScope (topS 56)) .none kV56 dc56 pm56 an56 (cd56) ct56), sl56⟩)
    (c56 : PySem.W.codeIn K (cd56) "_law_game_ways" = true)
    (k56 : PySem.W.keepIn K (.ref f56) = true)
    (a57 : PySem.W.nsIn K mainGlobals "_law_table" = some (some (.ref f57)))
    (l57 : K.lookup f57 = some ⟨oc57, od57, .func (PySem.W.fnOf "_law_table" "_law_table" (defArgs (topS 57)) (defBody (topS 57)) (defScope (topS 57)) .none kV57 dc57 pm57 an57 (cd57) ct57), sl57⟩)
    (c57 : PySem.W.codeIn K (cd57) "_law_table" = true)
    (k57 : PySem.W.keepIn K (.ref f57) = true)
    (a58 : PySem.W.nsIn K mainGlobals "_law_game" = some (some (.ref f58)))
    (l58 : K.lookup f58 = some ⟨oc58, od58, .func (PySem.W.fnOf "_law_game" "_law_game" (defArgs (topS 58)) (defBody (topS 58)) (defScope (topS 58)) .none kV58 dc58 pm58 an58 (cd58) ct58), sl58⟩)
    (c58 : PySem.W.codeIn K (cd58) "_law_game" = true)
    (k58 : PySem.W.keepIn K (.ref f58) = true)
    (a59 : PySem.W.nsIn K mainGlobals "_law_states" = some (some (.ref f59)))
    (l59 : K.lookup f59 = some ⟨oc59, od59, .func (PySem.W.fnOf "_law_states" "_law_states" (defArgs (topS 59)) (defBody (topS 59)) (defScope (topS 59)) .none kV59 dc59 pm59 an59 (cd59) ct59), sl59⟩)
    (c59 : PySem.W.codeIn K (cd59) "_law_states" = true)
    (k59 : PySem.W.keepIn K (.ref f59) = true)
    (a60 : PySem.W.nsIn K mainGlobals "_law_building" = some (some (.ref f60)))
    (l60 : K.lookup f60 = some ⟨oc60, od60, .func (PySem.W.fnOf "_law_building" "_law_building" (defArgs (topS 60)) (defBody (topS 60)) (defScope (topS 60)) .none kV60 dc60 pm60 an60 (cd60) ct60), sl60⟩)
    (c60 : PySem.W.codeIn K (cd60) "_law_building" = true)
    (k60 : PySem.W.keepIn K (.ref f60) = true)
    (a61 : PySem.W.nsIn K mainGlobals "_law_share" = some (some (.ref f61)))
    (l61 : K.lookup f61 = some ⟨oc61, od61, .func (PySem.W.fnOf "_law_share" "_law_share" (defArgs (topS 61)) (defBody (topS 61)) (defScope (topS 61)) .none kV61 dc61 pm61 an61 (cd61) ct61), sl61⟩)
    (c61 : PySem.W.codeIn K (cd61) "_law_share" = true)
    (k61 : PySem.W.keepIn K (.ref f61) = true)
    (a62 : PySem.W.nsIn K mainGlobals "_law_price" = some (some (.ref f62)))
    (l62 : K.lookup f62 = some ⟨oc62, od62, .func (PySem.W.fnOf "_law_price" "_law_price" (defArgs (topS 62)) (defBody (topS 62)) (defScope (topS 62)) .none kV62 dc62 pm62 an62 (cd62) ct62), sl62⟩)
    (c62 : PySem.W.codeIn K (cd62) "_law_price" = true)
    (k62 : PySem.W.keepIn K (.ref f62) = true)
    (a63 : PySem.W.nsIn K mainGlobals "law" = some (some (.ref f63)))
    (l63 : K.lookup f63 = some ⟨oc63, od63, .func (PySem.W.fnOf "law" "law" (defArgs (topS 63)) (defBody (topS 63)) (defScope (topS 63)) .none kV63 dc63 pm63 an63 (cd63) ct63), sl63⟩)
    (c63 : PySem.W.codeIn K (cd63) "law" = true)
    (k63 : PySem.W.keepIn K (.ref f63) = true)
    (z_len : PySem.W.nsIn K mainGlobals "len" = some none)
    (z_range : PySem.W.nsIn K mainGlobals "range" = some none)
    (z_isinstance : PySem.W.nsIn K mainGlobals "isinstance" = some none)
    (z_int : PySem.W.nsIn K mainGlobals "int" = some none)
    (z_bool : PySem.W.nsIn K mainGlobals "bool" = some none)
    (z_tuple : PySem.W.nsIn K mainGlobals "tuple" = some none)
    (z_list : PySem.W.nsIn K mainGlobals "list" = some none)
    (z_str : PySem.W.nsIn K mainGlobals "str" = some none)
    (z_enumerate : PySem.W.nsIn K mainGlobals "enumerate" = some none)
    (z_sorted : PySem.W.nsIn K mainGlobals "sorted" = some none)
    (z_all : PySem.W.nsIn K mainGlobals "all" = some none)
    (z_any : PySem.W.nsIn K mainGlobals "any" = some none)
    (z_sum : PySem.W.nsIn K mainGlobals "sum" = some none)
    (z_zip : PySem.W.nsIn K mainGlobals "zip" = some none)
    (z_min : PySem.W.nsIn K mainGlobals "min" = some none)
    (z_max : PySem.W.nsIn K mainGlobals "max" = some none)
    (z_abs : PySem.W.nsIn K mainGlobals "abs" = some none)
    (m_MOST_NODES : PySem.W.nsIn K mainGlobals "MOST_NODES" = some (some (.int 6 t_MOST_NODES)))
    (m_MOST_ROADS : PySem.W.nsIn K mainGlobals "MOST_ROADS" = some (some (.int 8 t_MOST_ROADS)))
    (m_MOST_PLAYERS : PySem.W.nsIn K mainGlobals "MOST_PLAYERS" = some (some (.int 4 t_MOST_PLAYERS)))
    (m_MOST_COST : PySem.W.nsIn K mainGlobals "MOST_COST" = some (some (.int 1000 t_MOST_COST)))
    (m_MOST_CHOICES : PySem.W.nsIn K mainGlobals "MOST_CHOICES" = some (some (.int 8 t_MOST_CHOICES)))
    (m_MOST_STATES : PySem.W.nsIn K mainGlobals "MOST_STATES" = some (some (.int 1000 t_MOST_STATES)))
    (m_gcd : PySem.W.nsIn K mainGlobals "gcd" = some (some (.builtin "math.gcd")))
    : LamX.LawAtS l w K CX0 9 63 "_law_script" mg fa h := by
  have e := hfa.symm.trans (PySem.W.mg_of X G a63)
  cases e
  have nd : ∀ {α : Type} {P : α → Prop} {x : α} {xs : List α}, P x → (∀ y ∈ xs, P y) → ∀ y ∈ x :: xs, P y := fun h1 h2 y hy => by
    rcases List.mem_cons.mp hy with rfl | hy
    · exact h1
    · exact h2 y hy
  have o17 := OT "is_table" (by decide +kernel) f17 ca17 P17 _ _ _ _ _ _ (PySem.W.mg_of X G a17) l17 rfl rfl q17 v17
  have o18 := OT "is_game_road" (by decide +kernel) f18 ca18 P18 _ _ _ _ _ _ (PySem.W.mg_of X G a18) l18 rfl rfl q18 v18
  have o20 := OT "is_player" (by decide +kernel) f20 ca20 P20 _ _ _ _ _ _ (PySem.W.mg_of X G a20) l20 rfl rfl q20 v20
  have o22 := OT "choices_of" (by decide +kernel) f22 ca22 P22 _ _ _ _ _ _ (PySem.W.mg_of X G a22) l22 rfl rfl q22 v22
  have o23 := OT "is_state" (by decide +kernel) f23 ca23 P23 _ _ _ _ _ _ (PySem.W.mg_of X G a23) l23 rfl rfl q23 v23
  have o24 := OT "loads_of" (by decide +kernel) f24 ca24 P24 _ _ _ _ _ _ (PySem.W.mg_of X G a24) l24 rfl rfl q24 v24
  have o41 := OT "does_stand" (by decide +kernel) f41 ca41 P41 _ _ _ _ _ _ (PySem.W.mg_of X G a41) l41 rfl rfl q41 v41
  have o44 := OT "price_of" (by decide +kernel) f44 ca44 P44 _ _ _ _ _ _ (PySem.W.mg_of X G a44) l44 rfl rfl q44 v44
  refine ⟨PySem.W.fnOf "law" "law" (defArgs (topS 63)) (defBody (topS 63)) (defScope (topS 63)) .none kV63 dc63 pm63 an63 cd63 ct63, [(ca17, P17), (ca18, P18), (ca20, P20), (ca22, P22), (ca23, P23), (ca24, P24), (ca41, P41), (ca44, P44)], spLaw ⟨l.prog, w, K, mg, h, [P17, P18, P20, P22, P23, P24, P41, P44]⟩, (nd o17.2 (nd o18.2 (nd o20.2 (nd o22.2 (nd o23.2 (nd o24.2 (nd o41.2 (nd o44.2 (fun _ hy => by cases hy))))))))), (nd n17 (nd n18 (nd n20 (nd n22 (nd n23 (nd n24 (nd n41 (nd n44 (fun _ hy => by cases hy))))))))), (nd o17.1 (nd o18.1 (nd o20.1 (nd o22.1 (nd o23.1 (nd o24.1 (nd o41.1 (nd o44.1 (fun _ hy => by cases hy))))))))), fun s v => .of_eq rfl, fun H a ns _ _ hH hS => ⟨a, ns, rfl, hS, ?_, fun _ => rfl⟩, fun base X2 G2 hT => ?_⟩
  · intro P hP
    obtain ⟨p, hp, e⟩ : ∃ p, p ∈ ([(ca17, P17), (ca18, P18), (ca20, P20), (ca22, P22), (ca23, P23), (ca24, P24), (ca41, P41), (ca44, P44)] : List (Addr × Addr)) ∧ p.2 = P := by
      have hP : P ∈ ([(ca17, P17), (ca18, P18), (ca20, P20), (ca22, P22), (ca23, P23), (ca24, P24), (ca41, P41), (ca44, P44)] : List (Addr × Addr)).map (·.2) := hP
      exact List.mem_map.mp hP
    exact ⟨#[], by rw [← e]; exact hH p hp, triples_nil⟩
  obtain ⟨k, hk⟩ : ∃ k : Kit, k = ⟨l.prog, w, K, mg, base, [P17, P18, P20, P22, P23, P24, P41, P44]⟩ := ⟨_, rfl⟩
  have kK : k.K = K := by rw [hk]
  have T : Bt k := by
    rw [hk]
    exact ⟨PySem.W.mg_none_of X G z_len, PySem.W.mg_none_of X G z_range, PySem.W.mg_none_of X G z_isinstance, PySem.W.mg_none_of X G z_int, PySem.W.mg_none_of X G z_bool, PySem.W.mg_none_of X G z_tuple, PySem.W.mg_none_of X G z_list, PySem.W.mg_none_of X G z_str, PySem.W.mg_none_of X G z_enumerate, PySem.W.mg_none_of X G z_sorted, PySem.W.mg_none_of X G z_all, PySem.W.mg_none_of X G z_any, PySem.W.mg_none_of X G z_sum, PySem.W.mg_none_of X G z_zip, PySem.W.mg_none_of X G z_min, PySem.W.mg_none_of X G z_max, PySem.W.mg_none_of X G z_abs, PySem.W.mg_of X G m_gcd, ⟨_, PySem.W.mg_of X G m_MOST_NODES⟩, ⟨_, PySem.W.mg_of X G m_MOST_ROADS⟩, ⟨_, PySem.W.mg_of X G m_MOST_PLAYERS⟩, ⟨_, PySem.W.mg_of X G m_MOST_COST⟩, ⟨_, PySem.W.mg_of X G m_MOST_CHOICES⟩, ⟨_, PySem.W.mg_of X G m_MOST_STATES⟩⟩
  have C_is_in : FunC k.K "is_in" (topS 9) f9 (PySem.W.fnOf "is_in" "is_in" (defArgs (topS 9)) (defBody (topS 9)) (defScope (topS 9)) .none kV9 dc9 pm9 an9 cd9 ct9) cd9 := by rw [kK]; exact func_mk l9 c9 k9
  have g_is_in : k.mg "is_in" = some (.ref f9) := by rw [hk]; exact PySem.W.mg_of X G a9
  have F_is_in := w_is_in T  C_is_in g_is_in
  have C_all_ways : FunC k.K "all_ways" (topS 10) f10 (PySem.W.fnOf "all_ways" "all_ways" (defArgs (topS 10)) (defBody (topS 10)) (defScope (topS 10)) .none kV10 dc10 pm10 an10 cd10 ct10) cd10 := by rw [kK]; exact func_mk l10 c10 k10
  have g_all_ways : k.mg "all_ways" = some (.ref f10) := by rw [hk]; exact PySem.W.mg_of X G a10
  have F_all_ways := w_all_ways T  C_all_ways g_all_ways
  have C_is_table : FunC k.K "is_table" (topS 17) f17 (PySem.W.fnOf "is_table" "is_table" (defArgs (topS 17)) (defBody (topS 17)) (defScope (topS 17)) .none kV17 dc17 pm17 an17 (.ref ca17) ct17) (.ref ca17) := by rw [kK]; exact func_mk l17 c17 k17
  have g_is_table : k.mg "is_table" = some (.ref f17) := by rw [hk]; exact PySem.W.mg_of X G a17
  have b_is_table : ∀ N lv, k.Tb (cdOf N (topS 17) lv (.ref ca17)) := fun N lv => by rw [hk]; exact ⟨ca17, P17, rfl, by simp, ⟨(hT (ca17, P17) (by simp)).code, (hT (ca17, P17) (by simp)).bm, (hT (ca17, P17) (by simp)).gP⟩⟩
  have F_is_table := w_is_table T F_is_in (b_is_table _ _) C_is_table g_is_table
  have C_is_game_road : FunC k.K "is_game_road" (topS 18) f18 (PySem.W.fnOf "is_game_road" "is_game_road" (defArgs (topS 18)) (defBody (topS 18)) (defScope (topS 18)) .none kV18 dc18 pm18 an18 (.ref ca18) ct18) (.ref ca18) := by rw [kK]; exact func_mk l18 c18 k18
  have g_is_game_road : k.mg "is_game_road" = some (.ref f18) := by rw [hk]; exact PySem.W.mg_of X G a18
  have b_is_game_road : ∀ N lv, k.Tb (cdOf N (topS 18) lv (.ref ca18)) := fun N lv => by rw [hk]; exact ⟨ca18, P18, rfl, by simp, ⟨(hT (ca18, P18) (by simp)).code, (hT (ca18, P18) (by simp)).bm, (hT (ca18, P18) (by simp)).gP⟩⟩
  have F_is_game_road := w_is_game_road T F_is_in F_is_table (b_is_game_road _ _) C_is_game_road g_is_game_road
  have C_net_of : FunC k.K "net_of" (topS 19) f19 (PySem.W.fnOf "net_of" "net_of" (defArgs (topS 19)) (defBody (topS 19)) (defScope (topS 19)) .none kV19 dc19 pm19 an19 cd19 ct19) cd19 := by rw [kK]; exact func_mk l19 c19 k19
  have g_net_of : k.mg "net_of" = some (.ref f19) := by rw [hk]; exact PySem.W.mg_of X G a19
  have F_net_of := w_net_of T  C_net_of g_net_of
  have C_is_player : FunC k.K "is_player" (topS 20) f20 (PySem.W.fnOf "is_player" "is_player" (defArgs (topS 20)) (defBody (topS 20)) (defScope (topS 20)) .none kV20 dc20 pm20 an20 (.ref ca20) ct20) (.ref ca20) := by rw [kK]; exact func_mk l20 c20 k20
  have g_is_player : k.mg "is_player" = some (.ref f20) := by rw [hk]; exact PySem.W.mg_of X G a20
  have b_is_player : ∀ N lv, k.Tb (cdOf N (topS 20) lv (.ref ca20)) := fun N lv => by rw [hk]; exact ⟨ca20, P20, rfl, by simp, ⟨(hT (ca20, P20) (by simp)).code, (hT (ca20, P20) (by simp)).bm, (hT (ca20, P20) (by simp)).gP⟩⟩
  have F_is_player := w_is_player T F_is_in F_net_of F_all_ways (b_is_player _ _) C_is_player g_is_player
  have C_need_game : FunC k.K "need_game" (topS 21) f21 (PySem.W.fnOf "need_game" "need_game" (defArgs (topS 21)) (defBody (topS 21)) (defScope (topS 21)) .none kV21 dc21 pm21 an21 cd21 ct21) cd21 := by rw [kK]; exact func_mk l21 c21 k21
  have g_need_game : k.mg "need_game" = some (.ref f21) := by rw [hk]; exact PySem.W.mg_of X G a21
  have F_need_game := w_need_game T F_is_in F_is_game_road F_is_player C_need_game g_need_game
  have C_choices_of : FunC k.K "choices_of" (topS 22) f22 (PySem.W.fnOf "choices_of" "choices_of" (defArgs (topS 22)) (defBody (topS 22)) (defScope (topS 22)) .none kV22 dc22 pm22 an22 (.ref ca22) ct22) (.ref ca22) := by rw [kK]; exact func_mk l22 c22 k22
  have g_choices_of : k.mg "choices_of" = some (.ref f22) := by rw [hk]; exact PySem.W.mg_of X G a22
  have b_choices_of : ∀ N lv, k.Tb (cdOf N (topS 22) lv (.ref ca22)) := fun N lv => by rw [hk]; exact ⟨ca22, P22, rfl, by simp, ⟨(hT (ca22, P22) (by simp)).code, (hT (ca22, P22) (by simp)).bm, (hT (ca22, P22) (by simp)).gP⟩⟩
  have F_choices_of := w_choices_of T F_net_of F_all_ways (b_choices_of _ _) C_choices_of g_choices_of
  have C_is_state : FunC k.K "is_state" (topS 23) f23 (PySem.W.fnOf "is_state" "is_state" (defArgs (topS 23)) (defBody (topS 23)) (defScope (topS 23)) .none kV23 dc23 pm23 an23 (.ref ca23) ct23) (.ref ca23) := by rw [kK]; exact func_mk l23 c23 k23
  have g_is_state : k.mg "is_state" = some (.ref f23) := by rw [hk]; exact PySem.W.mg_of X G a23
  have b_is_state : ∀ N lv, k.Tb (cdOf N (topS 23) lv (.ref ca23)) := fun N lv => by rw [hk]; exact ⟨ca23, P23, rfl, by simp, ⟨(hT (ca23, P23) (by simp)).code, (hT (ca23, P23) (by simp)).bm, (hT (ca23, P23) (by simp)).gP⟩⟩
  have F_is_state := w_is_state T F_is_in F_net_of F_all_ways (b_is_state _ _) C_is_state g_is_state
  have C_loads_of : FunC k.K "loads_of" (topS 24) f24 (PySem.W.fnOf "loads_of" "loads_of" (defArgs (topS 24)) (defBody (topS 24)) (defScope (topS 24)) .none kV24 dc24 pm24 an24 (.ref ca24) ct24) (.ref ca24) := by rw [kK]; exact func_mk l24 c24 k24
  have g_loads_of : k.mg "loads_of" = some (.ref f24) := by rw [hk]; exact PySem.W.mg_of X G a24
  have b_loads_of : ∀ N lv, k.Tb (cdOf N (topS 24) lv (.ref ca24)) := fun N lv => by rw [hk]; exact ⟨ca24, P24, rfl, by simp, ⟨(hT (ca24, P24) (by simp)).code, (hT (ca24, P24) (by simp)).bm, (hT (ca24, P24) (by simp)).gP⟩⟩
  have F_loads_of := w_loads_of T  (b_loads_of _ _) C_loads_of g_loads_of
  have C_ones : FunC k.K "ones" (topS 25) f25 (PySem.W.fnOf "ones" "ones" (defArgs (topS 25)) (defBody (topS 25)) (defScope (topS 25)) .none kV25 dc25 pm25 an25 cd25 ct25) cd25 := by rw [kK]; exact func_mk l25 c25 k25
  have g_ones : k.mg "ones" = some (.ref f25) := by rw [hk]; exact PySem.W.mg_of X G a25
  have F_ones := w_ones T  C_ones g_ones
  have C_ratio : FunC k.K "ratio" (topS 27) f27 (PySem.W.fnOf "ratio" "ratio" (defArgs (topS 27)) (defBody (topS 27)) (defScope (topS 27)) .none kV27 dc27 pm27 an27 cd27 ct27) cd27 := by rw [kK]; exact func_mk l27 c27 k27
  have g_ratio : k.mg "ratio" = some (.ref f27) := by rw [hk]; exact PySem.W.mg_of X G a27
  have F_ratio := w_ratio T  C_ratio g_ratio
  have C_plus : FunC k.K "plus" (topS 28) f28 (PySem.W.fnOf "plus" "plus" (defArgs (topS 28)) (defBody (topS 28)) (defScope (topS 28)) .none kV28 dc28 pm28 an28 cd28 ct28) cd28 := by rw [kK]; exact func_mk l28 c28 k28
  have g_plus : k.mg "plus" = some (.ref f28) := by rw [hk]; exact PySem.W.mg_of X G a28
  have F_plus := w_plus T F_ratio C_plus g_plus
  have C_less : FunC k.K "less" (topS 29) f29 (PySem.W.fnOf "less" "less" (defArgs (topS 29)) (defBody (topS 29)) (defScope (topS 29)) .none kV29 dc29 pm29 an29 cd29 ct29) cd29 := by rw [kK]; exact func_mk l29 c29 k29
  have g_less : k.mg "less" = some (.ref f29) := by rw [hk]; exact PySem.W.mg_of X G a29
  have F_less := w_less T  C_less g_less
  have C_sum_of : FunC k.K "sum_of" (topS 30) f30 (PySem.W.fnOf "sum_of" "sum_of" (defArgs (topS 30)) (defBody (topS 30)) (defScope (topS 30)) .none kV30 dc30 pm30 an30 cd30 ct30) cd30 := by rw [kK]; exact func_mk l30 c30 k30
  have g_sum_of : k.mg "sum_of" = some (.ref f30) := by rw [hk]; exact PySem.W.mg_of X G a30
  have F_sum_of := w_sum_of T F_plus C_sum_of g_sum_of
  have C_all_states : FunC k.K "all_states" (topS 32) f32 (PySem.W.fnOf "all_states" "all_states" (defArgs (topS 32)) (defBody (topS 32)) (defScope (topS 32)) .none kV32 dc32 pm32 an32 cd32 ct32) cd32 := by rw [kK]; exact func_mk l32 c32 k32
  have g_all_states : k.mg "all_states" = some (.ref f32) := by rw [hk]; exact PySem.W.mg_of X G a32
  have F_all_states := w_all_states T  C_all_states g_all_states
  have C_moved : FunC k.K "moved" (topS 34) f34 (PySem.W.fnOf "moved" "moved" (defArgs (topS 34)) (defBody (topS 34)) (defScope (topS 34)) .none kV34 dc34 pm34 an34 cd34 ct34) cd34 := by rw [kK]; exact func_mk l34 c34 k34
  have g_moved : k.mg "moved" = some (.ref f34) := by rw [hk]; exact PySem.W.mg_of X G a34
  have F_moved := w_moved T  C_moved g_moved
  have C_as_game : FunC k.K "as_game" (topS 36) f36 (PySem.W.fnOf "as_game" "as_game" (defArgs (topS 36)) (defBody (topS 36)) (defScope (topS 36)) .none kV36 dc36 pm36 an36 cd36 ct36) cd36 := by rw [kK]; exact func_mk l36 c36 k36
  have g_as_game : k.mg "as_game" = some (.ref f36) := by rw [hk]; exact PySem.W.mg_of X G a36
  have F_as_game := w_as_game T F_is_in C_as_game g_as_game
  have C_need_building : FunC k.K "need_building" (topS 37) f37 (PySem.W.fnOf "need_building" "need_building" (defArgs (topS 37)) (defBody (topS 37)) (defScope (topS 37)) .none kV37 dc37 pm37 an37 cd37 ct37) cd37 := by rw [kK]; exact func_mk l37 c37 k37
  have g_need_building : k.mg "need_building" = some (.ref f37) := by rw [hk]; exact PySem.W.mg_of X G a37
  have F_need_building := w_need_building T F_as_game F_need_game C_need_building g_need_building
  have C_need_built : FunC k.K "need_built" (topS 38) f38 (PySem.W.fnOf "need_built" "need_built" (defArgs (topS 38)) (defBody (topS 38)) (defScope (topS 38)) .none kV38 dc38 pm38 an38 cd38 ct38) cd38 := by rw [kK]; exact func_mk l38 c38 k38
  have g_need_built : k.mg "need_built" = some (.ref f38) := by rw [hk]; exact PySem.W.mg_of X G a38
  have F_need_built := w_need_built T F_need_building F_is_state F_choices_of C_need_built g_need_built
  have C_share_in : FunC k.K "share_in" (topS 39) f39 (PySem.W.fnOf "share_in" "share_in" (defArgs (topS 39)) (defBody (topS 39)) (defScope (topS 39)) .none kV39 dc39 pm39 an39 cd39 ct39) cd39 := by rw [kK]; exact func_mk l39 c39 k39
  have g_share_in : k.mg "share_in" = some (.ref f39) := by rw [hk]; exact PySem.W.mg_of X G a39
  have F_share_in := w_share_in T F_loads_of F_ones F_ratio F_sum_of C_share_in g_share_in
  have C_shares : FunC k.K "shares" (topS 40) f40 (PySem.W.fnOf "shares" "shares" (defArgs (topS 40)) (defBody (topS 40)) (defScope (topS 40)) .none kV40 dc40 pm40 an40 cd40 ct40) cd40 := by rw [kK]; exact func_mk l40 c40 k40
  have g_shares : k.mg "shares" = some (.ref f40) := by rw [hk]; exact PySem.W.mg_of X G a40
  have F_shares := w_shares T F_need_built F_share_in C_shares g_shares
  have C_does_stand : FunC k.K "does_stand" (topS 41) f41 (PySem.W.fnOf "does_stand" "does_stand" (defArgs (topS 41)) (defBody (topS 41)) (defScope (topS 41)) .none kV41 dc41 pm41 an41 (.ref ca41) ct41) (.ref ca41) := by rw [kK]; exact func_mk l41 c41 k41
  have g_does_stand : k.mg "does_stand" = some (.ref f41) := by rw [hk]; exact PySem.W.mg_of X G a41
  have b_does_stand : ∀ N lv, k.Tb (cdOf N (topS 41) lv (.ref ca41)) := fun N lv => by rw [hk]; exact ⟨ca41, P41, rfl, by simp, ⟨(hT (ca41, P41) (by simp)).code, (hT (ca41, P41) (by simp)).bm, (hT (ca41, P41) (by simp)).gP⟩⟩
  have F_does_stand := w_does_stand T F_share_in F_less F_moved (b_does_stand _ _) C_does_stand g_does_stand
  have C_standing_of : FunC k.K "standing_of" (topS 42) f42 (PySem.W.fnOf "standing_of" "standing_of" (defArgs (topS 42)) (defBody (topS 42)) (defScope (topS 42)) .none kV42 dc42 pm42 an42 cd42 ct42) cd42 := by rw [kK]; exact func_mk l42 c42 k42
  have g_standing_of : k.mg "standing_of" = some (.ref f42) := by rw [hk]; exact PySem.W.mg_of X G a42
  have F_standing_of := w_standing_of T F_choices_of F_all_states F_does_stand C_standing_of g_standing_of
  have C_building_states : FunC k.K "building_states" (topS 43) f43 (PySem.W.fnOf "building_states" "building_states" (defArgs (topS 43)) (defBody (topS 43)) (defScope (topS 43)) .none kV43 dc43 pm43 an43 cd43 ct43) cd43 := by rw [kK]; exact func_mk l43 c43 k43
  have g_building_states : k.mg "building_states" = some (.ref f43) := by rw [hk]; exact PySem.W.mg_of X G a43
  have F_building_states := w_building_states T F_need_building F_standing_of C_building_states g_building_states
  have C_price_of : FunC k.K "price_of" (topS 44) f44 (PySem.W.fnOf "price_of" "price_of" (defArgs (topS 44)) (defBody (topS 44)) (defScope (topS 44)) .none kV44 dc44 pm44 an44 (.ref ca44) ct44) (.ref ca44) := by rw [kK]; exact func_mk l44 c44 k44
  have g_price_of : k.mg "price_of" = some (.ref f44) := by rw [hk]; exact PySem.W.mg_of X G a44
  have b_price_of : ∀ N lv, k.Tb (cdOf N (topS 44) lv (.ref ca44)) := fun N lv => by rw [hk]; exact ⟨ca44, P44, rfl, by simp, ⟨(hT (ca44, P44) (by simp)).code, (hT (ca44, P44) (by simp)).bm, (hT (ca44, P44) (by simp)).gP⟩⟩
  have F_price_of := w_price_of T F_loads_of F_ones (b_price_of _ _) C_price_of g_price_of
  have C_cheapest_building : FunC k.K "cheapest_building" (topS 45) f45 (PySem.W.fnOf "cheapest_building" "cheapest_building" (defArgs (topS 45)) (defBody (topS 45)) (defScope (topS 45)) .none kV45 dc45 pm45 an45 cd45 ct45) cd45 := by rw [kK]; exact func_mk l45 c45 k45
  have g_cheapest_building : k.mg "cheapest_building" = some (.ref f45) := by rw [hk]; exact PySem.W.mg_of X G a45
  have F_cheapest_building := w_cheapest_building T F_need_building F_choices_of F_all_states F_price_of C_cheapest_building g_cheapest_building
  have C_building_prices : FunC k.K "building_prices" (topS 46) f46 (PySem.W.fnOf "building_prices" "building_prices" (defArgs (topS 46)) (defBody (topS 46)) (defScope (topS 46)) .none kV46 dc46 pm46 an46 cd46 ct46) cd46 := by rw [kK]; exact func_mk l46 c46 k46
  have g_building_prices : k.mg "building_prices" = some (.ref f46) := by rw [hk]; exact PySem.W.mg_of X G a46
  have F_building_prices := w_building_prices T F_need_building F_cheapest_building F_standing_of F_price_of F_ratio C_building_prices g_building_prices
  have C__law_taken : FunC k.K "_law_taken" (topS 48) f48 (PySem.W.fnOf "_law_taken" "_law_taken" (defArgs (topS 48)) (defBody (topS 48)) (defScope (topS 48)) .none kV48 dc48 pm48 an48 cd48 ct48) cd48 := by rw [kK]; exact func_mk l48 c48 k48
  have g__law_taken : k.mg "_law_taken" = some (.ref f48) := by rw [hk]; exact PySem.W.mg_of X G a48
  have F__law_taken := w__law_taken T  C__law_taken g__law_taken
  have C__law_pick : FunC k.K "_law_pick" (topS 49) f49 (PySem.W.fnOf "_law_pick" "_law_pick" (defArgs (topS 49)) (defBody (topS 49)) (defScope (topS 49)) .none kV49 dc49 pm49 an49 cd49 ct49) cd49 := by rw [kK]; exact func_mk l49 c49 k49
  have g__law_pick : k.mg "_law_pick" = some (.ref f49) := by rw [hk]; exact PySem.W.mg_of X G a49
  have F__law_pick := w__law_pick T F__law_taken C__law_pick g__law_pick
  have C__law_alike : FunC k.K "_law_alike" (topS 50) f50 (PySem.W.fnOf "_law_alike" "_law_alike" (defArgs (topS 50)) (defBody (topS 50)) (defScope (topS 50)) .none kV50 dc50 pm50 an50 cd50 ct50) cd50 := by rw [kK]; exact func_mk l50 c50 k50
  have g__law_alike : k.mg "_law_alike" = some (.ref f50) := by rw [hk]; exact PySem.W.mg_of X G a50
  have F__law_alike := w__law_alike T  C__law_alike g__law_alike 3
  have C__law_ratio : FunC k.K "_law_ratio" (topS 51) f51 (PySem.W.fnOf "_law_ratio" "_law_ratio" (defArgs (topS 51)) (defBody (topS 51)) (defScope (topS 51)) .none kV51 dc51 pm51 an51 cd51 ct51) cd51 := by rw [kK]; exact func_mk l51 c51 k51
  have g__law_ratio : k.mg "_law_ratio" = some (.ref f51) := by rw [hk]; exact PySem.W.mg_of X G a51
  have F__law_ratio := w__law_ratio T  C__law_ratio g__law_ratio
  have C__law_plus : FunC k.K "_law_plus" (topS 52) f52 (PySem.W.fnOf "_law_plus" "_law_plus" (defArgs (topS 52)) (defBody (topS 52)) (defScope (topS 52)) .none kV52 dc52 pm52 an52 cd52 ct52) cd52 := by rw [kK]; exact func_mk l52 c52 k52
  have g__law_plus : k.mg "_law_plus" = some (.ref f52) := by rw [hk]; exact PySem.W.mg_of X G a52
  have F__law_plus := w__law_plus T F__law_ratio C__law_plus g__law_plus
  have C__law_sum : FunC k.K "_law_sum" (topS 54) f54 (PySem.W.fnOf "_law_sum" "_law_sum" (defArgs (topS 54)) (defBody (topS 54)) (defScope (topS 54)) .none kV54 dc54 pm54 an54 cd54 ct54) cd54 := by rw [kK]; exact func_mk l54 c54 k54
  have g__law_sum : k.mg "_law_sum" = some (.ref f54) := by rw [hk]; exact PySem.W.mg_of X G a54
  have F__law_sum := w__law_sum T F__law_plus C__law_sum g__law_sum
  have C__law_less : FunC k.K "_law_less" (topS 55) f55 (PySem.W.fnOf "_law_less" "_law_less" (defArgs (topS 55)) (defBody (topS 55)) (defScope (topS 55)) .none kV55 dc55 pm55 an55 cd55 ct55) cd55 := by rw [kK]; exact func_mk l55 c55 k55
  have g__law_less : k.mg "_law_less" = some (.ref f55) := by rw [hk]; exact PySem.W.mg_of X G a55
  have F__law_less := w__law_less T  C__law_less g__law_less
  have C__law_game_ways : FunC k.K "_law_game_ways" (topS 56) f56 (PySem.W.fnOf "_law_game_ways" "_law_game_ways" (defArgs (topS 56)) (defBody (topS 56)) (defScope (topS 56)) .none kV56 dc56 pm56 an56 cd56 ct56) cd56 := by rw [kK]; exact func_mk l56 c56 k56
  have g__law_game_ways : k.mg "_law_game_ways" = some (.ref f56) := by rw [hk]; exact PySem.W.mg_of X G a56
  have F__law_game_ways := w__law_game_ways T  C__law_game_ways g__law_game_ways
  have C__law_table : FunC k.K "_law_table" (topS 57) f57 (PySem.W.fnOf "_law_table" "_law_table" (defArgs (topS 57)) (defBody (topS 57)) (defScope (topS 57)) .none kV57 dc57 pm57 an57 cd57 ct57) cd57 := by rw [kK]; exact func_mk l57 c57 k57
  have g__law_table : k.mg "_law_table" = some (.ref f57) := by rw [hk]; exact PySem.W.mg_of X G a57
  have F__law_table := w__law_table T F__law_pick C__law_table g__law_table
  have C__law_game : FunC k.K "_law_game" (topS 58) f58 (PySem.W.fnOf "_law_game" "_law_game" (defArgs (topS 58)) (defBody (topS 58)) (defScope (topS 58)) .none kV58 dc58 pm58 an58 cd58 ct58) cd58 := by rw [kK]; exact func_mk l58 c58 k58
  have g__law_game : k.mg "_law_game" = some (.ref f58) := by rw [hk]; exact PySem.W.mg_of X G a58
  have F__law_game := w__law_game T F__law_taken F__law_table F__law_game_ways C__law_game g__law_game
  have C__law_states : FunC k.K "_law_states" (topS 59) f59 (PySem.W.fnOf "_law_states" "_law_states" (defArgs (topS 59)) (defBody (topS 59)) (defScope (topS 59)) .none kV59 dc59 pm59 an59 cd59 ct59) cd59 := by rw [kK]; exact func_mk l59 c59 k59
  have g__law_states : k.mg "_law_states" = some (.ref f59) := by rw [hk]; exact PySem.W.mg_of X G a59
  have F__law_states := w__law_states T F__law_game_ways C__law_states g__law_states
  have C__law_building : FunC k.K "_law_building" (topS 60) f60 (PySem.W.fnOf "_law_building" "_law_building" (defArgs (topS 60)) (defBody (topS 60)) (defScope (topS 60)) .none kV60 dc60 pm60 an60 cd60 ct60) cd60 := by rw [kK]; exact func_mk l60 c60 k60
  have g__law_building : k.mg "_law_building" = some (.ref f60) := by rw [hk]; exact PySem.W.mg_of X G a60
  have F__law_building := w__law_building T F__law_taken F__law_pick F__law_game C__law_building g__law_building
  have C__law_share : FunC k.K "_law_share" (topS 61) f61 (PySem.W.fnOf "_law_share" "_law_share" (defArgs (topS 61)) (defBody (topS 61)) (defScope (topS 61)) .none kV61 dc61 pm61 an61 cd61 ct61) cd61 := by rw [kK]; exact func_mk l61 c61 k61
  have g__law_share : k.mg "_law_share" = some (.ref f61) := by rw [hk]; exact PySem.W.mg_of X G a61
  have F__law_share := w__law_share T F__law_ratio F__law_sum C__law_share g__law_share
  have C__law_price : FunC k.K "_law_price" (topS 62) f62 (PySem.W.fnOf "_law_price" "_law_price" (defArgs (topS 62)) (defBody (topS 62)) (defScope (topS 62)) .none kV62 dc62 pm62 an62 cd62 ct62) cd62 := by rw [kK]; exact func_mk l62 c62 k62
  have g__law_price : k.mg "_law_price" = some (.ref f62) := by rw [hk]; exact PySem.W.mg_of X G a62
  have F__law_price := w__law_price T  C__law_price g__law_price
  have C_law : FunC k.K "law" (topS 63) fa (PySem.W.fnOf "law" "law" (defArgs (topS 63)) (defBody (topS 63)) (defScope (topS 63)) .none kV63 dc63 pm63 an63 cd63 ct63) cd63 := by rw [kK]; exact func_mk l63 c63 k63
  have C : Cal k := ⟨F__law_building, F__law_states, F__law_pick, F__law_alike, F_shares, F__law_share, F__law_game_ways, F__law_less, F_building_states, F__law_price, F_cheapest_building, F_building_prices, F__law_ratio, F__law_sum⟩
  have R := w_law T C C_law
  rw [hk] at R
  exact R
end Wk
set_option Elab.async false
set_option linter.all false
set_option maxRecDepth 100000
open PySem PySem.W PyProof.Rows
set_option maxHeartbeats 0 in
theorem PySem.Challenge.cw_tollroads_k46_whole_buildings_holds : PySem.Challenge.rw_tollroads_k46_whole_buildings.Holds := by
  w_on; o_law; k_head; (case hw => w_witness2)
  k_fill
  refine Wk.walk_ofTabs (l := PySem.Challenge.rw_tollroads_k46_whole_buildings) (n := 63) (k := 9) (x := "_law_script") (CX := fun _ => L2.CX0) Wk.tabNames rfl (by decide) rfl ⟨rfl, by decide, by decide⟩ ?R (fun w h Y => PySem.W.kIn_of Y) ?F (fun _ _ _ _ _ h => h)
  case R =>
    decide +kernel
  case F =>
    intro w mg fa h Y KX G hmg OT
    refine' Wk.all_mk KX G hmg OT ?a9 ?l9 ?c9 ?k9 ?a10 ?l10 ?c10 ?k10 ?a17 ?l17 ?c17 ?k17 ?q17 ?v17 ?n17 ?a18 ?l18 ?c18 ?k18 ?q18 ?v18 ?n18 ?a19 ?l19 ?c19 ?k19 ?a20 ?l20 ?c20 ?k20 ?q20 ?v20 ?n20 ?a21 ?l21 ?c21 ?k21 ?a22 ?l22 ?c22 ?k22 ?q22 ?v22 ?n22 ?a23 ?l23 ?c23 ?k23 ?q23 ?v23 ?n23 ?a24 ?l24 ?c24 ?k24 ?q24 ?v24 ?n24 ?a25 ?l25 ?c25 ?k25 ?a27 ?l27 ?c27 ?k27 ?a28 ?l28 ?c28 ?k28 ?a29 ?l29 ?c29 ?k29 ?a30 ?l30 ?c30 ?k30 ?a32 ?l32 ?c32 ?k32 ?a34 ?l34 ?c34 ?k34 ?a36 ?l36 ?c36 ?k36 ?a37 ?l37 ?c37 ?k37 ?a38 ?l38 ?c38 ?k38 ?a39 ?l39 ?c39 ?k39 ?a40 ?l40 ?c40 ?k40 ?a41 ?l41 ?c41 ?k41 ?q41 ?v41 ?n41 ?a42 ?l42 ?c42 ?k42 ?a43 ?l43 ?c43 ?k43 ?a44 ?l44 ?c44 ?k44 ?q44 ?v44 ?n44 ?a45 ?l45 ?c45 ?k45 ?a46 ?l46 ?c46 ?k46 ?a48 ?l48 ?c48 ?k48 ?a49 ?l49 ?c49 ?k49 ?a50 ?l50 ?c50 ?k50 ?a51 ?l51 ?c51 ?k51 ?a52 ?l52 ?c52 ?k52 ?a54 ?l54 ?c54 ?k54 ?a55 ?l55 ?c55 ?k55 ?a56 ?l56 ?c56 ?k56 ?a57 ?l57 ?c57 ?k57 ?a58 ?l58 ?c58 ?k58 ?a59 ?l59 ?c59 ?k59 ?a60 ?l60 ?c60 ?k60 ?a61 ?l61 ?c61 ?k61 ?a62 ?l62 ?c62 ?k62 ?a63 ?l63 ?c63 ?k63 ?z_len ?z_range ?z_isinstance ?z_int ?z_bool ?z_tuple ?z_list ?z_str ?z_enumerate ?z_sorted ?z_all ?z_any ?z_sum ?z_zip ?z_min ?z_max ?z_abs ?m_MOST_NODES ?m_MOST_ROADS ?m_MOST_PLAYERS ?m_MOST_COST ?m_MOST_CHOICES ?m_MOST_STATES ?m_gcd
    (case a9 => k_is)
    (case l9 => k_is)
    (case c9 => k_is)
    (case k9 => k_is)
    (case a10 => k_is)
    (case l10 => k_is)
    (case c10 => k_is)
    (case k10 => k_is)
    (case a17 => k_is)
    (case l17 => k_is)
    (case c17 => k_is)
    (case k17 => k_is)
    (case q17 => k_is)
    (case v17 => rfl)
    (case n17 => rfl)
    (case a18 => k_is)
    (case l18 => k_is)
    (case c18 => k_is)
    (case k18 => k_is)
    (case q18 => k_is)
    (case v18 => rfl)
    (case n18 => rfl)
    (case a19 => k_is)
    (case l19 => k_is)
    (case c19 => k_is)
    (case k19 => k_is)
    (case a20 => k_is)
    (case l20 => k_is)
    (case c20 => k_is)
    (case k20 => k_is)
    (case q20 => k_is)
    (case v20 => rfl)
    (case n20 => rfl)
    (case a21 => k_is)
    (case l21 => k_is)
    (case c21 => k_is)
    (case k21 => k_is)
    (case a22 => k_is)
    (case l22 => k_is)
    (case c22 => k_is)
    (case k22 => k_is)
    (case q22 => k_is)
    (case v22 => rfl)
    (case n22 => rfl)
    (case a23 => k_is)
    (case l23 => k_is)
    (case c23 => k_is)
    (case k23 => k_is)
    (case q23 => k_is)
    (case v23 => rfl)
    (case n23 => rfl)
    (case a24 => k_is)
    (case l24 => k_is)
    (case c24 => k_is)
    (case k24 => k_is)
    (case q24 => k_is)
    (case v24 => rfl)
    (case n24 => rfl)
    (case a25 => k_is)
    (case l25 => k_is)
    (case c25 => k_is)
    (case k25 => k_is)
    (case a27 => k_is)
    (case l27 => k_is)
    (case c27 => k_is)
    (case k27 => k_is)
    (case a28 => k_is)
    (case l28 => k_is)
    (case c28 => k_is)
    (case k28 => k_is)
    (case a29 => k_is)
    (case l29 => k_is)
    (case c29 => k_is)
    (case k29 => k_is)
    (case a30 => k_is)
    (case l30 => k_is)
    (case c30 => k_is)
    (case k30 => k_is)
    (case a32 => k_is)
    (case l32 => k_is)
    (case c32 => k_is)
    (case k32 => k_is)
    (case a34 => k_is)
    (case l34 => k_is)
    (case c34 => k_is)
    (case k34 => k_is)
    (case a36 => k_is)
    (case l36 => k_is)
    (case c36 => k_is)
    (case k36 => k_is)
    (case a37 => k_is)
    (case l37 => k_is)
    (case c37 => k_is)
    (case k37 => k_is)
    (case a38 => k_is)
    (case l38 => k_is)
    (case c38 => k_is)
    (case k38 => k_is)
    (case a39 => k_is)
    (case l39 => k_is)
    (case c39 => k_is)
    (case k39 => k_is)
    (case a40 => k_is)
    (case l40 => k_is)
    (case c40 => k_is)
    (case k40 => k_is)
    (case a41 => k_is)
    (case l41 => k_is)
    (case c41 => k_is)
    (case k41 => k_is)
    (case q41 => k_is)
    (case v41 => rfl)
    (case n41 => rfl)
    (case a42 => k_is)
    (case l42 => k_is)
    (case c42 => k_is)
    (case k42 => k_is)
    (case a43 => k_is)
    (case l43 => k_is)
    (case c43 => k_is)
    (case k43 => k_is)
    (case a44 => k_is)
    (case l44 => k_is)
    (case c44 => k_is)
    (case k44 => k_is)
    (case q44 => k_is)
    (case v44 => rfl)
    (case n44 => rfl)
    (case a45 => k_is)
    (case l45 => k_is)
    (case c45 => k_is)
    (case k45 => k_is)
    (case a46 => k_is)
    (case l46 => k_is)
    (case c46 => k_is)
    (case k46 => k_is)
    (case a48 => k_is)
    (case l48 => k_is)
    (case c48 => k_is)
    (case k48 => k_is)
    (case a49 => k_is)
    (case l49 => k_is)
    (case c49 => k_is)
    (case k49 => k_is)
    (case a50 => k_is)
    (case l50 => k_is)
    (case c50 => k_is)
    (case k50 => k_is)
    (case a51 => k_is)
    (case l51 => k_is)
    (case c51 => k_is)
    (case k51 => k_is)
    (case a52 => k_is)
    (case l52 => k_is)
    (case c52 => k_is)
    (case k52 => k_is)
    (case a54 => k_is)
    (case l54 => k_is)
    (case c54 => k_is)
    (case k54 => k_is)
    (case a55 => k_is)
    (case l55 => k_is)
    (case c55 => k_is)
    (case k55 => k_is)
    (case a56 => k_is)
    (case l56 => k_is)
    (case c56 => k_is)
    (case k56 => k_is)
    (case a57 => k_is)
    (case l57 => k_is)
    (case c57 => k_is)
    (case k57 => k_is)
    (case a58 => k_is)
    (case l58 => k_is)
    (case c58 => k_is)
    (case k58 => k_is)
    (case a59 => k_is)
    (case l59 => k_is)
    (case c59 => k_is)
    (case k59 => k_is)
    (case a60 => k_is)
    (case l60 => k_is)
    (case c60 => k_is)
    (case k60 => k_is)
    (case a61 => k_is)
    (case l61 => k_is)
    (case c61 => k_is)
    (case k61 => k_is)
    (case a62 => k_is)
    (case l62 => k_is)
    (case c62 => k_is)
    (case k62 => k_is)
    (case a63 => k_is)
    (case l63 => k_is)
    (case c63 => k_is)
    (case k63 => k_is)
    (case z_len => k_is)
    (case z_range => k_is)
    (case z_isinstance => k_is)
    (case z_int => k_is)
    (case z_bool => k_is)
    (case z_tuple => k_is)
    (case z_list => k_is)
    (case z_str => k_is)
    (case z_enumerate => k_is)
    (case z_sorted => k_is)
    (case z_all => k_is)
    (case z_any => k_is)
    (case z_sum => k_is)
    (case z_zip => k_is)
    (case z_min => k_is)
    (case z_max => k_is)
    (case z_abs => k_is)
    (case m_MOST_NODES => k_is)
    (case m_MOST_ROADS => k_is)
    (case m_MOST_PLAYERS => k_is)
    (case m_MOST_COST => k_is)
    (case m_MOST_CHOICES => k_is)
    (case m_MOST_STATES => k_is)
    (case m_gcd => k_is)
