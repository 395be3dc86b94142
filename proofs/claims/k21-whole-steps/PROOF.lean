import PyProof.Rows.All
import Wide.All
import OpenK.AllK
import Wide.FinOn
import HandS.ForMost
import HandS.AnyAll
import HandS.GenOver
import HandS.GenList
import PyProof.Rows.SeqGen
import PyProof.Rows.SeqCalls
import HandS.Wide
import HandS.Gcd
import HandS.Style
import HandS.Conv
import HandS.CallLocal
import HandS.DictComp
import HandS.Walk
import HandS.Evl
import PySem.Challenge.RW_bestodds_k21_whole_steps_come_closer
import PyProof.P3Statements
import HandS.Dict
import HandS.EndBits
import HandS.EndOwn
set_option Elab.async false
set_option linter.all false
set_option maxRecDepth 100000
set_option maxHeartbeats 4000000
/-! any(..), all(..), sum(..) of a generator expression over a list or a tuple of pairs; the element may call defs. -/
namespace BO
open PySem PySem.Spec PyProof.Rows L2 GenW

/-- a code object's table, whatever it holds -/
def TabO (P : Addr) : HO := .ext fun h => ∃ ps : Array Value, h.get? P = some { cls := .none, data := .fields ps } ∧ TriplesOk ps.toList
theorem upd_id {H : Hp} {P : Addr} {o : HO} (h : H P = some o) : upd H P o = H := by
  funext b
  by_cases e : b = P
  · rw [e, upd_same, h]
  · rw [upd_ne e]
section
variable {X : Cx} {pins : List (Addr × Obj)} {σ : L2.St} {H : Hp} {s : Shared}
theorem tabO_ok {P : Addr} {h' : Heap} {ps : Array Value} (hm : h'.get? P = some { cls := .none, data := .fields ps }) (ht : TriplesOk ps.toList) {H' : Hp} : ObjOk X.prog X.w H' h' P (TabO P) :=
  ⟨⟨ps, hm, ht⟩, ⟨_, hm⟩, fun h1 h2 ⟨ps', e, t⟩ st => ⟨ps', st _ e, t⟩⟩
theorem inv_tabO {P : Addr} {ps' : Array Value} {h' : Heap} {t' : Nat} (I : Inv X pins σ H s) (hP : H P = some (TabO P)) (k : ∀ b o, b ≠ P → s.heap.get? b = some o → h'.get? b = some o)
    (hm : h'.get? P = some { cls := .none, data := .fields ps' }) (ht : TriplesOk ps'.toList) : Inv X pins σ H { s with heap := h', toks := t' } := by
  have J := I.write (x := P) (e := P) (o := TabO P) (h' := h') (t' := t') (by rw [hP]; trivial) (.inl rfl) k ⟨_, hm⟩ (tabO_ok hm ht)
  rw [upd_id hP] at J
  exact J
end

/-- the running generator expression's context -/
def gxCx (X : Cx) (A' : Around) (s : Shared) (H : Hp) (N : List Str) (env : Env) (fp : List Addr) : Cx :=
  { X with A := A', N := N, s_0 := s, H_0 := H, env := env, outer := X.stack, stack := env :: X.stack, ex := fp, fn := fun _ => false, pn := [], xe := fun _ _ => False }
/-- its two own names, then captured ones with their places in the def -/
structure GxS (XN : List Str) (sc scope : Scope) (xa xb : Str) (Nr : List Str) (cap : List Nat) : Prop where
  kind : scope.kind = .function
  co : scope.isCoroutine = false
  cell : ∀ y ∈ scope.names, y.2 ≠ .cell
  dot : scope.names.lookup (".0" : Str) = some NameKind.local
  la : scope.names.lookup xa = some .local
  lb : scope.names.lookup xb = some .local
  free : ∀ y ∈ scope.names, y.2 = .free → sc.names.lookup y.1 = some .cell ∨ sc.names.lookup y.1 = some .free
  len : cap.length = Nr.length
  at_ : ∀ (j : Nat) (x : Str) (i : Nat), Nr[j]? = some x → cap[j]? = some i → XN[i]? = some x ∧ scope.names.lookup x = some .free
  nd : (xa :: xb :: Nr).Nodup
def capS (σ : L2.St) (cap : List Nat) : L2.St := cap.map fun i => (σ[i]?).getD none
theorem capS_some {σ : L2.St} {cap : List Nat} {j : Nat} {v : V} (h : (capS σ cap)[j]? = some (some v)) : ∃ i, cap[j]? = some i ∧ σ[i]? = some (some v) := by
  unfold capS at h
  rw [List.getElem?_map] at h
  cases e : cap[j]? with
  | none => rw [e] at h; cases h
  | some i =>
    rw [e] at h
    refine ⟨i, rfl, ?_⟩
    have h2 : (σ[i]?).getD none = some v := Option.some.inj h
    cases q : σ[i]? with
    | none => rw [q] at h2; cases h2
    | some o => rw [q] at h2; exact congrArg some h2
section
variable {X : Cx} {pins : List (Addr × Obj)} {σ : L2.St} {H : Hp} {s : Shared}
theorem stk_lt (I : Inv X pins σ H s) {a : Addr} (h : s.heap.objs.size ≤ a) : a ∉ frs X.stack := fun hb => by
  rcases List.mem_cons.mp (I.stkSub a hb) with z | z
  · exact absurd (Nat.lt_of_lt_of_le I.lt h) (by rw [z]; exact Nat.lt_irrefl _)
  · exact I.nofs h z
theorem gx_start {scope : Scope} {xa xb : Str} {Nr : List Str} {cap : List Nat} {fp : List Addr} {A' : Around} {code : Value} {it : Value} {a : Addr} {gobj : Obj} {s5 : Shared}
    (I : Inv X pins σ H s) (S : GxS X.N X.env.scope scope xa xb Nr cap) (hfp : ∀ b ∈ fp, FpOk X pins H b ∧ b < s.heap.objs.size)
    (hfr : A'.frames = some (genEnv scope (cloFrom X.env.cells scope.names []) s.heap.objs.size code builtinsNs X.env :: X.stack)) (hhd : A'.handled = none)
    (os5 : s5.os = s.os) (bare5 : AllBare s5.gens) (kp : ∀ b o, s.heap.get? b = some o → s5.heap.get? b = some o)
    (hns : s5.heap.Ns s.heap.objs.size (fun y => if y = (".0" : Str) then some it else none)) (ha : s.heap.objs.size < a) (hga : s5.heap.get? a = some gobj) (hgd : ∀ v, gobj.data ≠ .cell v) :
    Inv (gxCx X A' s H (xa :: xb :: Nr) (genEnv scope (cloFrom X.env.cells scope.names []) s.heap.objs.size code builtinsNs X.env) fp) [(a, gobj)] (none :: none :: capS σ cap) H s5 := by
  have hfree : ∀ y ∈ scope.names, y.2 = .free → ∃ c, X.env.cells.lookup y.1 = some c := fun y hy e => by
    rcases S.free y hy e with k | k
    · exact I.ok.has _ (.inl k)
    · exact I.ok.has _ (.inr k)
  generalize hce : genEnv scope (cloFrom X.env.cells scope.names []) s.heap.objs.size code builtinsNs X.env = cenv at hfr
  have hL : cenv.locals = s.heap.objs.size := by rw [← hce]; rfl
  have hcl : cenv.cells = cloFrom X.env.cells scope.names [] := by rw [← hce]; rfl
  have hsc : cenv.scope = scope := by rw [← hce]; rfl
  have cm : ∀ {y c}, cenv.cells.lookup y = some c → X.env.cells.lookup y = some c ∧ c < s.heap.objs.size := fun {y c} e => by
    rw [hcl] at e
    rcases cloFrom_mem (PySem.mem_of_lookup e) with hm | ⟨h1, rfl⟩
    · cases hm
    · obtain ⟨c, hc⟩ := hfree _ h1 rfl
      rw [hc]
      obtain ⟨w, z⟩ := I.cell _ _ hc
      exact ⟨rfl, z.lt⟩
  have look : ∀ {y}, scope.names.lookup y = some .free → ∃ c, cenv.cells.lookup y = some c ∧ X.env.cells.lookup y = some c := fun {y} hl => by
    have hy : (y, NameKind.free) ∈ scope.names := PySem.mem_of_lookup hl
    obtain ⟨c', e'⟩ := mem_lookup (cloFrom_has (cells := X.env.cells) (acc := []) hy)
    rw [← hcl] at e'
    exact ⟨c', e', (cm e').1⟩
  have ok5 : (gxCx X A' s H (xa :: xb :: Nr) cenv fp).Ok := by
    refine ⟨I.ok.mod, ?_, ?_, ?_, ?_, fun y z c e1 e2 => I.ok.inj y z c (cm e1).1 (cm e2).1, fun y hy => ?_, fun y c z e => ?_, fun _ => hhd, hfr, .inr ⟨rfl, ?_⟩, fun b hb => ⟨?_, fun y c e z => ?_⟩,
      I.bs, Nat.le_trans I.ok.bsz I.sz, fun b o e hb => ?_, fun b hb z => ?_, I.stack, I.stkFree⟩
    · show cenv.scope.kind = _
      rw [hsc]; exact S.kind
    · show cenv.globals = _
      rw [← hce]; exact I.ok.glob
    · show cenv.builtins = _
      rw [← hce]; rfl
    · show s.heap.objs.size ≤ cenv.locals
      rw [hL]; exact Nat.le_refl _
    · have hy' : cenv.scope.names.lookup y = some .cell ∨ cenv.scope.names.lookup y = some .free := hy
      rw [hsc] at hy'
      rcases hy' with q | q
      · exact absurd rfl (S.cell _ (PySem.mem_of_lookup q))
      · obtain ⟨c, h1, _⟩ := look q
        exact ⟨c, h1⟩
    · cases z
    · show cenv.frame = some cenv.locals
      rw [← hce]; rfl
    · show b ≠ cenv.locals
      rw [hL]; exact Nat.ne_of_lt (hfp b hb).2
    · exact (hfp b hb).1.2.2.2.2.1 y c (cm e).1 z
    · rcases (hfp b hb).1.2.2.2.1 with z | z
      · exact I.ok.noex b o e z
      · exact absurd (Nat.lt_of_lt_of_le (Heap.lt_size e) (Nat.le_trans I.ok.bsz z)) (Nat.lt_irrefl _)
    · rcases List.mem_cons.mp (I.stkSub b z) with z | z
      · exact (hfp b hb).1.2.1 z
      · exact (hfp b hb).1.2.2.1 z
  refine ⟨ok5, os5, bare5, Un.kept kp, ⟨_, by show Heap.Ns _ cenv.locals _; rw [hL]; exact hns, fun i y v e1 e2 e3 => ?_⟩, fun y c e => ?_, ?_, fun y c e => ?_, fun p hp => ?_, I.hok.kept kp, ?_⟩
  · match i, e1, e2 with
    | 0, _, e2 => cases e2
    | 1, _, e2 => cases e2
    | j + 2, e1, e2 =>
      obtain ⟨i', c1, c2⟩ := capS_some (show (capS σ cap)[j]? = some (some v) from e2)
      obtain ⟨hx, hfr'⟩ := S.at_ j y i' (show Nr[j]? = some y from e1) c1
      obtain ⟨c, h1, h2⟩ := look hfr'
      have hvis : Vis X.env.scope y := (S.free _ (PySem.mem_of_lookup hfr') rfl).elim (fun k => .inr (.inl k)) (fun k => .inr (.inr k))
      obtain ⟨m, hn, hl⟩ := I.loc
      obtain ⟨u, r, q⟩ := hl i' y v hx c2 hvis
      refine ⟨u, r, .inr ⟨.inr (by show cenv.scope.names.lookup y = _; rw [hsc]; exact hfr'), c, h1, ?_⟩⟩
      rcases q with ⟨k, _⟩ | ⟨_, c', e', z⟩
      · have k : X.env.scope.names.lookup y = some .local := k
        rcases S.free _ (PySem.mem_of_lookup hfr') rfl with k' | k' <;> rw [show X.env.scope.names.lookup y = _ from k'] at k <;> cases k
      · rw [h2] at e'; cases e'
        exact z.keeps kp
  · obtain ⟨w, z⟩ := I.cell y c (cm e).1
    exact ⟨w, z.keeps kp⟩
  · show H cenv.locals = none
    rw [hL]; exact I.hok.fresh (Nat.le_refl _)
  · exact I.freeC y c (cm e).1
  · have hp' : p ∈ [(a, gobj)] := hp
    rw [List.mem_singleton.mp hp']
    refine ⟨hga, I.hok.fresh (Nat.le_of_lt ha), ?_, stk_lt I (Nat.le_of_lt ha), hgd⟩
    show a ≠ cenv.locals
    rw [hL]; exact Nat.ne_of_gt ha
  · show (none :: none :: capS σ cap).length = (xa :: xb :: Nr).length
    unfold capS
    simp [S.len]
end
end BO

namespace BO
open PySem PySem.Spec PyProof.Rows L2 GenW
theorem over_gxL {A : Around} {elt : Expr} {gs : List Comprehension} {scope : Scope} {pos : Pos} {it acc : Value} {env : Env} :
    A.over (.compLoop (.GeneratorExp elt gs scope pos) 0 it acc env) [] = A.deeper env := by
  first
    | rfl
    | (obtain ⟨hd, d, fr, gg, u⟩ := A; simp [Around.over, Around.deeper, marksOver, frameCount, unitsOf, envsOf, guardsOf, pushEnvs, pushGuards, Code.envs, Code.env?, Code.isFrame, Code.guards, Code.isGuard, Code.weight, Code.frames, Code.isCreation, Code.isCaller, Code.cUnits])
theorem over_gxS {A : Around} {elt : Expr} {gs : List Comprehension} {scope : Scope} {pos : Pos} {it acc : Value} {env : Env} :
    A.over (.compStart (.GeneratorExp elt gs scope pos) 0 it acc env) [] = A.deeper env := by
  first
    | rfl
    | (obtain ⟨hd, d, fr, gg, u⟩ := A; simp [Around.over, Around.deeper, marksOver, frameCount, unitsOf, envsOf, guardsOf, pushEnvs, pushGuards, Code.envs, Code.env?, Code.isFrame, Code.guards, Code.isGuard, Code.weight, Code.frames, Code.isCreation, Code.isCaller, Code.cUnits])

/-- what the consumer may have done while the generator slept: its own objects at ps alone -/
structure Slp (ps : List Addr) (s s' : Shared) : Prop where
  os : s'.os = s.os
  bare : AllBare s'.gens
  keep : ∀ b o, b ∉ ps → s.heap.get? b = some o → s'.heap.get? b = some o
  there : ∀ b ∈ ps, ∃ o, s'.heap.get? b = some o ∧ ∀ v, o.data ≠ .cell v
/-- the consumer's objects: younger than the generator's frame, none of the generator's things -/
structure PsOk (X : Cx) (a : Addr) (fp ps : List Addr) : Prop where
  young : ∀ b ∈ ps, X.s_0.heap.objs.size ≤ b
  loc : ∀ b ∈ ps, b ≠ X.env.locals
  cell : ∀ b ∈ ps, ∀ x c, X.env.cells.lookup x = some c → c ≠ b
  gen : ∀ b ∈ ps, a ≠ b
  fp : ∀ b ∈ ps, b ∉ fp
section
variable {X : Cx} {σ : L2.St} {H : Hp} {s s' : Shared} {a : Addr} {gobj : Obj} {fp ps : List Addr}
/-- the generator's state between two turns -/
def Gst (X : Cx) (a : Addr) (gobj : Obj) (ps : List Addr) (σ : L2.St) (H : Hp) (s : Shared) : Prop :=
  Inv X ((a, gobj) :: pinsAt ps s.heap) σ H s ∧ (∀ b ∈ ps, H b = none ∧ ∃ o, s.heap.get? b = some o ∧ ∀ v, o.data ≠ .cell v)
theorem Gst.slept (hpn : X.pn = []) (hP : PsOk X a fp ps) (hps : ∀ b ∈ ps, b ∉ X.fs) (h : Gst X a gobj ps σ H s) (z : Slp ps s s') : Gst X a gobj ps σ H s' := by
  obtain ⟨I, hb⟩ := h
  obtain ⟨z1, z2, z3, z4⟩ := z
  have I0 : Inv X [(a, gobj)] σ H s := I.pins_of fun p hp => I.pin p (List.mem_append_right _ (by rw [List.mem_singleton.mp hp]; exact List.mem_cons_self))
  have nt : ∀ b u, H b = some u → b ∉ ps := fun b u q hm => by rw [(hb b hm).1] at q; cases q
  obtain ⟨hh, g, d, t, o⟩ := s'
  have ho : o = s.os := z1
  subst ho
  have J : Inv X [(a, gobj)] σ H { s with heap := hh, gens := g, drawn := d, toks := t } := by
    refine I0.step (g' := g) (t' := t) (d' := d) (ch := ps) (fun b hm => ⟨.inr (hP.young b hm), hP.loc b hm, hP.cell b hm, fun p hp => ?_⟩)
      (fun b ob _ _ hc q _ => z3 b ob hc q) (fun b ob _ _ hc q _ => ⟨ob.slots, z3 b ob hc q⟩) (fun _ _ _ _ n => n) (fun b ob hc q => ⟨ob, z3 b ob hc q⟩)
      (fun _ _ q => q) (fun _ _ _ q => q) (fun b ps q => ⟨#[], by rw [q]; simp⟩) (fun m hm => ?_) (fun b u q => ?_) z2
    · rw [hpn] at hp
      have hp' : p ∈ [(a, gobj)] := hp
      rw [List.mem_singleton.mp hp']
      exact hP.gen b hm
    · obtain ⟨ob, es, ep, ho, r⟩ := hm
      exact ⟨ob, es, ep, z3 _ ob (fun hm => hP.loc _ hm rfl) ho, r⟩
    · refine (I0.hok b u q).stay (fun c v hc y => z3 c v ?_ y) (fun _ y => y) fun _ _ y => y
      rcases hc with y | y
      · rw [y]; exact nt b u q
      · exact nt c _ y
  refine ⟨J.pins_of fun p hp => ?_, fun b hm => ⟨(hb b hm).1, z4 b hm⟩⟩
  rcases List.mem_cons.mp hp with hp | hp
  · rw [hp]
    exact J.pin (a, gobj) (List.mem_append_right _ List.mem_cons_self)
  · obtain ⟨hm, e⟩ := of_pinsAt hp
    obtain ⟨o, e2, d2⟩ := z4 p.1 hm
    have e2 : hh.get? p.1 = some o := e2
    have e : hh.get? p.1 = some p.2 := e
    rw [e] at e2
    cases e2
    exact ⟨e, (hb p.1 hm).1, hP.loc _ hm, hps _ hm, d2⟩
end

/-- the reading: L turns; W between the turns, C what the consumer makes of a turn's value -/
def GxR (K : PySem.W.Frag) (te : TE) (L : Nat) (σ0 : L2.St) (J : It) (W : Nat → Hp → Prop) (C : Nat → V → Hp → Prop) : Prop :=
  ∀ i H, W i H → (i = L ∧ J.stop i H) ∨ (i < L ∧ J.go i H ∧ ∀ x H', J.yld i H x H' → ∃ t va vb, x = .ref t ∧ SqT K H' t [va, vb] ∧ te (some va :: some vb :: σ0) H' (C i))
def GxEnd (X : Cx) (a : Addr) (gobj : Obj) (ps : List Addr) (σ0 : L2.St) (L : Nat) (W : Nat → Hp → Prop) : GenEnd := fun n s₀ r s =>
  r = .ok .next ∧ (n = 1 ∧ ∃ H', Gst X a gobj ps (none :: none :: σ0) H' s ∧ W L H' ∧ ∀ b ∈ ps, s.heap.get? b = s₀.heap.get? b)
def GxYl (X : Cx) (a : Addr) (gobj : Obj) (ps : List Addr) (σ0 : L2.St) (L : Nat) (W : Nat → Hp → Prop) (C : Nat → V → Hp → Prop) : Protocol := fun n s₀ v s kap =>
  ∃ i y H', n + i = L ∧ i < L ∧ RelV y v ∧ Gst X a gobj ps (none :: none :: σ0) H' s ∧ C i y H' ∧ (∀ b ∈ ps, s.heap.get? b = s₀.heap.get? b) ∧ (W (i + 1) H' → ∀ s', Slp ps s s' → kap (.send .none) s')

section
variable {X : Cx} {A : Around} {a : Addr} {gobj : Obj} {fp ps : List Addr} {σ0 : L2.St} {L : Nat} {W : Nat → Hp → Prop} {C : Nat → V → Hp → Prop} {J : It} {tn : Nat → Heap → Prop} {it : Addr} {te : TE}
  {elt iter : Expr} {xa xb : Str} {pa pb pt : Pos} {kt : Nat} {scope : Scope} {pos : Pos}
theorem thnX {α : Type} {t : Sem α} {Q Q' : α → Shared → Prop} {E : Value → Shared → Prop} {M : Model} {B : Around} {s : Shared} (h : wpAny M B t Q (fun _ _ => False) s) (hQ : ∀ a s, Q a s → Q' a s) : wpAny M B t Q' E s := wpAny_mono h hQ fun _ _ z => False.elim z
theorem seg_gx (hA : A.deeper X.env = X.A) (hpn : X.pn = []) (hxe : X.xe = fun _ _ => False) (hc : X.calm = true) (hsc : X.env.scope = scope) (hco : scope.isCoroutine = false) (hex : X.ex = fp)
    (hN0 : X.N[0]? = some xa) (hN1 : X.N[1]? = some xb) (hN : X.N.Nodup) (hla : scope.names.lookup xa = some .local) (hlb : scope.names.lookup xb = some .local)
    (hP : PsOk X a fp ps) (hps : ∀ b ∈ ps, b ∉ X.fs) (hfa : ∀ b ∈ fp, a ≠ b)
    (T : Turn X.prog X.w X.K (.Tuple [.Name xa pa, .Name xb pb] kt pt) J fp it tn) (he : PE X elt te) (hR : GxR X.K te L σ0 J W C) :
    ∀ (n i : Nat) (s₀ s : Shared) (H : Hp), n + i = L + 1 → W i H → Gst X a gobj ps (none :: none :: σ0) H s → tn i s.heap → (∀ b ∈ fp, H b = none) → (∀ b ∈ ps, s.heap.get? b = s₀.heap.get? b) →
      Seg (model X.prog X.w) A (GxEnd X a gobj ps σ0 L W) (GxYl X a gobj ps σ0 L W C) n s₀ (.compLoop (.GeneratorExp elt [⟨.Tuple [.Name xa pa, .Name xb pb] kt pt, iter, [], 0⟩] scope pos) 0 (.ref it) .none X.env)
        ((model X.prog X.w).den (.compLoop (.GeneratorExp elt [⟨.Tuple [.Name xa pa, .Name xb pb] kt pt, iter, [], 0⟩] scope pos) 0 (.ref it) .none X.env)) [] s := by
  have hov : A.over (.compLoop (.GeneratorExp elt [⟨.Tuple [.Name xa pa, .Name xb pb] kt pt, iter, [], 0⟩] scope pos) 0 (.ref it) .none X.env) [] = X.A := over_gxL.trans hA
  intro n
  induction n with
  | zero =>
    intro i s₀ s H hn w hG st nf hsame
    exfalso
    rcases hR i H w with ⟨h1, _⟩ | ⟨h1, _⟩ <;> omega
  | succ n ih =>
    intro i s₀ s H hn w hG st nf hsame
    have stat : ∀ {pins : List (Addr × Obj)} {σ' : L2.St} {H' : Hp} {s' : Shared}, Inv X pins σ' H' s' → (∀ p ∈ pins, p.1 ∉ fp) → (∀ b ∈ fp, H' b = none) → ∀ b ∈ fp, FpOk X pins H' b := fun {pins σ' H' s'} I' hpi hn b hb =>
      ⟨hn b hb, (I'.ok.exf b (by rw [hex]; exact hb)).1, I'.ok.exfs b (by rw [hex]; exact hb), .inl (by rw [hex]; exact hb), fun x c e => (I'.ok.exf b (by rw [hex]; exact hb)).2 x c e, fun p hp z => by
        rw [hpn] at hp
        exact hpi p hp (by rw [z]; exact hb)⟩
    have pinfp : ∀ {h : Heap}, ∀ p ∈ (a, gobj) :: pinsAt ps h, p.1 ∉ fp := fun {h} p hp hm => by
      rcases List.mem_cons.mp hp with z | z
      · rw [z] at hm
        exact hfa a hm rfl
      · exact hP.fp p.1 (of_pinsAt z).1 hm
    show Seg _ A _ _ _ s₀ _ ((compTurn (.GeneratorExp elt [⟨.Tuple [.Name xa pa, .Name xb pb] kt pt, iter, [], 0⟩] scope pos) 0 (.ref it) .none X.env).onRaise (leaving X.env)) [] s
    rw [compTurn_gen, Sem.onRaise_eq_wrap]
    refine seg_bind_wrap (wpAny_standAt ?_)
    obtain ⟨I, hpb⟩ := hG
    rcases hR i H w with ⟨hi, stop⟩ | ⟨hi, go, step⟩
    · refine seg_bind_wrap ?_
      rw [hov]
      refine thnX (T.done X rfl rfl rfl hc i _ s _ H (fun _ _ => False) I (stat I pinfp nf) st stop) fun r s6 ⟨hr, I6⟩ => ?_
      subst hr
      have keep6 : ∀ b ∈ ps, s6.heap.get? b = s.heap.get? b := fun b hb => by
        obtain ⟨o, e, _⟩ := (hpb b hb).2
        rw [e]
        exact (I6.pin (b, o) (List.mem_append_right _ (List.mem_cons_of_mem _ (mem_pinsAt hb e)))).1
      refine seg_end (.ok .next) ⟨rfl, by omega, H, ⟨I6.pins_of fun p hp => ?_, fun b hb => ⟨(hpb b hb).1, by rw [keep6 b hb]; exact (hpb b hb).2⟩⟩, by rw [← hi]; exact w, fun b hb => (keep6 b hb).trans (hsame b hb)⟩
      rcases List.mem_cons.mp hp with hp | hp
      · rw [hp]
        exact I6.pin (a, gobj) (List.mem_append_right _ List.mem_cons_self)
      · obtain ⟨hm, e⟩ := of_pinsAt hp
        rw [keep6 p.1 hm] at e
        exact I6.pin p (List.mem_append_right _ (List.mem_cons_of_mem _ (mem_pinsAt hm e)))
    · refine seg_bind_wrap ?_
      rw [hov]
      refine thnX (T.item X rfl rfl rfl hc i _ s _ H (fun _ _ => False) I (stat I pinfp nf) st go) fun r s6 ⟨u, hr, h6⟩ => ?_
      subst hr
      refine seg_bind_wrap ?_
      rw [hov]
      refine thnX h6 fun _ s7 ⟨x, H7, I7, r7, y7, st7, n7⟩ => ?_
      obtain ⟨t, va, vb, ex, hT, q7⟩ := step x H7 y7
      have I7' := I7.pinned (stat I7 pinfp n7) (T.obj _ _ st7)
      refine seg_bind_wrap ?_
      rw [hov]
      have pg : PG X (.Tuple [.Name xa pa, .Name xb pb] kt pt) (gTup X.K 2 (gCons (gName 0) (gCons (gName 1) gNil))) :=
        pg_tup hc (pgs_cons (pg_name (i := 0) hN hN0 (.inl (by rw [hsc]; exact hla)) (.inr (by rw [hsc]; exact hla))) (pgs_cons (pg_name (i := 1) hN hN1 (.inl (by rw [hsc]; exact hlb)) (.inr (by rw [hsc]; exact hlb))) pgs_nil))
      have q8 := pg.run _ s7 _ H7 x u (fun σ' H' => σ' = some va :: some vb :: σ0 ∧ H' = H7) I7' r7 ⟨t, [va, vb], ex, hT, rfl, va, [vb], rfl, vb, [], rfl, rfl, rfl, rfl⟩
      rw [hxe] at q8
      refine thnX q8 fun _ s8 ⟨σ8, H8, I8, e8, e8'⟩ => ?_
      subst e8 e8'
      refine seg_bind_wrap ?_
      rw [hov, List.forIn_nil]
      refine wpAny_pure ?_
      simp only [if_true]
      have hy : ∀ v, yieldOut X.env v = yieldValue v := fun v => by simp only [yieldOut, hsc, hco, Bool.false_eq_true, if_false]
      simp only [hy]
      rw [Sem.bind_eq_wrap', Sem.bind_eq_wrap', Sem.wrap_wrap, Sem.wrap_wrap]
      refine seg_wrap ?_
      rw [hov]
      have q9 := he.run _ s8 _ H8 _ I8 q7
      rw [hxe] at q9
      refine thnX q9 fun w9 s9 ⟨y, H9, I9, r9, c9⟩ => ?_
      have keepP : ∀ b ∈ ps, s9.heap.get? b = s.heap.get? b := fun b hb => by
        obtain ⟨o, e, _⟩ := (hpb b hb).2
        rw [e]
        exact (I9.pin (b, o) (List.mem_append_right _ (List.mem_append_left _ (List.mem_cons_of_mem _ (mem_pinsAt hb e))))).1
      have G9 : Gst X a gobj ps (none :: none :: σ0) H9 s9 := by
        refine ⟨(I9.weak (σ' := none :: none :: σ0) rfl fun j v e => ?_).pins_of fun p hp => ?_, fun b hb => ?_⟩
        · match j, e with
          | 0, e => cases e
          | 1, e => cases e
          | j + 2, e => exact e
        · rcases List.mem_cons.mp hp with hp | hp
          · rw [hp]
            exact I9.pin (a, gobj) (List.mem_append_right _ (List.mem_append_left _ List.mem_cons_self))
          · obtain ⟨hm, e⟩ := of_pinsAt hp
            rw [keepP p.1 hm] at e
            exact I9.pin p (List.mem_append_right _ (List.mem_append_left _ (List.mem_cons_of_mem _ (mem_pinsAt hm e))))
        · obtain ⟨o, e, d⟩ := (hpb b hb).2
          exact ⟨(I9.pin (b, o) (List.mem_append_right _ (List.mem_append_left _ (List.mem_cons_of_mem _ (mem_pinsAt hb e))))).2.1, o, by rw [keepP b hb]; exact e, d⟩
      have fpin : ∀ b ∈ fp, ∀ o, s7.heap.get? b = some o → s9.heap.get? b = some o ∧ H9 b = none := fun b hb o e =>
        let z := I9.pin (b, o) (List.mem_append_right _ (List.mem_append_right _ (mem_pinsAt hb e)))
        ⟨z.1, z.2.1⟩
      have st9 : tn (i + 1) s9.heap := T.keep _ _ _ st7 fun b hb o e => (fpin b hb o e).1
      have n9 : ∀ b ∈ fp, H9 b = none := fun b hb => by
        obtain ⟨o, e, _⟩ := T.obj _ _ st7 b hb
        exact (fpin b hb o e).2
      refine seg_at (seg_yield rfl rfl rfl ?_)
      refine ⟨i, y, H9, by omega, hi, r9, G9, c9, fun b hb => (keepP b hb).trans (hsame b hb), fun w' s'' z => ?_⟩
      refine seg_again rfl (ih (i + 1) s'' s'' H9 (by omega) w' (G9.slept hpn hP hps z) (T.keep _ _ _ st9 fun b hb o e => z.keep b o (fun hm => hP.fp b hm hb) e) n9 fun _ _ => rfl)
end
end BO

namespace BO
open PySem PySem.Spec PyProof.Rows L2 GenW
section
variable {X : Cx} {A : Around} {a : Addr} {gobj : Obj} {fp ps : List Addr} {σ0 : L2.St} {L : Nat} {W : Nat → Hp → Prop} {C : Nat → V → Hp → Prop} {J : It} {tn : Nat → Heap → Prop} {it : Addr} {te : TE}
  {elt iter : Expr} {xa xb : Str} {pa pb pt : Pos} {kt : Nat} {scope : Scope} {pos : Pos}
theorem seg_gxS (hA : A.deeper X.env = X.A) (hpn : X.pn = []) (hxe : X.xe = fun _ _ => False) (hc : X.calm = true) (hsc : X.env.scope = scope) (hco : scope.isCoroutine = false) (hex : X.ex = fp)
    (hN0 : X.N[0]? = some xa) (hN1 : X.N[1]? = some xb) (hN : X.N.Nodup) (hla : scope.names.lookup xa = some .local) (hlb : scope.names.lookup xb = some .local)
    (hP : PsOk X a fp ps) (hps : ∀ b ∈ ps, b ∉ X.fs) (hfa : ∀ b ∈ fp, a ≠ b)
    (T : Turn X.prog X.w X.K (.Tuple [.Name xa pa, .Name xb pb] kt pt) J fp it tn) (he : PE X elt te) (hR : GxR X.K te L σ0 J W C)
    (s₀ : Shared) (H : Hp) (w : W 0 H) (hG : Gst X a gobj ps (none :: none :: σ0) H s₀) (st : tn 0 s₀.heap) (nf : ∀ b ∈ fp, H b = none) :
      Seg (model X.prog X.w) A (GxEnd X a gobj ps σ0 L W) (GxYl X a gobj ps σ0 L W C) (L + 1) s₀ (.compStart (.GeneratorExp elt [⟨.Tuple [.Name xa pa, .Name xb pb] kt pt, iter, [], 0⟩] scope pos) 0 (.ref it) .none X.env)
        ((model X.prog X.w).den (.compStart (.GeneratorExp elt [⟨.Tuple [.Name xa pa, .Name xb pb] kt pt, iter, [], 0⟩] scope pos) 0 (.ref it) .none X.env)) [] s₀ := by
  have loop := seg_gx (iter := iter) (pos := pos) hA hpn hxe hc hsc hco hex hN0 hN1 hN hla hlb hP hps hfa T he hR (L + 1) 0 s₀ s₀ H rfl w hG st nf fun _ _ => rfl
  show Seg _ A _ _ _ s₀ _ ((compStart (.GeneratorExp elt [⟨.Tuple [.Name xa pa, .Name xb pb] kt pt, iter, [], 0⟩] scope pos) 0 (.ref it) .none X.env).onRaise (leaving X.env)) [] s₀
  unfold compStart
  rw [Sem.onRaise_eq_wrap]
  show Seg _ A _ _ _ s₀ _ ((ask >>= _).wrap _ _ _ _) [] s₀
  refine seg_bind_wrap (wpAny_askSetting ?_)
  split
  · exact seg_again rfl loop
  · first
      | exact seg_bind_wrap (wpAny_rule (seg_bind_wrap (wpAny_standAt (seg_bind_wrap (T.self _ 0 s₀ _ _ st (seg_again rfl loop))))))
      | (refine seg_bind_wrap (wpAny_rule ?_); show Seg _ A _ _ _ s₀ _ ((standAt iter.pos >>= _).wrap _ _ _ _) [] s₀; exact seg_bind_wrap (wpAny_standAt (seg_bind_wrap (T.self _ 0 s₀ _ _ st (seg_again rfl loop)))))
end

/-- the generator at a in the state s5: what its consumer may do with it -/
structure Ready (X : Cx) (pins : List (Addr × Obj)) (σ : L2.St) (σ0 : L2.St) (L : Nat) (W : Nat → Hp → Prop) (C : Nat → V → Hp → Prop) (a : Addr) (s5 : Shared) (X' : Cx) (gobj : Obj) (g : Nat) : Prop where
  gen : s5.heap.IsGen a g
  lim : s5.heap.NoLimit
  lt : a < s5.heap.objs.size
  bare : AllBare s5.gens
  isg : ∀ h : Heap, h.get? a = some gobj → h.IsGen a g
  go : ∃ gs, s5.gens[g]? = some gs ∧ ∀ (ps : List Addr) (s'' : Shared), (∀ b ∈ ps, s5.heap.objs.size ≤ b) → Slp ps s5 s'' →
    gs.Goes (model X.prog X.w) X.A.in1.in1 (GxEnd X' a gobj ps σ0 L W) (GxYl X' a gobj ps σ0 L W C) (L + 1) (.send .none) s''
  back : ∀ (ps : List Addr) (σ' : L2.St) (H' : Hp) (s' : Shared), Gst X' a gobj ps σ' H' s' → Inv X pins σ H' s'
  lim' : ∀ (ps : List Addr) (σ' : L2.St) (H' : Hp) (s' : Shared), Gst X' a gobj ps σ' H' s' → s'.heap.get? a = some gobj ∧ s'.heap.NoLimit

section
variable {X : Cx} {pins : List (Addr × Obj)} {σ : L2.St} {H : Hp} {s : Shared} {k : Nat} {elt iter : Expr} {xa xb : Str} {pa pb pt : Pos} {kt : Nat} {scope : Scope} {Nr : List Str} {cap : List Nat} {gpos : Pos} {te : TE} {wi : TI} {c P : Addr}
theorem gx_make {Q' : Value → Shared → Prop} {R : Nat → (Nat → Hp → Prop) → (Nat → V → Hp → Prop) → Prop} (hc : X.calm = true)
    (hr : Room (k + 1) X.A) (TB : GxR.TabB X.base X.mg c P) (hcode : X.env.code = .ref c) (S : GxS X.N X.env.scope scope xa xb Nr cap) (hi : PI X (.Tuple [.Name xa pa, .Name xb pb] kt pt) iter wi)
    (he : ∀ (A' : Around) (s : Shared) (H : Hp) (C : Addr) (code : Value) (fp : List Addr), Room k A' → PE (gxCx X A' s H (xa :: xb :: Nr) (genEnv scope (cloFrom X.env.cells scope.names []) C code builtinsNs X.env) fp) elt te)
    (hs : ∀ v, genFold iter X.env v = pure v) (I : Inv X pins σ H s)
    (h : wi σ H fun J H1 => H1 P = some (TabO P) ∧ ∃ L W C, W 0 H1 ∧ GxR X.K te L (capS σ cap) J W C ∧ R L W C)
    (hQ : ∀ L W C a s5 X' gobj g, R L W C → Ready X pins σ (capS σ cap) L W C a s5 X' gobj g → Q' (.ref a) s5) :
    wpAny (model X.prog X.w) X.A (eval (.GeneratorExp elt [⟨.Tuple [.Name xa pa, .Name xb pb] kt pt, iter, [], 0⟩] scope gpos) X.env) Q' X.xe s := by
  have hfree : ∀ y ∈ scope.names, y.2 = .free → ∃ c, X.env.cells.lookup y.1 = some c := fun y hy e => by
    rcases S.free y hy e with k | k
    · exact I.ok.has _ (.inl k)
    · exact I.ok.has _ (.inr k)
  refine wpAny_GeneratorExp_make S.co (closure_ok hfree) S.cell S.dot S.kind hr.depth ?_ hs
  refine thn (hi.run pins s σ H _ I h) fun xv s1 h1 => thn h1 fun itv s2 h2 => ?_
  obtain ⟨it, fp, tn, J, H2, e, I2, T, st2, f2, hP, L, W, C, w0, hR, hRR⟩ := h2
  subst e
  obtain ⟨⟨ps, hPs, ht⟩, _, _⟩ := I2.hok P _ hP
  have cd : PySem.W.CodeHd s2.heap c P := TB.code.keeps fun b u e => I2.bk b u e
  have fne : ∀ b ∈ fp, b ≠ P := fun b hb z => by
    have := (f2 b hb).1
    rw [z, hP] at this
    cases this
  have fsz : ∀ b ∈ fp, b < s2.heap.objs.size := fun b hb => by
    obtain ⟨o, e, _⟩ := T.obj _ _ st2 b hb
    exact Heap.lt_size e
  have cont : ∀ (code : Value) (h3 : Heap) (tk : Nat), (∀ b o, b ≠ P → s2.heap.get? b = some o → h3.get? b = some o) → s2.heap.objs.size ≤ h3.objs.size → Inv X pins σ H2 { s2 with heap := h3, toks := tk } →
      wpAny (model X.prog X.w) X.A (builtinsFor X.env.globals X.env.builtins) (fun bi s₄ =>
        ∀ h', h'.Ns s₄.heap.objs.size (fun y => if y = ".0" then some (Value.ref it) else none) → Heap.SameBut s₄.heap.objs.size (s₄.heap.push { cls := .type "frame", data := .dict #[] }) h' →
          Q' (.ref h'.objs.size) { s₄ with
            gens := s₄.gens.push (.fresh (.compStart (.GeneratorExp elt [⟨.Tuple [.Name xa pa, .Name xb pb] kt pt, iter, [], 0⟩] scope gpos) 0 (.ref it) .none (genEnv scope (cloFrom X.env.cells scope.names []) s₄.heap.objs.size code bi X.env))),
            toks := s₄.toks + 1 + 1 + 1,
            heap := h'.push { cls := .type "generator", data := .fields #[.int s₄.gens.size 0, .str "<genexpr>" (s₄.toks + 1), .str (X.env.qual ++ "<genexpr>") (s₄.toks + 1 + 1)] } }) X.xe { s2 with heap := h3, toks := tk } := by
    intro code h3 tk k3 z3 I3
    obtain ⟨bm, ob, e1, e2, e3, e4, e5, e6, e7, e8⟩ := TB.bm
    refine wpAny_builtinsFor (m := X.mg) (by rw [I3.ok.glob]; exact I3.ok.mod.glob.keeps I3.bk) e1 e2 (I3.bk _ _ e5) e6 e7 e8 ?_
    intro h' hn' hs'
    have st3 : tn 0 h3 := T.keep _ _ _ st2 fun b hb o e => k3 b o (fne b hb) e
    have f3 : ∀ b ∈ fp, FpOk X pins H2 b ∧ b < h3.objs.size := fun b hb => ⟨f2 b hb, Nat.lt_of_lt_of_le (fsz b hb) z3⟩
    have hsz : h'.objs.size = h3.objs.size + 1 := by rw [hs'.1, Heap.size_push]
    have keep' : ∀ b o, h3.get? b = some o → h'.get? b = some o := fun b o e => hs'.extBut b o (Nat.ne_of_lt (Heap.lt_size e)) (Heap.get?_push_of_some _ e)
    have key : ∀ (gobj : Obj) (tk5 : Nat), gobj.cls = .type "generator" → (∃ nm qn, gobj.data = .fields #[.int s2.gens.size 0, nm, qn]) → gobj.slots = #[] → (∀ hh : Heap, (hh.push gobj).get? hh.objs.size = some gobj) →
        Q' (.ref h'.objs.size) { s2 with
            gens := s2.gens.push (.fresh (.compStart (.GeneratorExp elt [⟨.Tuple [.Name xa pa, .Name xb pb] kt pt, iter, [], 0⟩] scope gpos) 0 (.ref it) .none (genEnv scope (cloFrom X.env.cells scope.names []) h3.objs.size code builtinsNs X.env))),
            toks := tk5, heap := h'.push gobj } := by
      intro gobj tk5 hgc hgd0 hgs hgp
      obtain ⟨nm, qn, hgd0⟩ := hgd0
      have keep5 : ∀ b o, h3.get? b = some o → (h'.push gobj).get? b = some o := fun b o e => Heap.get?_push_of_some _ (keep' b o e)
      have hga : (h'.push gobj).get? h'.objs.size = some gobj := hgp h'
      have hgd : ∀ v, gobj.data ≠ .cell v := fun v q => by rw [hgd0] at q; cases q
      have ha : h3.objs.size < h'.objs.size := by rw [hsz]; exact Nat.lt_succ_self _
      have hisg : ∀ hh : Heap, hh.get? h'.objs.size = some gobj → hh.IsGen h'.objs.size s2.gens.size := fun hh e => ⟨gobj, nm, qn, e, hgc, hgd0, hgs⟩
      have hroom' : Room k (X.A.in1.in1.deeper (genEnv scope (cloFrom X.env.cells scope.names []) h3.objs.size code builtinsNs X.env)) :=
        ⟨hr.hd, by have := hr.dp; show X.A.depth + 1 + 3 * k + 5 < _; omega, by have := hr.un; show X.A.units + 1 + 1 + 3 + 16 * k + 200 < _; omega⟩
      have hfr : (X.A.in1.in1.deeper (genEnv scope (cloFrom X.env.cells scope.names []) h3.objs.size code builtinsNs X.env)).frames = some (genEnv scope (cloFrom X.env.cells scope.names []) h3.objs.size code builtinsNs X.env :: X.stack) := by
        have e := I3.ok.frames
        have e : X.A.frames = some X.stack := e
        show X.A.frames.map _ = _
        rw [e] <;> rfl
      have bare5 : AllBare (s2.gens.push (.fresh (.compStart (.GeneratorExp elt [⟨.Tuple [.Name xa pa, .Name xb pb] kt pt, iter, [], 0⟩] scope gpos) 0 (.ref it) .none (genEnv scope (cloFrom X.env.cells scope.names []) h3.objs.size code builtinsNs X.env)))) := I2.bare.push rfl
      have start := fun (s5 : Shared) (os5 : s5.os = s2.os) (b5 : AllBare s5.gens) (kp : ∀ b o, h3.get? b = some o → s5.heap.get? b = some o) (hns : s5.heap.Ns h3.objs.size (fun y => if y = (".0" : Str) then some (Value.ref it) else none)) (hga5 : s5.heap.get? h'.objs.size = some gobj) =>
        gx_start (code := code) (A' := X.A.in1.in1.deeper (genEnv scope (cloFrom X.env.cells scope.names []) h3.objs.size code builtinsNs X.env)) (s5 := s5) I3 S f3 hfr hroom'.hd os5 b5 kp hns ha hga5 hgd
      have pe := he (X.A.in1.in1.deeper (genEnv scope (cloFrom X.env.cells scope.names []) h3.objs.size code builtinsNs X.env)) { s2 with heap := h3, toks := tk } H2 h3.objs.size code fp hroom'
      refine hQ L W C h'.objs.size _ (gxCx X (X.A.in1.in1.deeper (genEnv scope (cloFrom X.env.cells scope.names []) h3.objs.size code builtinsNs X.env)) { s2 with heap := h3, toks := tk } H2 (xa :: xb :: Nr) (genEnv scope (cloFrom X.env.cells scope.names []) h3.objs.size code builtinsNs X.env) fp) gobj s2.gens.size hRR
        ⟨hisg _ hga, I3.nolimit.keeps keep5, ?_, bare5, hisg, ⟨_, Array.getElem?_push_size .., fun ps s'' hps z => ⟨rfl, ?_⟩⟩, fun ps σ' H' s' hG => ?_, fun ps σ' H' s' hG => ?_⟩
      · show h'.objs.size < (h'.push gobj).objs.size
        rw [Heap.size_push]; exact Nat.lt_succ_self _
      · -- the segment
        have z2 : h'.objs.size < (h'.push gobj).objs.size := by rw [Heap.size_push]; exact Nat.lt_succ_self _
        have hps' : ∀ b ∈ ps, h'.objs.size < b := fun b hb => Nat.lt_of_lt_of_le z2 (hps b hb)
        have nin : ∀ b o, (h'.push gobj).get? b = some o → b ∉ ps := fun b o e hm => absurd (Nat.lt_of_lt_of_le (Heap.lt_size e) (hps b hm)) (Nat.lt_irrefl _)
        have kp'' : ∀ b o, h3.get? b = some o → s''.heap.get? b = some o := fun b o e => z.keep b o (nin b o (keep5 b o e)) (keep5 b o e)
        have hns5 : (h'.push gobj).Ns h3.objs.size (fun y => if y = (".0" : Str) then some (Value.ref it) else none) := hn'.push _
        have hns'' : s''.heap.Ns h3.objs.size (fun y => if y = (".0" : Str) then some (Value.ref it) else none) := hns5.at' fun o e => z.keep _ o (nin _ o e) e
        have I5 := start s'' z.os z.bare kp'' hns'' (z.keep _ _ (nin _ _ hga) hga)
        have hPsOk : PsOk (gxCx X (X.A.in1.in1.deeper (genEnv scope (cloFrom X.env.cells scope.names []) h3.objs.size code builtinsNs X.env)) { s2 with heap := h3, toks := tk } H2 (xa :: xb :: Nr) (genEnv scope (cloFrom X.env.cells scope.names []) h3.objs.size code builtinsNs X.env) fp) h'.objs.size fp ps := by
          refine ⟨fun b hb => Nat.le_of_lt (Nat.lt_trans ha (hps' b hb)), fun b hb => Nat.ne_of_gt (Nat.lt_trans ha (hps' b hb)), fun b hb x cc e => ?_, fun b hb => Nat.ne_of_lt (hps' b hb), fun b hb hm => ?_⟩
          · obtain ⟨v, q⟩ := I5.cell x cc e
            have e' : (cloFrom X.env.cells scope.names []).lookup x = some cc := e
            rcases cloFrom_mem (PySem.mem_of_lookup e') with hm | ⟨h1, h2⟩
            · cases hm
            · obtain ⟨c2, hc2⟩ := hfree _ h1 rfl
              obtain ⟨w2, q2⟩ := I3.cell _ _ hc2
              have e3 : cc = c2 := by rw [h2, hc2]; rfl
              rw [e3]
              exact Nat.ne_of_lt (Nat.lt_trans (Nat.lt_trans q2.lt ha) (hps' b hb))
          · exact absurd (Nat.lt_trans (f3 b hm).2 (Nat.lt_trans ha (hps' b hb))) (Nat.lt_irrefl _)
        have hps2 : ∀ b ∈ ps, b ∉ frs X.stack := fun b hb => stk_lt I3 (Nat.le_of_lt (Nat.lt_trans ha (hps' b hb)))
        have hH2 : ∀ b ∈ ps, H2 b = none := fun b hb => I3.hok.fresh (Nat.le_of_lt (Nat.lt_trans ha (hps' b hb)))
        have hG : Gst (gxCx X (X.A.in1.in1.deeper (genEnv scope (cloFrom X.env.cells scope.names []) h3.objs.size code builtinsNs X.env)) { s2 with heap := h3, toks := tk } H2 (xa :: xb :: Nr) (genEnv scope (cloFrom X.env.cells scope.names []) h3.objs.size code builtinsNs X.env) fp) h'.objs.size gobj ps (none :: none :: capS σ cap) H2 s'' := by
          refine ⟨I5.pins_of fun p hp => ?_, fun b hb => ⟨hH2 b hb, z.there b hb⟩⟩
          rcases List.mem_cons.mp hp with hp | hp
          · rw [hp]
            exact I5.pin (h'.objs.size, gobj) (List.mem_append_right _ List.mem_cons_self)
          · obtain ⟨hm, e⟩ := of_pinsAt hp
            obtain ⟨o, e2, d2⟩ := z.there p.1 hm
            rw [e] at e2
            cases e2
            exact ⟨e, hH2 _ hm, hPsOk.loc _ hm, hps2 _ hm, d2⟩
        exact seg_gxS (X := gxCx X (X.A.in1.in1.deeper (genEnv scope (cloFrom X.env.cells scope.names []) h3.objs.size code builtinsNs X.env)) { s2 with heap := h3, toks := tk } H2 (xa :: xb :: Nr) (genEnv scope (cloFrom X.env.cells scope.names []) h3.objs.size code builtinsNs X.env) fp)
          rfl rfl rfl hc rfl S.co rfl rfl rfl S.nd S.la S.lb hPsOk hps2 (fun b hb => Nat.ne_of_gt (Nat.lt_trans (f3 b hb).2 ha)) T pe hR s'' H2 w0 hG (T.keep _ _ _ st3 fun b hb o e => kp'' b o e) fun b hb => (f2 b hb).1
      · obtain ⟨I', _⟩ := hG
        exact I3.call' (ch := fp) I'.os I'.base I'.hok I'.bare fun b hb => ⟨(f2 b hb).2.2.2.1, (f2 b hb).2.1, (f2 b hb).2.2.2.2.1, (f2 b hb).2.2.2.2.2⟩
      · obtain ⟨I', _⟩ := hG
        exact ⟨(I'.pin (h'.objs.size, gobj) (List.mem_append_right _ List.mem_cons_self)).1, I'.nolimit⟩
    exact key _ _ rfl ⟨_, _, rfl⟩ rfl fun hh => Heap.get?_push_size _ rfl
  refine ⟨I2.nolimit, ?_⟩
  cases hf : codeAmong gpos ps.toList with
  | none =>
    refine wpAny_genexprCodeX hcode (cd.code hPs ht) (cd.tab hPs) hf fun c' h3 tk hx hge hlt hco' _ htab' _ => ?_
    obtain ⟨o1, vs, f1, tf, fl, tg, inF, tx, tt, op, _, _, _, _, _, _, _, _, _, htr, _⟩ := hco'
    exact cont _ h3 tk (fun b o hb e => hx b o hb e) (Nat.le_trans hge (Nat.le_of_lt hlt)) (inv_tabO I2 hP (fun b o hb e => hx b o hb e) htab'.2 htr)
  | some cv =>
    refine wpAny_genexprCode_hit hcode (cd.code hPs ht) hf ?_
    exact cont cv s2.heap s2.toks (fun _ _ _ e => e) (Nat.le_refl _) (I2.tok _)
end
end BO

namespace BO
open PySem PySem.Spec PyProof.Rows L2 GenW
/-- what any (stop: true) or all (stop: false) makes of a turn's value -/
def CTest (stop : Bool) (W : Nat → Hp → Prop) (Q : VK) : Nat → V → Hp → Prop := fun i y H => ∃ b, y = .bl b ∧ if b = stop then Q (.bl stop) H else W (i + 1) H
def CSum (val : Nat → Int) (W : Nat → Hp → Prop) : Nat → V → Hp → Prop := fun i y H => y = .int (val i) ∧ W (i + 1) H
theorem gst_gens {X' : Cx} {a : Addr} {gobj : Obj} {ps : List Addr} {σ : L2.St} {H : Hp} {s s' : Shared} (h : Gst X' a gobj ps σ H s) (hs : s'.heap = s.heap) (ho : s'.os = s.os) (hb : AllBare s'.gens) : Gst X' a gobj ps σ H s' := by
  obtain ⟨I, hp⟩ := h
  have J := I.call' (s' := s') (ch := []) ho (by rw [hs]; exact Un.refl) (by rw [hs]; exact I.hok) hb fun b z => by simp at z
  exact ⟨by rw [hs]; exact J, by rw [hs]; exact hp⟩
theorem gst_kept {X' : Cx} {a : Addr} {gobj : Obj} {ps : List Addr} {σ : L2.St} {H : Hp} {s s' : Shared} (h : Gst X' a gobj ps σ H s) (k : ∀ b o, s.heap.get? b = some o → s'.heap.get? b = some o) (ho : s'.os = s.os) (hb : AllBare s'.gens) : Gst X' a gobj ps σ H s' := by
  obtain ⟨I, hp⟩ := h
  have J := I.call' (s' := s') (ch := []) ho (Un.kept k) (I.hok.kept k) hb fun b z => by simp at z
  refine ⟨J.pins_of fun p hq => ?_, fun b hm => ?_⟩
  · rcases List.mem_cons.mp hq with hq | hq
    · rw [hq]
      exact J.pin (a, gobj) (List.mem_append_right _ List.mem_cons_self)
    · obtain ⟨hm, e⟩ := of_pinsAt hq
      obtain ⟨_, o, e2, d⟩ := hp p.1 hm
      have e3 := k _ _ e2
      rw [e] at e3
      cases e3
      exact J.pin p (List.mem_append_right _ (List.mem_cons_of_mem _ (mem_pinsAt hm e2)))
  · obtain ⟨h1, o, e2, d⟩ := hp b hm
    exact ⟨h1, o, k _ _ e2, d⟩
section
variable {X X' : Cx} {pins : List (Addr × Obj)} {σ σ0 : L2.St} {L : Nat} {W : Nat → Hp → Prop} {a : Addr} {gobj : Obj} {g : Nat} {s5 : Shared} {A : Around} {Q : VK}
theorem slp_gens {s s' : Shared} (hs : s'.heap = s.heap) (ho : s'.os = s.os) (hb : AllBare s'.gens) : Slp [] s s' := ⟨ho, hb, fun b o _ e => by rw [hs]; exact e, fun b hm => by simp at hm⟩
theorem drain_test {stop : Bool} {R : Result → Shared → Prop} (hh : A.handled = none) (hd : A.depth < recursionLimit)
    (hlim : ∀ (σ' : L2.St) (H' : Hp) (s' : Shared), Gst X' a gobj [] σ' H' s' → s'.heap.get? a = some gobj ∧ s'.heap.NoLimit) (hisg : ∀ h : Heap, h.get? a = some gobj → h.IsGen a g)
    (hend : ∀ H, W L H → Q (.bl (!stop)) H) (hR : ∀ b σ' H' s', Gst X' a gobj [] σ' H' s' → Q (.bl b) H' → R (.ok (.ret (.bool b))) s') :
    ∀ (n : Nat) (s : Shared), s.heap.IsGen a g → s.heap.NoLimit → AllBare s.gens →
      (∃ gs, s.gens[g]? = some gs ∧ gs.Goes (model X.prog X.w) A.in1.in1 (GxEnd X' a gobj [] σ0 L W) (GxYl X' a gobj [] σ0 L W (CTest stop W Q)) n (.send .none) (s.setGen g .running)) →
      codeAny (model X.prog X.w) A (.builtin (if stop then "any.loop" else "all.loop") ⟨[.ref a], []⟩) R s := by
  intro n
  induction n with
  | zero =>
    intro s hg hl hb ⟨gs, hgs, hgo⟩
    have hgl : g < s.gens.size := (Array.getElem?_eq_some_iff.mp hgs).1
    cases stop with
    | true =>
      show codeAny _ A (.builtin "any.loop" ⟨[.ref a], []⟩) R s
      refine codeAny_builtin F.entry_any_loop ?_
      rw [Around.under_plainId F.plain_any_loop _]
      show wpAny _ A.in1 (pyNext (.ref a) >>= _) _ _ s
      refine wpAny_bind (wpAny_gsz (n := g + 1) hgl (wpAny_pyNext_genexpQ (A := A.in1) hh hl hd hg hgs hgo (fun v s₁ gs' hbare hv => ?_) fun s₁ hp h' hk => ?_))
      · intro hsz
        obtain ⟨i, y, H', hn, hi, ry, hG, ⟨b, rfl, hC⟩, _, hk⟩ := hv
        obtain rfl : v = Value.bool b := ry
        have G1 : Gst X' a gobj [] (none :: none :: σ0) H' (s₁.setGen g gs') := gst_gens hG rfl rfl (allBare_setGen hG.1.bare hbare)
        refine wpAny_bind (wpAny_holding (wpAny_truthy_bool ?_))
        refine wpAny_bind (wpAny_letGo ?_)
        cases b with
        | true =>
          simp only [if_true]
          refine wpAny_bind (wpAny_rule (wpAny_pure ?_))
          exact hR true _ H' _ G1 hC
        | false =>
          have hW : W (i + 1) H' := hC
          exact False.elim (hk hW s₁ (slp_gens rfl rfl hG.1.bare))
      · obtain ⟨q, _⟩ := hp
        cases q
    | false =>
      show codeAny _ A (.builtin "all.loop" ⟨[.ref a], []⟩) R s
      refine codeAny_builtin F.entry_all_loop ?_
      rw [Around.under_plainId F.plain_all_loop _]
      show wpAny _ A.in1 (pyNext (.ref a) >>= _) _ _ s
      refine wpAny_bind (wpAny_gsz (n := g + 1) hgl (wpAny_pyNext_genexpQ (A := A.in1) hh hl hd hg hgs hgo (fun v s₁ gs' hbare hv => ?_) fun s₁ hp h' hk => ?_))
      · intro hsz
        obtain ⟨i, y, H', hn, hi, ry, hG, ⟨b, rfl, hC⟩, _, hk⟩ := hv
        obtain rfl : v = Value.bool b := ry
        have G1 : Gst X' a gobj [] (none :: none :: σ0) H' (s₁.setGen g gs') := gst_gens hG rfl rfl (allBare_setGen hG.1.bare hbare)
        refine wpAny_bind (wpAny_holding (wpAny_truthy_bool ?_))
        refine wpAny_bind (wpAny_letGo ?_)
        cases b with
        | false =>
          simp only [Bool.false_eq_true, if_false]
          refine wpAny_bind (wpAny_rule (wpAny_pure ?_))
          exact hR false _ H' _ G1 hC
        | true =>
          have hW : W (i + 1) H' := hC
          exact False.elim (hk hW s₁ (slp_gens rfl rfl hG.1.bare))
      · obtain ⟨q, _⟩ := hp
        cases q
  | succ n ih =>
    intro s hg hl hb ⟨gs, hgs, hgo⟩
    have hgl : g < s.gens.size := (Array.getElem?_eq_some_iff.mp hgs).1
    have again : ∀ {s₁ : Shared} {gs' : GenState} {H' : Hp}, gs'.bare = true → g + 1 ≤ (s₁.setGen g gs').gens.size → Gst X' a gobj [] (none :: none :: σ0) H' s₁ →
        (∀ s', Slp [] s₁ s' → gs'.Goes (model X.prog X.w) A.in1.in1 (GxEnd X' a gobj [] σ0 L W) (GxYl X' a gobj [] σ0 L W (CTest stop W Q)) n (.send .none) s') →
        codeAny (model X.prog X.w) A (.builtin (if stop then "any.loop" else "all.loop") ⟨[.ref a], []⟩) R (s₁.setGen g gs') := fun {s₁ gs' H'} hbare hsz hG hk => by
      have hsz1 : g < s₁.gens.size := by
        have q : (s₁.setGen g gs').gens.size = s₁.gens.size := setGen_size _ _ _
        omega
      obtain ⟨z1, z2⟩ := hlim _ _ _ hG
      refine ih (s₁.setGen g gs') (hisg _ z1) z2 (allBare_setGen hG.1.bare hbare) ⟨gs', setGen_at hsz1, ?_⟩
      exact hk _ (slp_gens rfl rfl (allBare_setGen (s := s₁.setGen g gs') (allBare_setGen hG.1.bare hbare) rfl))
    cases stop with
    | true =>
      show codeAny _ A (.builtin "any.loop" ⟨[.ref a], []⟩) R s
      refine codeAny_builtin F.entry_any_loop ?_
      rw [Around.under_plainId F.plain_any_loop _]
      show wpAny _ A.in1 (pyNext (.ref a) >>= _) _ _ s
      refine wpAny_bind (wpAny_gsz (n := g + 1) hgl (wpAny_pyNext_genexpQ (A := A.in1) hh hl hd hg hgs hgo (fun v s₁ gs' hbare hv => ?_) fun s₁ hp h' hk => ?_))
      · intro hsz
        obtain ⟨i, y, H', hn, hi, ry, hG, ⟨b, rfl, hC⟩, _, hk⟩ := hv
        obtain rfl : v = Value.bool b := ry
        have G1 : Gst X' a gobj [] (none :: none :: σ0) H' (s₁.setGen g gs') := gst_gens hG rfl rfl (allBare_setGen hG.1.bare hbare)
        refine wpAny_bind (wpAny_holding (wpAny_truthy_bool ?_))
        refine wpAny_bind (wpAny_letGo ?_)
        cases b with
        | true =>
          simp only [if_true]
          refine wpAny_bind (wpAny_rule (wpAny_pure ?_))
          exact hR true _ H' _ G1 hC
        | false =>
          have hW : W (i + 1) H' := hC
          simp only [Bool.false_eq_true, if_false]
          exact wpAny_pure ⟨plainId_quiet F.plain_any_loop _, again hbare hsz hG (hk hW)⟩
      · intro hsz
        obtain ⟨_, H', hG, hW, _⟩ := hp
        refine wpAny_bind (wpAny_rule (wpAny_pure ?_))
        exact hR false _ H' _ (gst_kept hG (fun b o e => hk b o e) rfl (allBare_setGen hG.1.bare rfl)) (hend H' hW)
    | false =>
      show codeAny _ A (.builtin "all.loop" ⟨[.ref a], []⟩) R s
      refine codeAny_builtin F.entry_all_loop ?_
      rw [Around.under_plainId F.plain_all_loop _]
      show wpAny _ A.in1 (pyNext (.ref a) >>= _) _ _ s
      refine wpAny_bind (wpAny_gsz (n := g + 1) hgl (wpAny_pyNext_genexpQ (A := A.in1) hh hl hd hg hgs hgo (fun v s₁ gs' hbare hv => ?_) fun s₁ hp h' hk => ?_))
      · intro hsz
        obtain ⟨i, y, H', hn, hi, ry, hG, ⟨b, rfl, hC⟩, _, hk⟩ := hv
        obtain rfl : v = Value.bool b := ry
        have G1 : Gst X' a gobj [] (none :: none :: σ0) H' (s₁.setGen g gs') := gst_gens hG rfl rfl (allBare_setGen hG.1.bare hbare)
        refine wpAny_bind (wpAny_holding (wpAny_truthy_bool ?_))
        refine wpAny_bind (wpAny_letGo ?_)
        cases b with
        | false =>
          simp only [Bool.false_eq_true, if_false]
          refine wpAny_bind (wpAny_rule (wpAny_pure ?_))
          exact hR false _ H' _ G1 hC
        | true =>
          have hW : W (i + 1) H' := hC
          simp only [if_true]
          exact wpAny_pure ⟨plainId_quiet F.plain_all_loop _, again hbare hsz hG (hk hW)⟩
      · intro hsz
        obtain ⟨_, H', hG, hW, _⟩ := hp
        refine wpAny_bind (wpAny_rule (wpAny_pure ?_))
        exact hR true _ H' _ (gst_kept hG (fun b o e => hk b o e) rfl (allBare_setGen hG.1.bare rfl)) (hend H' hW)

theorem drain_sum {val : Nat → Int} {S : Addr} {R : Result → Shared → Prop} (hh : A.handled = none) (hd : A.depth < recursionLimit) (hSa : S ≠ a)
    (hlim : ∀ (σ' : L2.St) (H' : Hp) (s' : Shared), Gst X' a gobj [S] σ' H' s' → s'.heap.get? a = some gobj ∧ s'.heap.NoLimit) (hisg : ∀ h : Heap, h.get? a = some gobj → h.IsGen a g)
    (hfit : ∀ j, j < L → InLong (val j) ∧ InLong (preSum val (j + 1))) (hSc : S ≠ cStatics)
    (hR : ∀ t σ' H' s', Gst X' a gobj [S] σ' H' s' → W L H' → R (.ok (.ret (.int (preSum val L) t))) s') :
    ∀ (n i : Nat) (s : Shared) (tA : Tok) (c : Nat), n + i = L + 1 → s.heap.IsGen a g → s.heap.NoLimit → AllBare s.gens → s.heap.get? S = some { cls := .type "list", dict := none, data := .seq #[.int (preSum val i) tA] c, slots := #[] } →
      (∃ gs, s.gens[g]? = some gs ∧ gs.Goes (model X.prog X.w) A.in1.in1 (GxEnd X' a gobj [S] σ0 L W) (GxYl X' a gobj [S] σ0 L W (CSum val W)) n (.send .none) (s.setGen g .running)) →
      codeAny (model X.prog X.w) A (.builtin "sum.loop" ⟨[.ref a, .ref S, rawInt 0, rawInt 0], []⟩) R s := by
  intro n
  induction n with
  | zero =>
    intro i s tA c hni hg hl hb hS ⟨gs, hgs, hgo⟩
    refine codeAny_builtin F.entry_sum_loop ?_
    rw [Around.under_plainId F.plain_sum_loop _]
    show wpAny _ A.in1 (seqItems? (.ref S) >>= _) _ _ s
    refine wpAny_bind (wpAny_seqItems hS rfl ?_)
    show wpAny _ A.in1 (tryCatch (pyNext (.ref a)) _ >>= _) _ _ s
    refine wpAny_bind (wpAny_tryCatch (wpAny_pyNext_genexpQ (A := A.in1) hh hl hd hg hgs hgo (fun v s₁ gs' hbare hv => ?_) fun s₁ hp h' hk => ?_))
    · obtain ⟨i', y, H', hn, hi, ry, hG, ⟨rfl, hW⟩, hps, hk⟩ := hv
      exact False.elim (hk hW s₁ ⟨rfl, hG.1.bare, fun _ _ _ e => e, fun b hm => (hG.2 b hm).2⟩)
    · obtain ⟨q, _⟩ := hp
      cases q
  | succ n ih =>
    intro i s tA c hni hg hl hb hS ⟨gs, hgs, hgo⟩
    have hgl : g < s.gens.size := (Array.getElem?_eq_some_iff.mp hgs).1
    refine codeAny_builtin F.entry_sum_loop ?_
    rw [Around.under_plainId F.plain_sum_loop _]
    show wpAny _ A.in1 (seqItems? (.ref S) >>= _) _ _ s
    refine wpAny_bind (wpAny_seqItems hS rfl ?_)
    show wpAny _ A.in1 (tryCatch (pyNext (.ref a)) _ >>= _) _ _ s
    refine wpAny_bind (wpAny_tryCatch (wpAny_gsz (n := g + 1) hgl (wpAny_pyNext_genexpQ (A := A.in1) hh hl hd hg hgs hgo (fun v s₁ gs' hbare hv => ?_) fun s₁ hp h' hk => ?_)))
    · intro hsz
      obtain ⟨i', y, H', hn, hi, ry, hG, ⟨rfl, hW⟩, hps, hk⟩ := hv
      have ei : i' = i := by omega
      subst ei
      obtain ⟨t, rfl⟩ := ry
      have hS1 : s₁.heap.get? S = some { cls := .type "list", dict := none, data := .seq #[.int (preSum val i') tA] c, slots := #[] } := (hps S (by simp)).trans hS
      obtain ⟨⟨f1, f2⟩, f3, f4⟩ := hfit i' hi
      have hc : ((decide (-(2 ^ 63) ≤ val i') && decide (val i' < 2 ^ 63)) && (decide (-(2 ^ 63) ≤ preSum val i' + val i') && decide (preSum val i' + val i' < 2 ^ 63))) = true := by
        simp only [preSum] at f3 f4
        simp only [Bool.and_eq_true, decide_eq_true_eq]
        exact ⟨⟨f1, f2⟩, f3, f4⟩
      have hsz1 : g < s₁.gens.size := by
        have q : (s₁.setGen g gs').gens.size = s₁.gens.size := setGen_size _ _ _
        omega
      obtain ⟨z1, z2⟩ := hlim _ _ _ hG
      show wpAny _ A.in1 (if (_ : Bool) = true then (mkInt (preSum val i' + val i') >>= _) else _) _ _ _
      split
      · refine wpAny_bind (wpAny_mkInt ?_)
        show wpAny _ A.in1 (updateSeq S (fun _ => #[.int (preSum val i' + val i') s₁.toks]) >>= _) _ _ _
        refine wpAny_bind ?_
        have up : ∀ (f : Obj → Obj) b o, b ≠ S → s₁.heap.get? b = some o → (s₁.heap.update S f).get? b = some o := fun f b o hb e => (Heap.get?_update_other _ _ (Ne.symm hb)).trans e
        refine wpAny_updateSeq hS1 rfl (wpAny_pure ⟨plainId_quiet F.plain_sum_loop _, ih (i' + 1) _ s₁.toks _ (by omega) (hisg _ (up _ _ _ (Ne.symm hSa) z1)) ?_ (allBare_setGen hG.1.bare hbare) (Heap.get?_update_self _ hS1 rfl) ⟨gs', setGen_at hsz1, hk hW _ ?_⟩⟩)
        · obtain ⟨mc, hns, hnn⟩ := z2
          exact ⟨mc, hns.at' fun o e => up _ _ o (Ne.symm hSc) e, hnn⟩
        · refine ⟨rfl, allBare_setGen (s := s₁.setGen g gs') (allBare_setGen hG.1.bare hbare) rfl, fun b o hb e => up _ b o (fun z => hb (by rw [z]; exact List.mem_singleton.mpr rfl)) e, fun b hm => ?_⟩
          rw [List.mem_singleton.mp hm]
          exact ⟨_, Heap.get?_update_self _ hS1 rfl, fun v q => by cases q⟩
      · rename_i hneg
        exact absurd hc hneg
    · intro hsz
      obtain ⟨hn1, H', hG, hW, hps⟩ := hp
      have ei : i = L := by omega
      have hSh : s₁.heap.get? S = some { cls := .type "list", dict := none, data := .seq #[.int (preSum val i) tA] c, slots := #[] } := (hps S (by simp)).trans hS
      rw [ei] at hSh
      refine wpAny_pure ?_
      rw [ei]
      exact hR tA _ H' _ (gst_kept hG (fun b o e => hk b o e) rfl (allBare_setGen hG.1.bare rfl)) hW
end
end BO

namespace BO
open PySem PySem.Spec PyProof.Rows L2 GenW
def tGx (stop : Bool) (K : PySem.W.Frag) (P : Addr) (wi : TI) (te : TE) (cap : List Nat) : TE := fun σ H Q => wi σ H fun J H1 => H1 P = some (TabO P) ∧
  ∃ (L : Nat) (W : Nat → Hp → Prop) (C : Nat → V → Hp → Prop), W 0 H1 ∧ GxR K te L (capS σ cap) J W C ∧ (C = CTest stop W Q ∧ ∀ H, W L H → Q (.bl (!stop)) H)
def tGxSum (K : PySem.W.Frag) (P : Addr) (wi : TI) (te : TE) (cap : List Nat) : TE := fun σ H Q => wi σ H fun J H1 => H1 P = some (TabO P) ∧
  ∃ (L : Nat) (W : Nat → Hp → Prop) (C : Nat → V → Hp → Prop), W 0 H1 ∧ GxR K te L (capS σ cap) J W C ∧ (∃ val : Nat → Int, C = CSum val W ∧ (∀ j, j < L → InLong (val j) ∧ InLong (preSum val (j + 1))) ∧ ∀ H, W L H → Q (.int (preSum val L)) H)
section
variable {X : Cx} {k : Nat} {elt iter : Expr} {xa xb : Str} {pa pb pt p pos : Pos} {kt : Nat} {scope : Scope} {Nr : List Str} {cap : List Nat} {gpos : Pos} {te : TE} {wi : TI} {c P : Addr}
theorem call_test {pins : List (Addr × Obj)} {σ : L2.St} {Q : VK} {L : Nat} {W : Nat → Hp → Prop} {a : Addr} {s5 : Shared} {X' : Cx} {gobj : Obj} {g : Nat} (stop : Bool) (hr : Room (k + 1) X.A)
    (hW : ∀ H, W L H → Q (.bl (!stop)) H) (Y : Ready X pins σ (capS σ cap) L W (CTest stop W Q) a s5 X' gobj g) : wpAny (model X.prog X.w) X.A (call (.builtin (if stop then "any" else "all")) [.ref a]) (EP X pins σ Q) X.xe s5 := by
  have hh : X.A.handled = none := hr.hd
  have go : codeAny (model X.prog X.w) X.A (.builtin (if stop then "any.loop" else "all.loop") ⟨[.ref a], []⟩) (fun r s' => match r with | .ok (.ret v) => EP X pins σ Q v s' | .ok _ => False | .error e => X.xe e s') s5 := by
    obtain ⟨gs, hgs, hgo⟩ := Y.go
    refine drain_test (X' := X') (gobj := gobj) (g := g) (σ0 := capS σ cap) (L := L) (W := W) (Q := Q) hh hr.depth (Y.lim' []) Y.isg hW (fun b σ' H' s' hG hq => ?_) (L + 1) s5 Y.gen Y.lim Y.bare ⟨gs, hgs, hgo [] _ (fun b hb => by simp at hb) (slp_gens rfl rfl (allBare_setGen Y.bare rfl))⟩
    exact ⟨.bl b, H', Y.back [] _ _ _ hG, rfl, hq⟩
  cases stop with
  | true =>
    show wpAny _ _ (call (.builtin "any") [.ref a]) _ _ _
    refine call_function_tree F.kind_any F.plain_any F.entry_any (F.args_any1 _) ?_
    unfold Builtin.«any»
    refine wpAny_bind (m := oneArg "any" _) (wpAny_pure ?_)
    refine wpAny_bind (wpAny_pyIter_gen Y.gen ?_)
    exact wpAny_pure ⟨plainId_quiet F.plain_any_loop _, go⟩
  | false =>
    show wpAny _ _ (call (.builtin "all") [.ref a]) _ _ _
    refine call_function_tree F.kind_all F.plain_all F.entry_all (F.args_all1 _) ?_
    unfold Builtin.«all»
    refine wpAny_bind (m := oneArg "all" _) (wpAny_pure ?_)
    refine wpAny_bind (wpAny_pyIter_gen Y.gen ?_)
    exact wpAny_pure ⟨plainId_quiet F.plain_all_loop _, go⟩
theorem call_gsum {pins : List (Addr × Obj)} {σ : L2.St} {Q : VK} {L : Nat} {W : Nat → Hp → Prop} {val : Nat → Int} {a : Addr} {s5 : Shared} {X' : Cx} {gobj : Obj} {g : Nat} (hr : Room (k + 1) X.A)
    (hfit : ∀ j, j < L → InLong (val j) ∧ InLong (preSum val (j + 1))) (hW : ∀ H, W L H → Q (.int (preSum val L)) H) (Y : Ready X pins σ (capS σ cap) L W (CSum val W) a s5 X' gobj g) : wpAny (model X.prog X.w) X.A (call (.builtin "sum") [.ref a]) (EP X pins σ Q) X.xe s5 := by
  have hh : X.A.handled = none := hr.hd
  refine call_function_tree F.kind_sum F.plain_sum F.entry_sum (F.args_sum1 _) ?_
  unfold Builtin.«sum»
  simp only [List.length_cons, List.length_nil]
  rw [if_neg (by decide)]
  refine wpAny_bind (wpAny_of_eq (show Builtin.Builtins.bindParams "sum" ["start"] 0 { } = pure [none] from rfl) ?_)
  refine wpAny_bind (wpAny_pyIter_gen Y.gen ?_)
  refine wpAny_bind (wpAny_mkInt ?_)
  refine wpAny_bind (wpAny_pure ?_)
  simp only [List.forIn_cons, List.forIn_nil]
  refine wpAny_bind (wpAny_bind (wpAny_bind (wpAny_isInstance (T := "int") (b := false) (typeIs_int _ _ _) PySem.sub_int_str ?_)))
  simp only [Bool.false_eq_true, if_false]
  refine wpAny_pure (wpAny_bind (wpAny_bind (wpAny_isInstance (T := "int") (b := false) (typeIs_int _ _ _) PySem.sub_int_bytes ?_)))
  simp only [Bool.false_eq_true, if_false]
  refine wpAny_pure (wpAny_bind (wpAny_bind (wpAny_isInstance (T := "int") (b := false) (typeIs_int _ _ _) PySem.sub_int_bytearray ?_)))
  simp only [Bool.false_eq_true, if_false]
  refine wpAny_pure (wpAny_pure ?_)
  refine wpAny_bind (wpAny_newObj_type ?_)
  have hSa : s5.heap.objs.size ≠ a := Nat.ne_of_gt Y.lt
  have hcl : cStatics < s5.heap.objs.size := let ⟨_, hn, _⟩ := Y.lim; hn.lt
  have kp : ∀ (o : Obj) b u, s5.heap.get? b = some u → (s5.heap.push o).get? b = some u := fun o b u e => Heap.get?_push_of_some _ e
  obtain ⟨gs, hgs, hgo⟩ := Y.go
  refine wpAny_pure ⟨plainId_quiet F.plain_sum_loop _, drain_sum (X' := X') (gobj := gobj) (g := g) (σ0 := capS σ cap) (L := L) (W := W) (val := val) (S := s5.heap.objs.size) hh hr.depth hSa (Y.lim' _) Y.isg hfit (Nat.ne_of_gt hcl)
    (fun t σ' H' s' hG hq => ⟨.int (preSum val L), H', Y.back _ _ _ _ hG, ⟨t, rfl⟩, hW H' hq⟩) (L + 1) 0 _ s5.toks 0 rfl (Y.gen.keeps (kp _)) (Y.lim.keeps (kp _)) Y.bare (Heap.get?_push_size _ rfl)
    ⟨gs, hgs, hgo [s5.heap.objs.size] _ (fun b hb => by rw [List.mem_singleton.mp hb]; exact Nat.le_refl _) ⟨rfl, allBare_setGen (s := { s5 with heap := s5.heap.push _, toks := _ }) Y.bare rfl, fun b o _ e => kp _ b o e, fun b hm => ?_⟩⟩⟩
  rw [List.mem_singleton.mp hm]
  exact ⟨_, Heap.get?_push_size _ rfl, fun v q => by cases q⟩

theorem pe_gxAny (hc : X.calm = true) (hr : Room (k + 1) X.A) (hg : Gl X "any") (hm : X.mg "any" = none) (TB : GxR.TabB X.base X.mg c P) (hcode : X.env.code = .ref c) (S : GxS X.N X.env.scope scope xa xb Nr cap) (hi : PI X (.Tuple [.Name xa pa, .Name xb pb] kt pt) iter wi)
    (he : ∀ (A' : Around) (s : Shared) (H : Hp) (C : Addr) (code : Value) (fp : List Addr), Room k A' → PE (gxCx X A' s H (xa :: xb :: Nr) (genEnv scope (cloFrom X.env.cells scope.names []) C code builtinsNs X.env) fp) elt te)
    (hs : ∀ v, genFold iter X.env v = pure v := by intro _; rfl)
    (hst : starEach [.GeneratorExp elt [⟨.Tuple [.Name xa pa, .Name xb pb] kt pt, iter, [], 0⟩] scope gpos] X.env = (false, eval (.GeneratorExp elt [⟨.Tuple [.Name xa pa, .Name xb pb] kt pt, iter, [], 0⟩] scope gpos) X.env) :: starEach [] X.env := by rfl) :
    PE X (.Call (.Name "any" p) [.GeneratorExp elt [⟨.Tuple [.Name xa pa, .Name xb pb] kt pt, iter, [], 0⟩] scope gpos] [] pos) (tGx true X.K P wi te cap) := by
  refine ⟨fun pins s σ H Q I h => ?_⟩
  refine wpAny_Call_Name_kw (ld_blt I hg hm boot_any ?_)
  refine PyProof.Rows.callWith_builtin1 ?_ hst (by rfl)
  rw [hst]
  show wpAny _ _ (spliced ((false, eval (.GeneratorExp elt [⟨.Tuple [.Name xa pa, .Name xb pb] kt pt, iter, [], 0⟩] scope gpos) X.env) :: backTo pos (starEach [] X.env))) _ _ s
  refine Calls.spliced_cons (gx_make (R := fun L W C => C = CTest true W Q ∧ ∀ H, W L H → Q (.bl (!true)) H) hc hr TB hcode S hi he hs I h fun L W C a s5 X' gobj g ⟨hC, hW⟩ hRd => Calls.spliced_nil ?_)
  subst hC
  exact call_test true hr hW hRd
theorem pe_gxAll (hc : X.calm = true) (hr : Room (k + 1) X.A) (hg : Gl X "all") (hm : X.mg "all" = none) (TB : GxR.TabB X.base X.mg c P) (hcode : X.env.code = .ref c) (S : GxS X.N X.env.scope scope xa xb Nr cap) (hi : PI X (.Tuple [.Name xa pa, .Name xb pb] kt pt) iter wi)
    (he : ∀ (A' : Around) (s : Shared) (H : Hp) (C : Addr) (code : Value) (fp : List Addr), Room k A' → PE (gxCx X A' s H (xa :: xb :: Nr) (genEnv scope (cloFrom X.env.cells scope.names []) C code builtinsNs X.env) fp) elt te)
    (hs : ∀ v, genFold iter X.env v = pure v := by intro _; rfl)
    (hst : starEach [.GeneratorExp elt [⟨.Tuple [.Name xa pa, .Name xb pb] kt pt, iter, [], 0⟩] scope gpos] X.env = (false, eval (.GeneratorExp elt [⟨.Tuple [.Name xa pa, .Name xb pb] kt pt, iter, [], 0⟩] scope gpos) X.env) :: starEach [] X.env := by rfl) :
    PE X (.Call (.Name "all" p) [.GeneratorExp elt [⟨.Tuple [.Name xa pa, .Name xb pb] kt pt, iter, [], 0⟩] scope gpos] [] pos) (tGx false X.K P wi te cap) := by
  refine ⟨fun pins s σ H Q I h => ?_⟩
  refine wpAny_Call_Name_kw (ld_blt I hg hm boot_all ?_)
  refine PyProof.Rows.callWith_builtin1 ?_ hst (by rfl)
  rw [hst]
  show wpAny _ _ (spliced ((false, eval (.GeneratorExp elt [⟨.Tuple [.Name xa pa, .Name xb pb] kt pt, iter, [], 0⟩] scope gpos) X.env) :: backTo pos (starEach [] X.env))) _ _ s
  refine Calls.spliced_cons (gx_make (R := fun L W C => C = CTest false W Q ∧ ∀ H, W L H → Q (.bl (!false)) H) hc hr TB hcode S hi he hs I h fun L W C a s5 X' gobj g ⟨hC, hW⟩ hRd => Calls.spliced_nil ?_)
  subst hC
  exact call_test false hr hW hRd
theorem pe_gxSum (hc : X.calm = true) (hr : Room (k + 1) X.A) (hg : Gl X "sum") (hm : X.mg "sum" = none) (TB : GxR.TabB X.base X.mg c P) (hcode : X.env.code = .ref c) (S : GxS X.N X.env.scope scope xa xb Nr cap) (hi : PI X (.Tuple [.Name xa pa, .Name xb pb] kt pt) iter wi)
    (he : ∀ (A' : Around) (s : Shared) (H : Hp) (C : Addr) (code : Value) (fp : List Addr), Room k A' → PE (gxCx X A' s H (xa :: xb :: Nr) (genEnv scope (cloFrom X.env.cells scope.names []) C code builtinsNs X.env) fp) elt te)
    (hs : ∀ v, genFold iter X.env v = pure v := by intro _; rfl)
    (hst : starEach [.GeneratorExp elt [⟨.Tuple [.Name xa pa, .Name xb pb] kt pt, iter, [], 0⟩] scope gpos] X.env = (false, eval (.GeneratorExp elt [⟨.Tuple [.Name xa pa, .Name xb pb] kt pt, iter, [], 0⟩] scope gpos) X.env) :: starEach [] X.env := by rfl) :
    PE X (.Call (.Name "sum" p) [.GeneratorExp elt [⟨.Tuple [.Name xa pa, .Name xb pb] kt pt, iter, [], 0⟩] scope gpos] [] pos) (tGxSum X.K P wi te cap) := by
  refine ⟨fun pins s σ H Q I h => ?_⟩
  refine wpAny_Call_Name_kw (ld_blt I hg hm boot_sum ?_)
  refine PyProof.Rows.callWith_builtin1 ?_ hst (by rfl)
  rw [hst]
  show wpAny _ _ (spliced ((false, eval (.GeneratorExp elt [⟨.Tuple [.Name xa pa, .Name xb pb] kt pt, iter, [], 0⟩] scope gpos) X.env) :: backTo pos (starEach [] X.env))) _ _ s
  refine Calls.spliced_cons (gx_make (R := fun L W C => ∃ val : Nat → Int, C = CSum val W ∧ (∀ j, j < L → InLong (val j) ∧ InLong (preSum val (j + 1))) ∧ ∀ H, W L H → Q (.int (preSum val L)) H) hc hr TB hcode S hi he hs I h fun L W C a s5 X' gobj g ⟨val, hC, hfit, hW⟩ hRd => Calls.spliced_nil ?_)
  subst hC
  exact call_gsum hr hfit hW hRd
end
end BO

/-! fractions: sizes -/
namespace BO
open Rat
def sz (k : Nat) (q : Rat) : Prop := q.num.natAbs < 2 ^ k ∧ q.den < 2 ^ k
theorem ratio_add (a b : Rat) : (a.num * (b.den : Int) + b.num * (a.den : Int)) /. ((a.den : Int) * (b.den : Int)) = a + b := by
  have ha : (a.den : Int) ≠ 0 := by have := a.den_nz; omega
  have hb : (b.den : Int) ≠ 0 := by have := b.den_nz; omega
  rw [← Rat.divInt_add_divInt _ _ ha hb, Rat.num_divInt_den, Rat.num_divInt_den]
theorem ratio_sub (a b : Rat) : (a.num * (b.den : Int) - b.num * (a.den : Int)) /. ((a.den : Int) * (b.den : Int)) = a - b := by
  have ha : (a.den : Int) ≠ 0 := by have := a.den_nz; omega
  have hb : (b.den : Int) ≠ 0 := by have := b.den_nz; omega
  rw [← Rat.divInt_sub_divInt _ _ ha hb, Rat.num_divInt_den, Rat.num_divInt_den]
theorem ratio_mul (a b : Rat) : (a.num * b.num) /. ((a.den : Int) * (b.den : Int)) = a * b := by
  rw [← Rat.divInt_mul_divInt, Rat.num_divInt_den, Rat.num_divInt_den]
theorem ratio_div (a b : Rat) : (a.num * (b.den : Int)) /. ((a.den : Int) * b.num) = a / b := by
  have e : (b.den : Int) /. b.num = b⁻¹ := by
    conv => rhs; rw [← Rat.num_divInt_den b]
    rw [Rat.inv_divInt]
  rw [Rat.div_def, ← e, ← Rat.divInt_mul_divInt, Rat.num_divInt_den]
theorem sz_divInt {k : Nat} {n d : Int} (hd : d ≠ 0) (hn : n.natAbs < 2 ^ k) (hk : d.natAbs < 2 ^ k) : sz k (n /. d) := by
  have hg : 0 < (d.gcd n : Nat) := Nat.pos_of_ne_zero fun h => hd (Int.gcd_eq_zero_iff.mp h).1
  refine ⟨?_, ?_⟩
  · rw [Rat.num_divInt]
    refine Nat.lt_of_le_of_lt ?_ hn
    have h1 : ((d.sign * n) / ((d.gcd n : Nat) : Int)).natAbs ≤ (d.sign * n).natAbs := Int.natAbs_ediv_le_natAbs _ _
    refine Nat.le_trans h1 ?_
    rw [Int.natAbs_mul]
    rcases Int.lt_trichotomy d 0 with h | h | h
    · rw [Int.sign_eq_neg_one_of_neg h]; simp
    · exact absurd h hd
    · rw [Int.sign_eq_one_of_pos h]; simp
  · rw [Rat.den_divInt, if_neg hd]
    exact Nat.lt_of_le_of_lt (Nat.div_le_self _ _) hk
theorem two_add {a b : Nat} : 2 ^ (a + b) = 2 ^ a * 2 ^ b := Nat.pow_add 2 a b
theorem mul_lt2 {x y a b : Nat} (hx : x < 2 ^ a) (hy : y < 2 ^ b) : x * y < 2 ^ (a + b) := by
  rw [two_add]
  rcases Nat.eq_zero_or_pos y with h | h
  · rw [h, Nat.mul_zero]; exact Nat.mul_pos (Nat.two_pow_pos _) (Nat.two_pow_pos _)
  · exact Nat.lt_of_lt_of_le (Nat.mul_lt_mul_of_pos_right hx h) (Nat.mul_le_mul_left _ (Nat.le_of_lt hy))
theorem sz_mono {a b : Nat} {q : Rat} (h : sz a q) (hab : a ≤ b) : sz b q :=
  ⟨Nat.lt_of_lt_of_le h.1 (Nat.pow_le_pow_right (by omega) hab), Nat.lt_of_lt_of_le h.2 (Nat.pow_le_pow_right (by omega) hab)⟩
theorem sz_pos {a : Nat} {q : Rat} (h : sz a q) : 0 < a := by
  rcases Nat.eq_zero_or_pos a with e | e
  · subst e
    have := q.den_nz
    have := h.2
    simp at this
    omega
  · exact e
/-- the sizes of what is reckoned on the way to a sum -/
theorem num_add {a b : Nat} {p q : Rat} (hp : sz a p) (hq : sz b q) : (p.num * (q.den : Int) + q.num * (p.den : Int)).natAbs < 2 ^ (a + b + 1) := by
  have h1 : (p.num * (q.den : Int)).natAbs < 2 ^ (a + b) := by rw [Int.natAbs_mul, Int.natAbs_natCast]; exact mul_lt2 hp.1 hq.2
  have h2 : (q.num * (p.den : Int)).natAbs < 2 ^ (a + b) := by rw [Int.natAbs_mul, Int.natAbs_natCast, Nat.add_comm a b]; exact mul_lt2 hq.1 hp.2
  have h3 := Int.natAbs_add_le (p.num * (q.den : Int)) (q.num * (p.den : Int))
  rw [Nat.pow_succ]; omega
theorem num_sub {a b : Nat} {p q : Rat} (hp : sz a p) (hq : sz b q) : (p.num * (q.den : Int) - q.num * (p.den : Int)).natAbs < 2 ^ (a + b + 1) := by
  have h1 : (p.num * (q.den : Int)).natAbs < 2 ^ (a + b) := by rw [Int.natAbs_mul, Int.natAbs_natCast]; exact mul_lt2 hp.1 hq.2
  have h2 : (q.num * (p.den : Int)).natAbs < 2 ^ (a + b) := by rw [Int.natAbs_mul, Int.natAbs_natCast, Nat.add_comm a b]; exact mul_lt2 hq.1 hp.2
  have h3 := Int.natAbs_sub_le (p.num * (q.den : Int)) (q.num * (p.den : Int))
  rw [Nat.pow_succ]; omega
theorem den_mul {a b : Nat} {p q : Rat} (hp : sz a p) (hq : sz b q) : ((p.den : Int) * (q.den : Int)).natAbs < 2 ^ (a + b) := by
  rw [Int.natAbs_mul, Int.natAbs_natCast, Int.natAbs_natCast]; exact mul_lt2 hp.2 hq.2
theorem num_mul {a b : Nat} {p q : Rat} (hp : sz a p) (hq : sz b q) : (p.num * q.num).natAbs < 2 ^ (a + b) := by
  rw [Int.natAbs_mul]; exact mul_lt2 hp.1 hq.1
theorem den_ne {p q : Rat} : (p.den : Int) * (q.den : Int) ≠ 0 := by
  have ha : (p.den : Int) ≠ 0 := by have := p.den_nz; omega
  have hb : (q.den : Int) ≠ 0 := by have := q.den_nz; omega
  exact Int.mul_ne_zero ha hb
theorem den_mul_pos {p q : Rat} : 0 < (p.den : Int) * (q.den : Int) := by
  have ha : 0 < (p.den : Int) := by have := p.den_pos; omega
  have hb : 0 < (q.den : Int) := by have := q.den_pos; omega
  exact Int.mul_pos ha hb
theorem lt_pow_of {x a b : Nat} (h : x < 2 ^ a) (hab : a ≤ b) : x < 2 ^ b := Nat.lt_of_lt_of_le h (Nat.pow_le_pow_right (by omega) hab)
theorem sz_add {a b : Nat} {p q : Rat} (hp : sz a p) (hq : sz b q) : sz (a + b + 1) (p + q) := by
  rw [← ratio_add]
  exact sz_divInt den_ne (num_add hp hq) (lt_pow_of (den_mul hp hq) (by omega))
theorem sz_sub {a b : Nat} {p q : Rat} (hp : sz a p) (hq : sz b q) : sz (a + b + 1) (p - q) := by
  rw [← ratio_sub]
  exact sz_divInt den_ne (num_sub hp hq) (lt_pow_of (den_mul hp hq) (by omega))
theorem sz_mul {a b : Nat} {p q : Rat} (hp : sz a p) (hq : sz b q) : sz (a + b) (p * q) := by
  rw [← ratio_mul]
  exact sz_divInt den_ne (num_mul hp hq) (den_mul hp hq)
theorem sz_div {a b : Nat} {p q : Rat} (h0 : q ≠ 0) (hp : sz a p) (hq : sz b q) : sz (a + b) (p / q) := by
  have hn : q.num ≠ 0 := fun h => h0 (Rat.num_eq_zero.mp h)
  have ha : (p.den : Int) ≠ 0 := by have := p.den_nz; omega
  rw [← ratio_div]
  refine sz_divInt (Int.mul_ne_zero ha hn) ?_ ?_
  · rw [Int.natAbs_mul, Int.natAbs_natCast]; exact mul_lt2 hp.1 hq.2
  · rw [Int.natAbs_mul, Int.natAbs_natCast]; exact mul_lt2 hp.2 hq.1
theorem sz_nat {n k : Nat} (h : n < 2 ^ k) (hk : 0 < k) : sz k (n : Rat) := by
  refine ⟨by simpa using h, ?_⟩
  have : ((n : Rat)).den = 1 := rfl
  rw [this]
  exact Nat.one_lt_two_pow (by omega)
end BO

/-! Values as data: relations between a value in a heap and what it stands for; what an expression's reading comes to. -/
namespace BO
open PySem PySem.Spec PyProof.Rows L2

abbrev Ex := Evl.Ex
abbrev RR (α : Type) := Hp → V → α → Prop
/-- stays when the heap grows -/
class Mo {α : Type} (r : RR α) : Prop where
  mo : ∀ {H H' : Hp} {v : V} {x : α}, Ex H H' → r H v x → r H' v x
/-- what no store can change -/
def Tx (H H' : Hp) : Prop := ∀ b o, H b = some o → ¬ Mut (some o) → H' b = some o
theorem Tx.refl (H : Hp) : Tx H H := fun _ _ h _ => h
theorem Tx.trans {H H1 H2 : Hp} (a : Tx H H1) (b : Tx H1 H2) : Tx H H2 := fun c o h m => b c o (a c o h m) m
theorem Tx.of {H H' : Hp} (e : Ex H H') : Tx H H' := fun b o h _ => e b o h
theorem Tx.set {H H' : Hp} {l : Addr} {o u : HO} (e : Tx H H') (h : H' l = some u) (m : Mut (some u)) : Tx H (upd H' l o) := fun b x hb hm => by
  have h1 := e b x hb hm
  rw [upd_ne (fun z => by rw [z, h] at h1; cases h1; exact hm m)]
  exact h1
class Fx {α : Type} (r : RR α) : Prop where
  fx : ∀ {H H' : Hp} {v : V} {x : α}, Tx H H' → r H v x → r H' v x
instance {α : Type} {r : RR α} [h : Fx r] : Mo r := ⟨fun e q => h.fx (Tx.of e) q⟩
theorem sqT_fx {K : PySem.W.Frag} {H H' : Hp} {a : Addr} {xs : List V} (e : Tx H H') (h : SqT K H a xs) : SqT K H' a xs := by
  rcases h with (h | ⟨o, h⟩) | h
  · exact .inl (.inl (e a _ h (fun z => z)))
  · exact .inl (.inr ⟨o, e a _ h (fun z => z)⟩)
  · exact .inr h
theorem sqL_ex {K : PySem.W.Frag} {H H' : Hp} {a : Addr} {xs : List V} (e : Ex H H') (h : SqL K H a xs) : SqL K H' a xs := Evl.ex_l e h

def RI : RR Int := fun _ v i => v = .int i
def RN : RR Nat := fun _ v n => v = .int (n : Int)
def RB : RR Bool := fun _ v b => v = .bl b
def RQ (K : PySem.W.Frag) : RR Rat := fun H v q => ∃ a, v = .ref a ∧ SqT K H a [.int q.num, .int (q.den : Int)]
def RP (K : PySem.W.Frag) {α β : Type} (r : RR α) (s : RR β) : RR (α × β) := fun H v x => ∃ a v1 v2, v = .ref a ∧ SqT K H a [v1, v2] ∧ r H v1 x.1 ∧ s H v2 x.2
def All {α : Type} (r : RR α) (H : Hp) (vs : List V) (xs : List α) : Prop := vs.length = xs.length ∧ ∀ (i : Nat) (v : V) (x : α), vs[i]? = some v → xs[i]? = some x → r H v x
def RT (K : PySem.W.Frag) {α : Type} (r : RR α) : RR (List α) := fun H v xs => ∃ a vs, v = .ref a ∧ SqT K H a vs ∧ All r H vs xs
def RL (K : PySem.W.Frag) {α : Type} (r : RR α) : RR (List α) := fun H v xs => ∃ a vs, v = .ref a ∧ SqL K H a vs ∧ All r H vs xs
/-- a list or a tuple -/
def RS (K : PySem.W.Frag) {α : Type} (r : RR α) : RR (List α) := fun H v xs => ∃ a vs, v = .ref a ∧ (SqL K H a vs ∨ SqT K H a vs) ∧ All r H vs xs
def RO {α : Type} (r : RR α) : RR (Option α) := fun H v o => match o with
  | none => v = .non
  | some x => v ≠ .non ∧ r H v x
def RF (f : Addr) : RR Unit := fun _ v _ => v = .ref f
instance : Fx RI := ⟨fun _ h => h⟩
instance : Fx RN := ⟨fun _ h => h⟩
instance : Fx RB := ⟨fun _ h => h⟩
instance {f : Addr} : Fx (RF f) := ⟨fun _ h => h⟩
instance {K : PySem.W.Frag} : Fx (RQ K) := ⟨fun e ⟨a, h1, h2⟩ => ⟨a, h1, sqT_fx e h2⟩⟩
instance {K : PySem.W.Frag} {α β : Type} {r : RR α} {s : RR β} [Fx r] [Fx s] : Fx (RP K r s) := ⟨fun e ⟨a, v1, v2, h1, h2, h3, h4⟩ => ⟨a, v1, v2, h1, sqT_fx e h2, Fx.fx e h3, Fx.fx e h4⟩⟩
theorem All.fx {α : Type} {r : RR α} [Fx r] {H H' : Hp} {vs : List V} {xs : List α} (e : Tx H H') (h : All r H vs xs) : All r H' vs xs := ⟨h.1, fun i v x h1 h2 => Fx.fx e (h.2 i v x h1 h2)⟩
theorem All.mo {α : Type} {r : RR α} [Mo r] {H H' : Hp} {vs : List V} {xs : List α} (e : Ex H H') (h : All r H vs xs) : All r H' vs xs := ⟨h.1, fun i v x h1 h2 => Mo.mo e (h.2 i v x h1 h2)⟩
instance {K : PySem.W.Frag} {α : Type} {r : RR α} [Fx r] : Fx (RT K r) := ⟨fun e ⟨a, vs, h1, h2, h3⟩ => ⟨a, vs, h1, sqT_fx e h2, h3.fx e⟩⟩
instance {K : PySem.W.Frag} {α : Type} {r : RR α} [Mo r] : Mo (RL K r) := ⟨fun e ⟨a, vs, h1, h2, h3⟩ => ⟨a, vs, h1, sqL_ex e h2, h3.mo e⟩⟩
instance {K : PySem.W.Frag} {α : Type} {r : RR α} [Mo r] : Mo (RS K r) := ⟨fun e ⟨a, vs, h1, h2, h3⟩ => ⟨a, vs, h1, h2.imp (sqL_ex e) (sqT_fx (Tx.of e)), h3.mo e⟩⟩
instance {α : Type} {r : RR α} [Fx r] : Fx (RO r) := ⟨fun {H H' v x} e h => by
  cases x with
  | none => exact h
  | some x => exact ⟨h.1, Fx.fx e h.2⟩⟩
/-! lists of related things -/
section
variable {α : Type} {r : RR α} {H : Hp} {vs ws : List V} {xs ys : List α} {v : V} {x : α}
theorem All.nil : All r H [] [] := ⟨rfl, fun i v x h => by simp at h⟩
theorem All.cons (h : r H v x) (t : All r H vs xs) : All r H (v :: vs) (x :: xs) := ⟨by simp [t.1], fun i v' x' h1 h2 => by
  cases i with
  | zero =>
    simp at h1 h2
    subst h1 h2
    exact h
  | succ i => exact t.2 i v' x' (by simpa using h1) (by simpa using h2)⟩
theorem All.of_cons (h : All r H (v :: vs) (x :: xs)) : r H v x ∧ All r H vs xs := ⟨h.2 0 v x rfl rfl, by have := h.1; simpa using this, fun i v' x' h1 h2 => h.2 (i + 1) v' x' (by simpa using h1) (by simpa using h2)⟩
theorem All.append (h : All r H vs xs) (t : All r H ws ys) : All r H (vs ++ ws) (xs ++ ys) := ⟨by simp [h.1, t.1], fun i v' x' h1 h2 => by
  by_cases hi : i < vs.length
  · rw [List.getElem?_append_left hi] at h1
    rw [List.getElem?_append_left (by rw [← h.1]; exact hi)] at h2
    exact h.2 i v' x' h1 h2
  · rw [List.getElem?_append_right (by omega)] at h1
    rw [List.getElem?_append_right (by have := h.1; omega), ← h.1] at h2
    exact t.2 _ v' x' h1 h2⟩
theorem All.snoc (h : All r H vs xs) (q : r H v x) : All r H (vs ++ [v]) (xs ++ [x]) := h.append (.cons q .nil)
theorem All.set (h : All r H vs xs) (i : Nat) (q : r H v x) : All r H (vs.set i v) (xs.set i x) := ⟨by simp [h.1], fun j v' x' h1 h2 => by
  by_cases e : j = i
  · subst e
    obtain ⟨h3, _⟩ := List.getElem?_eq_some_iff.mp h1
    rw [List.length_set] at h3
    rw [List.getElem?_set_self h3] at h1
    rw [List.getElem?_set_self (by rw [← h.1]; exact h3)] at h2
    cases h1; cases h2
    exact q
  · rw [List.getElem?_set_ne (fun z => e z.symm)] at h1 h2
    exact h.2 j v' x' h1 h2⟩
theorem All.get (h : All r H vs xs) {i : Nat} (e : xs[i]? = some x) : ∃ v, vs[i]? = some v ∧ r H v x := by
  obtain ⟨h1, _⟩ := List.getElem?_eq_some_iff.mp e
  have h2 : i < vs.length := by rw [h.1]; exact h1
  exact ⟨vs[i], List.getElem?_eq_getElem h2, h.2 i _ x (List.getElem?_eq_getElem h2) e⟩
theorem All.got (h : All r H vs xs) {i : Nat} (e : vs[i]? = some v) : ∃ x, xs[i]? = some x ∧ r H v x := by
  obtain ⟨h1, _⟩ := List.getElem?_eq_some_iff.mp e
  have h2 : i < xs.length := by rw [← h.1]; exact h1
  exact ⟨xs[i], List.getElem?_eq_getElem h2, h.2 i v _ e (List.getElem?_eq_getElem h2)⟩
theorem All.rep (n : Nat) (q : r H v x) : All r H (List.replicate n v) (List.replicate n x) := ⟨by simp, fun i v' x' h1 h2 => by
  rw [List.getElem?_replicate] at h1 h2
  split at h1
  · rename_i hi
    rw [if_pos hi] at h2
    cases h1; cases h2
    exact q
  · cases h1⟩
theorem All.map {β : Type} {s : RR β} {f : α → β} (h : All r H vs xs) (q : ∀ v x, r H v x → s H v (f x)) : All s H vs (xs.map f) := ⟨by simp [h.1], fun i v' y h1 h2 => by
  obtain ⟨x', e, hr⟩ := h.got h1
  rw [List.getElem?_map, e] at h2
  cases h2
  exact q _ _ hr⟩
theorem All.ints {H : Hp} {vs : List V} {ns : List Int} (h : All RI H vs ns) : vs = ns.map V.int := by
  refine List.ext_getElem? fun i => ?_
  rw [List.getElem?_map]
  cases e : vs[i]? with
  | none =>
    rw [List.getElem?_eq_none (by rw [← h.1]; exact List.getElem?_eq_none_iff.mp e)]
    rfl
  | some v =>
    obtain ⟨x, h1, h2⟩ := h.got e
    rw [h1]
    exact congrArg some h2
theorem All.nats {H : Hp} {vs : List V} {ns : List Nat} (h : All RN H vs ns) : vs = ns.map fun n : Nat => V.int (n : Int) := by
  refine List.ext_getElem? fun i => ?_
  rw [List.getElem?_map]
  cases e : vs[i]? with
  | none =>
    rw [List.getElem?_eq_none (by rw [← h.1]; exact List.getElem?_eq_none_iff.mp e)]
    rfl
  | some v =>
    obtain ⟨x, h1, h2⟩ := h.got e
    rw [h1]
    exact congrArg some h2
theorem All.of_nats {H : Hp} (ns : List Nat) : All RN H (ns.map fun n : Nat => V.int (n : Int)) ns := ⟨by simp, fun i v x h1 h2 => by
  rw [List.getElem?_map, h2] at h1
  cases h1
  rfl⟩
theorem All.bools {H : Hp} {vs : List V} {bs : List Bool} (h : All RB H vs bs) : vs = bs.map V.bl := by
  refine List.ext_getElem? fun i => ?_
  rw [List.getElem?_map]
  cases e : vs[i]? with
  | none =>
    rw [List.getElem?_eq_none (by rw [← h.1]; exact List.getElem?_eq_none_iff.mp e)]
    rfl
  | some v =>
    obtain ⟨x, h1, h2⟩ := h.got e
    rw [h1]
    exact congrArg some h2
end

/-! ### what a reading comes to -/
def EvR {α : Type} (r : RR α) (te : TE) (σ : L2.St) (H : Hp) (x : α) : Prop := ∀ H1, Ex H H1 → ∀ Q : VK, (∀ v H2, Ex H1 H2 → r H2 v x → Q v H2) → te σ H1 Q
/-- a new list -/
def EvF {α : Type} (r : RR α) (te : TE) (σ : L2.St) (H : Hp) (xs : List α) : Prop := ∀ H1, Ex H H1 → ∀ Q : VK, (∀ p vs H2, H1 p = none → Ex H1 H2 → H2 p = some (.lst vs) → All r H2 vs xs → Q (.ref p) H2) → te σ H1 Q
abbrev EvT := Evl.EvT
/-- argument lists -/
abbrev AR (α : Type) := Hp → List V → α → Prop
def A0 : AR Unit := fun _ vs _ => vs = []
def AC {α β : Type} (r : RR α) (A : AR β) : AR (α × β) := fun H vs x => ∃ v ws, vs = v :: ws ∧ r H v x.1 ∧ A H ws x.2
class MoA {α : Type} (A : AR α) : Prop where
  mo : ∀ {H H' : Hp} {vs : List V} {x : α}, Ex H H' → A H vs x → A H' vs x
instance : MoA A0 := ⟨fun _ h => h⟩
instance {α β : Type} {r : RR α} {A : AR β} [Mo r] [MoA A] : MoA (AC r A) := ⟨fun e ⟨v, ws, h1, h2, h3⟩ => ⟨v, ws, h1, Mo.mo e h2, MoA.mo e h3⟩⟩
def EvA {α : Type} (A : AR α) (ta : TA) (σ : L2.St) (H : Hp) (x : α) : Prop := ∀ H1, Ex H H1 → ∀ Q : List V → Hp → Prop, (∀ vs H2, Ex H1 H2 → A H2 vs x → Q vs H2) → ta σ H1 Q
section
variable {K : PySem.W.Frag} {σ : L2.St} {H H' : Hp} {ta tb te tc : TE} {t u : TT} {α β γ : Type} {r : RR α} {s : RR β}
theorem EvR.mono {x : α} (h : EvR r te σ H x) (e : Ex H H') : EvR r te σ H' x := fun H1 a Q q => h H1 (e.trans a) Q q
theorem EvF.mono {xs : List α} (h : EvF r te σ H xs) (e : Ex H H') : EvF r te σ H' xs := fun H1 a Q q => h H1 (e.trans a) Q q
theorem EvF.toR {xs : List α} (h : EvF r te σ H xs) : EvR (RL K r) te σ H xs := fun H1 e Q q => h H1 e Q fun p vs H2 _ e2 hp ha => q _ H2 e2 ⟨p, vs, rfl, SqL.of hp, ha⟩
theorem EvR.imp {x : α} {y : β} (h : EvR r te σ H x) (f : ∀ H v, r H v x → s H v y) : EvR s te σ H y := fun H1 e Q q => h H1 e Q fun v H2 e2 hv => q v H2 e2 (f H2 v hv)
theorem e_var {i : Nat} {v : V} {x : α} [Mo r] (h : σ[i]? = some (some v)) (hr : r H v x) : EvR r (tVar i) σ H x := fun H1 e _ q => ⟨v, h, q v H1 (Evl.Ex.refl _) (Mo.mo e hr)⟩
theorem e_int {i : Int} : EvR RI (tC (.int i)) σ H i := fun H1 _ _ q => q _ H1 (Evl.Ex.refl _) rfl
theorem e_nat {n : Nat} : EvR RN (tC (.int (n : Int))) σ H n := fun H1 _ _ q => q _ H1 (Evl.Ex.refl _) rfl
theorem e_zero : EvR RN (tC (.int 0)) σ H 0 := fun H1 _ _ q => q _ H1 (Evl.Ex.refl _) rfl
theorem e_bl {b : Bool} : EvR RB (tC (.bl b)) σ H b := fun H1 _ _ q => q _ H1 (Evl.Ex.refl _) rfl
theorem e_con {v : V} {x : α} [Mo r] (h : r H v x) : EvR r (tC v) σ H x := fun H1 e _ q => q v H1 (Evl.Ex.refl _) (Mo.mo e h)
theorem e_nn {n : Nat} {te : TE} (h : EvR RN te σ H n) : EvR RI te σ H (n : Int) := h
/-- ints -/
theorem e_op0 {g : Int → Int → Int} {i j : Int} (ha : EvR RI ta σ H i) (hb : EvR RI tb σ H j) : EvR RI (tOp (rI0 fun i j => .int (g i j)) ta tb) σ H (g i j) := fun H1 e Q q =>
  ha H1 e _ fun v H2 e2 hv => hb H2 (e.trans e2) _ fun w H3 e3 hw => ⟨i, j, hv, hw, q _ H3 (e2.trans e3) rfl⟩
theorem e_opC {C : Int → Int → Prop} {g : Int → Int → Int} {i j : Int} (hc : C i j) (ha : EvR RI ta σ H i) (hb : EvR RI tb σ H j) : EvR RI (tOp (rI C fun i j => .int (g i j)) ta tb) σ H (g i j) := fun H1 e Q q =>
  ha H1 e _ fun v H2 e2 hv => hb H2 (e.trans e2) _ fun w H3 e3 hw => ⟨i, j, hv, hw, hc, q _ H3 (e2.trans e3) rfl⟩
theorem e_opB {g : Int → Int → Bool} {i j : Int} (ha : EvR RI ta σ H i) (hb : EvR RI tb σ H j) : EvR RB (tOp (rI0 fun i j => .bl (g i j)) ta tb) σ H (g i j) := fun H1 e Q q =>
  ha H1 e _ fun v H2 e2 hv => hb H2 (e.trans e2) _ fun w H3 e3 hw => ⟨i, j, hv, hw, q _ H3 (e2.trans e3) rfl⟩
theorem e_eqI {i j : Int} (ha : EvR RI ta σ H i) (hb : EvR RI tb σ H j) : EvR RB (tOp rEq ta tb) σ H (decide (i = j)) := fun H1 e Q q =>
  ha H1 e _ fun v H2 e2 hv => hb H2 (e.trans e2) _ fun w H3 e3 hw => by
    have hv : v = .int i := hv
    have hw : w = .int j := hw
    subst hv hw
    refine ⟨rfl, q _ H3 (e2.trans e3) ?_⟩
    show V.bl _ = V.bl _
    rw [dec_int, Bool.beq_eq_decide_eq]
theorem e_neI {i j : Int} (ha : EvR RI ta σ H i) (hb : EvR RI tb σ H j) : EvR RB (tOp rNe ta tb) σ H (!decide (i = j)) := fun H1 e Q q =>
  ha H1 e _ fun v H2 e2 hv => hb H2 (e.trans e2) _ fun w H3 e3 hw => by
    have hv : v = .int i := hv
    have hw : w = .int j := hw
    subst hv hw
    refine ⟨rfl, q _ H3 (e2.trans e3) ?_⟩
    show V.bl _ = V.bl _
    rw [dec_int, Bool.beq_eq_decide_eq]
theorem e_neg {i : Int} (ha : EvR RI ta σ H i) : EvR RI (tUn (rU fun i => .int (-i)) ta) σ H (-i) := fun H1 e Q q => ha H1 e _ fun v H2 e2 hv => ⟨i, hv, q _ H2 e2 rfl⟩
theorem e_not {b : Bool} (ha : EvR RB ta σ H b) : EvR RB (tNotV ta) σ H (!b) := fun H1 e Q q => ha H1 e _ fun v H2 e2 hv => ⟨b, hv, q _ H2 e2 rfl⟩
theorem e_or {a b : Bool} (h1 : EvR RB ta σ H a) (h2 : a = false → EvR RB tb σ H b) : EvR RB (tOrV ta tb) σ H (a || b) := fun H1 e Q q => h1 H1 e _ fun v H2 e2 hv => ⟨a, hv, by
  cases a with
  | true => exact q _ H2 e2 rfl
  | false => exact h2 rfl H2 (e.trans e2) Q fun v H3 e3 hv => q v H3 (e2.trans e3) hv⟩
theorem e_if {b : Bool} {x : α} (h : EvT t σ H b) (h1 : b = true → EvR r ta σ H x) (h2 : b = false → EvR r tb σ H x) : EvR r (tIf t ta tb) σ H x := fun H1 e Q q => h H1 e _ fun H2 e2 => by
  cases b with
  | true => exact h1 rfl H2 (e.trans e2) Q fun v H3 e3 hv => q v H3 (e2.trans e3) hv
  | false => exact h2 rfl H2 (e.trans e2) Q fun v H3 e3 hv => q v H3 (e2.trans e3) hv
/-- tests -/
theorem t_val {b : Bool} (h : EvR RB te σ H b) : EvT (tB te) σ H b := fun H1 e Q q => h H1 e _ fun v H2 e2 hv => ⟨b, hv, q H2 e2⟩
theorem t_cmp {b : Bool} (h : EvR RB te σ H b) : EvT (tTest te) σ H b := fun H1 e Q q => h H1 e _ fun v H2 e2 hv => ⟨b, hv, q H2 e2⟩
/-- items -/
theorem e_num {q : Rat} (h : EvR (RQ K) ta σ H q) : EvR RI (tOp (rIxT K) ta (tC (.int 0))) σ H q.num := fun H1 e Q k => h H1 e _ fun v H2 e2 ⟨a, hv, hs⟩ => ⟨a, _, 0, .int q.num, hv, rfl, hs, rfl, k _ H2 e2 rfl⟩
theorem e_den {q : Rat} (h : EvR (RQ K) ta σ H q) : EvR RN (tOp (rIxT K) ta (tC (.int 1))) σ H q.den := fun H1 e Q k => h H1 e _ fun v H2 e2 ⟨a, hv, hs⟩ => ⟨a, _, 1, .int (q.den : Int), hv, rfl, hs, rfl, k _ H2 e2 rfl⟩
theorem e_fst {x : α × β} (h : EvR (RP K r s) ta σ H x) : EvR r (tOp (rIxT K) ta (tC (.int 0))) σ H x.1 := fun H1 e Q k => h H1 e _ fun v H2 e2 ⟨a, v1, v2, hv, hs, h1, _⟩ => ⟨a, _, 0, v1, hv, rfl, hs, rfl, k _ H2 e2 h1⟩
theorem e_snd {x : α × β} (h : EvR (RP K r s) ta σ H x) : EvR s (tOp (rIxT K) ta (tC (.int 1))) σ H x.2 := fun H1 e Q k => h H1 e _ fun v H2 e2 ⟨a, v1, v2, hv, hs, _, h2⟩ => ⟨a, _, 1, v2, hv, rfl, hs, rfl, k _ H2 e2 h2⟩
theorem e_ixT {xs : List α} {i : Nat} {x : α} [Fx r] (h : EvR (RT K r) ta σ H xs) (hi : EvR RN tb σ H i) (hx : xs[i]? = some x) : EvR r (tOp (rIxT K) ta tb) σ H x := fun H1 e Q k =>
  h H1 e _ fun v H2 e2 ⟨a, vs, hv, hs, hal⟩ => hi H2 (e.trans e2) _ fun w H3 e3 hw => by
    obtain ⟨u, hu, hr⟩ := (hal.fx (Tx.of e3)).get hx
    exact ⟨a, vs, (i : Int), u, hv, hw, sqT_fx (Tx.of e3) hs, atI_nat hu, k u H3 (e2.trans e3) hr⟩
theorem e_ixL {xs : List α} {i : Nat} {x : α} [Mo r] (h : EvR (RL K r) ta σ H xs) (hi : EvR RN tb σ H i) (hx : xs[i]? = some x) : EvR r (tOp (rIxL K) ta tb) σ H x := fun H1 e Q k =>
  h H1 e _ fun v H2 e2 ⟨a, vs, hv, hs, hal⟩ => hi H2 (e.trans e2) _ fun w H3 e3 hw => by
    obtain ⟨u, hu, hr⟩ := (hal.mo e3).get hx
    exact ⟨a, vs, (i : Int), u, hv, hw, sqL_ex e3 hs, atI_nat hu, k u H3 (e2.trans e3) hr⟩
theorem e_ixS {xs : List α} {i : Nat} {x : α} [Mo r] (h : EvR (RS K r) ta σ H xs) (hi : EvR RN tb σ H i) (hx : xs[i]? = some x) : EvR r (tOp (rIx K) ta tb) σ H x := fun H1 e Q k =>
  h H1 e _ fun v H2 e2 ⟨a, vs, hv, hs, hal⟩ => hi H2 (e.trans e2) _ fun w H3 e3 hw => by
    obtain ⟨u, hu, hr⟩ := (hal.mo e3).get hx
    rcases hs with hs | hs
    · exact .inl ⟨a, vs, (i : Int), u, hv, hw, sqL_ex e3 hs, atI_nat hu, k u H3 (e2.trans e3) hr⟩
    · exact .inr (.inl ⟨a, vs, (i : Int), u, hv, hw, sqT_fx (Tx.of e3) hs, atI_nat hu, k u H3 (e2.trans e3) hr⟩)
/-- arguments -/
theorem a_nil : EvA A0 tNil σ H () := fun H1 _ Q q => q [] H1 (Evl.Ex.refl _) rfl
theorem a_cons {A : AR β} {tr : TA} {x : α} {y : β} [Mo r] (h : EvR r ta σ H x) (hr : EvA A tr σ H y) : EvA (AC r A) (tCons ta tr) σ H (x, y) := fun H1 e Q q =>
  h H1 e _ fun v H2 e2 hv => hr H2 (e.trans e2) _ fun ws H3 e3 hw => q _ H3 (e2.trans e3) ⟨v, ws, rfl, Mo.mo e3 hv, hw⟩
/-- displays -/
theorem e_pair {x : α} {y : β} [Fx r] [Fx s] (h1 : EvR r ta σ H x) (h2 : EvR s tb σ H y) : EvR (RP K r s) (tTup (tCons ta (tCons tb tNil))) σ H (x, y) := fun H1 e Q q =>
  h1 H1 e _ fun v H2 e2 hv => h2 H2 (e.trans e2) _ fun w H3 e3 hw => ⟨by show 2 ≤ sizeLine; decide, fun p hp => q _ _ ((e2.trans e3).trans (Evl.Ex.new hp)) ⟨p, v, w, rfl, SqT.of upd_same, Fx.fx (Tx.of (e3.trans (Evl.Ex.new hp))) hv, Fx.fx (Tx.of (Evl.Ex.new hp)) hw⟩⟩
/-- (n, d) as a fraction -/
theorem e_frac {n : Int} {d : Int} {q : Rat} (h1 : EvR RI ta σ H n) (h2 : EvR RI tb σ H d) (hn : q.num = n) (hd : (q.den : Int) = d) : EvR (RQ K) (tTup (tCons ta (tCons tb tNil))) σ H q := fun H1 e Q k =>
  h1 H1 e _ fun v H2 e2 hv => h2 H2 (e.trans e2) _ fun w H3 e3 hw => ⟨by show 2 ≤ sizeLine; decide, fun p hp => k _ _ ((e2.trans e3).trans (Evl.Ex.new hp)) ⟨p, rfl, SqT.of (by
    have hv : v = .int n := hv
    have hw : w = .int d := hw
    rw [hv, hw, ← hn, ← hd]
    exact upd_same)⟩⟩
/-- len -/
theorem e_lenL {xs : List α} (h : EvR (RL K r) ta σ H xs) : EvR RN (tCB (Evl.rLenS K) (tCons ta tNil)) σ H xs.length := fun H1 e Q k => h H1 e _ fun v H2 e2 ⟨a, vs, hv, hs, hal⟩ => by
  subst hv
  refine ⟨a, vs, rfl, .inl hs, k _ H2 e2 ?_⟩
  show V.int _ = V.int _
  rw [hal.1]
theorem e_lenT {xs : List α} (h : EvR (RT K r) ta σ H xs) : EvR RN (tCB (Evl.rLenS K) (tCons ta tNil)) σ H xs.length := fun H1 e Q k => h H1 e _ fun v H2 e2 ⟨a, vs, hv, hs, hal⟩ => by
  subst hv
  refine ⟨a, vs, rfl, .inr hs, k _ H2 e2 ?_⟩
  show V.int _ = V.int _
  rw [hal.1]
theorem e_lenS {xs : List α} (h : EvR (RS K r) ta σ H xs) : EvR RN (tCB (Evl.rLenS K) (tCons ta tNil)) σ H xs.length := fun H1 e Q k => h H1 e _ fun v H2 e2 ⟨a, vs, hv, hs, hal⟩ => by
  subst hv
  refine ⟨a, vs, rfl, hs, k _ H2 e2 ?_⟩
  show V.int _ = V.int _
  rw [hal.1]
end

/-! ### promises -/
/-- the tables that may grow -/
def Tb (T : List Addr) (H : Hp) : Prop := ∀ P ∈ T, H P = some (TabO P)
theorem Tb.ex {T : List Addr} {H H' : Hp} (h : Tb T H) (e : Ex H H') : Tb T H' := fun P hP => e P _ (h P hP)
def spP (T : List Addr) {α β : Type} (A : AR α) (pre : α → Prop) (r : RR β) (post : α → β → Prop) : Sp := fun vs H Q _ => ∃ x, Tb T H ∧ A H vs x ∧ pre x ∧ ∀ y v H', post x y → Ex H H' → r H' v y → Q v H'
/-- a new list is handed back -/
def spF (T : List Addr) {α β : Type} (A : AR α) (pre : α → Prop) (r : RR β) (post : α → List β → Prop) : Sp := fun vs H Q _ => ∃ x, Tb T H ∧ A H vs x ∧ pre x ∧ ∀ ys p ws H', post x ys → H p = none → Ex H H' → H' p = some (.lst ws) → All r H' ws ys → Q (.ref p) H'
structure Has (P : Program) (w : World) (K : PySem.W.Frag) (mg : Str → Option Value) (base : Heap) (x : Str) (ps : List Str) (k : Nat) (sp : Sp) (f : Addr) : Prop where
  ex : ∃ fd, FnOk P w K mg base CX0 k f fd ps sp ∧ Binds K fd ps []
  m : mg x = some (.ref f)
  kp : PySem.W.keepIn K (.ref f) = true
section
variable {X : Cx} {k : Nat} {x : Str} {ps : List Str} {sp : Sp} {f : Addr} {p pos : Pos} {e : Expr} {es : List Expr} {t : TA}
theorem pe_has (h : Has X.prog X.w X.K X.mg X.base x ps k sp f) (hr : Room k X.A) (hg : Gl X x) (ha : PA X (e :: es) t) (hdb : (x == ("__debug__" : Str)) = false := by decide)
    (he : starEach (e :: es) X.env = (false, eval e X.env) :: starEach es X.env := by rfl) (hpl : (backTo pos (starEach es X.env)).any (·.1) = false := by rfl) : PE X (.Call (.Name x p) (e :: es) [] pos) (tCall sp [] E0 t) := by
  obtain ⟨fd, F, b⟩ := h.ex
  exact pe_call F hr hg h.m h.kp b .nil pass0 ha hdb he hpl
theorem pe_hasL {y : Str} {i : Nat} (h : Has X.prog X.w X.K X.mg X.base x ps k sp f) (hr : Room k X.A) (hN : X.N[i]? = some y) (hv : Vis X.env.scope y) (ha : PA X (e :: es) t) (hdb : (y == ("__debug__" : Str)) = false := by decide) (hcd : (y == ("__classdict__" : Str)) = false := by decide)
    (he : starEach (e :: es) X.env = (false, eval e X.env) :: starEach es X.env := by rfl) (hpl : (backTo pos (starEach es X.env)).any (·.1) = false := by rfl) : PE X (.Call (.Name y p) (e :: es) [] pos) (tCallL i f sp [] E0 t) := by
  obtain ⟨fd, F, b⟩ := h.ex
  exact pe_callL F hr hN hv h.kp b .nil pass0 ha hdb hcd he hpl
end
section
variable {K : PySem.W.Frag} {T : List Addr} {σ : L2.St} {H : Hp} {α β : Type} {A : AR α} {pre : α → Prop} {r : RR β} {ta : TA} {x : α}
theorem e_call {f : α → β} (tb : Tb T H) (ha : EvA A ta σ H x) (hp : pre x) : EvR r (tCall (spP T A pre r fun x y => y = f x) [] E0 ta) σ H (f x) := fun H1 e Q q =>
  ha H1 e _ fun vs H2 e2 hv => ⟨x, tb.ex (e.trans e2), by rw [List.append_nil]; exact hv, hp, fun y v H' hy e3 hr => q v H' (e2.trans e3) (by rw [← hy]; exact hr)⟩
theorem e_callL {i : Nat} {g : Addr} {f : α → β} (hi : σ[i]? = some (some (.ref g))) (tb : Tb T H) (ha : EvA A ta σ H x) (hp : pre x) : EvR r (tCallL i g (spP T A pre r fun x y => y = f x) [] E0 ta) σ H (f x) := fun H1 e Q q =>
  ⟨hi, ha H1 e _ fun vs H2 e2 hv => ⟨x, tb.ex (e.trans e2), by rw [List.append_nil]; exact hv, hp, fun y v H' hy e3 hr => q v H' (e2.trans e3) (by rw [← hy]; exact hr)⟩⟩
theorem e_callF {f : α → List β} (tb : Tb T H) (ha : EvA A ta σ H x) (hp : pre x) : EvF r (tCall (spF T A pre r fun x y => y = f x) [] E0 ta) σ H (f x) := fun H1 e Q q =>
  ha H1 e _ fun vs H2 e2 hv => ⟨x, tb.ex (e.trans e2), by rw [List.append_nil]; exact hv, hp, fun y p ws H' hy hn e3 h1 h2 => q p ws H' (Evl.fresh_back e2 hn) (e2.trans e3) h1 (by rw [← hy]; exact h2)⟩
end
/-! ### statements -/
section
variable {K : PySem.W.Frag} {σ : L2.St} {H : Hp} {te : TE} {tu tw tz : TS} {t : TT} {D : Ends} {α β : Type} {r : RR α} {s : RR β} {i j : Nat}
theorem s_ret {x : α} (h : EvR r te σ H x) (k : ∀ v H', Ex H H' → r H' v x → D.rt v H') : tRet te D σ H := h H (Evl.Ex.refl H) _ k
theorem s_retF {xs : List α} (h : EvF r te σ H xs) (k : ∀ p vs H', H p = none → Ex H H' → H' p = some (.lst vs) → All r H' vs xs → D.rt (.ref p) H') : tRet te D σ H := h H (Evl.Ex.refl H) _ k
theorem s_asg {x : α} (h : EvR r te σ H x) (k : ∀ v H', Ex H H' → r H' v x → D.nx (σ.set i (some v)) H') : tAsg te (gName i) D σ H := h H (Evl.Ex.refl H) _ k
theorem q_asg {x : α} (h : EvR r te σ H x) (k : ∀ v H', Ex H H' → r H' v x → tz D (σ.set i (some v)) H') : tSeq (tAsg te (gName i)) tz D σ H := h H (Evl.Ex.refl H) _ k
theorem q_asgF {xs : List α} (h : EvF r te σ H xs) (k : ∀ p vs H', H p = none → Ex H H' → H' p = some (.lst vs) → All r H' vs xs → tz D (σ.set i (some (.ref p))) H') : tSeq (tAsg te (gName i)) tz D σ H := h H (Evl.Ex.refl H) _ k
theorem q_asg2 {x : α} {y : β} [Fx r] [Fx s] (h : EvR (RP K r s) te σ H (x, y)) (k : ∀ v w H', Ex H H' → r H' v x → s H' w y → tz D ((σ.set i (some v)).set j (some w)) H') : tSeq (tAsg te (gTup K 2 (gCons (gName i) (gCons (gName j) gNil)))) tz D σ H :=
  h H (Evl.Ex.refl H) _ fun v H2 e2 ⟨a, v1, v2, hv, hs, h1, h2⟩ => ⟨a, [v1, v2], hv, hs, rfl, v1, [v2], rfl, v2, [], rfl, rfl, k v1 v2 H2 e2 h1 h2⟩
end
end BO

namespace BO
open PySem PySem.Spec PyProof.Rows L2
def topS (i : Nat) : Stmt := PySem.Challenge.pw_bestodds_k21_whole_steps_come_closer.main.body.getD i (.Pass ⟨0, 0, 0, 0⟩)
/-- what the top has left: built-in names free, gcd, the two constants -/
structure Top (K : PySem.W.Frag) (mg : Str → Option Value) (zZ zO : Addr) : Prop where
  b_len : mg "len" = none
  b_int : mg "int" = none
  b_abs : mg "abs" = none
  b_list : mg "list" = none
  b_tuple : mg "tuple" = none
  b_range : mg "range" = none
  b_enumerate : mg "enumerate" = none
  b_sum : mg "sum" = none
  b_any : mg "any" = none
  b_all : mg "all" = none
  mgcd : mg "gcd" = some (.builtin "math.gcd")
  mZERO : mg "ZERO" = some (.ref zZ)
  mONE : mg "ONE" = some (.ref zO)
  tZ : ∀ H : Hp, SqT K H zZ [.int 0, .int 1]
  tO : ∀ H : Hp, SqT K H zO [.int 1, .int 1]
theorem Top.zero {K : PySem.W.Frag} {mg : Str → Option Value} {zZ zO : Addr} (T : Top K mg zZ zO) (H : Hp) : RQ K H (.ref zZ) 0 := ⟨zZ, rfl, T.tZ H⟩
theorem Top.one {K : PySem.W.Frag} {mg : Str → Option Value} {zZ zO : Addr} (T : Top K mg zZ zO) (H : Hp) : RQ K H (.ref zO) 1 := ⟨zO, rfl, T.tO H⟩
/-- a def of the text whose code object is known with its table -/
structure FunC (K : PySem.W.Frag) (mg : Str → Option Value) (base : Heap) (TT : List Addr) (x : Str) (st : Stmt) (f : Addr) (fd : FuncData) (c Pt : Addr) : Prop where
  ex : ∃ (oc : Value) (od : Option Addr) (kV doc pm : Value) (an : Option Addr) (ct : Value) (osl : Array (Option Value)),
    fd = PySem.W.fnOf x x (defArgs st) (defBody st) (defScope st) .none kV doc pm an (.ref c) ct ∧ K.lookup f = some ⟨oc, od, .func fd, osl⟩ ∧ PySem.W.codeIn K (.ref c) x = true
  tb : GxR.TabB base mg c Pt
  mem : Pt ∈ TT
section
variable {P : Program} {w : World} {K : PySem.W.Frag} {mg : Str → Option Value} {base : Heap} {TT : List Addr}
theorem FunC.ok {x : Str} {st : Stmt} {f c Pt : Addr} {fd : FuncData} {N ps : List Str} {k : Nat} {sp : Sp} (F : FunC K mg base TT x st f fd c Pt) (S : FnScope N ps (defScope st)) (len : ∀ vs H Q E, sp vs H Q E → vs.length = ps.length)
    (hbody : ∀ (A : Around) (outer : List Env) (s : Shared) (H : Hp) (vs : List V) (Q : VK) (E : XK), Room k (A.deeper (envOfC x (defScope st) s.heap.objs.size f (.ref c))) → sp vs H Q E →
      ∃ t, PSs (cxOf CX0 P w K mg base N x (defScope st) f (.ref c) A outer s H E).nox (defBody st) t ∧ t { nx := fun _ H' => Q .non H', rt := Q } (start N vs) H) : FnOk P w K mg base CX0 (k + 1) f fd ps sp := by
  obtain ⟨oc, od, kV, doc, pm, an, ct, osl, rfl, lk, hcd⟩ := F.ex
  refine fn_of lk hcd S len fun A outer s H vs Q E hr hsp => ?_
  obtain ⟨t, h, q⟩ := hbody A outer s H vs Q E hr hsp
  exact ⟨t, h.nox, q⟩
theorem A0.len {H : Hp} {vs : List V} {x : Unit} (h : A0 H vs x) : vs.length = 0 := by rw [h]; rfl
theorem AC.len {α β : Type} {r : RR α} {A : AR β} {n : Nat} {H : Hp} {vs : List V} {x : α × β} (hA : ∀ vs, A H vs x.2 → vs.length = n) (h : AC r A H vs x) : vs.length = n + 1 := by
  obtain ⟨v, ws, rfl, _, h3⟩ := h
  rw [List.length_cons, hA ws h3]
end
def gxC (XN : List Str) (sc scope : Scope) (xa xb : Str) (Nr : List Str) (cap : List Nat) : Bool :=
  (match scope.kind with | .function => true | _ => false) && !scope.isCoroutine && (scope.names.all fun y => match y.2 with | .cell => false | _ => true) &&
    decide (scope.names.lookup (".0" : Str) = some NameKind.local) && decide (scope.names.lookup xa = some NameKind.local) && decide (scope.names.lookup xb = some NameKind.local) &&
    (scope.names.all fun y => match y.2 with
      | .free => (match sc.names.lookup y.1 with | some .cell => true | some .free => true | _ => false)
      | _ => true) && decide (cap.length = Nr.length) &&
    ((List.range Nr.length).all fun j => match Nr[j]?, cap[j]? with
      | some x, some i => decide (XN[i]? = some x) && decide (scope.names.lookup x = some NameKind.free)
      | _, _ => true) && decide ((xa :: xb :: Nr).Nodup)
theorem gxS_by {XN : List Str} {sc scope : Scope} {xa xb : Str} {Nr : List Str} {cap : List Nat} (h : gxC XN sc scope xa xb Nr cap = true) : GxS XN sc scope xa xb Nr cap := by
  unfold gxC at h
  simp only [Bool.and_eq_true, List.all_eq_true, decide_eq_true_eq] at h
  obtain ⟨⟨⟨⟨⟨⟨⟨⟨⟨h1, h2⟩, h3⟩, h4⟩, h5⟩, h6⟩, h7⟩, h8⟩, h9⟩, h10⟩ := h
  refine ⟨?_, by simpa using h2, fun y hy e => ?_, h4, h5, h6, fun y hy e => ?_, h8, fun j x i e1 e2 => ?_, h10⟩
  · split at h1
    · assumption
    · cases h1
  · have := h3 y hy
    rw [e] at this
    cases this
  · have := h7 y hy
    rw [e] at this
    revert this
    cases sc.names.lookup y.1 with
    | none => intro z; cases z
    | some k => cases k <;> intro z <;> first | exact .inl rfl | exact .inr rfl | cases z
  · have hj : j < Nr.length := (List.getElem?_eq_some_iff.mp e1).1
    have := h9 j (List.mem_range.mpr hj)
    rw [e1, e2] at this
    simpa using this
end BO

/-! Comprehensions and generator expressions by what they make. -/
namespace BO
open PySem PySem.Spec PyProof.Rows L2
section
variable {K : PySem.W.Frag} {σ σ2 : L2.St} {H H' H0 : Hp} {α β γ : Type} {r : RR α} {s : RR β} {te tl tn : TE} {tt : TT} {D : Addr}
/-- the list in the making holds ys -/
def Cr (r : RR α) (H0 : Hp) (D : Addr) (ys : List α) (H' : Hp) : Prop := H0 D = none ∧ Ex H0 H' ∧ ∃ ws, H' D = some (.lst ws) ∧ All r H' ws ys
theorem Cr.start (hD : H0 D = none) : Cr r H0 D [] (upd H0 D (.lst [])) := ⟨hD, Evl.Ex.new hD, [], upd_same, .nil⟩
theorem small5 {n : Nat} (h : n ≤ 100000) : n < sizeLine := Nat.lt_of_le_of_lt h (by decide)
theorem cr_turn [Fx r] {ys : List α} {b : Bool} {y : α} {Z : Hp → Prop} (h : Cr r H0 D ys H') (hz : ys.length ≤ 100000) (ht : EvT tt σ2 H' b) (he : b = true → EvR r te σ2 H' y) (hZ : ∀ H4, Cr r H0 D (if b then ys ++ [y] else ys) H4 → Z H4) :
    tt σ2 H' fun b H3 => if b = true then te σ2 H3 fun y H4 => ∃ acc, H4 D = some (.lst acc) ∧ acc.length < sizeLine ∧ Z (upd H4 D (.lst (acc ++ [y]))) else Z H3 := by
  obtain ⟨h1, h2, ws, h3, h4⟩ := h
  refine ht H' (Evl.Ex.refl _) _ fun H3 e3 => ?_
  cases b with
  | true =>
    refine iteT (he rfl H3 e3 _ fun v H4 e4 hv => ?_)
    have e : Ex H' H4 := e3.trans e4
    have hD := e D _ h3
    refine ⟨ws, hD, by rw [h4.1]; exact small5 hz, hZ _ ⟨h1, Evl.Ex.mut (h2.trans e) h1, ws ++ [v], upd_same, ?_⟩⟩
    have t := Tx.set (o := .lst (ws ++ [v])) (Tx.refl H4) hD trivial
    exact ((h4.fx (Tx.of e)).fx t).snoc (Fx.fx t hv)
  | false =>
    refine iteF (hZ _ ⟨h1, h2.trans e3, ws, e3 D _ h3, h4.mo e3⟩)
def fm (p : Nat → Bool) (f : Nat → α) (n : Nat) : List α := ((List.range n).filter p).map f
theorem fm_succ (p : Nat → Bool) (f : Nat → α) (n : Nat) : fm p f (n + 1) = if p n then fm p f n ++ [f n] else fm p f n := by
  unfold fm
  rw [List.range_succ, List.filter_append, List.map_append]
  cases h : p n with
  | true => simp [List.filter, h]
  | false => simp [List.filter, h]
theorem fm_len (p : Nat → Bool) (f : Nat → α) (n : Nat) : (fm p f n).length ≤ n := by
  unfold fm
  rw [List.length_map]
  exact Nat.le_trans (List.length_filter_le _ _) (by simp)
theorem fm_true (f : Nat → α) (n : Nat) : fm (fun _ => true) f n = (List.range n).map f := by
  unfold fm
  rw [List.filter_eq_self.mpr (fun _ _ => rfl)]
/-- [e for x in range(n) if t] -/
theorem f_range [Fx r] {n j : Nat} {vs : List Nat} (p : Nat → Bool) (f : Nat → α) (hn : EvR RN tn σ H n) (hle : n ≤ 100000) (hw : ∀ x, wipe ((wipe σ vs).set j (some x)) vs = wipe σ vs)
    (ht : ∀ i H', i < n → Ex H H' → EvT tt ((wipe σ vs).set j (some (.int (i : Int)))) H' (p i)) (he : ∀ i H', i < n → p i = true → Ex H H' → EvR r te ((wipe σ vs).set j (some (.int (i : Int)))) H' (f i)) :
    EvF r (tLc (iRng1 (tCons tn tNil)) (gName j) tt te vs) σ H (fm p f n) := fun H1 e Q q => hn H1 e _ fun v H2 e2 hv => by
  have hv : v = .int (n : Int) := hv
  subst hv
  refine ⟨(n : Int), rfl, by omega, by omega, fun D hD => ?_⟩
  refine lc_range (lo := 0) (n := (n : Int).toNat) (fun i H' => i ≤ n ∧ Cr r H2 D (fm p f i) H') ⟨Nat.zero_le _, Cr.start hD⟩ (fun i H' hi hP => ?_) fun H' hP => ?_
  · have hi' : i < n := by omega
    have e0 : (0 : Int) + (i : Int) = (i : Int) := Int.zero_add _
    rw [e0]
    have ex : Ex H H' := (e.trans e2).trans hP.2.2.1
    refine ⟨hw _, cr_turn hP.2 (Nat.le_trans (fm_len _ _ _) (by omega)) (ht i H' hi' ex) (fun hb => he i H' hi' hb ex) fun H4 h4 => ⟨by omega, ?_⟩⟩
    rw [fm_succ]
    exact h4
  · have en : (n : Int).toNat = n := by omega
    rw [en] at hP
    obtain ⟨_, h1, h2, ws, h3, h4⟩ := hP
    exact q D ws H' (Evl.fresh_back e2 h1) (e2.trans h2) h3 h4
theorem iList_of {wi : It → Hp → Prop} {xs : List β} (h : EvR (RL K s) tl σ H xs) (k : ∀ a vs H2, Ex H H2 → SqL K H2 a vs → All s H2 vs xs → wi (Itl K a) H2) : iList K tl σ H wi := h H (Evl.Ex.refl H) _ fun v H2 e2 ⟨a, vs, hv, hs, hal⟩ => ⟨a, hv, ⟨vs, hs⟩, k a vs H2 e2 hs hal⟩
/-- [e for x in xs if t] -/
theorem f_list [Fx r] [Mo s] {j : Nat} {vs : List Nat} {xs : List β} (p : β → Bool) (f : β → α) (h : EvR (RL K s) tl σ H xs) (hle : xs.length ≤ 100000) (hw : ∀ x, wipe ((wipe σ vs).set j (some x)) vs = wipe σ vs)
    (ht : ∀ (i : Nat) x v H', xs[i]? = some x → Ex H H' → s H' v x → EvT tt ((wipe σ vs).set j (some v)) H' (p x)) (he : ∀ (i : Nat) x v H', xs[i]? = some x → p x = true → Ex H H' → s H' v x → EvR r te ((wipe σ vs).set j (some v)) H' (f x)) :
    EvF r (tLc (iList K tl) (gName j) tt te vs) σ H ((xs.filter p).map f) := fun H1 e Q q => (h.mono e) H1 (Evl.Ex.refl _) _ fun v H2 e2 ⟨a, us, hv, hs, hal⟩ => by
  refine ⟨a, hv, ⟨us, hs⟩, fun D hD => ?_⟩
  refine lc_list (K := K) (a := a) (xs := us) (fun i H' => Cr r H2 D (((xs.take i).filter p).map f) H') ?_ (fun i H' _ hP => sqL_ex hP.2.1 hs) (fun i u H' hu hP => ?_) fun H' hP => ?_
  · simpa using Cr.start hD
  · obtain ⟨x, hx, hr⟩ := hal.got hu
    have ex : Ex H H' := (e.trans e2).trans hP.2.1
    have hr' := Mo.mo hP.2.1 hr
    refine ⟨hw _, cr_turn hP ?_ (ht i x u H' hx ex hr') (fun hb => he i x u H' hx hb ex hr') fun H4 h4 => ?_⟩
    · rw [List.length_map]
      exact Nat.le_trans (List.length_filter_le _ _) (by rw [List.length_take]; omega)
    · have et : xs.take (i + 1) = xs.take i ++ [x] := by rw [List.take_add_one, hx]; rfl
      have : (((xs.take (i + 1)).filter p).map f) = if p x then ((xs.take i).filter p).map f ++ [f x] else ((xs.take i).filter p).map f := by
        rw [et, List.filter_append, List.map_append]
        cases hp : p x with
        | true => simp [List.filter, hp]
        | false => simp [List.filter, hp]
      rw [this]
      exact h4
  · rw [hal.1, List.take_length] at hP
    obtain ⟨h1, h2, ws, h3, h4⟩ := hP
    exact q D ws H' (Evl.fresh_back e2 h1) (e2.trans h2) h3 h4
/-- [e for i, x in enumerate(xs)] -/
theorem f_enum [Fx r] [Mo s] {j1 j2 : Nat} {vs : List Nat} {xs : List β} (f : Nat → β → α) (h : EvR (RL K s) tl σ H xs) (hle : xs.length ≤ 100000) (hw : ∀ x y, wipe (((wipe σ vs).set j1 (some x)).set j2 (some y)) vs = wipe σ vs)
    (he : ∀ (i : Nat) x v H', xs[i]? = some x → Ex H H' → s H' v x → EvR r te (((wipe σ vs).set j1 (some (.int (i : Int)))).set j2 (some v)) H' (f i x)) :
    EvF r (tLc (iEnum K (tCons tl tNil)) (gTup K 2 (gCons (gName j1) (gCons (gName j2) gNil))) tYes te vs) σ H (xs.mapIdx f) := fun H1 e Q q => (h.mono e) H1 (Evl.Ex.refl _) _ fun v H2 e2 ⟨a, us, hv, hs, hal⟩ => by
  refine ⟨a, us, by rw [hv], hs, fun D hD => ?_⟩
  refine lc_it (walk_enum (K := K) (a := a) (xs := us)) (fun i H' => i ≤ us.length ∧ Cr r H2 D ((xs.take i).mapIdx f) H') ⟨Nat.zero_le _, by simpa using Cr.start hD⟩ (fun i H' _ hP => sqL_ex hP.2.2.1 hs) (fun i w H' H3 hi hP hY => ?_) fun H' hP => ?_
  · obtain ⟨Tq, x', y', rfl, hT, rfl, ex', ey'⟩ := hY
    have ex' : x' = .int (i : Int) := (Option.some.inj ex').symm
    subst ex'
    obtain ⟨x, hx, hr⟩ := hal.got ey'
    have e3 : Ex H' (upd H' Tq (.tup [.int (i : Int), y'])) := Evl.Ex.new hT
    have ex : Ex H (upd H' Tq (.tup [.int (i : Int), y'])) := ((e.trans e2).trans hP.2.2.1).trans e3
    have hr' := Mo.mo (hP.2.2.1.trans e3) hr
    have hC : Cr r H2 D ((xs.take i).mapIdx f) (upd H' Tq (.tup [.int (i : Int), y'])) := by
      obtain ⟨h1, h2, ws, h3, h4⟩ := hP.2
      exact ⟨h1, h2.trans e3, ws, e3 D _ h3, h4.mo e3⟩
    refine ⟨Tq, [.int (i : Int), y'], rfl, SqT.of upd_same, rfl, _, [y'], rfl, y', [], rfl, rfl, hw _ _, ?_⟩
    refine cr_turn hC (b := true) (y := f i x) ?_ (fun H5 e5 Q5 q5 => q5 H5 (Evl.Ex.refl _)) (fun _ => he i x y' _ hx ex hr') fun H4 h4 => ⟨by omega, ?_⟩
    · simp; omega
    · have et : xs.take (i + 1) = xs.take i ++ [x] := by rw [List.take_add_one, hx]; rfl
      have el : (xs.take i).length = i := by
        rw [List.length_take]
        have := (List.getElem?_eq_some_iff.mp hx).1
        omega
      have : (xs.take (i + 1)).mapIdx f = (xs.take i).mapIdx f ++ [f i x] := by
        rw [et, List.mapIdx_append, el]
        simp
      rw [this]
      exact h4
  · rw [hal.1, List.take_length] at hP
    obtain ⟨_, h1, h2, ws, h3, h4⟩ := hP
    exact q D ws H' (Evl.fresh_back e2 h1) (e2.trans h2) h3 h4
theorem yes_turn {σ2 : L2.St} {H' : Hp} {te : TE} {Zy : V → Hp → Prop} {Z : Hp → Prop} (h : te σ2 H' Zy) : tYes σ2 H' fun b H3 => if b = true then te σ2 H3 Zy else Z H3 := by
  show if true = true then te σ2 H' Zy else Z H'
  rw [if_pos rfl]
  exact h
/-- the same, each element a new list -/
theorem f_enumF [Fx r] [Mo s] {j1 j2 : Nat} {vs : List Nat} {xs : List β} (f : Nat → β → List α) (h : EvR (RL K s) tl σ H xs) (hle : xs.length ≤ 100000) (hw : ∀ x y, wipe (((wipe σ vs).set j1 (some x)).set j2 (some y)) vs = wipe σ vs)
    (he : ∀ (i : Nat) x v H', xs[i]? = some x → Ex H H' → s H' v x → EvF r te (((wipe σ vs).set j1 (some (.int (i : Int)))).set j2 (some v)) H' (f i x)) :
    ∀ H1, Ex H H1 → ∀ Q : VK, (∀ p vs H2, H1 p = none → Ex H1 H2 → H2 p = some (.lst vs) → All (RL K r) (fun b => if b = p then none else H2 b) vs (xs.mapIdx f) → Q (.ref p) H2) → tLc (iEnum K (tCons tl tNil)) (gTup K 2 (gCons (gName j1) (gCons (gName j2) gNil))) tYes te vs σ H1 Q := by
  intro H1 e Q q
  refine (h.mono e) H1 (Evl.Ex.refl _) _ fun v H2 e2 ⟨a, us, hv, hs, hal⟩ => ?_
  refine ⟨a, us, by rw [hv], hs, fun D hD => ?_⟩
  have hide : ∀ {A B : Hp}, Ex A B → Ex (fun b => if b = D then none else A b) (fun b => if b = D then none else B b) := fun {A B} eAB b o hb => by
    by_cases hbD : b = D
    · have : (if b = D then none else A b) = some o := hb
      rw [if_pos hbD] at this
      cases this
    · have : (if b = D then none else A b) = some o := hb
      rw [if_neg hbD] at this
      show (if b = D then none else B b) = some o
      rw [if_neg hbD]
      exact eAB b o this
  have hideU : ∀ {A : Hp} {o : HO}, (fun b => if b = D then none else (upd A D o) b) = fun b => if b = D then none else A b := fun {A o} => by
    funext b
    by_cases hbD : b = D
    · rw [if_pos hbD, if_pos hbD]
    · rw [if_neg hbD, if_neg hbD, upd_ne hbD]
  refine lc_it (walk_enum (K := K) (a := a) (xs := us)) (fun i H' => i ≤ us.length ∧ Ex H2 H' ∧ ∃ ws, H' D = some (.lst ws) ∧ All (RL K r) (fun b => if b = D then none else H' b) ws ((xs.take i).mapIdx f)) ⟨Nat.zero_le _, Evl.Ex.new hD, [], upd_same, by simpa using All.nil⟩ (fun i H' _ hP => sqL_ex hP.2.1 hs) (fun i w H' H3 hi hP hY => ?_) fun H' hP => ?_
  · obtain ⟨Tq, x', y', rfl, hT, rfl, ex', ey'⟩ := hY
    have ex' : x' = .int (i : Int) := (Option.some.inj ex').symm
    subst ex'
    obtain ⟨x, hx, hr⟩ := hal.got ey'
    have e3 : Ex H' (upd H' Tq (.tup [.int (i : Int), y'])) := Evl.Ex.new hT
    have ex : Ex H (upd H' Tq (.tup [.int (i : Int), y'])) := ((e.trans e2).trans hP.2.1).trans e3
    have hr' := Mo.mo (hP.2.1.trans e3) hr
    refine ⟨Tq, [.int (i : Int), y'], rfl, SqT.of upd_same, rfl, _, [y'], rfl, y', [], rfl, rfl, hw _ _, ?_⟩
    refine yes_turn (he i x y' _ hx ex hr' _ (Evl.Ex.refl _) _ fun p ws' H4 hp e4 hpl hall => ?_)
    obtain ⟨_, h2, ws, h3, h4⟩ := hP
    have e34 := e3.trans e4
    have hD4 := e34 D _ h3
    have npD : p ≠ D := fun z => by
      have := e3 D _ h3
      rw [z, this] at hp
      cases hp
    refine ⟨ws, hD4, ?_, by omega, Evl.Ex.mut (h2.trans e34) hD, ws ++ [.ref p], upd_same, ?_⟩
    · rw [h4.1]
      refine small5 ?_
      rw [List.length_mapIdx, List.length_take]
      omega
    · have et : xs.take (i + 1) = xs.take i ++ [x] := by rw [List.take_add_one, hx]; rfl
      have el : (xs.take i).length = i := by
        rw [List.length_take]
        have := (List.getElem?_eq_some_iff.mp hx).1
        omega
      have : (xs.take (i + 1)).mapIdx f = (xs.take i).mapIdx f ++ [f i x] := by
        rw [et, List.mapIdx_append, el]
        simp
      rw [this, hideU]
      refine (h4.mo (hide e34)).snoc ⟨p, ws', rfl, SqL.of ?_, ?_⟩
      · show (if p = D then none else H4 p) = _
        rw [if_neg npD]
        exact hpl
      · refine hall.fx fun b o hb hm => ?_
        show (if b = D then none else H4 b) = some o
        rw [if_neg (fun z => by rw [z, hD4] at hb; cases hb; exact hm trivial)]
        exact hb
  · rw [hal.1, List.take_length] at hP
    obtain ⟨_, h2, ws, h3, h4⟩ := hP
    exact q D ws H' (Evl.fresh_back e2 hD) (e2.trans h2) h3 h4
/-! generator expressions -/
theorem gxR_tup {xs : List (α × β)} {a : Addr} {us : List V} [Fx r] [Fx s] {W : Nat → Hp → Prop} {C : Nat → V → Hp → Prop} {σ0 : L2.St} (hs : SqT K H a us) (hal : All (RP K r s) H us xs) (hW : ∀ i H', W i H' → Ex H H' ∧ i ≤ xs.length)
    (step : ∀ i H' x va vb, W i H' → xs[i]? = some x → r H' va x.1 → s H' vb x.2 → te (some va :: some vb :: σ0) H' (C i)) : GxR K te xs.length σ0 (Itt K a) W C := by
  intro i H' w
  obtain ⟨e, hle⟩ := hW i H' w
  have hs' := sqT_fx (Tx.of e) hs
  by_cases hi : i < xs.length
  · have hu : i < us.length := by rw [hal.1]; exact hi
    refine .inr ⟨hi, ⟨us, us[i], hs', List.getElem?_eq_getElem hu⟩, fun x H'' ⟨hy1, hy2⟩ => ?_⟩
    subst hy1
    have ex := hy2 us hs'
    obtain ⟨z, hz, t, va, vb, ht, hst, h1, h2⟩ := hal.got ex
    exact ⟨t, va, vb, ht, sqT_fx (Tx.of e) hst, step i _ z va vb w hz (Fx.fx (Tx.of e) h1) (Fx.fx (Tx.of e) h2)⟩
  · exact .inl ⟨by omega, us, hs', by rw [hal.1]; omega⟩
theorem e_gtest {xs : List (α × β)} [Fx r] [Fx s] {P : Addr} {cap : List Nat} (stop : Bool) (p : α × β → Bool) (tb : H P = some (TabO P)) (h : EvR (RT K (RP K r s)) tl σ H xs)
    (step : ∀ (i : Nat) x va vb H', Ex H H' → xs[i]? = some x → r H' va x.1 → s H' vb x.2 → EvR RB te (some va :: some vb :: capS σ cap) H' (p x)) : EvR RB (tGx stop K P (iTup K tl) te cap) σ H (if stop then xs.any p else xs.all p) := fun H1 e Q q =>
  h H1 e _ fun v H2 e2 ⟨a, us, hv, hs, hal⟩ => by
    refine ⟨a, hv, ⟨us, hs⟩, (e.trans e2) P _ tb, xs.length, fun i H' => Ex H2 H' ∧ i ≤ xs.length ∧ ∀ j x, j < i → xs[j]? = some x → p x = !stop, _, ⟨Evl.Ex.refl _, Nat.zero_le _, fun j x hj => absurd hj (Nat.not_lt_zero _)⟩,
      gxR_tup hs hal (fun i H' w => ⟨w.1, w.2.1⟩) (fun i H' x va vb w hx h1 h2 => ?_), rfl, fun H' w => ?_⟩
    · refine step i x va vb H' ((e.trans e2).trans w.1) hx h1 h2 H' (Evl.Ex.refl _) _ fun y H3 e3 hy => ⟨p x, hy, ?_⟩
      have hi := (List.getElem?_eq_some_iff.mp hx).1
      by_cases hp : p x = stop
      · rw [if_pos hp]
        refine q _ H3 ((e2.trans w.1).trans e3) ?_
        show V.bl stop = V.bl _
        have hm : x ∈ xs := List.mem_of_getElem? hx
        cases stop with
        | true => simp; exact ⟨x.1, x.2, hm, hp⟩
        | false => simp; exact ⟨x.1, x.2, hm, hp⟩
      · rw [if_neg hp]
        refine ⟨w.1.trans e3, hi, fun j z hj hz => ?_⟩
        by_cases hji : j = i
        · subst hji
          rw [hx] at hz
          cases hz
          cases hst : stop <;> cases hpx : p x <;> simp_all
        · exact w.2.2 j z (by omega) hz
    · refine q _ H' (e2.trans w.1) ?_
      show V.bl (!stop) = V.bl _
      have hall : ∀ x ∈ xs, p x = !stop := fun x hm => by
        obtain ⟨j, hj, ej⟩ := List.getElem_of_mem hm
        exact w.2.2 j x hj (by rw [List.getElem?_eq_getElem hj, ej])
      cases stop with
      | true =>
        have : xs.any p = false := by
          rw [List.any_eq_false]
          intro x hm
          rw [hall x hm]
          decide
        simp [this]
      | false =>
        have : xs.all p = true := by
          rw [List.all_eq_true]
          intro x hm
          rw [hall x hm]
          rfl
        simp [this]
theorem preSum_nat (l : List Nat) : ∀ i, i ≤ l.length → preSum (fun j => ((l.getD j 0 : Nat) : Int)) i = (((l.take i).sum : Nat) : Int) := by
  intro i
  induction i with
  | zero => intro _; rfl
  | succ i ih =>
    intro hi
    show preSum _ i + ((l.getD i 0 : Nat) : Int) = _
    rw [ih (by omega), List.take_add_one, List.getElem?_eq_getElem (by omega), List.sum_append, List.getD_eq_getElem?_getD, List.getElem?_eq_getElem (by omega)]
    simp
theorem sum_le_of {l : List Nat} {b : Nat} (h : ∀ x ∈ l, x ≤ b) : l.sum ≤ l.length * b := by
  induction l with
  | nil => simp
  | cons x l ih =>
    have h1 := h x List.mem_cons_self
    have h2 := ih fun y hy => h y (List.mem_cons_of_mem _ hy)
    rw [List.sum_cons, List.length_cons, Nat.add_mul, Nat.one_mul]
    omega
/-- sum(y for x, y in xs) -/
theorem e_gsum {xs : List (α × Nat)} [Fx r] {P : Addr} {cap : List Nat} (tb : H P = some (TabO P)) (h : EvR (RT K (RP K r RN)) tl σ H xs) (hl : xs.length ≤ 1000) (hb : ∀ x ∈ xs, x.2 ≤ 1000000) :
    EvR RN (tGxSum K P (iTup K tl) (tVar 1) cap) σ H (xs.map (·.2)).sum := fun H1 e Q q =>
  h H1 e _ fun v H2 e2 ⟨a, us, hv, hs, hal⟩ => by
    have small : ∀ i, ((xs.map (·.2)).take i).sum ≤ 1000 * 1000000 := fun i => by
      refine Nat.le_trans (sum_le_of (b := 1000000) fun y hy => ?_) ?_
      · obtain ⟨x, hx, rfl⟩ := List.mem_map.mp (List.mem_of_mem_take hy)
        exact hb x hx
      · refine Nat.mul_le_mul_right _ ?_
        rw [List.length_take, List.length_map]
        omega
    refine ⟨a, hv, ⟨us, hs⟩, (e.trans e2) P _ tb, xs.length, fun i H' => Ex H2 H' ∧ i ≤ xs.length, _, ⟨Evl.Ex.refl _, Nat.zero_le _⟩,
      gxR_tup hs hal (fun i H' w => w) (fun i H' x va vb w hx h1 h2 => ?_), fun j => (((xs.map (·.2)).getD j 0 : Nat) : Int), rfl, fun j hj => ⟨?_, ?_⟩, fun H' w => ?_⟩
    · have hi := (List.getElem?_eq_some_iff.mp hx).1
      refine ⟨vb, rfl, ?_, w.1, hi⟩
      have h2 : vb = .int ((x.2 : Nat) : Int) := h2
      show vb = V.int (((xs.map (·.2)).getD i 0 : Nat) : Int)
      rw [h2, List.getD_eq_getElem?_getD, List.getElem?_map, hx]
      rfl
    · have : (xs.map (·.2)).getD j 0 ≤ 1000000 := by
        rw [List.getD_eq_getElem?_getD, List.getElem?_map, List.getElem?_eq_getElem hj]
        exact hb _ (List.getElem_mem hj)
      show -(2 ^ 63) ≤ (((xs.map (·.2)).getD j 0 : Nat) : Int) ∧ (((xs.map (·.2)).getD j 0 : Nat) : Int) < 2 ^ 63
      exact ⟨by omega, by omega⟩
    · rw [preSum_nat _ _ (by rw [List.length_map]; omega)]
      have := small (j + 1)
      exact ⟨by omega, by omega⟩
    · refine q _ H' (e2.trans w.1) ?_
      show V.int _ = V.int _
      rw [preSum_nat _ _ (by rw [List.length_map]; omega), List.take_of_length_le (by rw [List.length_map]; omega)]
/-- tuple(xs), list(xs) of a new list -/
theorem e_tupleF [Fx r] {xs : List α} (h : EvF r te σ H xs) : EvR (RT K r) (tCB (fun (xs : List V) (H : Hp) (Q : VK) => ∃ p ys, xs = [.ref p] ∧ ((SqL K H p ys ∧ ∀ l, H l = none → Q (.ref l) (upd H l (.tup ys))) ∨ (SqT K H p ys ∧ Q (.ref p) H))) (tCons te tNil)) σ H xs := fun H1 e Q q =>
  h H1 e _ fun p vs H2 hn e2 hp hal => ⟨p, vs, rfl, .inl ⟨SqL.of hp, fun l hl => q _ _ (e2.trans (Evl.Ex.new hl)) ⟨l, vs, rfl, SqT.of upd_same, hal.mo (Evl.Ex.new hl)⟩⟩⟩
theorem e_tupleL [Fx r] {xs : List α} (h : EvR (RL K r) te σ H xs) : EvR (RT K r) (tCB (fun (xs : List V) (H : Hp) (Q : VK) => ∃ p ys, xs = [.ref p] ∧ ((SqL K H p ys ∧ ∀ l, H l = none → Q (.ref l) (upd H l (.tup ys))) ∨ (SqT K H p ys ∧ Q (.ref p) H))) (tCons te tNil)) σ H xs := fun H1 e Q q =>
  h H1 e _ fun v H2 e2 ⟨a, vs, hv, hs, hal⟩ => ⟨a, vs, by rw [hv], .inl ⟨hs, fun l hl => q _ _ (e2.trans (Evl.Ex.new hl)) ⟨l, vs, rfl, SqT.of upd_same, hal.mo (Evl.Ex.new hl)⟩⟩⟩
theorem f_listL [Fx r] {xs : List α} (h : EvR (RL K r) te σ H xs) : EvF r (tCB (Evl.rListS K) (tCons te tNil)) σ H xs := fun H1 e Q q =>
  h H1 e _ fun v H2 e2 ⟨a, vs, hv, hs, hal⟩ => ⟨a, vs, by rw [hv], .inl hs, fun l hl => q l vs _ (Evl.fresh_back e2 hl) (e2.trans (Evl.Ex.new hl)) upd_same (hal.mo (Evl.Ex.new hl))⟩
/-- [x] * n -/
theorem f_rep [Fx r] {x : α} {n : Nat} (h : EvR r te σ H x) (hn : EvR RN tn σ H n) (hle : n ≤ 100000) : EvF r (tOp rRep (tLst (tCons te tNil)) tn) σ H (List.replicate n x) := fun H1 e Q q =>
  h H1 e _ fun v H2 e2 hv => ⟨by show 1 ≤ sizeLine; decide, fun l hl => hn _ ((e.trans e2).trans (Evl.Ex.new hl)) _ fun w H3 e3 hw => by
    have hw : w = .int (n : Int) := hw
    subst hw
    have hz : n ≤ sizeLine := Nat.le_of_lt (small5 hle)
    refine ⟨l, (n : Int), [v], rfl, rfl, e3 l _ upd_same, by omega, by omega, by simpa using hz, fun p hp => ?_⟩
    have eL : (List.replicate (n : Int).toNat [v]).flatten = List.replicate n v := by
      have : (n : Int).toNat = n := by omega
      rw [this]
      induction n with
      | zero => rfl
      | succ m ih => simp [List.replicate_succ]
    rw [eL]
    have ee : Ex H1 H3 := (e2.trans (Evl.Ex.new hl)).trans e3
    refine q p _ _ (Evl.fresh_back ee hp) (ee.trans (Evl.Ex.new hp)) upd_same ?_
    exact All.rep n (Fx.fx (Tx.of (((Evl.Ex.new hl).trans e3).trans (Evl.Ex.new hp))) hv)⟩
/-- x in xs -/
theorem inV_nat (n : Nat) (ns : List Nat) : inV (.int (n : Int)) (ns.map fun n : Nat => V.int (n : Int)) = decide (n ∈ ns) := by
  unfold inV
  induction ns with
  | nil => rfl
  | cons m ns ih =>
    rw [List.map_cons, List.any_cons, ih]
    have : eqV (.int (m : Int)) (.int (n : Int)) = decide (n = m) := by
      show ((m : Int) == (n : Int)) = _
      rw [Bool.beq_eq_decide_eq]
      exact decide_eq_decide.mpr ⟨fun h => by omega, fun h => by omega⟩
    rw [this]
    by_cases h1 : n = m <;> by_cases h2 : n ∈ ns <;> simp [h1, h2]
theorem flat_nats (ns : List Nat) : (ns.map fun n : Nat => V.int (n : Int)).all flatV = true := by
  rw [List.all_eq_true]
  intro v hv
  obtain ⟨n, _, rfl⟩ := List.mem_map.mp hv
  rfl
theorem e_in {n : Nat} {ns : List Nat} (ha : EvR RN te σ H n) (hb : EvR (RL K RN) tl σ H ns) : EvR RB (tOp (rIn K false) te tl) σ H (decide (n ∈ ns)) := fun H1 e Q q =>
  ha H1 e _ fun v H2 e2 hv => hb H2 (e.trans e2) _ fun u H3 e3 ⟨a, vs, hu, hs, hal⟩ => by
    have hv : v = .int (n : Int) := hv
    rw [hal.nats] at hs
    refine ⟨a, _, hu, .inl hs, by rw [hv]; rfl, flat_nats ns, q _ H3 (e2.trans e3) ?_⟩
    show V.bl (if false = true then _ else inV v _) = V.bl _
    rw [if_neg Bool.false_ne_true, hv, inV_nat]
theorem e_notIn {n : Nat} {ns : List Nat} (ha : EvR RN te σ H n) (hb : EvR (RL K RN) tl σ H ns) : EvR RB (tOp (rIn K true) te tl) σ H (!decide (n ∈ ns)) := fun H1 e Q q =>
  ha H1 e _ fun v H2 e2 hv => hb H2 (e.trans e2) _ fun u H3 e3 ⟨a, vs, hu, hs, hal⟩ => by
    have hv : v = .int (n : Int) := hv
    rw [hal.nats] at hs
    refine ⟨a, _, hu, .inl hs, by rw [hv]; rfl, flat_nats ns, q _ H3 (e2.trans e3) ?_⟩
    show V.bl (if true = true then !inV v _ else _) = V.bl _
    rw [if_pos rfl, hv, inV_nat]
end
end BO

/-! == and != of data -/
namespace BO
open PySem PySem.Spec PyProof.Rows L2
structure DOk (K : PySem.W.Frag) {α : Type} [DecidableEq α] (r : RR α) (δ : α → PyData) (d : Nat) : Prop where
  dp : ∀ H v x, r H v x → Dp K H v (δ x)
  lay : ∀ x, (δ x).canLay0 = true
  dep : ∀ x, (δ x).depth ≤ d
  eq : ∀ x y, PyData.eqv (δ x) (δ y) = decide (x = y)
section
variable {K : PySem.W.Frag} {α : Type} [DecidableEq α] {r : RR α} {δ : α → PyData} {d : Nat}
theorem dok_nat : DOk K RN (fun n => .int (n : Int)) 0 := ⟨fun H v x h => by
  have h : v = .int (x : Int) := h
  rw [h]
  exact .int _, fun _ => rfl, fun _ => Nat.le_refl _, fun x y => by
  show ((x : Int) == (y : Int)) = _
  rw [Bool.beq_eq_decide_eq]
  exact decide_eq_decide.mpr ⟨fun h => by omega, fun h => by omega⟩⟩
theorem dok_rat : DOk K (RQ K) (fun q => .tuple [.int q.num, .int (q.den : Int)]) 1 := ⟨fun H v x ⟨a, h1, h2⟩ => by
  rw [h1]
  exact .tup h2 (.cons (.int _) (.cons (.int _) .nil)), fun _ => rfl, fun _ => Nat.le_refl _, fun x y => by
  show (((x.num == y.num) && (((x.den : Int) == (y.den : Int)) && true)) : Bool) = _
  rw [Bool.and_true, Bool.eq_iff_iff, Bool.and_eq_true, beq_iff_eq, beq_iff_eq, decide_eq_true_iff]
  constructor
  · intro ⟨h1, h2⟩
    exact Rat.ext h1 (by omega)
  · intro h
    rw [h]
    exact ⟨rfl, rfl⟩⟩
theorem dpAll_of (h : ∀ H v x, r H v x → Dp K H v (δ x)) {H : Hp} : ∀ {vs : List V} {xs : List α}, All r H vs xs → DpAll K H vs (xs.map δ)
  | [], [], _ => .nil
  | [], _ :: _, q => absurd q.1 (by simp)
  | _ :: _, [], q => absurd q.1 (by simp)
  | v :: vs, x :: xs, q => .cons (h H v x q.of_cons.1) (dpAll_of h q.of_cons.2)
theorem lay_all (h : ∀ x, (δ x).canLay0 = true) : ∀ xs : List α, PyData.canLayAll0 (xs.map δ) = true
  | [] => rfl
  | x :: xs => by
    show ((δ x).canLay0 && PyData.canLayAll0 (xs.map δ)) = true
    rw [h x, lay_all h xs]
    rfl
theorem dep_all (h : ∀ x, (δ x).depth ≤ d) : ∀ xs : List α, PyData.depthAll (xs.map δ) ≤ d
  | [] => Nat.zero_le _
  | x :: xs => by
    show max (δ x).depth (PyData.depthAll (xs.map δ)) ≤ d
    exact Nat.max_le.mpr ⟨h x, dep_all h xs⟩
theorem eqv_all (h : ∀ x y, PyData.eqv (δ x) (δ y) = decide (x = y)) : ∀ xs ys : List α, PyData.eqvAll (xs.map δ) (ys.map δ) = decide (xs = ys)
  | [], [] => rfl
  | [], _ :: _ => rfl
  | _ :: _, [] => rfl
  | x :: xs, y :: ys => by
    show (PyData.eqv (δ x) (δ y) && PyData.eqvAll (xs.map δ) (ys.map δ)) = _
    rw [h x y, eqv_all h xs ys]
    by_cases h1 : x = y <;> by_cases h2 : xs = ys <;> simp [h1, h2]
theorem dok_list (h : DOk K r δ d) : DOk K (RL K r) (fun xs => .list (xs.map δ)) (d + 1) := ⟨fun H v x ⟨a, vs, h1, h2, h3⟩ => by
  rw [h1]
  exact .lst h2 (dpAll_of h.dp h3), fun xs => lay_all h.lay xs, fun xs => Nat.succ_le_succ (dep_all h.dep xs), fun xs ys => eqv_all h.eq xs ys⟩
theorem dok_shaped (h : DOk K r δ d) (hd : d ≤ 64) (x : α) : SeqAt.shaped (δ x) = true := by
  unfold SeqAt.shaped
  rw [h.lay x, Bool.true_and]
  exact decide_eq_true (Nat.le_trans (h.dep x) hd)
variable {σ : L2.St} {H : Hp} {ta tb : TE}
theorem e_eqD [Mo r] {x y : α} (h : DOk K r δ d) (hd : d ≤ 64) (ha : EvR r ta σ H x) (hb : EvR r tb σ H y) : EvR RB (tOp (rEqD K) ta tb) σ H (decide (x = y)) := fun H1 e Q q =>
  ha H1 e _ fun v H2 e2 hv => hb H2 (e.trans e2) _ fun w H3 e3 hw => ⟨δ x, δ y, h.dp _ _ _ (Mo.mo e3 hv), h.dp _ _ _ hw, dok_shaped h hd x, dok_shaped h hd y, by rw [h.eq]; exact q _ H3 (e2.trans e3) rfl⟩
theorem e_neD [Mo r] {x y : α} (h : DOk K r δ d) (hd : d ≤ 64) (ha : EvR r ta σ H x) (hb : EvR r tb σ H y) : EvR RB (tOp (rNeD K) ta tb) σ H (!decide (x = y)) := fun H1 e Q q =>
  ha H1 e _ fun v H2 e2 hv => hb H2 (e.trans e2) _ fun w H3 e3 hw => ⟨δ x, δ y, h.dp _ _ _ (Mo.mo e3 hv), h.dp _ _ _ hw, dok_shaped h hd x, dok_shaped h hd y, by rw [h.eq]; exact q _ H3 (e2.trans e3) rfl⟩
end
end BO

/-! the mirror: systems, means -/
namespace BO
abbrev EndL := List (Nat × Nat)
abbrev Choice := Nat × EndL
abbrev Sys := List (List Choice)
def wsum (es : EndL) : Nat := (es.map (·.2)).sum
def psum : EndL → (Nat → Rat) → Rat
  | [], _ => 0
  | e :: r, v => (e.2 : Rat) * v e.1 + psum r v
def at0 (vs : List Rat) (g : Nat) : Rat := vs.getD g 0
def mean (es : EndL) (vs : List Rat) : Rat := psum es (at0 vs) / (wsum es : Rat)
structure EndsOk (n : Nat) (es : EndL) : Prop where
  ne : es ≠ []
  len : es.length ≤ 4
  mem : ∀ e ∈ es, e.1 < n ∧ 1 ≤ e.2 ∧ e.2 ≤ 1000
structure SysOk (S : Sys) : Prop where
  pos : 1 ≤ S.length
  len : S.length ≤ 4
  chs : ∀ cs ∈ S, 1 ≤ cs.length ∧ cs.length ≤ 3
  ends : ∀ cs ∈ S, ∀ c ∈ cs, c.1 ≤ 1000 ∧ EndsOk S.length c.2
theorem psum_append (a b : EndL) (v : Nat → Rat) : psum (a ++ b) v = psum a v + psum b v := by
  induction a with
  | nil => show psum b v = 0 + psum b v; grind
  | cons e r ih => show (e.2 : Rat) * v e.1 + psum (r ++ b) v = (e.2 : Rat) * v e.1 + psum r v + psum b v; rw [ih]; grind
theorem psum_snoc (es : EndL) (e : Nat × Nat) (v : Nat → Rat) : psum (es ++ [e]) v = psum es v + (e.2 : Rat) * v e.1 := by
  rw [psum_append]
  show _ + ((e.2 : Rat) * v e.1 + 0) = _
  grind
theorem wsum_pos {n : Nat} {es : EndL} (h : EndsOk n es) : 0 < wsum es := by
  obtain ⟨e, r, rfl⟩ : ∃ e r, es = e :: r := by
    cases es with
    | nil => exact absurd rfl h.ne
    | cons e r => exact ⟨e, r, rfl⟩
  have := (h.mem e List.mem_cons_self).2.1
  unfold wsum
  rw [List.map_cons, List.sum_cons]
  omega
theorem wsum_le {n : Nat} {es : EndL} (h : EndsOk n es) : wsum es ≤ 4000 := by
  have key : ∀ (l : EndL) (b : Nat), (∀ e ∈ l, e.2 ≤ b) → (l.map (·.2)).sum ≤ l.length * b := by
    intro l b hl
    induction l with
    | nil => simp
    | cons x l ih =>
      rw [List.map_cons, List.sum_cons, List.length_cons, Nat.add_mul, Nat.one_mul]
      have h1 := hl x List.mem_cons_self
      have h2 := ih fun y hy => hl y (List.mem_cons_of_mem _ hy)
      omega
  have h1 := key es 1000 fun e he => (h.mem e he).2.2
  have := h.len
  unfold wsum
  omega
def allSz (k : Nat) (vs : List Rat) : Prop := ∀ q ∈ vs, sz k q
theorem sz_zero : sz 1 0 := ⟨by decide, by decide⟩
theorem sz_one : sz 1 1 := ⟨by decide, by decide⟩
theorem at0_sz {k : Nat} {vs : List Rat} (h : allSz k vs) (hk : 0 < k) (g : Nat) : sz k (at0 vs g) := by
  unfold at0
  rw [List.getD_eq_getElem?_getD]
  cases e : vs[g]? with
  | none => exact sz_mono sz_zero hk
  | some q => exact h q (List.mem_of_getElem? e)
theorem take_succ' {α : Type} {xs : List α} {i : Nat} {x : α} (h : xs[i]? = some x) : xs.take (i + 1) = xs.take i ++ [x] := by
  rw [List.take_add_one, h]
  rfl
theorem psum_take_sz {k : Nat} {es : EndL} {vs : List Rat} (hs : allSz k vs) (hk : 0 < k) (h : ∀ e ∈ es, e.2 ≤ 1000) (i : Nat) (hi : i ≤ es.length) : sz ((k + 11) * i + 1) (psum (es.take i) (at0 vs)) := by
  induction i with
  | zero => simpa [psum] using sz_zero
  | succ i ih =>
    have e := List.getElem?_eq_getElem (l := es) (i := i) (by omega)
    rw [take_succ' e, psum_snoc]
    have hw : sz 10 ((es[i].2 : Nat) : Rat) := sz_nat (by have := h es[i] (List.getElem_mem _); omega) (by omega)
    refine sz_mono (sz_add (ih (by omega)) (sz_mul hw (at0_sz hs hk _))) ?_
    rw [Nat.mul_add]
    omega
def restOf (n : Nat) (al ts : List Nat) : List Nat := (List.range n).filter fun s => decide (s ∈ al) && !decide (s ∈ ts)
def marksOf (n : Nat) (ts : List Nat) : List Bool := (List.range n).map fun s => decide (s ∈ ts)
def chAt (S : Sys) (s c : Nat) : Choice := (S.getD s []).getD c (0, [])
def restr (S : Sys) (π : List Nat) : Sys := π.mapIdx fun s c => [chAt S s c]
def bAt (known : List Bool) (g : Nat) : Bool := known.getD g false
def endsIn (es : EndL) (known : List Bool) : Bool := es.any fun e => bAt known e.1
def allIn (es : EndL) (known : List Bool) : Bool := es.all fun e => bAt known e.1
def PolOk (S : Sys) (π : List Nat) : Prop := π.length = S.length ∧ ∀ (s c : Nat) (cs : List Choice), π[s]? = some c → S[s]? = some cs → c < cs.length
theorem restOf_mem {n : Nat} {al ts : List Nat} {s : Nat} : s ∈ restOf n al ts ↔ s < n ∧ s ∈ al ∧ s ∉ ts := by
  unfold restOf
  rw [List.mem_filter, List.mem_range]
  simp
theorem restOf_len {n : Nat} {al ts : List Nat} : (restOf n al ts).length ≤ n := Nat.le_trans (List.length_filter_le _ _) (by simp)
theorem marks_at {n : Nat} {ts : List Nat} {s : Nat} : bAt (marksOf n ts) s = (decide (s < n) && decide (s ∈ ts)) := by
  unfold bAt marksOf
  rw [List.getD_eq_getElem?_getD, List.getElem?_map]
  by_cases h : s < n
  · rw [List.getElem?_range h]; simp [h]
  · rw [List.getElem?_eq_none (by simp; omega)]; simp [h]
theorem at0_get {vs : List Rat} {g : Nat} (h : g < vs.length) : vs[g]? = some (at0 vs g) := by
  unfold at0
  rw [List.getD_eq_getElem?_getD, List.getElem?_eq_getElem h]
  rfl
theorem bAt_get {vs : List Bool} {g : Nat} (h : g < vs.length) : vs[g]? = some (bAt vs g) := by
  unfold bAt
  rw [List.getD_eq_getElem?_getD, List.getElem?_eq_getElem h]
  rfl
theorem bAt_set {vs : List Bool} {g s : Nat} {b : Bool} (h : s < vs.length) : bAt (vs.set s b) g = if g = s then b else bAt vs g := by
  unfold bAt
  rw [List.getD_eq_getElem?_getD, List.getD_eq_getElem?_getD]
  by_cases e : g = s
  · subst e
    rw [List.getElem?_set_self h, if_pos rfl]
    rfl
  · rw [List.getElem?_set_ne (fun z => e z.symm), if_neg e]
theorem at0_set {vs : List Rat} {g s : Nat} {b : Rat} (h : s < vs.length) : at0 (vs.set s b) g = if g = s then b else at0 vs g := by
  unfold at0
  rw [List.getD_eq_getElem?_getD, List.getD_eq_getElem?_getD]
  by_cases e : g = s
  · subst e
    rw [List.getElem?_set_self h, if_pos rfl]
    rfl
  · rw [List.getElem?_set_ne (fun z => e z.symm), if_neg e]
theorem list_ext_at0 {a b : List Rat} (hl : a.length = b.length) (h : ∀ i, i < a.length → at0 a i = at0 b i) : a = b := by
  refine List.ext_getElem hl fun i h1 h2 => ?_
  have := h i h1
  unfold at0 at this
  rw [List.getD_eq_getElem?_getD, List.getD_eq_getElem?_getD, List.getElem?_eq_getElem h1, List.getElem?_eq_getElem h2] at this
  exact this
end BO

/-! lists of one's own, loops -/
namespace BO
open PySem PySem.Spec PyProof.Rows L2
section
variable {K : PySem.W.Frag} {σ : L2.St} {H H' H0 H1 Hb : Hp} {te ta tb tl tn : TE} {t : TT} {tu tz : TS} {D : Ends} {α β γ : Type} {r : RR α} {s : RR β} {p q : Addr} {ys : List α}
def Own (r : RR α) (H0 : Hp) (p : Addr) (H : Hp) (ys : List α) : Prop := H0 p = none ∧ ∃ ws, H p = some (.lst ws) ∧ All r H ws ys
theorem Own.of {ws : List V} (hn : H0 p = none) (hp : H p = some (.lst ws)) (ha : All r H ws ys) : Own r H0 p H ys := ⟨hn, ws, hp, ha⟩
theorem Own.ex [Mo r] (h : Own r H0 p H ys) (e : Ex H H') : Own r H0 p H' ys := ⟨h.1, h.2.choose, e p _ h.2.choose_spec.1, h.2.choose_spec.2.mo e⟩
theorem Own.rl (h : Own r H0 p H ys) : RL K r H (.ref p) ys := ⟨p, h.2.choose, rfl, SqL.of h.2.choose_spec.1, h.2.choose_spec.2⟩
theorem Own.back (h : Own r H1 p H ys) (e : Ex H0 H1) : Own r H0 p H ys := ⟨Evl.fresh_back e h.1, h.2⟩
theorem Own.other [Fx r] {us : List V} {o : HO} (h : Own r H0 p H ys) (hq : p ≠ q) (hm : H q = some (.lst us)) : Own r H0 p (upd H q o) ys := by
  obtain ⟨h1, ws, h2, h3⟩ := h
  exact ⟨h1, ws, by rw [upd_ne hq]; exact h2, h3.fx (Tx.set (Tx.refl H) hm trivial)⟩
theorem Own.at (h : Own r H0 p H ys) : ∃ ws, H p = some (.lst ws) := ⟨h.2.choose, h.2.choose_spec.1⟩
theorem Own.some (h : Own r H0 p H ys) : H p ≠ none := fun z => by
  obtain ⟨_, ws, h2, _⟩ := h
  rw [h2] at z
  cases z
/-- xs[i] = e -/
theorem s_setO [Fx r] {y : α} {i : Nat} (hO : Own r H0 p H ys) (e0 : Ex H0 H) (hv : EvR r te σ H y) (ho : Evl.Ev ta σ H (.ref p)) (hi : EvR RN tb σ H i) (hlt : i < ys.length)
    (k : ∀ H1 us ws, Ex H H1 → H1 p = some (.lst us) → Ex H0 (upd H1 p (.lst ws)) → Own r H0 p (upd H1 p (.lst ws)) (ys.set i y) → D.nx σ (upd H1 p (.lst ws))) : tAsg te (gSub ta tb rSetL) D σ H :=
  hv H (Evl.Ex.refl _) _ fun v H1 e1 hv => ho H1 e1 _ fun H2 e2 => hi H2 (e1.trans e2) _ fun w H3 e3 hw => by
    obtain ⟨hn, ws, hp, hal⟩ := hO
    have e : Ex H H3 := (e1.trans e2).trans e3
    have hw : w = .int (i : Int) := hw
    have hp3 := e p _ hp
    refine ⟨p, ws, (i : Int), i, rfl, hw, hp3, Evl.ixN_nat (by rw [hal.1]; exact hlt), k H3 ws (ws.set i v) e hp3 (Evl.Ex.mut (e0.trans e) hn) ⟨hn, _, upd_same, ?_⟩⟩
    have tx : Tx H3 (upd H3 p (.lst (ws.set i v))) := Tx.set (Tx.refl H3) hp3 trivial
    exact ((hal.mo e).fx tx).set i (Fx.fx tx (Mo.mo (e2.trans e3) hv))
theorem q_setO [Fx r] {y : α} {i : Nat} (hO : Own r H0 p H ys) (e0 : Ex H0 H) (hv : EvR r te σ H y) (ho : Evl.Ev ta σ H (.ref p)) (hi : EvR RN tb σ H i) (hlt : i < ys.length)
    (k : ∀ H1 us ws, Ex H H1 → H1 p = some (.lst us) → Ex H0 (upd H1 p (.lst ws)) → Own r H0 p (upd H1 p (.lst ws)) (ys.set i y) → tz D σ (upd H1 p (.lst ws))) : tSeq (tAsg te (gSub ta tb rSetL)) tz D σ H :=
  s_setO (D := { D with nx := tz D }) hO e0 hv ho hi hlt k
/-- xs.append(e) -/
theorem s_appO [Fx r] {y : α} (hO : Own r H0 p H ys) (e0 : Ex H0 H) (ho : Evl.Ev ta σ H (.ref p)) (hv : EvR r te σ H y) (hlt : ys.length < 100000)
    (k : ∀ H1 us ws, Ex H H1 → H1 p = some (.lst us) → Ex H0 (upd H1 p (.lst ws)) → Own r H0 p (upd H1 p (.lst ws)) (ys ++ [y]) → D.nx σ (upd H1 p (.lst ws))) : tDrop (tBM K "list" rAppend ta (tCons te tNil)) D σ H := by
  obtain ⟨hn, ws, hp, hal⟩ := hO
  exact ho H (Evl.Ex.refl _) _ fun H1 e1 => ⟨Or.inl ⟨rfl, ws, SqL.of (e1 p _ hp)⟩, hv H1 e1 _ fun v H2 e2 hv => by
    have e : Ex H H2 := e1.trans e2
    have hp2 := e p _ hp
    refine ⟨p, ws, v, rfl, rfl, hp2, Evl.sz_lt (by rw [hal.1]; exact hlt), k H2 ws (ws ++ [v]) e hp2 (Evl.Ex.mut (e0.trans e) hn) ⟨hn, _, upd_same, ?_⟩⟩
    have tx : Tx H2 (upd H2 p (.lst (ws ++ [v]))) := Tx.set (Tx.refl H2) hp2 trivial
    exact ((hal.mo e).fx tx).snoc (Fx.fx tx hv)⟩
theorem q_appO [Fx r] {y : α} (hO : Own r H0 p H ys) (e0 : Ex H0 H) (ho : Evl.Ev ta σ H (.ref p)) (hv : EvR r te σ H y) (hlt : ys.length < 100000)
    (k : ∀ H1 us ws, Ex H H1 → H1 p = some (.lst us) → Ex H0 (upd H1 p (.lst ws)) → Own r H0 p (upd H1 p (.lst ws)) (ys ++ [y]) → tz D σ (upd H1 p (.lst ws))) : tSeq (tDrop (tBM K "list" rAppend ta (tCons te tNil))) tz D σ H :=
  s_appO (D := { D with nx := tz D }) hO e0 ho hv hlt k
theorem s_retO {i : Nat} (hσ : σ[i]? = some (some (.ref p))) (k : D.rt (.ref p) H) : tRet (tVar i) D σ H := ⟨_, hσ, k⟩
/-- [] -/
theorem f_nil : EvF r (tLst tNil) σ H ([] : List α) := fun H1 e Q q => ⟨by show 0 ≤ sizeLine; decide, fun p hp => q p [] _ hp (Evl.Ex.new hp) upd_same .nil⟩
/-- for x in xs, a list -/
theorem s_forG {i j : Nat} {a : Addr} {vs : List V} {xs : List β} (hσ : σ[i]? = some (some (.ref a))) (Pv : Nat → L2.St → Hp → Prop) (h0 : Pv 0 σ H) (hlen : vs.length = xs.length) (fr : ∀ i σ' H', Pv i σ' H' → SqL K H' a vs ∧ All s H' vs xs)
    (hs : ∀ i x v σ' H', xs[i]? = some x → Pv i σ' H' → s H' v x → tu { D with nx := Pv (i + 1), ct := Pv (i + 1), bk := D.nx } (σ'.set j (some v)) H') (hd : ∀ σ' H', Pv xs.length σ' H' → D.nx σ' H') : tFor (iList K (tVar i)) (gName j) tu D σ H :=
  ⟨.ref a, hσ, a, rfl, ⟨vs, (fr 0 σ H h0).1⟩, for_list Pv h0 (fun i σ' H' _ h => (fr i σ' H' h).1) (fun i v σ' H' hv h => by
    obtain ⟨x, hx, hr⟩ := (fr i σ' H' h).2.got hv
    exact hs i x v σ' H' hx h hr) (by rw [hlen]; exact hd)⟩
theorem s_forLv [Mo s] {i j : Nat} {u : V} {xs : List β} (hσ : σ[i]? = some (some u)) (hu : RL K s Hb u xs) (Pv : Nat → L2.St → Hp → Prop) (h0 : Pv 0 σ H) (fr : ∀ i σ' H', Pv i σ' H' → Ex Hb H')
    (hs : ∀ i x v σ' H', xs[i]? = some x → Pv i σ' H' → s H' v x → tu { D with nx := Pv (i + 1), ct := Pv (i + 1), bk := D.nx } (σ'.set j (some v)) H') (hd : ∀ σ' H', Pv xs.length σ' H' → D.nx σ' H') : tFor (iList K (tVar i)) (gName j) tu D σ H := by
  obtain ⟨a, vs, rfl, h1, h2⟩ := hu
  exact s_forG hσ Pv h0 h2.1 (fun i σ' H' h => ⟨sqL_ex (fr i σ' H' h) h1, h2.mo (fr i σ' H' h)⟩) hs hd
theorem q_forLv [Mo s] {i j : Nat} {u : V} {xs : List β} (hσ : σ[i]? = some (some u)) (hu : RL K s Hb u xs) (Pv : Nat → L2.St → Hp → Prop) (h0 : Pv 0 σ H) (fr : ∀ i σ' H', Pv i σ' H' → Ex Hb H')
    (hs : ∀ i x v σ' H', xs[i]? = some x → Pv i σ' H' → s H' v x → tu { D with nx := Pv (i + 1), ct := Pv (i + 1), bk := tz D } (σ'.set j (some v)) H') (hd : ∀ σ' H', Pv xs.length σ' H' → tz D σ' H') : tSeq (tFor (iList K (tVar i)) (gName j) tu) tz D σ H :=
  s_forLv (D := { D with nx := tz D }) hσ hu Pv h0 fr hs hd
/-- for x, y in xs, a tuple | a list of pairs -/
theorem pair_tgt {x : β × γ} {s' : RR γ} {v : V} {j1 j2 : Nat} {Q : L2.St → Hp → Prop} (h : RP K s s' H v x) (k : ∀ va vb, s H va x.1 → s' H vb x.2 → Q ((σ.set j1 (some va)).set j2 (some vb)) H) : gTup K 2 (gCons (gName j1) (gCons (gName j2) gNil)) v σ H Q := by
  obtain ⟨a, v1, v2, hv, hs, h1, h2⟩ := h
  exact ⟨a, [v1, v2], hv, hs, rfl, v1, [v2], rfl, v2, [], rfl, rfl, k v1 v2 h1 h2⟩
theorem s_forTv2 {s' : RR γ} [Fx s] [Fx s'] {i j1 j2 : Nat} {u : V} {xs : List (β × γ)} (hσ : σ[i]? = some (some u)) (hu : RT K (RP K s s') Hb u xs) (Pv : Nat → L2.St → Hp → Prop) (h0 : Pv 0 σ H) (fr : ∀ i σ' H', Pv i σ' H' → Ex Hb H')
    (hs : ∀ i x va vb σ' H', xs[i]? = some x → Pv i σ' H' → s H' va x.1 → s' H' vb x.2 → tu { D with nx := Pv (i + 1), ct := Pv (i + 1), bk := D.nx } ((σ'.set j1 (some va)).set j2 (some vb)) H') (hd : ∀ σ' H', Pv xs.length σ' H' → D.nx σ' H') :
    tFor (iTup K (tVar i)) (gTup K 2 (gCons (gName j1) (gCons (gName j2) gNil))) tu D σ H := by
  obtain ⟨a, vs, rfl, h1, h2⟩ := hu
  exact ⟨.ref a, hσ, a, rfl, ⟨vs, sqT_fx (Tx.of (fr 0 σ H h0)) h1⟩, for_tup Pv h0 (fun i σ' H' _ h => sqT_fx (Tx.of (fr i σ' H' h)) h1) (fun i v σ' H' hv h => by
    obtain ⟨x, hx, hr⟩ := h2.got hv
    exact pair_tgt (Fx.fx (Tx.of (fr i σ' H' h)) hr) fun va vb q1 q2 => hs i x va vb σ' H' hx h q1 q2) (by rw [h2.1]; exact hd)⟩
theorem q_forTv2 {s' : RR γ} [Fx s] [Fx s'] {i j1 j2 : Nat} {u : V} {xs : List (β × γ)} (hσ : σ[i]? = some (some u)) (hu : RT K (RP K s s') Hb u xs) (Pv : Nat → L2.St → Hp → Prop) (h0 : Pv 0 σ H) (fr : ∀ i σ' H', Pv i σ' H' → Ex Hb H')
    (hs : ∀ i x va vb σ' H', xs[i]? = some x → Pv i σ' H' → s H' va x.1 → s' H' vb x.2 → tu { D with nx := Pv (i + 1), ct := Pv (i + 1), bk := tz D } ((σ'.set j1 (some va)).set j2 (some vb)) H') (hd : ∀ σ' H', Pv xs.length σ' H' → tz D σ' H') :
    tSeq (tFor (iTup K (tVar i)) (gTup K 2 (gCons (gName j1) (gCons (gName j2) gNil))) tu) tz D σ H :=
  s_forTv2 (D := { D with nx := tz D }) hσ hu Pv h0 fr hs hd
theorem s_forG2 {s' : RR γ} {i j1 j2 : Nat} {a : Addr} {vs : List V} {xs : List (β × γ)} (hσ : σ[i]? = some (some (.ref a))) (Pv : Nat → L2.St → Hp → Prop) (h0 : Pv 0 σ H) (hlen : vs.length = xs.length) (fr : ∀ i σ' H', Pv i σ' H' → SqL K H' a vs ∧ All (RP K s s') H' vs xs)
    (hs : ∀ i x va vb σ' H', xs[i]? = some x → Pv i σ' H' → s H' va x.1 → s' H' vb x.2 → tu { D with nx := Pv (i + 1), ct := Pv (i + 1), bk := D.nx } ((σ'.set j1 (some va)).set j2 (some vb)) H') (hd : ∀ σ' H', Pv xs.length σ' H' → D.nx σ' H') :
    tFor (iList K (tVar i)) (gTup K 2 (gCons (gName j1) (gCons (gName j2) gNil))) tu D σ H :=
  ⟨.ref a, hσ, a, rfl, ⟨vs, (fr 0 σ H h0).1⟩, for_list Pv h0 (fun i σ' H' _ h => (fr i σ' H' h).1) (fun i v σ' H' hv h => by
    obtain ⟨x, hx, hr⟩ := (fr i σ' H' h).2.got hv
    exact pair_tgt hr fun va vb q1 q2 => hs i x va vb σ' H' hx h q1 q2) (by rw [hlen]; exact hd)⟩
/-- for i, x in enumerate(xs) -/
theorem s_forEv [Mo s] {i j1 j2 : Nat} {u : V} {xs : List β} (hσ : σ[i]? = some (some u)) (hu : RL K s Hb u xs) (Pv : Nat → L2.St → Hp → Prop) (h0 : Pv 0 σ H) (fr : ∀ i σ' H', Pv i σ' H' → Ex Hb H') (up : ∀ i σ' H' H'', Pv i σ' H' → Ex H' H'' → Pv i σ' H'')
    (hs : ∀ i x v σ' H', xs[i]? = some x → Pv i σ' H' → s H' v x → tu { D with nx := Pv (i + 1), ct := Pv (i + 1), bk := D.nx } ((σ'.set j1 (some (.int (i : Int)))).set j2 (some v)) H') (hd : ∀ σ' H', Pv xs.length σ' H' → D.nx σ' H') :
    tFor (iEnum K (tCons (tVar i) tNil)) (gTup K 2 (gCons (gName j1) (gCons (gName j2) gNil))) tu D σ H := by
  obtain ⟨a, vs, rfl, h1, h2⟩ := hu
  refine ⟨.ref a, hσ, a, vs, rfl, sqL_ex (fr 0 σ H h0) h1, for_it (walk_enum (K := K) (a := a) (xs := vs)) Pv h0 (fun i σ' H' _ h => sqL_ex (fr i σ' H' h) h1) (fun i w σ' H' H3 hi hP hY => ?_) (by rw [h2.1]; exact hd)⟩
  obtain ⟨Tq, x', y', rfl, hT, rfl, ex', ey'⟩ := hY
  have ex' : x' = .int (i : Int) := (Option.some.inj ex').symm
  subst ex'
  obtain ⟨x, hx, hr⟩ := h2.got ey'
  have e3 : Ex H' (upd H' Tq (.tup [.int (i : Int), y'])) := Evl.Ex.new hT
  exact ⟨Tq, [.int (i : Int), y'], rfl, SqT.of upd_same, rfl, _, [y'], rfl, y', [], rfl, rfl, hs i x y' σ' _ hx (up i σ' H' _ hP e3) (Mo.mo ((fr i σ' H' hP).trans e3) hr)⟩
/-- for i in range(n), range(a, n) -/
theorem s_forRn {j n : Nat} (h : EvR RN tn σ H n) (hn : n ≤ 100000) (Pv : Nat → L2.St → Hp → Prop) (h0 : ∀ H1, Ex H H1 → Pv 0 σ H1)
    (hs : ∀ (i : Nat) σ' H', i < n → Pv i σ' H' → tu { D with nx := Pv (i + 1), ct := Pv (i + 1), bk := D.nx } (σ'.set j (some (.int (i : Int)))) H') (hd : ∀ σ' H', Pv n σ' H' → D.nx σ' H') : tFor (iRng1 (tCons tn tNil)) (gName j) tu D σ H :=
  h H (Evl.Ex.refl _) _ fun v H1 e hv => by
    have hv : v = .int (n : Int) := hv
    subst hv
    refine ⟨(n : Int), rfl, by omega, by omega, for_range (lo := 0) (n := (n : Int).toNat) Pv (h0 H1 e) (fun i σ' H' hi p => ?_) hd⟩
    have e0 : (0 : Int) + (i : Int) = (i : Int) := Int.zero_add _
    rw [e0]
    exact hs i σ' H' (by omega) p
theorem q_forRn {j n : Nat} (h : EvR RN tn σ H n) (hn : n ≤ 100000) (Pv : Nat → L2.St → Hp → Prop) (h0 : ∀ H1, Ex H H1 → Pv 0 σ H1)
    (hs : ∀ (i : Nat) σ' H', i < n → Pv i σ' H' → tu { D with nx := Pv (i + 1), ct := Pv (i + 1), bk := tz D } (σ'.set j (some (.int (i : Int)))) H') (hd : ∀ σ' H', Pv n σ' H' → tz D σ' H') : tSeq (tFor (iRng1 (tCons tn tNil)) (gName j) tu) tz D σ H :=
  s_forRn (D := { D with nx := tz D }) h hn Pv h0 hs hd
theorem s_forRm {j m n : Nat} (hm : EvR RN ta σ H m) (h : EvR RN tn σ H n) (hle : m ≤ n) (hn : n ≤ 100000) (Pv : Nat → L2.St → Hp → Prop) (h0 : ∀ H1, Ex H H1 → Pv m σ H1)
    (hs : ∀ (i : Nat) σ' H', m ≤ i → i < n → Pv i σ' H' → tu { D with nx := Pv (i + 1), ct := Pv (i + 1), bk := D.nx } (σ'.set j (some (.int (i : Int)))) H') (hd : ∀ σ' H', Pv n σ' H' → D.nx σ' H') : tFor (iRng2 (tCons ta (tCons tn tNil))) (gName j) tu D σ H :=
  hm H (Evl.Ex.refl _) _ fun v H1 e hv => h H1 e _ fun w H2 e2 hw => by
    have hv : v = .int (m : Int) := hv
    have hw : w = .int (n : Int) := hw
    subst hv hw
    refine ⟨(m : Int), (n : Int), rfl, ⟨by omega, by omega, by omega, by omega⟩, for_range (lo := (m : Int)) (n := ((n : Int) - (m : Int)).toNat) (fun i => Pv (m + i)) (h0 H2 (e.trans e2)) (fun i σ' H' hi p => ?_) fun σ' H' p => ?_⟩
    · have e0 : (m : Int) + (i : Int) = ((m + i : Nat) : Int) := by omega
      rw [e0]
      exact hs (m + i) σ' H' (by omega) (by omega) p
    · have e0 : m + ((n : Int) - (m : Int)).toNat = n := by omega
      have p : Pv (m + ((n : Int) - (m : Int)).toNat) σ' H' := p
      rw [e0] at p
      exact hd σ' H' p
theorem q_forRm {j m n : Nat} (hm : EvR RN ta σ H m) (h : EvR RN tn σ H n) (hle : m ≤ n) (hn : n ≤ 100000) (Pv : Nat → L2.St → Hp → Prop) (h0 : ∀ H1, Ex H H1 → Pv m σ H1)
    (hs : ∀ (i : Nat) σ' H', m ≤ i → i < n → Pv i σ' H' → tu { D with nx := Pv (i + 1), ct := Pv (i + 1), bk := tz D } (σ'.set j (some (.int (i : Int)))) H') (hd : ∀ σ' H', Pv n σ' H' → tz D σ' H') : tSeq (tFor (iRng2 (tCons ta (tCons tn tNil))) (gName j) tu) tz D σ H :=
  s_forRm (D := { D with nx := tz D }) hm h hle hn Pv h0 hs hd
end
section
variable {X : Cx} {K : PySem.W.Frag}
theorem kx_ix_list (h : X.K = K) : IxR X (rIxL K) := by
  subst h
  exact ix_list
theorem kx_ix_tup (h : X.K = K) : IxR X (rIxT K) := by
  subst h
  exact ix_tup
theorem kx_ix_seq (h : X.K = K) : IxR X (rIx K) := by
  subst h
  exact ix_seq
theorem kx_op_in_seq (h : X.K = K) : OpR X (compareOp .In) (rIn K false) := by
  subst h
  exact op_in_seq
theorem kx_op_notIn_seq (h : X.K = K) : OpR X (compareOp .NotIn) (rIn K true) := by
  subst h
  exact op_notIn_seq
theorem kx_op_eqD (h : X.K = K) (hu : X.A.units + 64 < cLine) : OpR X (compareOp .Eq) (rEqD K) := by
  subst h
  exact op_eqD hu
theorem kx_op_neD (h : X.K = K) (hu : X.A.units + 64 < cLine) : OpR X (compareOp .NotEq) (rNeD K) := by
  subst h
  exact op_neD hu
theorem kx_call_len_seq (h : X.K = K) : CallR X (.builtin "len") (Evl.rLenS K) := by
  subst h
  exact call_len_seq
theorem kx_call_list_of (h : X.K = K) : CallR X (.type "list") (Evl.rListS K) := by
  subst h
  exact call_list_of
theorem kx_pi_tup {tg l : Expr} {tl : TE} (hK : X.K = K) (hl : PE X l tl) : PI X tg l (iTup K tl) := by
  subst hK
  exact pi_tup hl
theorem kx_gxAll {elt iter : Expr} {scope : Scope} {xa xb : Str} {c P : Addr} {k kt : Nat} {Nr : List Str} {cap : List Nat} {wi : TI} {te : TE} {p pos gpos pa pb pt : Pos} (hK : X.K = K) (hc : X.calm = true) (hr : Room (k + 1) X.A) (hg : Gl X "all") (hm : X.mg "all" = none) (TB : GxR.TabB X.base X.mg c P) (hcode : X.env.code = .ref c) (S : GxS X.N X.env.scope scope xa xb Nr cap) (hi : PI X (.Tuple [.Name xa pa, .Name xb pb] kt pt) iter wi)
    (he : ∀ (A' : Around) (s : Shared) (H : Hp) (C : Addr) (code : Value) (fp : List Addr), Room k A' → PE (gxCx X A' s H (xa :: xb :: Nr) (genEnv scope (cloFrom X.env.cells scope.names []) C code builtinsNs X.env) fp) elt te)
    (hs : ∀ v, genFold iter X.env v = pure v := by intro _; rfl)
    (hst : starEach [.GeneratorExp elt [⟨.Tuple [.Name xa pa, .Name xb pb] kt pt, iter, [], 0⟩] scope gpos] X.env = (false, eval (.GeneratorExp elt [⟨.Tuple [.Name xa pa, .Name xb pb] kt pt, iter, [], 0⟩] scope gpos) X.env) :: starEach [] X.env := by rfl) :
    PE X (.Call (.Name "all" p) [.GeneratorExp elt [⟨.Tuple [.Name xa pa, .Name xb pb] kt pt, iter, [], 0⟩] scope gpos] [] pos) (tGx false K P wi te cap) := by
  subst hK
  exact pe_gxAll hc hr hg hm TB hcode S hi he hs hst
theorem kx_tgt {pos : Pos} {es : List Expr} {k : Nat} {t : TGs} {n : Nat} (hK : X.K = K) (hc : X.calm = true) (h : PGs X es t)
    (hn : (assignEach es X.env).length = n := by rfl) (hst : (assignEach es X.env).findIdx? (·.1) = none := by rfl) : PG X (.Tuple es k pos) (gTup K n t) := by
  subst hK
  exact pg_tup hc h hn hst
end
theorem e_addN {σ : L2.St} {H : Hp} {ta tb : TE} {n m : Nat} (ha : EvR RN ta σ H n) (hb : EvR RN tb σ H m) : EvR RN (tOp (rI0 fun i j => .int (i + j)) ta tb) σ H (n + m) := fun H1 e Q q =>
  ha H1 e _ fun v H2 e2 hv => hb H2 (e.trans e2) _ fun w H3 e3 hw => ⟨(n : Int), (m : Int), hv, hw, q _ H3 (e2.trans e3) (by show V.int _ = V.int _; rw [Int.natCast_add])⟩
theorem e_one {σ : L2.St} {H : Hp} : EvR RN (tC (.int 1)) σ H 1 := fun H1 _ _ q => q _ H1 (Evl.Ex.refl _) rfl
/-- x is None -/
theorem e_isN {K : PySem.W.Frag} {σ : L2.St} {H : Hp} {α : Type} {r : RR α} {te : TE} {o : Option α} (h : EvR (RO r) te σ H o) : EvR RB (tOp (fun x y H Q => y = .non ∧ Q (.bl (decide (x = .non))) H) te (tC .non)) σ H o.isNone := fun H1 e Q q =>
  h H1 e _ fun v H2 e2 hv => ⟨rfl, by
    cases o with
    | none =>
      have hv : v = .non := hv
      rw [hv]
      exact q _ H2 e2 rfl
    | some x =>
      refine q _ H2 e2 ?_
      show V.bl _ = V.bl _
      rw [decide_eq_false hv.1]
      rfl⟩
/-- (x,) -/
theorem e_single {K : PySem.W.Frag} {σ : L2.St} {H : Hp} {α : Type} {r : RR α} {te : TE} {x : α} [Fx r] (h : EvR r te σ H x) : EvR (RT K r) (tTup (tCons te tNil)) σ H [x] := fun H1 e Q q =>
  h H1 e _ fun v H2 e2 hv => ⟨by show 1 ≤ sizeLine; decide, fun p hp => q _ _ (e2.trans (Evl.Ex.new hp)) ⟨p, [v], rfl, SqT.of upd_same, .cons (Fx.fx (Tx.of (Evl.Ex.new hp)) hv) .nil⟩⟩
/-! relations of this program -/
abbrev REnds (K : PySem.W.Frag) : RR EndL := RT K (RP K RN RN)
abbrev RCh (K : PySem.W.Frag) : RR Choice := RP K RN (REnds K)
abbrev RSys (K : PySem.W.Frag) : RR Sys := RT K (RT K (RCh K))
abbrev RSeq (K : PySem.W.Frag) : RR Sys := RS K (RT K (RCh K))
end BO

namespace BO
open PySem PySem.Spec PyProof.Rows L2
abbrev sratio : Stmt := topS 4
theorem scratio : FnScope ["n", "d", "common"] ["n", "d"] (defScope sratio) := ⟨rfl, rfl, rfl, by decide +kernel, rfl, by decide +kernel, by decide +kernel⟩

abbrev splus : Stmt := topS 5
theorem scplus : FnScope ["a", "b"] ["a", "b"] (defScope splus) := ⟨rfl, rfl, rfl, by decide +kernel, rfl, by decide +kernel, by decide +kernel⟩

abbrev sminus : Stmt := topS 6
theorem scminus : FnScope ["a", "b"] ["a", "b"] (defScope sminus) := ⟨rfl, rfl, rfl, by decide +kernel, rfl, by decide +kernel, by decide +kernel⟩

abbrev stimes : Stmt := topS 7
theorem sctimes : FnScope ["a", "b"] ["a", "b"] (defScope stimes) := ⟨rfl, rfl, rfl, by decide +kernel, rfl, by decide +kernel, by decide +kernel⟩

abbrev sover : Stmt := topS 8
theorem scover : FnScope ["a", "b"] ["a", "b"] (defScope sover) := ⟨rfl, rfl, rfl, by decide +kernel, rfl, by decide +kernel, by decide +kernel⟩

def Bd (x : Nat) : Prop := x < 2 ^ 8500
theorem Bd.of {x a : Nat} (h : x < 2 ^ a) (ha : a ≤ 8500) : Bd x := lt_pow_of h ha
theorem Bd.le {x y : Nat} (h : Bd y) (hx : x ≤ y) : Bd x := Nat.lt_of_le_of_lt hx h
def preRatio : Int × Int × Unit → Prop := fun x => x.2.1 ≠ 0 ∧ Bd x.1.natAbs ∧ Bd x.2.1.natAbs
abbrev spRatio (TT : List Addr) (K : PySem.W.Frag) : Sp := spP TT (AC RI (AC RI A0)) preRatio (RQ K) fun x y => y = Rat.divInt x.1 x.2.1
def preOp2 : Rat × Rat × Unit → Prop := fun x => sz 4000 x.1 ∧ sz 4000 x.2.1
abbrev spOp2 (TT : List Addr) (K : PySem.W.Frag) (f : Rat → Rat → Rat) : Sp := spP TT (AC (RQ K) (AC (RQ K) A0)) preOp2 (RQ K) fun x y => y = f x.1 x.2.1
abbrev spOver (TT : List Addr) (K : PySem.W.Frag) : Sp := spP TT (AC (RQ K) (AC (RQ K) A0)) (fun x => preOp2 x ∧ x.2.1 ≠ 0) (RQ K) fun x y => y = x.1 / x.2.1
section
variable {P : Program} {w : World} {K : PySem.W.Frag} {mg : Str → Option Value} {base : Heap} {TT : List Addr} {zZ zO : Addr}
theorem e_gcd {σ : L2.St} {H : Hp} {ta tb : TE} {a b : Int} (ha : EvR RI ta σ H a) (hb : EvR RI tb σ H b) : EvR RI (tCB rGcd (tCons ta (tCons tb tNil))) σ H ((Nat.gcd a.natAbs b.natAbs : Nat) : Int) := fun H1 e Q q =>
  ha H1 e _ fun v H2 e2 hv => hb H2 (e.trans e2) _ fun w H3 e3 hw => by
    have hv : v = .int a := hv
    have hw : w = .int b := hw
    subst hv hw
    exact ⟨a, b, rfl, q _ H3 (e2.trans e3) rfl⟩
theorem ratio_parts {n d : Int} (hd : 0 < d) : (Rat.divInt n d).num = n / ((Nat.gcd n.natAbs d.natAbs : Nat) : Int) ∧ ((Rat.divInt n d).den : Int) = d / ((Nat.gcd n.natAbs d.natAbs : Nat) : Int) := by
  have e : d.gcd n = Nat.gcd n.natAbs d.natAbs := by rw [Int.gcd_comm]; rfl
  refine ⟨?_, ?_⟩
  · rw [Rat.num_divInt, e, Int.sign_eq_one_of_pos hd, Int.one_mul]
  · rw [Rat.den_divInt, if_neg (by omega), e, Int.natCast_ediv]
    congr 1
    omega
theorem ok_ratio {f : Addr} {fd : FuncData} (F : Fun K "ratio" "ratio" sratio f fd) (T : Top K mg zZ zO) : FnOk P w K mg base CX0 1 f fd ["n", "d"] (spRatio TT K) := by
  refine F.ok scratio (fun vs H Q E h => ?_) (fun cdv A outer s H vs Q E hr h => ?_)
  · obtain ⟨x, _, hA, _⟩ := h
    exact AC.len (fun _ h => AC.len (fun _ h => A0.len h) h) hA
  · obtain ⟨⟨n, d, _⟩, tb, hA, ⟨h0, hn, hd⟩, k⟩ := h
    obtain ⟨v, _, rfl, rfl, v', _, rfl, rfl, rfl⟩ := hA
    refine ⟨_, (Evl.pss_cut (ps_if (pt_cmpR op_lt (pv 1) pe_int (nomark _)) (pss_one (ps_par (i := 0) (j := 1) rfl scratio.nd rfl rfl (by decide) rfl rfl (pa_cons (pe_un un_neg (pv 0)) (pa_cons (pe_un un_neg (pv 1)) pa_nil)) (by rfl))) pss_nil)
      (pss_cons (ps_set (i := 2) scratio.nd rfl (.inl rfl) (pe_callBfun cr_gcd (by rfl) T.mgcd (pa_cons (pv 0) (pa_cons (pv 1) pa_nil))))
      (pss_one (ps_ret (pe_tup (pa_cons (pe_op op_fdivW (pv 0) (pv 2)) (pa_cons (pe_op op_fdivW (pv 1) (pv 2)) pa_nil))))))), ?_⟩
    have main : ∀ (n' d' : Int) (H1 : Hp), Ex H H1 → 0 < d' → Bd n'.natAbs → Bd d'.natAbs → Rat.divInt n' d' = Rat.divInt n d →
        tSeq (tAsg (tCB rGcd (tCons (tVar 0) (tCons (tVar 1) tNil))) (gName 2)) (tRet (tTup (tCons (tOp (rI CDivW fun i j => .int (i / j)) (tVar 0) (tVar 2)) (tCons (tOp (rI CDivW fun i j => .int (i / j)) (tVar 1) (tVar 2)) tNil))))
          { nx := fun _ H' => Q .non H', rt := Q } [some (.int n'), some (.int d'), none] H1 := by
      intro n' d' H1 e1 hp hn' hd' he
      refine q_asg (e_gcd (e_var (r := RI) rfl rfl) (e_var (r := RI) rfl rfl)) fun g H2 e2 hg => ?_
      have hg : g = .int ((Nat.gcd n'.natAbs d'.natAbs : Nat) : Int) := hg
      subst hg
      obtain ⟨p1, p2⟩ := ratio_parts (n := n') hp
      have gpos : 0 < Nat.gcd n'.natAbs d'.natAbs := Nat.gcd_pos_of_pos_right _ (by omega)
      have gle : Nat.gcd n'.natAbs d'.natAbs ≤ d'.natAbs := Nat.le_of_dvd (by omega) (Nat.gcd_dvd_right _ _)
      have hW : ∀ i, CDivW i ((Nat.gcd n'.natAbs d'.natAbs : Nat) : Int) := fun i => wide_div (b := 8500) (by omega) (by rw [Int.natAbs_natCast]; exact hd'.le gle) (by omega) (by omega)
      refine s_ret (e_frac (K := K) (q := Rat.divInt n' d') (e_opC (hW _) (e_var (r := RI) rfl rfl) (e_var (r := RI) rfl rfl)) (e_opC (hW _) (e_var (r := RI) rfl rfl) (e_var (r := RI) rfl rfl)) p1 p2) fun v H3 e3 hv => ?_
      exact k (Rat.divInt n' d') v H3 he ((e1.trans e2).trans e3) hv
    refine Evl.q_cut (M := fun σ' H' => ∃ n' d' : Int, σ' = [some (.int n'), some (.int d'), none] ∧ Ex H H' ∧ 0 < d' ∧ Bd n'.natAbs ∧ Bd d'.natAbs ∧ Rat.divInt n' d' = Rat.divInt n d) ?_ fun σ' H1 hM => ?_
    · refine Evl.s_if (t_cmp (e_opB (e_var (r := RI) (x := d) rfl rfl) e_int)) (fun hb H1 e1 => ?_) (fun hb H1 e1 => ?_)
      · have hlt : d < 0 := of_decide_eq_true hb
        refine ⟨.int n, rfl, n, rfl, .int d, rfl, d, rfl, _, _, rfl, ?_⟩
        refine ⟨-n, -d, rfl, e1, by omega, by rw [Int.natAbs_neg]; exact hn, by rw [Int.natAbs_neg]; exact hd, ?_⟩
        rw [Rat.neg_divInt_neg]
      · have hge : ¬ d < 0 := of_decide_eq_false hb
        have h0' : d ≠ 0 := h0
        exact ⟨n, d, rfl, e1, by omega, hn, hd, rfl⟩
    · obtain ⟨n', d', rfl, e1, hp, hn', hd', he⟩ := hM
      exact main n' d' H1 e1 hp hn' hd' he
theorem mulW {i j : Int} {a b : Nat} (ha : i.natAbs < 2 ^ a) (hb : j.natAbs < 2 ^ b) (h0 : 0 < a) (h1 : 0 < b) (h : a + b ≤ 1000000) : CMulW i j := wide_mul ha hb h0 h1 h
theorem mulW4 {p q : Rat} {a b : Nat} (hp : sz a p) (hq : sz b q) (h : a + b ≤ 1000000) : CMulW p.num q.num ∧ CMulW p.num (q.den : Int) ∧ CMulW q.num (p.den : Int) ∧ CMulW (p.den : Int) (q.den : Int) ∧ CMulW (p.den : Int) q.num :=
  ⟨mulW hp.1 hq.1 (sz_pos hp) (sz_pos hq) h, mulW hp.1 (by rw [Int.natAbs_natCast]; exact hq.2) (sz_pos hp) (sz_pos hq) h, mulW hq.1 (by rw [Int.natAbs_natCast]; exact hp.2) (sz_pos hq) (sz_pos hp) (by omega),
    mulW (by rw [Int.natAbs_natCast]; exact hp.2) (by rw [Int.natAbs_natCast]; exact hq.2) (sz_pos hp) (sz_pos hq) h, mulW (by rw [Int.natAbs_natCast]; exact hp.2) hq.1 (sz_pos hp) (sz_pos hq) h⟩
theorem ok_plus {f fr : Addr} {fd : FuncData} (F : Fun K "plus" "plus" splus f fd) (T : Top K mg zZ zO) (h_ratio : Has P w K mg base "ratio" ["n", "d"] 1 (spRatio TT K) fr) : FnOk P w K mg base CX0 2 f fd ["a", "b"] (spOp2 TT K fun a b => a + b) := by
  refine F.ok scplus (fun vs H Q E h => ?_) (fun cdv A outer s H vs Q E hr h => ?_)
  · obtain ⟨x, _, hA, _⟩ := h
    exact AC.len (fun _ h => AC.len (fun _ h => A0.len h) h) hA
  · obtain ⟨⟨a, b, _⟩, tb, hA, ⟨ha, hb⟩, k⟩ := h
    obtain ⟨va, _, rfl, ra, vb, _, rfl, rb, rfl⟩ := hA
    refine ⟨_, (pss_one (ps_ret (pe_has h_ratio (hr.mono (by decide)) (by rfl) (pa_cons (pe_op op_add (pe_op op_mulW (pe_ix ix_tup (pv 0) pe_int (fun _ _ => rfl)) (pe_ix ix_tup (pv 1) pe_int (fun _ _ => rfl))) (pe_op op_mulW (pe_ix ix_tup (pv 1) pe_int (fun _ _ => rfl)) (pe_ix ix_tup (pv 0) pe_int (fun _ _ => rfl)))) (pa_cons (pe_op op_mulW (pe_ix ix_tup (pv 0) pe_int (fun _ _ => rfl)) (pe_ix ix_tup (pv 1) pe_int (fun _ _ => rfl))) pa_nil))))), ?_⟩
    obtain ⟨m1, m2, m3, m4, m5⟩ := mulW4 ha hb (by omega)
    have ea : EvR (RQ K) (tVar 0) (start ["a", "b"] [va, vb]) H a := e_var rfl ra
    have eb : EvR (RQ K) (tVar 1) (start ["a", "b"] [va, vb]) H b := e_var rfl rb
    refine s_ret (e_call (f := fun x : Int × Int × Unit => Rat.divInt x.1 x.2.1) tb (a_cons (e_op0 (e_opC m2 (e_num ea) (e_den eb)) (e_opC m3 (e_num eb) (e_den ea))) (a_cons (e_opC m4 (e_den ea) (e_den eb)) a_nil)) ⟨den_ne, Bd.of (num_add ha hb) (by omega), Bd.of (den_mul ha hb) (by omega)⟩) fun v H' e' hv => ?_
    exact k _ v H' (ratio_add a b) e' hv
theorem ok_minus {f fr : Addr} {fd : FuncData} (F : Fun K "minus" "minus" sminus f fd) (T : Top K mg zZ zO) (h_ratio : Has P w K mg base "ratio" ["n", "d"] 1 (spRatio TT K) fr) : FnOk P w K mg base CX0 2 f fd ["a", "b"] (spOp2 TT K fun a b => a - b) := by
  refine F.ok scminus (fun vs H Q E h => ?_) (fun cdv A outer s H vs Q E hr h => ?_)
  · obtain ⟨x, _, hA, _⟩ := h
    exact AC.len (fun _ h => AC.len (fun _ h => A0.len h) h) hA
  · obtain ⟨⟨a, b, _⟩, tb, hA, ⟨ha, hb⟩, k⟩ := h
    obtain ⟨va, _, rfl, ra, vb, _, rfl, rb, rfl⟩ := hA
    refine ⟨_, (pss_one (ps_ret (pe_has h_ratio (hr.mono (by decide)) (by rfl) (pa_cons (pe_op op_sub (pe_op op_mulW (pe_ix ix_tup (pv 0) pe_int (fun _ _ => rfl)) (pe_ix ix_tup (pv 1) pe_int (fun _ _ => rfl))) (pe_op op_mulW (pe_ix ix_tup (pv 1) pe_int (fun _ _ => rfl)) (pe_ix ix_tup (pv 0) pe_int (fun _ _ => rfl)))) (pa_cons (pe_op op_mulW (pe_ix ix_tup (pv 0) pe_int (fun _ _ => rfl)) (pe_ix ix_tup (pv 1) pe_int (fun _ _ => rfl))) pa_nil))))), ?_⟩
    obtain ⟨m1, m2, m3, m4, m5⟩ := mulW4 ha hb (by omega)
    have ea : EvR (RQ K) (tVar 0) (start ["a", "b"] [va, vb]) H a := e_var rfl ra
    have eb : EvR (RQ K) (tVar 1) (start ["a", "b"] [va, vb]) H b := e_var rfl rb
    refine s_ret (e_call (f := fun x : Int × Int × Unit => Rat.divInt x.1 x.2.1) tb (a_cons (e_op0 (e_opC m2 (e_num ea) (e_den eb)) (e_opC m3 (e_num eb) (e_den ea))) (a_cons (e_opC m4 (e_den ea) (e_den eb)) a_nil)) ⟨den_ne, Bd.of (num_sub ha hb) (by omega), Bd.of (den_mul ha hb) (by omega)⟩) fun v H' e' hv => ?_
    exact k _ v H' (ratio_sub a b) e' hv
theorem ok_times {f fr : Addr} {fd : FuncData} (F : Fun K "times" "times" stimes f fd) (T : Top K mg zZ zO) (h_ratio : Has P w K mg base "ratio" ["n", "d"] 1 (spRatio TT K) fr) : FnOk P w K mg base CX0 2 f fd ["a", "b"] (spOp2 TT K fun a b => a * b) := by
  refine F.ok sctimes (fun vs H Q E h => ?_) (fun cdv A outer s H vs Q E hr h => ?_)
  · obtain ⟨x, _, hA, _⟩ := h
    exact AC.len (fun _ h => AC.len (fun _ h => A0.len h) h) hA
  · obtain ⟨⟨a, b, _⟩, tb, hA, ⟨ha, hb⟩, k⟩ := h
    obtain ⟨va, _, rfl, ra, vb, _, rfl, rb, rfl⟩ := hA
    refine ⟨_, (pss_one (ps_ret (pe_has h_ratio (hr.mono (by decide)) (by rfl) (pa_cons (pe_op op_mulW (pe_ix ix_tup (pv 0) pe_int (fun _ _ => rfl)) (pe_ix ix_tup (pv 1) pe_int (fun _ _ => rfl))) (pa_cons (pe_op op_mulW (pe_ix ix_tup (pv 0) pe_int (fun _ _ => rfl)) (pe_ix ix_tup (pv 1) pe_int (fun _ _ => rfl))) pa_nil))))), ?_⟩
    obtain ⟨m1, m2, m3, m4, m5⟩ := mulW4 ha hb (by omega)
    have ea : EvR (RQ K) (tVar 0) (start ["a", "b"] [va, vb]) H a := e_var rfl ra
    have eb : EvR (RQ K) (tVar 1) (start ["a", "b"] [va, vb]) H b := e_var rfl rb
    refine s_ret (e_call (f := fun x : Int × Int × Unit => Rat.divInt x.1 x.2.1) tb (a_cons (e_opC m1 (e_num ea) (e_num eb)) (a_cons (e_opC m4 (e_den ea) (e_den eb)) a_nil)) ⟨den_ne, Bd.of (num_mul ha hb) (by omega), Bd.of (den_mul ha hb) (by omega)⟩) fun v H' e' hv => ?_
    exact k _ v H' (ratio_mul a b) e' hv
theorem ok_over {f fr : Addr} {fd : FuncData} (F : Fun K "over" "over" sover f fd) (T : Top K mg zZ zO) (h_ratio : Has P w K mg base "ratio" ["n", "d"] 1 (spRatio TT K) fr) : FnOk P w K mg base CX0 2 f fd ["a", "b"] (spOver TT K) := by
  refine F.ok scover (fun vs H Q E h => ?_) (fun cdv A outer s H vs Q E hr h => ?_)
  · obtain ⟨x, _, hA, _⟩ := h
    exact AC.len (fun _ h => AC.len (fun _ h => A0.len h) h) hA
  · obtain ⟨⟨a, b, _⟩, tb, hA, ⟨⟨ha, hb⟩, h0⟩, k⟩ := h
    obtain ⟨va, _, rfl, ra, vb, _, rfl, rb, rfl⟩ := hA
    refine ⟨_, (pss_one (ps_ret (pe_has h_ratio (hr.mono (by decide)) (by rfl) (pa_cons (pe_op op_mulW (pe_ix ix_tup (pv 0) pe_int (fun _ _ => rfl)) (pe_ix ix_tup (pv 1) pe_int (fun _ _ => rfl))) (pa_cons (pe_op op_mulW (pe_ix ix_tup (pv 0) pe_int (fun _ _ => rfl)) (pe_ix ix_tup (pv 1) pe_int (fun _ _ => rfl))) pa_nil))))), ?_⟩
    obtain ⟨m1, m2, m3, m4, m5⟩ := mulW4 ha hb (by omega)
    have ea : EvR (RQ K) (tVar 0) (start ["a", "b"] [va, vb]) H a := e_var rfl ra
    have eb : EvR (RQ K) (tVar 1) (start ["a", "b"] [va, vb]) H b := e_var rfl rb
    have hn : b.num ≠ 0 := fun h => h0 (Rat.num_eq_zero.mp h)
    have hda : (a.den : Int) ≠ 0 := by have := a.den_nz; omega
    have b1 : Bd (a.num * (b.den : Int)).natAbs := by rw [Int.natAbs_mul, Int.natAbs_natCast]; exact Bd.of (mul_lt2 ha.1 hb.2) (by omega)
    have b2 : Bd ((a.den : Int) * b.num).natAbs := by rw [Int.natAbs_mul, Int.natAbs_natCast]; exact Bd.of (mul_lt2 ha.2 hb.1) (by omega)
    refine s_ret (e_call (f := fun x : Int × Int × Unit => Rat.divInt x.1 x.2.1) tb (a_cons (e_opC m2 (e_num ea) (e_den eb)) (a_cons (e_opC m5 (e_den ea) (e_num eb)) a_nil)) ⟨Int.mul_ne_zero hda hn, b1, b2⟩) fun v H' e' hv => ?_
    exact k _ v H' (ratio_div a b) e' hv
end
end BO

namespace BO
open PySem PySem.Spec PyProof.Rows L2
abbrev stotal_weight : Stmt := topS 14
theorem sctotal_weight : FnScope ["ends"] ["ends"] (defScope stotal_weight) := ⟨rfl, rfl, rfl, by decide +kernel, rfl, by decide +kernel, by decide +kernel⟩

abbrev smean : Stmt := topS 15
theorem scmean : FnScope ["ends", "values", "found", "state", "weight"] ["ends", "values"] (defScope smean) := ⟨rfl, rfl, rfl, by decide +kernel, rfl, by decide +kernel, by decide +kernel⟩

abbrev sends_in : Stmt := topS 16
theorem scends_in : FnScope ["ends", "known"] ["ends", "known"] (defScope sends_in) := ⟨rfl, rfl, rfl, by decide +kernel, rfl, by decide +kernel, by decide +kernel⟩

abbrev sall_in : Stmt := topS 17
theorem scall_in : FnScope ["ends", "known"] ["ends", "known"] (defScope sall_in) := ⟨rfl, rfl, rfl, by decide +kernel, rfl, by decide +kernel, by decide +kernel⟩

abbrev smarks : Stmt := topS 18
theorem scmarks : FnScope ["system", "states", "state"] ["system", "states"] (defScope smarks) := ⟨rfl, rfl, rfl, by decide +kernel, rfl, by decide +kernel, by decide +kernel⟩

abbrev srestricted : Stmt := topS 19
theorem screstricted : FnScope ["system", "policy", "state", "choice"] ["system", "policy"] (defScope srestricted) := ⟨rfl, rfl, rfl, by decide +kernel, rfl, by decide +kernel, by decide +kernel⟩

abbrev srest_of : Stmt := topS 21
theorem screst_of : FnScope ["system", "allowed", "targets", "state"] ["system", "allowed", "targets"] (defScope srest_of) := ⟨rfl, rfl, rfl, by decide +kernel, rfl, by decide +kernel, by decide +kernel⟩

abbrev spWeight (TT : List Addr) (K : PySem.W.Frag) : Sp := spP TT (AC (REnds K) A0) (fun x => ∃ n, EndsOk n x.1) RN fun x y => y = wsum x.1
abbrev spMean (TT : List Addr) (K : PySem.W.Frag) : Sp := spP TT (AC (REnds K) (AC (RL K (RQ K)) A0)) (fun x => EndsOk x.2.1.length x.1 ∧ allSz 900 x.2.1) (RQ K) fun x y => y = mean x.1 x.2.1
abbrev spEnds (TT : List Addr) (K : PySem.W.Frag) (f : EndL → List Bool → Bool) : Sp := spP TT (AC (REnds K) (AC (RL K RB) A0)) (fun x => EndsOk x.2.1.length x.1) RB fun x y => y = f x.1 x.2.1
abbrev spMarks (TT : List Addr) (K : PySem.W.Frag) : Sp := spF TT (AC (RSeq K) (AC (RL K RN) A0)) (fun x => x.1.length ≤ 100) RB fun x y => y = marksOf x.1.length x.2.1
abbrev spRestr (TT : List Addr) (K : PySem.W.Frag) : Sp := spP TT (AC (RSys K) (AC (RL K RN) A0)) (fun x => SysOk x.1 ∧ PolOk x.1 x.2.1) (RSys K) fun x y => y = restr x.1 x.2.1
abbrev spRest (TT : List Addr) (K : PySem.W.Frag) : Sp := spF TT (AC (RSys K) (AC (RL K RN) (AC (RL K RN) A0))) (fun x => x.1.length ≤ 100) RN fun x y => y = restOf x.1.length x.2.1 x.2.2.1
section
variable {P : Program} {w : World} {K : PySem.W.Frag} {mg : Str → Option Value} {base : Heap} {TT : List Addr} {zZ zO : Addr}
theorem ok_total_weight {f c Pt : Addr} {fd : FuncData} (F : FunC K mg base TT "total_weight" stotal_weight f fd c Pt) (T : Top K mg zZ zO) : FnOk P w K mg base CX0 2 f fd ["ends"] (spWeight TT K) := by
  have TB := F.tb
  refine F.ok sctotal_weight (fun vs H Q E h => ?_) (fun A outer s H vs Q E hr h => ?_)
  · obtain ⟨x, _, hA, _⟩ := h
    exact AC.len (fun _ h => A0.len h) hA
  · obtain ⟨⟨es, _⟩, tb, hA, ⟨n, hE⟩, k⟩ := h
    obtain ⟨v, _, rfl, rv, rfl⟩ := hA
    refine ⟨_, (pss_one (ps_ret (pe_gxSum (k := 0) (Nr := []) (cap := []) rfl hr (by rfl) T.b_sum TB rfl (gxS_by (XN := ["ends"]) (sc := defScope stotal_weight) (by decide +kernel)) (pi_tup (pv 0)) (fun A' s' H' C' cd' fp' hr' => (pv 1))))), ?_⟩
    refine s_ret (e_gsum (r := RN) (tb _ F.mem) (e_var rfl rv) (by have := hE.len; omega) (fun x hx => by have := (hE.mem x hx).2.2; omega)) fun v H' e' hv => ?_
    exact k _ v H' rfl e' hv
theorem ok_ends_in {f c Pt : Addr} {fd : FuncData} (F : FunC K mg base TT "ends_in" sends_in f fd c Pt) (T : Top K mg zZ zO) : FnOk P w K mg base CX0 2 f fd ["ends", "known"] (spEnds TT K endsIn) := by
  have TB := F.tb
  refine F.ok scends_in (fun vs H Q E h => ?_) (fun A outer s H vs Q E hr h => ?_)
  · obtain ⟨x, _, hA, _⟩ := h
    exact AC.len (fun _ h => AC.len (fun _ h => A0.len h) h) hA
  · obtain ⟨⟨es, kn, _⟩, tb, hA, hE, k⟩ := h
    obtain ⟨v, _, rfl, rv, v', _, rfl, rv', rfl⟩ := hA
    refine ⟨_, (pss_one (ps_ret (pe_gxAny (k := 0) (Nr := ["known"]) (cap := [1]) rfl hr (by rfl) T.b_any TB rfl (gxS_by (XN := ["ends", "known"]) (sc := defScope sends_in) (by decide +kernel)) (pi_tup (pv 0)) (fun A' s' H' C' cd' fp' hr' => (pe_ix (kx_ix_list (K := K) rfl) (pv 2) (pv 0) (fun _ _ => rfl)))))), ?_⟩
    refine s_ret (e_gtest true (fun x => bAt kn x.1) (tb _ F.mem) (e_var rfl rv) (fun i x va vb H' e' hx h1 h2 => e_ixL (e_var (r := RL K RB) rfl (Mo.mo e' rv')) (e_var (r := RN) rfl h1) (bAt_get (hE.mem x (List.mem_of_getElem? hx)).1))) fun v H' e' hv => ?_
    exact k _ v H' rfl e' hv
theorem ok_all_in {f c Pt : Addr} {fd : FuncData} (F : FunC K mg base TT "all_in" sall_in f fd c Pt) (T : Top K mg zZ zO) : FnOk P w K mg base CX0 2 f fd ["ends", "known"] (spEnds TT K allIn) := by
  have TB := F.tb
  refine F.ok scall_in (fun vs H Q E h => ?_) (fun A outer s H vs Q E hr h => ?_)
  · obtain ⟨x, _, hA, _⟩ := h
    exact AC.len (fun _ h => AC.len (fun _ h => A0.len h) h) hA
  · obtain ⟨⟨es, kn, _⟩, tb, hA, hE, k⟩ := h
    obtain ⟨v, _, rfl, rv, v', _, rfl, rv', rfl⟩ := hA
    refine ⟨_, (pss_one (ps_ret (pe_gxAll (k := 0) (Nr := ["known"]) (cap := [1]) rfl hr (by rfl) T.b_all TB rfl (gxS_by (XN := ["ends", "known"]) (sc := defScope sall_in) (by decide +kernel)) (pi_tup (pv 0)) (fun A' s' H' C' cd' fp' hr' => (pe_ix (kx_ix_list (K := K) rfl) (pv 2) (pv 0) (fun _ _ => rfl)))))), ?_⟩
    refine s_ret (e_gtest false (fun x => bAt kn x.1) (tb _ F.mem) (e_var rfl rv) (fun i x va vb H' e' hx h1 h2 => e_ixL (e_var (r := RL K RB) rfl (Mo.mo e' rv')) (e_var (r := RN) rfl h1) (bAt_get (hE.mem x (List.mem_of_getElem? hx)).1))) fun v H' e' hv => ?_
    exact k _ v H' rfl e' hv
theorem ok_marks {f : Addr} {fd : FuncData} (F : Fun K "marks" "marks" smarks f fd) (T : Top K mg zZ zO) : FnOk P w K mg base CX0 1 f fd ["system", "states"] (spMarks TT K) := by
  refine F.ok scmarks (fun vs H Q E h => ?_) (fun cdv A outer s H vs Q E hr h => ?_)
  · obtain ⟨x, _, hA, _⟩ := h
    exact AC.len (fun _ h => AC.len (fun _ h => A0.len h) h) hA
  · obtain ⟨⟨S, ts, _⟩, tb, hA, hl, k⟩ := h
    obtain ⟨v, _, rfl, rv, v', _, rfl, rv', rfl⟩ := hA
    have hl : S.length ≤ 100 := hl
    refine ⟨_, (pss_one (ps_ret (pe_lc (own := [("state", 2)]) (g := _) rfl scmarks.nd (pi_range1 (by rfl) T.b_range (pa_cons (pe_callB call_len_seq (by rfl) T.b_len PySem.boot_len (pa_cons (pv 0) pa_nil)) pa_nil)) (blkOk_by (N := ["system", "states", "state"]) (sc := defScope smarks) (by decide +kernel)) (fun _ _ _ _ _ => (pg_name (i := 2) scmarks.nd rfl (Or.inl rfl))) (fun _ _ _ _ _ => pts_nil) (fun _ _ _ _ _ => (pe_cmpR (kx_op_in_seq (K := K) rfl) (pv 2) (pv 1) (by rfl)))))), ?_⟩
    refine s_retF (f_range (r := RB) (fun _ => true) (fun s => decide (s ∈ ts)) (e_lenS (e_var (r := RSeq K) rfl rv)) (by omega) (fun _ => rfl) (fun i H' hi e => fun H1 e1 Q q => q H1 (Evl.Ex.refl _)) (fun i H' hi _ e => e_in (e_var rfl rfl) (e_var rfl (Mo.mo e rv')))) fun p ws H' hn e' hp hal => ?_
    rw [fm_true] at hal
    exact k _ p ws H' rfl hn e' hp hal
theorem ok_rest_of {f : Addr} {fd : FuncData} (F : Fun K "rest_of" "rest_of" srest_of f fd) (T : Top K mg zZ zO) : FnOk P w K mg base CX0 1 f fd ["system", "allowed", "targets"] (spRest TT K) := by
  refine F.ok screst_of (fun vs H Q E h => ?_) (fun cdv A outer s H vs Q E hr h => ?_)
  · obtain ⟨x, _, hA, _⟩ := h
    exact AC.len (fun _ h => AC.len (fun _ h => AC.len (fun _ h => A0.len h) h) h) hA
  · obtain ⟨⟨S, al, ts, _⟩, tb, hA, hl, k⟩ := h
    obtain ⟨v, _, rfl, rv, v', _, rfl, rv', v'', _, rfl, rv'', rfl⟩ := hA
    have hl : S.length ≤ 100 := hl
    refine ⟨_, (pss_one (ps_ret (pe_lc (own := [("state", 3)]) (g := _) rfl screst_of.nd (pi_range1 (by rfl) T.b_range (pa_cons (pe_callB call_len_seq (by rfl) T.b_len PySem.boot_len (pa_cons (pv 0) pa_nil)) pa_nil)) (blkOk_by (N := ["system", "allowed", "targets", "state"]) (sc := defScope srest_of) (by decide +kernel)) (fun _ _ _ _ _ => (pg_name (i := 3) screst_of.nd rfl (Or.inl rfl))) (fun _ _ _ _ _ => pts_one (PW.pt (pw_and (pt_cmpR (kx_op_in_seq (K := K) rfl) (pv 3) (pv 1) (by rfl)) (pw_and1 (pt_cmpR (kx_op_notIn_seq (K := K) rfl) (pv 3) (pv 2) (by rfl)))))) (fun _ _ _ _ _ => (pv 3))))), ?_⟩
    refine s_retF (f_range (r := RN) (fun s => decide (s ∈ al) && !decide (s ∈ ts)) (fun s => s) (e_lenT (e_var (r := RSys K) rfl rv)) (by omega) (fun _ => rfl)
      (fun i H' hi e => Evl.et_and (t_cmp (e_in (e_var rfl rfl) (e_var rfl (Mo.mo e rv')))) fun _ => t_cmp (e_notIn (e_var rfl rfl) (e_var rfl (Mo.mo e rv'')))) (fun i H' hi _ e => e_var rfl rfl)) fun p ws H' hn e' hp hal => ?_
    refine k _ p ws H' ?_ hn e' hp hal
    unfold fm restOf
    rw [List.map_id']
theorem e_ratN {σ : L2.St} {H : Hp} {ta : TE} {n : Nat} (h : EvR RN ta σ H n) : EvR (RQ K) (tTup (tCons ta (tCons (tC (.int 1)) tNil))) σ H (n : Rat) := e_frac (n := (n : Int)) (d := 1) h e_int rfl rfl
theorem ok_mean {f f_plus f_times f_over f_total_weight : Addr} {fd : FuncData} (F : Fun K "mean" "mean" smean f fd) (T : Top K mg zZ zO) (h_plus : Has P w K mg base "plus" ["a", "b"] 2 (spOp2 TT K fun a b => a + b) f_plus) (h_times : Has P w K mg base "times" ["a", "b"] 2 (spOp2 TT K fun a b => a * b) f_times)
    (h_over : Has P w K mg base "over" ["a", "b"] 2 (spOver TT K) f_over) (h_total_weight : Has P w K mg base "total_weight" ["ends"] 2 (spWeight TT K) f_total_weight) : FnOk P w K mg base CX0 3 f fd ["ends", "values"] (spMean TT K) := by
  refine F.ok scmean (fun vs H Q E h => ?_) (fun cdv A outer s H vs Q E hr h => ?_)
  · obtain ⟨x, _, hA, _⟩ := h
    exact AC.len (fun _ h => AC.len (fun _ h => A0.len h) h) hA
  · obtain ⟨⟨es, xs, _⟩, tb, hA, ⟨hE, hz⟩, k⟩ := h
    obtain ⟨v, _, rfl, rv, v', _, rfl, rv', rfl⟩ := hA
    have hE : EndsOk xs.length es := hE
    have hz : allSz 900 xs := hz
    refine ⟨_, (pss_cons (ps_set (i := 2) scmean.nd rfl (.inl rfl) (pe_glob (v := .ref zZ) (by rfl) T.mZERO rfl))
      (pss_cons (ps_for PassesOwn.never rfl (pi_tup (pv 0)) (pg_tup rfl (pgs_cons (pg_name (i := 3) scmean.nd rfl (.inl rfl)) (pgs_cons (pg_name (i := 4) scmean.nd rfl (.inl rfl)) pgs_nil))) (pss_one (ps_if (pt_cmpR (op_neD hr.units) (pe_ix ix_list (pv 1) (pv 3) (fun _ _ => rfl)) (pe_glob (v := .ref zZ) (by rfl) T.mZERO rfl) (nomark _)) (pss_one (ps_set (i := 2) scmean.nd rfl (.inl rfl) (pe_has h_plus (hr.mono (by decide)) (by rfl) (pa_cons (pv 2) (pa_cons (pe_has h_times (hr.mono (by decide)) (by rfl) (pa_cons (pe_tup (pa_cons (pv 4) (pa_cons pe_int pa_nil))) (pa_cons (pe_ix ix_list (pv 1) (pv 3) (fun _ _ => rfl)) pa_nil))) pa_nil))))) pss_nil)))
      (pss_one (ps_ret (pe_has h_over (hr.mono (by decide)) (by rfl) (pa_cons (pv 2) (pa_cons (pe_tup (pa_cons (pe_has h_total_weight (hr.mono (by decide)) (by rfl) (pa_cons (pv 0) pa_nil)) (pa_cons pe_int pa_nil))) pa_nil))))))), ?_⟩
    have szF : ∀ i, i ≤ es.length → sz 4000 (psum (es.take i) (at0 xs)) := fun i hi => sz_mono (psum_take_sz hz (by omega) (fun e he => (hE.mem e he).2.2) i hi) (by have := hE.len; omega)
    refine q_asg (e_con (T.zero H)) fun u0 H0 e0 hu0 => ?_
    refine q_forTv2 (s := RN) (s' := RN) (Hb := H) (u := v) (xs := es) rfl rv (fun i σ' H' => ∃ u a b, σ' = [some v, some v', some u, a, b] ∧ Ex H H' ∧ RQ K H' u (psum (es.take i) (at0 xs))) ⟨u0, none, none, rfl, e0, hu0⟩ (fun i σ' H' ⟨_, _, _, _, h, _⟩ => h) (fun i e va vb σ' H' hx hP ha hb => ?_) (fun σ' H' hP => ?_)
    · obtain ⟨u, a, b, rfl, e', hu⟩ := hP
      have hlt := (List.getElem?_eq_some_iff.mp hx).1
      have hm := hE.mem e (List.mem_of_getElem? hx)
      have ev : EvR (RQ K) (tOp (rIxL K) (tVar 1) (tVar 3)) [some v, some v', some u, some va, some vb] H' (at0 xs e.1) := e_ixL (e_var rfl (Mo.mo e' rv')) (e_var (r := RN) rfl ha) (at0_get hm.1)
      refine Evl.s_when (t_cmp (e_neD dok_rat (by omega) ev (e_con (T.zero H')))) (fun hb' H1 e1 => ?_) (fun hb' H1 e1 => ?_)
      · have hw : sz 10 ((e.2 : Nat) : Rat) := sz_nat (by omega) (by omega)
        have hs := at0_sz hz (by omega) e.1
        refine s_asg (e_call (f := fun x : Rat × Rat × Unit => x.1 + x.2.1) (tb.ex (e'.trans e1)) (a_cons (e_var (r := RQ K) rfl (Mo.mo e1 hu)) (a_cons (e_call (f := fun x : Rat × Rat × Unit => x.1 * x.2.1) (tb.ex (e'.trans e1)) (a_cons (e_ratN (e_var (r := RN) (v := vb) rfl hb)) (a_cons (ev.mono e1) a_nil)) ⟨sz_mono hw (by omega), sz_mono hs (by omega)⟩) a_nil)) ⟨szF i (by omega), sz_mono (sz_mul hw hs) (by omega)⟩) fun u2 H2 e2 hu2 => ?_
        refine ⟨u2, _, _, rfl, (e'.trans e1).trans e2, ?_⟩
        rw [take_succ' hx, psum_snoc]
        exact hu2
      · refine ⟨u, _, _, rfl, e'.trans e1, ?_⟩
        have h0 : at0 xs e.1 = 0 := by simpa using hb'
        rw [take_succ' hx, psum_snoc, h0, Rat.mul_zero, Rat.add_zero]
        exact Mo.mo e1 hu
    · obtain ⟨u, a, b, rfl, e', hu⟩ := hP
      have hwp := wsum_pos hE
      have hwl := wsum_le hE
      have hw : sz 12 ((wsum es : Nat) : Rat) := sz_nat (by omega) (by omega)
      have hne : ((wsum es : Nat) : Rat) ≠ 0 := by
        intro z
        have : wsum es = 0 := by exact_mod_cast z
        omega
      rw [List.take_length] at hu
      refine s_ret (e_call (f := fun x : Rat × Rat × Unit => x.1 / x.2.1) (tb.ex e') (a_cons (e_var (r := RQ K) rfl hu) (a_cons (e_ratN (e_call (f := fun x : EndL × Unit => wsum x.1) (tb.ex e') (a_cons (e_var (r := REnds K) rfl (Mo.mo e' rv)) a_nil) ⟨_, hE⟩)) a_nil)) ⟨⟨by have := szF es.length (Nat.le_refl _); rw [List.take_length] at this; exact this, sz_mono hw (by omega)⟩, hne⟩) fun u2 H2 e2 hu2 => ?_
      exact k _ u2 H2 rfl (e'.trans e2) hu2
theorem ok_restricted {f : Addr} {fd : FuncData} (F : Fun K "restricted" "restricted" srestricted f fd) (T : Top K mg zZ zO) : FnOk P w K mg base CX0 1 f fd ["system", "policy"] (spRestr TT K) := by
  refine F.ok screstricted (fun vs H Q E h => ?_) (fun cdv A outer s H vs Q E hr h => ?_)
  · obtain ⟨x, _, hA, _⟩ := h
    exact AC.len (fun _ h => AC.len (fun _ h => A0.len h) h) hA
  · obtain ⟨⟨S, pol, _⟩, tb, hA, ⟨hS, hp⟩, k⟩ := h
    obtain ⟨v, _, rfl, rv, v', _, rfl, rv', rfl⟩ := hA
    have hS : SysOk S := hS
    have hp : PolOk S pol := hp
    refine ⟨_, (pss_one (ps_ret (pe_callTy call_tuple_of (by rfl) T.b_tuple (by decide +kernel) (pa_cons (pe_lc (own := [("state", 2), ("choice", 3)]) (g := _) rfl screstricted.nd (pi_enum (by rfl) T.b_enumerate (pa_cons (pv 1) pa_nil)) (blkOk_by (N := ["system", "policy", "state", "choice"]) (sc := defScope srestricted) (by decide +kernel)) (fun _ _ _ _ _ => (kx_tgt (K := K) (n := 2) rfl rfl (pgs_cons (pg_name (i := 2) screstricted.nd rfl (Or.inl rfl)) (pgs_cons (pg_name (i := 3) screstricted.nd rfl (Or.inl rfl)) pgs_nil)))) (fun _ _ _ _ _ => pts_nil) (fun _ _ _ _ _ => (pe_tup (pa_cons (pe_ix (kx_ix_tup (K := K) rfl) (pe_ix (kx_ix_tup (K := K) rfl) (pv 0) (pv 2) (fun _ _ => rfl)) (pv 3) (fun _ _ => rfl)) pa_nil)))) pa_nil)))), ?_⟩
    refine s_ret (e_tupleF (r := RT K (RCh K)) (f_enum (r := RT K (RCh K)) (s := RN) (xs := pol) (fun s c => [chAt S s c]) (e_var (r := RL K RN) rfl rv') (by have := hp.1; have := hS.len; omega) (fun _ _ => rfl) (fun i c u H' hx e hu => ?_))) fun u H' e' hu => ?_
    · have hi := (List.getElem?_eq_some_iff.mp hx).1
      have hiS : i < S.length := by rw [← hp.1]; exact hi
      have hc := hp.2 i c S[i] hx (List.getElem?_eq_getElem hiS)
      refine e_single (e_ixT (r := RCh K) (xs := S[i]) (i := c) (e_ixT (r := RT K (RCh K)) (xs := S) (i := i) (e_var (r := RSys K) rfl (Mo.mo e rv)) (e_var (r := RN) rfl rfl) (List.getElem?_eq_getElem hiS)) (e_var (r := RN) rfl hu) ?_)
      unfold chAt
      rw [List.getD_eq_getElem?_getD, List.getD_eq_getElem?_getD, List.getElem?_eq_getElem hiS, Option.getD_some, List.getElem?_eq_getElem hc, Option.getD_some]
    · exact k _ u H' rfl e' hu
end
end BO

/-! the mirror: reaching, comparing -/
namespace BO
inductive Rch (S : Sys) (rest : List Nat) (kn : List Bool) : Nat → Prop
  | base {s : Nat} : bAt kn s = true → Rch S rest kn s
  | step {s : Nat} {c : Choice} {e : Nat × Nat} : s ∈ rest → c ∈ S.getD s [] → e ∈ c.2 → Rch S rest kn e.1 → Rch S rest kn s
theorem count_set_lt : ∀ {ks : List Bool} {s : Nat} {b : Bool}, ks[s]? = some b → (ks.set s (!b)).count b + 1 = ks.count b
  | [], s, b, h => by simp at h
  | k :: ks, 0, b, h => by
    have h : k = b := by simpa using h
    subst h
    cases k <;> simp
  | k :: ks, s + 1, b, h => by
    have h : ks[s]? = some b := by simpa using h
    have := count_set_lt h
    rw [List.set_cons_succ, List.count_cons, List.count_cons]
    omega
def bett (one two : Rat) (most : Bool) : Bool := if most then decide (two < one) else decide (one < two)
theorem bett_irrefl {a : Rat} {m : Bool} : bett a a m = false := by
  unfold bett
  cases m <;> simp <;> grind
/-- v beats y, and m does not beat y: m does not beat v -/
theorem bett_trans {v y m : Rat} {b : Bool} (h1 : bett v y b = true) (h2 : bett m y b = false) : bett m v b = false := by
  unfold bett at *
  cases b <;> simp at * <;> grind
theorem bett_le {v y : Rat} {b : Bool} (h : bett v y b = false) : if b then v ≤ y else y ≤ v := by
  unfold bett at h
  cases b <;> simp at * <;> grind
theorem lt_cross {a b : Rat} : decide (a.num * (b.den : Int) < b.num * (a.den : Int)) = decide (a < b) := by
  rw [decide_eq_decide]
  exact (Rat.lt_iff a b).symm
theorem mean_sz {es : EndL} {vs : List Rat} (hE : EndsOk vs.length es) (hz : allSz 900 vs) : sz 3700 (mean es vs) := by
  have h := psum_take_sz hz (by omega) (fun e he => (hE.mem e he).2.2) es.length (Nat.le_refl _)
  rw [List.take_length] at h
  have hwl := wsum_le hE
  have hwp := wsum_pos hE
  have hw : sz 12 ((wsum es : Nat) : Rat) := sz_nat (by omega) (by omega)
  have hne : ((wsum es : Nat) : Rat) ≠ 0 := by
    intro z
    have : wsum es = 0 := by exact_mod_cast z
    omega
  exact sz_mono (sz_div hne h hw) (by have := hE.len; omega)
/-- y, of the numbers ahead, is a best one -/
def Best (cs : List Choice) (vs : List Rat) (most : Bool) (ns : List Nat) (y : Nat × Rat) : Prop :=
  y.1 ∈ ns ∧ y.2 = mean (cs.getD y.1 (0, [])).2 vs ∧ ∀ m ∈ ns, bett (mean (cs.getD m (0, [])).2 vs) y.2 most = false
end BO

namespace BO
open PySem PySem.Spec PyProof.Rows L2
abbrev sbetter : Stmt := topS 28
theorem scbetter : FnScope ["one", "two", "most"] ["one", "two", "most"] (defScope sbetter) := ⟨rfl, rfl, rfl, by decide +kernel, rfl, by decide +kernel, by decide +kernel⟩

abbrev sno_cost : Stmt := topS 30
theorem scno_cost : FnScope ["choice"] ["choice"] (defScope sno_cost) := ⟨rfl, rfl, rfl, by decide +kernel, rfl, by decide +kernel, by decide +kernel⟩

abbrev sbest_choice : Stmt := topS 29
theorem scbest_choice : FnScope ["choices", "values", "numbers", "base", "most", "found", "number", "value"] ["choices", "values", "numbers", "base", "most"] (defScope sbest_choice) := ⟨rfl, rfl, rfl, by decide +kernel, rfl, by decide +kernel, by decide +kernel⟩

abbrev spBetter (TT : List Addr) (K : PySem.W.Frag) : Sp := spP TT (AC (RQ K) (AC (RQ K) (AC RB A0))) (fun x => sz 4000 x.1 ∧ sz 4000 x.2.1) RB fun x y => y = bett x.1 x.2.1 x.2.2.1
abbrev spNoCost (TT : List Addr) (K : PySem.W.Frag) : Sp := spP TT (AC (RCh K) A0) (fun x => x.1.1 ≤ 1000) (RQ K) fun _ y => y = 0
abbrev spBestC (TT : List Addr) (K : PySem.W.Frag) (f0 : Addr) : Sp := spP TT (AC (RT K (RCh K)) (AC (RL K (RQ K)) (AC (RL K RN) (AC (RF f0) (AC RB A0)))))
  (fun x => (∀ c ∈ x.1, c.1 ≤ 1000 ∧ EndsOk x.2.1.length c.2) ∧ allSz 900 x.2.1 ∧ x.2.2.1 ≠ [] ∧ ∀ m ∈ x.2.2.1, m < x.1.length) (RP K RN (RQ K)) fun x y => Best x.1 x.2.1 x.2.2.2.2.1 x.2.2.1 y
section
variable {P : Program} {w : World} {K : PySem.W.Frag} {mg : Str → Option Value} {base : Heap} {TT : List Addr} {zZ zO : Addr}
theorem ok_better {f : Addr} {fd : FuncData} (F : Fun K "better" "better" sbetter f fd) (T : Top K mg zZ zO) : FnOk P w K mg base CX0 1 f fd ["one", "two", "most"] (spBetter TT K) := by
  refine F.ok scbetter (fun vs H Q E h => ?_) (fun cdv A outer s H vs Q E hr h => ?_)
  · obtain ⟨x, _, hA, _⟩ := h
    exact AC.len (fun _ h => AC.len (fun _ h => AC.len (fun _ h => A0.len h) h) h) hA
  · obtain ⟨⟨a, b, m, _⟩, tb, hA, ⟨ha, hb⟩, k⟩ := h
    obtain ⟨va, _, rfl, ra, vb, _, rfl, rb, vm, _, rfl, rm, rfl⟩ := hA
    refine ⟨_, (pss_one (ps_ret (pe_ifExp (pt_val (pv 2)) (pe_cmpR op_lt (pe_op op_mulW (pe_ix ix_tup (pv 1) pe_int (fun _ _ => rfl)) (pe_ix ix_tup (pv 0) pe_int (fun _ _ => rfl))) (pe_op op_mulW (pe_ix ix_tup (pv 0) pe_int (fun _ _ => rfl)) (pe_ix ix_tup (pv 1) pe_int (fun _ _ => rfl))) (nomark _)) (pe_cmpR op_lt (pe_op op_mulW (pe_ix ix_tup (pv 0) pe_int (fun _ _ => rfl)) (pe_ix ix_tup (pv 1) pe_int (fun _ _ => rfl))) (pe_op op_mulW (pe_ix ix_tup (pv 1) pe_int (fun _ _ => rfl)) (pe_ix ix_tup (pv 0) pe_int (fun _ _ => rfl))) (nomark _))))), ?_⟩
    obtain ⟨m1, m2, m3, m4, m5⟩ := mulW4 ha hb (by omega)
    have ea : EvR (RQ K) (tVar 0) (start ["one", "two", "most"] [va, vb, vm]) H a := e_var rfl ra
    have eb : EvR (RQ K) (tVar 1) (start ["one", "two", "most"] [va, vb, vm]) H b := e_var rfl rb
    refine s_ret (e_if (r := RB) (x := bett a b m) (t_val (e_var rfl rm)) (fun hm => ?_) (fun hm => ?_)) fun v H' e' hv => k _ v H' rfl e' hv
    · unfold bett
      rw [if_pos hm, ← lt_cross]
      exact e_opB (e_opC m3 (e_num eb) (e_den ea)) (e_opC m2 (e_num ea) (e_den eb))
    · have hm : m = false := hm
      unfold bett
      rw [hm, if_neg Bool.false_ne_true, ← lt_cross]
      exact e_opB (e_opC m2 (e_num ea) (e_den eb)) (e_opC m3 (e_num eb) (e_den ea))
theorem ok_no_cost {f : Addr} {fd : FuncData} (F : Fun K "no_cost" "no_cost" sno_cost f fd) (T : Top K mg zZ zO) : FnOk P w K mg base CX0 1 f fd ["choice"] (spNoCost TT K) := by
  refine F.ok scno_cost (fun vs H Q E h => ?_) (fun cdv A outer s H vs Q E hr h => ?_)
  · obtain ⟨x, _, hA, _⟩ := h
    exact AC.len (fun _ h => A0.len h) hA
  · obtain ⟨⟨c, _⟩, tb, hA, hc, k⟩ := h
    have hc : c.1 ≤ 1000 := hc
    obtain ⟨va, _, rfl, ra, rfl⟩ := hA
    refine ⟨_, (pss_one (ps_ret (pe_tup (pa_cons (pe_op op_mul pe_int (pe_ix ix_tup (pv 0) pe_int (fun _ _ => rfl))) (pa_cons pe_int pa_nil))))), ?_⟩
    refine s_ret (e_frac (K := K) (q := 0) (n := 0 * (c.1 : Int)) (d := 1) (e_opC ?_ e_int (e_fst (x := c) (s := REnds K) (r := RN) (e_var (r := RCh K) rfl ra))) e_int (by rw [Int.zero_mul]; rfl) rfl) fun v H' e' hv => k _ v H' rfl e' hv
    exact .inl ⟨by decide, by decide⟩
theorem ok_best_choice {f f_plus f_mean f_better f_no_cost : Addr} {fd : FuncData} (F : Fun K "best_choice" "best_choice" sbest_choice f fd) (T : Top K mg zZ zO) (h_plus : Has P w K mg base "plus" ["a", "b"] 2 (spOp2 TT K fun a b => a + b) f_plus)
    (h_mean : Has P w K mg base "mean" ["ends", "values"] 3 (spMean TT K) f_mean) (h_better : Has P w K mg base "better" ["one", "two", "most"] 1 (spBetter TT K) f_better) (h_base : Has P w K mg base "no_cost" ["choice"] 1 (spNoCost TT K) f_no_cost) :
    FnOk P w K mg base CX0 4 f fd ["choices", "values", "numbers", "base", "most"] (spBestC TT K f_no_cost) := by
  refine F.ok scbest_choice (fun vs H Q E h => ?_) (fun cdv A outer s H vs Q E hr h => ?_)
  · obtain ⟨x, _, hA, _⟩ := h
    exact AC.len (fun _ h => AC.len (fun _ h => AC.len (fun _ h => AC.len (fun _ h => AC.len (fun _ h => A0.len h) h) h) h) h) hA
  · obtain ⟨⟨cs, xs, ns, u0, most, _⟩, tb, hA, ⟨hE, hz, hne, hlt⟩, k⟩ := h
    obtain ⟨v1, _, rfl, r1, v2, _, rfl, r2, v3, _, rfl, r3, v4, _, rfl, r4, v5, _, rfl, r5, rfl⟩ := hA
    have hE0 : ∀ c ∈ cs, c.1 ≤ 1000 ∧ EndsOk xs.length c.2 := hE
    have hE : ∀ c ∈ cs, EndsOk xs.length c.2 := fun c hc => (hE0 c hc).2
    have hz : allSz 900 xs := hz
    have hne : ns ≠ [] := hne
    have hlt : ∀ m ∈ ns, m < cs.length := hlt
    refine ⟨_, (pss_cons (ps_set (i := 5) scbest_choice.nd rfl (.inl rfl) pe_non)
      (pss_cons (ps_for PassesOwn.never rfl (pi_list (pv 2)) (pg_name (i := 6) scbest_choice.nd rfl (.inl rfl)) (pss_cons (ps_set (i := 7) scbest_choice.nd rfl (.inl rfl) (pe_has h_plus (hr.mono (by decide)) (by rfl) (pa_cons (pe_hasL (i := 3) h_base (hr.mono (by decide)) rfl (.inl rfl) (pa_cons (pe_ix ix_tup (pv 0) (pv 6) (fun _ _ => rfl)) pa_nil)) (pa_cons (pe_has h_mean (hr.mono (by decide)) (by rfl) (pa_cons (pe_ix ix_tup (pe_ix ix_tup (pv 0) (pv 6) (fun _ _ => rfl)) pe_int (fun _ _ => rfl)) (pa_cons (pv 1) pa_nil))) pa_nil))))
      (pss_one (ps_if (PW.pt (pw_or (pt_cmpR op_isN (pv 5) pe_non (nomark _)) (pw_or1 (pt_val (pe_has h_better (hr.mono (by decide)) (by rfl) (pa_cons (pv 7) (pa_cons (pe_ix ix_tup (pv 5) pe_int (fun _ _ => rfl)) (pa_cons (pv 4) pa_nil)))))))) (pss_one (ps_set (i := 5) scbest_choice.nd rfl (.inl rfl) (pe_tup (pa_cons (pv 6) (pa_cons (pv 7) pa_nil))))) pss_nil))))
      (pss_one (ps_ret (pv 5))))), ?_⟩
    refine q_asg (r := RO (RP K RN (RQ K))) (x := none) (fun H1 e Q q => q _ H1 (Evl.Ex.refl _) rfl) fun u H0 e0 hu0 => ?_
    refine q_forLv (s := RN) (Hb := H) (u := v3) (xs := ns) rfl r3 (fun i σ' H' => ∃ o u a b, σ' = [some v1, some v2, some v3, some v4, some v5, some u, a, b] ∧ Ex H H' ∧ RO (RP K RN (RQ K)) H' u o ∧ (o = none → i = 0) ∧ ∀ y, o = some y → Best cs xs most (ns.take i) y)
      ⟨none, u, none, none, rfl, e0, hu0, fun _ => rfl, fun y z => by cases z⟩ (fun i σ' H' ⟨_, _, _, _, _, h, _⟩ => h) (fun i n vn σ' H' hx hP hn => ?_) (fun σ' H' hP => ?_)
    · obtain ⟨o, u, a, b, rfl, e', hu, ho1, ho2⟩ := hP
      have hnm := List.mem_of_getElem? hx
      have hnc := hlt n hnm
      have hc : cs[n]? = some (cs.getD n (0, [])) := by rw [List.getD_eq_getElem?_getD, List.getElem?_eq_getElem hnc]; rfl
      have hEc := hE _ (List.mem_of_getElem? hc)
      have msz := mean_sz hEc hz
      have ec : ∀ {H'' : Hp} {a b : Option V}, Ex H' H'' → EvR (RCh K) (tOp (rIxT K) (tVar 0) (tVar 6)) [some v1, some v2, some v3, some v4, some v5, a, some vn, b] H'' (cs.getD n (0, [])) := fun e'' => e_ixT (xs := cs) (e_var (r := RT K (RCh K)) rfl (Mo.mo (e'.trans e'') r1)) (e_var (r := RN) rfl hn) hc
      refine q_asg (r := RQ K) (x := mean (cs.getD n (0, [])).2 xs) ?_ fun vv H1 e1 hvv => ?_
      · rw [show mean (cs.getD n (0, [])).2 xs = 0 + mean (cs.getD n (0, [])).2 xs from (Rat.zero_add _).symm]
        refine e_call (f := fun x : Rat × Rat × Unit => x.1 + x.2.1) (tb.ex e') (a_cons (e_callL (f := fun _ : Choice × Unit => (0 : Rat)) (i := 3) (g := f_no_cost) ?_ (tb.ex e') (a_cons (ec (Evl.Ex.refl _)) a_nil) (hE0 _ (List.mem_of_getElem? hc)).1) (a_cons (e_call (f := fun x : EndL × List Rat × Unit => mean x.1 x.2.1) (tb.ex e') (a_cons (e_snd (r := RN) (s := REnds K) (ec (Evl.Ex.refl _))) (a_cons (e_var (r := RL K (RQ K)) rfl (Mo.mo e' r2)) a_nil)) ⟨hEc, hz⟩) a_nil)) ⟨sz_mono sz_zero (by omega), sz_mono msz (by omega)⟩
        have r4 : v4 = .ref f_no_cost := r4
        rw [r4]
        rfl
      · have eo : EvR (RO (RP K RN (RQ K))) (tVar 5) [some v1, some v2, some v3, some v4, some v5, some u, some vn, some vv] H1 o := e_var rfl (Mo.mo e1 hu)
        have hT : EvT (tOr (tTest (tOp (fun x y H Q => y = .non ∧ Q (.bl (decide (x = .non))) H) (tVar 5) (tC .non))) (tB (tCall (spBetter TT K) [] E0 (tCons (tVar 7) (tCons (tOp (rIxT K) (tVar 5) (tC (.int 1))) (tCons (tVar 4) tNil))))))
            [some v1, some v2, some v3, some v4, some v5, some u, some vn, some vv] H1 (match o with
              | none => true
              | some y => bett (mean (cs.getD n (0, [])).2 xs) y.2 most) := by
          cases o with
          | none =>
            have := Evl.et_or (a := true) (b := true) (t_cmp (e_isN (K := K) (σ := [some v1, some v2, some v3, some v4, some v5, some u, some vn, some vv]) eo)) (u := (tB (tCall (spBetter TT K) [] E0 (tCons (tVar 7) (tCons (tOp (rIxT K) (tVar 5) (tC (.int 1))) (tCons (tVar 4) tNil)))))) (fun z => by cases z)
            exact this
          | some y =>
            have ey : EvR (RP K RN (RQ K)) (tVar 5) [some v1, some v2, some v3, some v4, some v5, some u, some vn, some vv] H1 y := e_var rfl (Mo.mo e1 hu).2
            have hy := (ho2 y rfl).2.1
            have hyn : y.1 < cs.length := hlt _ (List.mem_of_mem_take (ho2 y rfl).1)
            have hyc : cs[y.1]? = some (cs.getD y.1 (0, [])) := by rw [List.getD_eq_getElem?_getD, List.getElem?_eq_getElem hyn]; rfl
            have ysz : sz 3700 y.2 := by rw [hy]; exact mean_sz (hE _ (List.mem_of_getElem? hyc)) hz
            have := Evl.et_or (a := false) (b := bett (mean (cs.getD n (0, [])).2 xs) y.2 most) (t_cmp (e_isN (K := K) (σ := [some v1, some v2, some v3, some v4, some v5, some u, some vn, some vv]) eo)) (u := (tB (tCall (spBetter TT K) [] E0 (tCons (tVar 7) (tCons (tOp (rIxT K) (tVar 5) (tC (.int 1))) (tCons (tVar 4) tNil))))))
              (fun _ => t_val (e_call (f := fun x : Rat × Rat × Bool × Unit => bett x.1 x.2.1 x.2.2.1) (tb.ex (e'.trans e1)) (a_cons (e_var (r := RQ K) rfl hvv) (a_cons (e_snd ey) (a_cons (e_var (r := RB) rfl r5) a_nil))) ⟨sz_mono msz (by omega), sz_mono ysz (by omega)⟩))
            rw [Bool.false_or] at this
            exact this
        have et : ns.take (i + 1) = ns.take i ++ [n] := take_succ' hx
        refine Evl.s_when hT (fun hb H2 e2 => ?_) (fun hb H2 e2 => ?_)
        · refine s_asg (e_pair (K := K) (e_var (r := RN) rfl hn) (e_var (r := RQ K) rfl (Mo.mo e2 hvv))) fun u2 H3 e3 hu2 => ?_
          refine ⟨some (n, mean (cs.getD n (0, [])).2 xs), u2, _, _, rfl, ((e'.trans e1).trans e2).trans e3, ⟨?_, hu2⟩, fun z => (by cases z), fun y z => ?_⟩
          · obtain ⟨a, _, _, h, _⟩ := hu2
            rw [h]
            intro z
            cases z
          · cases z
            refine ⟨by rw [et]; simp, rfl, fun m hm => ?_⟩
            rw [et, List.mem_append, List.mem_singleton] at hm
            rcases hm with hm | hm
            · cases o with
              | none =>
                have := ho1 rfl
                subst this
                simp at hm
              | some y => exact bett_trans hb ((ho2 y rfl).2.2 m hm)
            · rw [hm]
              exact bett_irrefl
        · cases o with
          | none => cases hb
          | some y =>
            refine ⟨some y, u, _, _, rfl, (e'.trans e1).trans e2, Mo.mo (e1.trans e2) hu, fun z => (by cases z), fun y' z => ?_⟩
            cases z
            have hB := ho2 y rfl
            refine ⟨by rw [et]; exact List.mem_append_left _ hB.1, hB.2.1, fun m hm => ?_⟩
            rw [et, List.mem_append, List.mem_singleton] at hm
            rcases hm with hm | hm
            · exact hB.2.2 m hm
            · rw [hm]
              exact hb
    · obtain ⟨o, u, a, b, rfl, e', hu, ho1, ho2⟩ := hP
      cases o with
      | none =>
        have := ho1 rfl
        exact absurd (List.length_eq_zero_iff.mp this) hne
      | some y =>
        have hB := ho2 y rfl
        rw [List.take_length] at hB
        exact s_ret (e_var (r := RP K RN (RQ K)) rfl hu.2) fun v H' e2 hv => k y v H' hB (e'.trans e2) hv
end
end BO

namespace BO
open PySem PySem.Spec PyProof.Rows L2
abbrev sbackward : Stmt := topS 22
theorem scbackward : FnScope ["system", "rest", "known", "grown", "state"] ["system", "rest", "known"] (defScope sbackward) := ⟨rfl, rfl, rfl, by decide +kernel, rfl, by decide +kernel, by decide +kernel⟩

abbrev snever : Stmt := topS 23
theorem scnever : FnScope ["system", "allowed", "targets", "rest", "known", "state", "shrunk"] ["system", "allowed", "targets"] (defScope snever) := ⟨rfl, rfl, rfl, by decide +kernel, rfl, by decide +kernel, by decide +kernel⟩

abbrev sranks_of_all : Stmt := topS 37
theorem scranks_of_all : FnScope ["system", "rest", "start", "known", "ranks", "level", "found", "s", "state"] ["system", "rest", "start"] (defScope sranks_of_all) := ⟨rfl, rfl, rfl, by decide +kernel, rfl, by decide +kernel, by decide +kernel⟩

structure RestOk (n : Nat) (rest : List Nat) : Prop where
  lt : ∀ s ∈ rest, s < n
  len : rest.length ≤ 100
def StepC (S : Sys) (ks : List Bool) (s : Nat) : Prop := (S.getD s []).any (fun c => endsIn c.2 ks) = true → bAt ks s = true
structure Back (S : Sys) (rest : List Nat) (kn ks : List Bool) : Prop where
  len : ks.length = S.length
  ge : ∀ s, bAt kn s = true → bAt ks s = true
  sound : ∀ s, bAt ks s = true → Rch S rest kn s
structure Nev (S : Sys) (al ts : List Nat) (ks : List Bool) : Prop where
  len : ks.length = S.length
  all : ∀ s ∈ restOf S.length al ts, bAt ks s = true → (S.getD s []).any (fun c => allIn c.2 ks) = true
abbrev spBack (TT : List Addr) (K : PySem.W.Frag) : Sp := spF TT (AC (RSys K) (AC (RL K RN) (AC (RL K RB) A0))) (fun x => SysOk x.1 ∧ RestOk x.1.length x.2.1 ∧ x.2.2.1.length = x.1.length) RB fun x y => Back x.1 x.2.1 x.2.2.1 y ∧ ∀ s ∈ x.2.1, StepC x.1 y s
abbrev spNever (TT : List Addr) (K : PySem.W.Frag) : Sp := spF TT (AC (RSys K) (AC (RL K RN) (AC (RL K RN) A0))) (fun x => SysOk x.1) RB fun x y => Nev x.1 x.2.1 x.2.2.1 y
abbrev spRanks (TT : List Addr) (K : PySem.W.Frag) : Sp := spF TT (AC (RSys K) (AC (RL K RN) (AC (RL K RB) A0))) (fun x => SysOk x.1 ∧ RestOk x.1.length x.2.1 ∧ x.2.2.1.length = x.1.length) RN fun x y => y.length = x.1.length
theorem sysAt {S : Sys} {s : Nat} (h : s < S.length) : S[s]? = some (S.getD s []) := by
  rw [List.getD_eq_getElem?_getD, List.getElem?_eq_getElem h]
  rfl
theorem SysOk.endsAt {S : Sys} (h : SysOk S) {s : Nat} (hs : s < S.length) {c : Choice} (hc : c ∈ S.getD s []) : EndsOk S.length c.2 := (h.ends _ (List.mem_of_getElem? (sysAt hs)) c hc).2
section
variable {P : Program} {w : World} {K : PySem.W.Frag} {mg : Str → Option Value} {base : Heap} {TT : List Addr} {zZ zO : Addr}
theorem ok_backward {f f_ends_in c Pt : Addr} {fd : FuncData} (F : FunC K mg base TT "backward" sbackward f fd c Pt) (T : Top K mg zZ zO) (h_ends_in : Has P w K mg base "ends_in" ["ends", "known"] 2 (spEnds TT K endsIn) f_ends_in) :
    FnOk P w K mg base CX0 4 f fd ["system", "rest", "known"] (spBack TT K) := by
  have TB := F.tb
  refine F.ok scbackward (fun vs H Q E h => ?_) (fun A outer s H vs Q E hr h => ?_)
  · obtain ⟨x, _, hA, _⟩ := h
    exact AC.len (fun _ h => AC.len (fun _ h => AC.len (fun _ h => A0.len h) h) h) hA
  · obtain ⟨⟨S, rest, kn, _⟩, tb, hA, ⟨hS, hR, hk⟩, k⟩ := h
    obtain ⟨v1, _, rfl, r1, v2, _, rfl, r2, v3, _, rfl, r3, rfl⟩ := hA
    have hS : SysOk S := hS
    have hR : RestOk S.length rest := hR
    have hk : kn.length = S.length := hk
    refine ⟨_, (pss_cons (ps_set (i := 2) scbackward.nd rfl (.inr rfl) (pe_callTy call_list_of (by rfl) T.b_list (by decide +kernel) (pa_cons (pv 2) pa_nil)))
      (pss_cons (ps_set (i := 3) scbackward.nd rfl (.inl rfl) pe_bl)
      (pss_cons (ps_while PassesOwn.never (pt_val (pv 3)) (pss_cons (ps_set (i := 3) scbackward.nd rfl (.inl rfl) pe_bl)
      (pss_one (ps_for PassesOwn.never rfl (pi_list (pv 1)) (pg_name (i := 4) scbackward.nd rfl (.inl rfl)) (pss_one (ps_if (PW.pt (pw_and (pt_not (pt_val (pe_ix ix_list (pv 2) (pv 4) (fun _ _ => rfl)))) (pw_and1 (pt_val (pe_gxAny (k := 2) (Nr := ["known"]) (cap := [2]) rfl hr (by rfl) T.b_any TB rfl (gxS_by (XN := ["system", "rest", "known", "grown", "state"]) (sc := defScope sbackward) (by decide +kernel)) (pi_tup (pe_ix ix_tup (pv 0) (pv 4) (fun _ _ => rfl))) (fun A' s' H' C' cd' fp' hr' => (pe_has h_ends_in (hr'.mono (by decide)) (by rfl) (pa_cons (pv 1) (pa_cons (pv 2) pa_nil))))))))) (pss_cons (ps_asg pe_bl (pg_sub (pv 2) (pv 4) set_list))
      (pss_one (ps_set (i := 3) scbackward.nd rfl (.inl rfl) pe_bl))) pss_nil))))))
      (pss_one (ps_ret (pv 2)))))), ?_⟩
    refine q_asgF (f_listL (e_var (r := RL K RB) rfl r3)) fun p ws H0 hn e0 hp hal => ?_
    refine q_asg (r := RB) (x := true) e_bl fun g H1 e1 hg => ?_
    have hg : g = .bl true := hg
    subst hg
    refine Evl.q_while (fun m σ' H' => ∃ g ks o, σ' = [some v1, some v2, some (.ref p), some (.bl g), o] ∧ Ex H H' ∧ Own RB H p H' ks ∧ Back S rest kn ks ∧ (g = false → ∀ s ∈ rest, StepC S ks s) ∧ m = 2 * ks.count false + g.toNat) (2 * kn.count false + 1)
      ⟨true, kn, none, rfl, e0.trans e1, (Own.of hn hp hal).ex e1, ⟨hk, fun _ h => h, fun _ h => .base h⟩, fun z => (by cases z), rfl⟩ (fun m σ' H' hW => ?_)
    obtain ⟨g, ks, o, rfl, e', hO, hB, hc, rfl⟩ := hW
    refine ⟨g, t_val (e_var rfl rfl), fun hg H2 e2 => ⟨_, fun σ2 H2 h => h, ?_⟩, fun hg H2 e2 => ?_⟩
    · subst hg
      refine q_asg (r := RB) (x := false) e_bl fun g H3 e3 hg => ?_
      have hg : g = .bl false := hg
      subst hg
      refine s_forLv (s := RN) (Hb := H) (u := v2) (xs := rest) rfl r2 (fun i σ' H' => ∃ g' ks' o', σ' = [some v1, some v2, some (.ref p), some (.bl g'), o'] ∧ Ex H H' ∧ Own RB H p H' ks' ∧ Back S rest kn ks' ∧ ks'.count false ≤ ks.count false ∧
        (g' = true → ks'.count false < ks.count false) ∧ (g' = false → ks' = ks ∧ ∀ s ∈ rest.take i, StepC S ks s))
        ⟨false, ks, o, rfl, (e'.trans e2).trans e3, hO.ex (e2.trans e3), hB, Nat.le_refl _, fun z => (by cases z), fun _ => ⟨rfl, fun s hs => by simp at hs⟩⟩ (fun i σ' H' ⟨_, _, _, _, h, _⟩ => h) (fun i s vs σ' H' hx hP hs => ?_) (fun σ' H' hP => ?_)
      · obtain ⟨g', ks', o', rfl, e4, hO4, hB4, hle, h1, h2⟩ := hP
        have hsr := List.mem_of_getElem? hx
        have hsn := hR.lt s hsr
        have hks : s < ks'.length := by rw [hB4.len]; exact hsn
        have evk : ∀ {H5 : Hp}, Ex H' H5 → EvR RB (tOp (rIxL K) (tVar 2) (tVar 4)) [some v1, some v2, some (.ref p), some (.bl g'), some vs] H5 (bAt ks' s) := fun e5 => e_ixL (e_var rfl (hO4.ex e5).rl) (e_var (r := RN) rfl hs) (bAt_get hks)
        have ev : EvR RB (tGx true K Pt (iTup K (tOp (rIxT K) (tVar 0) (tVar 4))) (tCall (spEnds TT K endsIn) [] E0 (tCons (tVar 1) (tCons (tVar 2) tNil))) [2]) [some v1, some v2, some (.ref p), some (.bl g'), some vs] H' ((S.getD s []).any fun c => endsIn c.2 ks') :=
          e_gtest (r := RN) (s := REnds K) true (fun c : Choice => endsIn c.2 ks') (tb.ex e4 _ F.mem) (e_ixT (r := RT K (RCh K)) (xs := S) (e_var (r := RSys K) rfl (Mo.mo e4 r1)) (e_var (r := RN) rfl hs) (sysAt hsn)) fun i c va vb H5 e5 hc h1 h2 =>
            e_call (f := fun x : EndL × List Bool × Unit => endsIn x.1 x.2.1) (tb.ex (e4.trans e5)) (a_cons (e_var (r := REnds K) rfl h2) (a_cons (e_var (r := RL K RB) rfl (hO4.ex e5).rl) a_nil)) (by
              show EndsOk ks'.length c.2
              rw [hB4.len]
              exact hS.endsAt hsn (List.mem_of_getElem? hc))
        refine Evl.s_when (Evl.et_and (Evl.et_not (t_val (evk (Evl.Ex.refl _)))) fun _ => t_val ev) (fun hb H5 e5 => ?_) (fun hb H5 e5 => ?_)
        · rw [Bool.and_eq_true] at hb
          have hb1 : bAt ks' s = false := by simpa using hb.1
          have hcount := count_set_lt (ks := ks') (s := s) (b := false) (by rw [bAt_get hks, hb1])
          rw [Bool.not_false] at hcount
          refine q_setO (r := RB) (y := true) (i := s) (hO4.ex e5) (e4.trans e5) e_bl (Evl.ev_var rfl) (e_var (r := RN) rfl hs) hks fun H6 us ws' e6 hp6 ex6 hO6 => ?_
          refine s_asg (r := RB) (x := true) e_bl fun g H7 e7 hg => ?_
          have hg : g = .bl true := hg
          subst hg
          refine ⟨true, ks'.set s true, _, rfl, ex6.trans e7, hO6.ex e7, ⟨by rw [List.length_set]; exact hB4.len, fun t ht => ?_, fun t ht => ?_⟩, by omega, fun _ => by omega, fun z => (by cases z)⟩
          · rw [bAt_set hks]
            split
            · rfl
            · exact hB4.ge t ht
          · rw [bAt_set hks] at ht
            split at ht
            · rename_i e
              subst e
              obtain ⟨c, hc, hce⟩ := List.any_eq_true.mp hb.2
              obtain ⟨e, he, hee⟩ := List.any_eq_true.mp hce
              exact .step hsr hc he (hB4.sound _ hee)
            · exact hB4.sound t ht
        · refine ⟨g', ks', _, rfl, e4.trans e5, hO4.ex e5, hB4, hle, h1, fun hg => ?_⟩
          obtain ⟨q1, q2⟩ := h2 hg
          refine ⟨q1, fun t ht => ?_⟩
          rw [take_succ' hx, List.mem_append, List.mem_singleton] at ht
          rcases ht with ht | ht
          · exact q2 t ht
          · rw [ht]
            intro ha
            rw [q1, ha, Bool.and_true] at hb
            simpa using hb
      · obtain ⟨g', ks', o', rfl, e4, hO4, hB4, hle, h1, h2⟩ := hP
        refine ⟨2 * ks'.count false + g'.toNat, ?_, g', ks', o', rfl, e4, hO4, hB4, fun hg => ?_, rfl⟩
        · cases g' with
          | true =>
            have := h1 rfl
            simp
            omega
          | false => simp; omega
        · obtain ⟨q1, q2⟩ := h2 hg
          rw [List.take_length] at q2
          rw [q1]
          exact q2
    · subst hg
      obtain ⟨hn2, ws2, hp2, hal2⟩ := hO.ex e2
      exact s_retO rfl (k ks p ws2 H2 ⟨hB, hc rfl⟩ hn2 (e'.trans e2) hp2 hal2)
theorem ok_never {f f_all_in f_rest_of c Pt : Addr} {fd : FuncData} (F : FunC K mg base TT "never" snever f fd c Pt) (T : Top K mg zZ zO) (h_all_in : Has P w K mg base "all_in" ["ends", "known"] 2 (spEnds TT K allIn) f_all_in)
    (h_rest_of : Has P w K mg base "rest_of" ["system", "allowed", "targets"] 1 (spRest TT K) f_rest_of) : FnOk P w K mg base CX0 4 f fd ["system", "allowed", "targets"] (spNever TT K) := by
  have TB := F.tb
  refine F.ok scnever (fun vs H Q E h => ?_) (fun A outer s H vs Q E hr h => ?_)
  · obtain ⟨x, _, hA, _⟩ := h
    exact AC.len (fun _ h => AC.len (fun _ h => AC.len (fun _ h => A0.len h) h) h) hA
  · obtain ⟨⟨S, al, ts, _⟩, tb, hA, hS, k⟩ := h
    obtain ⟨v1, _, rfl, r1, v2, _, rfl, r2, v3, _, rfl, r3, rfl⟩ := hA
    have hS : SysOk S := hS
    have hSl := hS.len
    refine ⟨_, (pss_cons (ps_set (i := 3) scnever.nd rfl (.inl rfl) (pe_has h_rest_of (hr.mono (by decide)) (by rfl) (pa_cons (pv 0) (pa_cons (pv 1) (pa_cons (pv 2) pa_nil)))))
      (pss_cons (ps_set (i := 4) scnever.nd rfl (.inr rfl) (pe_lc (own := [("state", 5)]) (g := _) rfl scnever.nd (pi_range1 (by rfl) T.b_range (pa_cons (pe_callB call_len_seq (by rfl) T.b_len PySem.boot_len (pa_cons (pv 0) pa_nil)) pa_nil)) (blkOk_by (N := ["system", "allowed", "targets", "rest", "known", "state", "shrunk"]) (sc := defScope snever) (by decide +kernel)) (fun _ _ _ _ _ => (pg_name (i := 5) scnever.nd rfl (Or.inl rfl))) (fun _ _ _ _ _ => pts_nil) (fun _ _ _ _ _ => (pe_cmpR (kx_op_notIn_seq (K := K) rfl) (pv 5) (pv 2) (by rfl)))))
      (pss_cons (ps_set (i := 6) scnever.nd rfl (.inl rfl) pe_bl)
      (pss_cons (ps_while PassesOwn.never (pt_val (pv 6)) (pss_cons (ps_set (i := 6) scnever.nd rfl (.inl rfl) pe_bl)
      (pss_one (ps_for PassesOwn.never rfl (pi_list (pv 3)) (pg_name (i := 5) scnever.nd rfl (.inl rfl)) (pss_one (ps_if (PW.pt (pw_and (pt_val (pe_ix ix_list (pv 4) (pv 5) (fun _ _ => rfl))) (pw_and1 (pt_not (pt_val (pe_gxAny (k := 2) (Nr := ["known"]) (cap := [4]) rfl hr (by rfl) T.b_any TB rfl (gxS_by (XN := ["system", "allowed", "targets", "rest", "known", "state", "shrunk"]) (sc := defScope snever) (by decide +kernel)) (pi_tup (pe_ix ix_tup (pv 0) (pv 5) (fun _ _ => rfl))) (fun A' s' H' C' cd' fp' hr' => (pe_has h_all_in (hr'.mono (by decide)) (by rfl) (pa_cons (pv 1) (pa_cons (pv 2) pa_nil)))))))))) (pss_cons (ps_asg pe_bl (pg_sub (pv 4) (pv 5) set_list))
      (pss_one (ps_set (i := 6) scnever.nd rfl (.inl rfl) pe_bl))) pss_nil))))))
      (pss_one (ps_ret (pv 4))))))), ?_⟩
    refine q_asgF (e_callF (f := fun x : Sys × List Nat × List Nat × Unit => restOf x.1.length x.2.1 x.2.2.1) tb (a_cons (e_var (r := RSys K) rfl r1) (a_cons (e_var (r := RL K RN) rfl r2) (a_cons (e_var (r := RL K RN) rfl r3) a_nil))) (by show S.length ≤ 100; omega)) fun pr wr Hr hnr er hpr halr => ?_
    have rR : RL K RN Hr (.ref pr) (restOf S.length al ts) := ⟨pr, wr, rfl, SqL.of hpr, halr⟩
    refine q_asgF (f_range (n := S.length) (r := RB) (fun _ => true) (fun s => !decide (s ∈ ts)) (e_lenT (e_var (r := RSys K) rfl (Mo.mo er r1))) (by omega) (fun _ => rfl) (fun i H' hi e => fun H1 e1 Q q => q H1 (Evl.Ex.refl _)) (fun i H' hi _ e => e_notIn (e_var rfl rfl) (e_var rfl (Mo.mo (er.trans e) r3)))) fun p ws H0 hn e0 hp hal => ?_
    refine q_asg (r := RB) (x := true) e_bl fun g H1 e1 hg => ?_
    have hg : g = .bl true := hg
    subst hg
    refine Evl.q_while (fun m σ' H' => ∃ g ks o, σ' = [some v1, some v2, some v3, some (.ref pr), some (.ref p), o, some (.bl g)] ∧ Ex Hr H' ∧ Own RB Hr p H' ks ∧ ks.length = S.length ∧ (g = false → ∀ s ∈ restOf S.length al ts, bAt ks s = true → (S.getD s []).any (fun c => allIn c.2 ks) = true) ∧ m = 2 * ks.count true + g.toNat) _
      ⟨true, _, none, rfl, e0.trans e1, (Own.of hn hp hal).ex e1, by rw [fm_true]; simp, fun z => (by cases z), rfl⟩ (fun m σ' H' hW => ?_)
    obtain ⟨g, ks, o, rfl, e', hO, hB, hc, rfl⟩ := hW
    refine ⟨g, t_val (e_var rfl rfl), fun hg H2 e2 => ⟨_, fun σ2 H2 h => h, ?_⟩, fun hg H2 e2 => ?_⟩
    · subst hg
      refine q_asg (r := RB) (x := false) e_bl fun g H3 e3 hg => ?_
      have hg : g = .bl false := hg
      subst hg
      refine s_forLv (s := RN) (Hb := Hr) (u := .ref pr) (xs := restOf S.length al ts) rfl rR (fun i σ' H' => ∃ g' ks' o', σ' = [some v1, some v2, some v3, some (.ref pr), some (.ref p), o', some (.bl g')] ∧ Ex Hr H' ∧ Own RB Hr p H' ks' ∧ ks'.length = S.length ∧ ks'.count true ≤ ks.count true ∧
        (g' = true → ks'.count true < ks.count true) ∧ (g' = false → ks' = ks ∧ ∀ s ∈ (restOf S.length al ts).take i, bAt ks s = true → (S.getD s []).any (fun c => allIn c.2 ks) = true))
        ⟨false, ks, o, rfl, (e'.trans e2).trans e3, hO.ex (e2.trans e3), hB, Nat.le_refl _, fun z => (by cases z), fun _ => ⟨rfl, fun s hs => by simp at hs⟩⟩ (fun i σ' H' ⟨_, _, _, _, h, _⟩ => h) (fun i s vs σ' H' hx hP hs => ?_) (fun σ' H' hP => ?_)
      · obtain ⟨g', ks', o', rfl, e4, hO4, hB4, hle, h1, h2⟩ := hP
        have hsn := (restOf_mem.mp (List.mem_of_getElem? hx)).1
        have hks : s < ks'.length := by rw [hB4]; exact hsn
        have evk : ∀ {H5 : Hp}, Ex H' H5 → EvR RB (tOp (rIxL K) (tVar 4) (tVar 5)) [some v1, some v2, some v3, some (.ref pr), some (.ref p), some vs, some (.bl g')] H5 (bAt ks' s) := fun e5 => e_ixL (e_var rfl (hO4.ex e5).rl) (e_var (r := RN) rfl hs) (bAt_get hks)
        have ev : EvR RB (tGx true K Pt (iTup K (tOp (rIxT K) (tVar 0) (tVar 5))) (tCall (spEnds TT K allIn) [] E0 (tCons (tVar 1) (tCons (tVar 2) tNil))) [4]) [some v1, some v2, some v3, some (.ref pr), some (.ref p), some vs, some (.bl g')] H' ((S.getD s []).any fun c => allIn c.2 ks') :=
          e_gtest (r := RN) (s := REnds K) true (fun c : Choice => allIn c.2 ks') (tb.ex (er.trans e4) _ F.mem) (e_ixT (r := RT K (RCh K)) (xs := S) (e_var (r := RSys K) rfl (Mo.mo (er.trans e4) r1)) (e_var (r := RN) rfl hs) (sysAt hsn)) fun i c va vb H5 e5 hc h1 h2 =>
            e_call (f := fun x : EndL × List Bool × Unit => allIn x.1 x.2.1) (tb.ex ((er.trans e4).trans e5)) (a_cons (e_var (r := REnds K) rfl h2) (a_cons (e_var (r := RL K RB) rfl (hO4.ex e5).rl) a_nil)) (by
              show EndsOk ks'.length c.2
              rw [hB4]
              exact hS.endsAt hsn (List.mem_of_getElem? hc))
        refine Evl.s_when (Evl.et_and (t_val (evk (Evl.Ex.refl _))) fun _ => Evl.et_not (t_val ev)) (fun hb H5 e5 => ?_) (fun hb H5 e5 => ?_)
        · rw [Bool.and_eq_true] at hb
          have hcount := count_set_lt (ks := ks') (s := s) (b := true) (by rw [bAt_get hks, hb.1])
          rw [Bool.not_true] at hcount
          refine q_setO (r := RB) (y := false) (i := s) (hO4.ex e5) (e4.trans e5) e_bl (Evl.ev_var rfl) (e_var (r := RN) rfl hs) hks fun H6 us ws' e6 hp6 ex6 hO6 => ?_
          refine s_asg (r := RB) (x := true) e_bl fun g H7 e7 hg => ?_
          have hg : g = .bl true := hg
          subst hg
          exact ⟨true, ks'.set s false, _, rfl, ex6.trans e7, hO6.ex e7, by rw [List.length_set]; exact hB4, by omega, fun _ => by omega, fun z => (by cases z)⟩
        · refine ⟨g', ks', _, rfl, e4.trans e5, hO4.ex e5, hB4, hle, h1, fun hg => ?_⟩
          obtain ⟨q1, q2⟩ := h2 hg
          refine ⟨q1, fun t ht => ?_⟩
          rw [take_succ' hx, List.mem_append, List.mem_singleton] at ht
          rcases ht with ht | ht
          · exact q2 t ht
          · rw [ht]
            intro ha
            rw [q1, ha, Bool.true_and] at hb
            simpa using hb
      · obtain ⟨g', ks', o', rfl, e4, hO4, hB4, hle, h1, h2⟩ := hP
        refine ⟨2 * ks'.count true + g'.toNat, ?_, g', ks', o', rfl, e4, hO4, hB4, fun hg => ?_, rfl⟩
        · cases g' with
          | true =>
            have := h1 rfl
            simp
            omega
          | false => simp; omega
        · obtain ⟨q1, q2⟩ := h2 hg
          rw [List.take_length] at q2
          rw [q1]
          exact q2
    · subst hg
      obtain ⟨hn2, ws2, hp2, hal2⟩ := hO.ex e2
      exact s_retO rfl (k ks p ws2 H2 ⟨hB, hc rfl⟩ (Evl.fresh_back er hn2) ((er.trans e').trans e2) hp2 hal2)
theorem ok_ranks_of_all {f f_ends_in c Pt : Addr} {fd : FuncData} (F : FunC K mg base TT "ranks_of_all" sranks_of_all f fd c Pt) (T : Top K mg zZ zO) (h_ends_in : Has P w K mg base "ends_in" ["ends", "known"] 2 (spEnds TT K endsIn) f_ends_in) :
    FnOk P w K mg base CX0 4 f fd ["system", "rest", "start"] (spRanks TT K) := by
  have TB := F.tb
  refine F.ok scranks_of_all (fun vs H Q E h => ?_) (fun A outer s H vs Q E hr h => ?_)
  · obtain ⟨x, _, hA, _⟩ := h
    exact AC.len (fun _ h => AC.len (fun _ h => AC.len (fun _ h => A0.len h) h) h) hA
  · obtain ⟨⟨S, rest, kn, _⟩, tb, hA, ⟨hS, hR, hk⟩, k⟩ := h
    obtain ⟨v1, _, rfl, r1, v2, _, rfl, r2, v3, _, rfl, r3, rfl⟩ := hA
    have hS : SysOk S := hS
    have hR : RestOk S.length rest := hR
    have hk : kn.length = S.length := hk
    have hSl := hS.len
    refine ⟨_, (pss_cons (ps_set (i := 3) scranks_of_all.nd rfl (.inr rfl) (pe_callTy call_list_of (by rfl) T.b_list (by decide +kernel) (pa_cons (pv 2) pa_nil)))
      (pss_cons (ps_set (i := 4) scranks_of_all.nd rfl (.inl rfl) (pe_op op_rep (pe_lst (pa_cons pe_int pa_nil)) (pe_callB call_len_seq (by rfl) T.b_len PySem.boot_len (pa_cons (pv 0) pa_nil))))
      (pss_cons (ps_for PassesOwn.never rfl (pi_range2 (by rfl) T.b_range (pa_cons pe_int (pa_cons (pe_op op_add (pe_callB call_len_seq (by rfl) T.b_len PySem.boot_len (pa_cons (pv 0) pa_nil)) pe_int) pa_nil))) (pg_name (i := 5) scranks_of_all.nd rfl (.inl rfl)) (pss_cons (ps_setLc (i := 6) (own := [("s", 7)]) (g := _) rfl scranks_of_all.nd rfl rfl (sw_true rfl rfl rfl (by decide +kernel)) (pi_list (pv 1)) (blkOk_by (N := ["system", "rest", "start", "known", "ranks", "level", "found", "s", "state"]) (sc := defScope sranks_of_all) (by decide +kernel)) (fun _ _ _ _ _ => (pg_name (i := 7) scranks_of_all.nd rfl (Or.inl rfl))) (fun _ _ _ _ _ => pts_one (PW.pt (pw_and (pt_not (pt_val (pe_ix (kx_ix_list (K := K) rfl) (pv 3) (pv 7) (fun _ _ => rfl)))) (pw_and1 (pt_val (kx_gxAll (K := K) rfl (k := 2) (Nr := ["known"]) (cap := [3]) rfl hr (by rfl) T.b_all TB rfl (gxS_by (XN := ["system", "rest", "start", "known", "ranks", "level", "found", "s", "state"]) (sc := { kind := ScopeKind.function, names := [((".0" : Str), NameKind.local), (("s" : Str), NameKind.local), (("all" : Str), NameKind.globalImplicit), (("known" : Str), NameKind.cell), (("system" : Str), NameKind.cell)], isGenerator := false, isCoroutine := false }) (by decide +kernel)) ((kx_pi_tup (K := K) rfl) (pe_ix (kx_ix_tup (K := K) rfl) (pv 0) (pv 7) (fun _ _ => rfl))) (fun A' s' H' C' cd' fp' hr' => (pe_has h_ends_in (hr'.mono (by decide)) (by rfl) (pa_cons (pv 1) (pa_cons (pv 2) pa_nil)))))))))) (fun _ _ _ _ _ => (pv 7)))
      (pss_one (ps_for PassesOwn.never rfl (pi_list (pv 6)) (pg_name (i := 8) scranks_of_all.nd rfl (.inl rfl)) (pss_cons (ps_asg pe_bl (pg_sub (pv 3) (pv 8) set_list))
      (pss_one (ps_asg (pv 5) (pg_sub (pv 4) (pv 8) set_list))))))))
      (pss_one (ps_ret (pv 4)))))), ?_⟩
    refine q_asgF (f_listL (e_var (r := RL K RB) rfl r3)) fun p1 ws1 H0 hn1 e0 hp1 hal1 => ?_
    have O1 : Own RB H p1 H0 kn := Own.of hn1 hp1 hal1
    refine q_asgF (f_rep (n := S.length) (r := RN) e_zero (e_lenT (e_var (r := RSys K) rfl (Mo.mo e0 r1))) (by omega)) fun p2 ws2 H1 hn2 e1 hp2 hal2 => ?_
    have O2 : Own RN H p2 H1 (List.replicate S.length 0) := (Own.of hn2 hp2 hal2).back e0
    have ne12 : p1 ≠ p2 := fun z => by rw [z, hn2] at hp1; cases hp1
    refine q_forRm (m := 1) (n := S.length + 1) e_one (e_addN (e_lenT (e_var (r := RSys K) rfl (Mo.mo (e0.trans e1) r1))) e_one) (by omega) (by omega) (fun i σ' H' => ∃ ks rs a b c d, σ' = [some v1, some v2, some v3, some (.ref p1), some (.ref p2), a, b, c, d] ∧ Ex H H' ∧ Own RB H p1 H' ks ∧ Own RN H p2 H' rs ∧ ks.length = S.length ∧ rs.length = S.length)
      (fun H2 e2 => ⟨kn, _, none, none, none, none, rfl, (e0.trans e1).trans e2, O1.ex (e1.trans e2), O2.ex e2, hk, by simp⟩) (fun i σ' H' h1i hi hP => ?_) (fun σ' H' hP => ?_)
    · obtain ⟨ks, rs, a, b, c, d, rfl, e2, O1, O2, hl1, hl2⟩ := hP
      refine q_asgF (f_list (r := RN) (s := RN) (xs := rest) (fun s => !bAt ks s && (S.getD s []).all fun c => endsIn c.2 ks) (fun s => s) (e_var rfl (Mo.mo e2 r2)) (by have := hR.len; omega) (fun _ => rfl) (fun j s vs H3 hx e3 hs => ?_) (fun j s vs H3 hx _ e3 hs => e_var rfl hs)) fun p3 ws3 H3 hn3 e3 hp3 hal3 => ?_
      · have hsn := hR.lt s (List.mem_of_getElem? hx)
        have hks : s < ks.length := by rw [hl1]; exact hsn
        refine Evl.et_and (Evl.et_not (t_val (e_ixL (e_var rfl (O1.ex e3).rl) (e_var (r := RN) rfl hs) (bAt_get hks)))) fun _ => t_val ?_
        exact e_gtest (r := RN) (s := REnds K) false (fun c : Choice => endsIn c.2 ks) (tb.ex (e2.trans e3) _ F.mem) (e_ixT (r := RT K (RCh K)) (xs := S) (e_var (r := RSys K) rfl (Mo.mo (e2.trans e3) r1)) (e_var (r := RN) rfl hs) (sysAt hsn)) fun i c va vb H5 e5 hc h1 h2 =>
            e_call (f := fun x : EndL × List Bool × Unit => endsIn x.1 x.2.1) (tb.ex ((e2.trans e3).trans e5)) (a_cons (e_var (r := REnds K) rfl h2) (a_cons (e_var (r := RL K RB) rfl (O1.ex (e3.trans e5)).rl) a_nil)) (by
              show EndsOk ks.length c.2
              rw [hl1]
              exact hS.endsAt hsn (List.mem_of_getElem? hc))
      · have ne13 : p1 ≠ p3 := fun z => by
          obtain ⟨ws, h⟩ := O1.at
          rw [z, hn3] at h
          cases h
        have ne23 : p2 ≠ p3 := fun z => by
          obtain ⟨ws, h⟩ := O2.at
          rw [z, hn3] at h
          cases h
        refine s_forG (s := RN) (a := p3) (vs := ws3) (xs := (rest.filter fun s => !bAt ks s && (S.getD s []).all fun c => endsIn c.2 ks).map fun s => s) rfl (fun j σ' H' => ∃ ks rs d, σ' = [some v1, some v2, some v3, some (.ref p1), some (.ref p2), some (.int (i : Int)), some (.ref p3), c, d] ∧ Ex H H' ∧ Own RB H p1 H' ks ∧ Own RN H p2 H' rs ∧ ks.length = S.length ∧ rs.length = S.length ∧ H' p3 = some (.lst ws3))
          ⟨ks, rs, d, rfl, e2.trans e3, O1.ex e3, O2.ex e3, hl1, hl2, hp3⟩ hal3.1 (fun j σ' H' h => ?_) (fun j s vs σ' H' hx hP hs => ?_) (fun σ' H' hP => ?_)
        · obtain ⟨_, _, _, _, _, _, _, _, _, h⟩ := h
          exact ⟨SqL.of h, hal3.1, fun i v x h1 h2 => hal3.2 i v x h1 h2⟩
        · obtain ⟨ks, rs, d, rfl, e4, O1, O2, hl1, hl2, hp3⟩ := hP
          have hm := List.mem_of_getElem? hx
          rw [List.map_id', List.mem_filter] at hm
          have hsn := hR.lt s hm.1
          refine q_setO (r := RB) (y := true) (i := s) O1 e4 e_bl (Evl.ev_var rfl) (e_var (r := RN) rfl hs) (by rw [hl1]; exact hsn) fun H6 us ws' e6 hp6 ex6 hO6 => ?_
          have O2' := (O2.ex e6).other (o := .lst ws') (fun z => ne12 z.symm) hp6
          have hp3' : (upd H6 p1 (.lst ws')) p3 = some (.lst ws3) := by rw [upd_ne (fun z => ne13 z.symm)]; exact e6 p3 _ hp3
          refine s_setO (r := RN) (y := i) (i := s) O2' ex6 (e_var rfl rfl) (Evl.ev_var rfl) (e_var (r := RN) rfl hs) (by rw [hl2]; exact hsn) fun H7 us7 ws7 e7 hp7 ex7 hO7 => ?_
          refine ⟨ks.set s true, rs.set s i, _, rfl, ex7, (hO6.ex e7).other ne12 hp7, hO7, by rw [List.length_set]; exact hl1, by rw [List.length_set]; exact hl2, ?_⟩
          rw [upd_ne (fun z => ne23 z.symm)]
          exact e7 p3 _ hp3'
        · obtain ⟨ks, rs, d, rfl, e4, O1, O2, hl1, hl2, hp3⟩ := hP
          exact ⟨ks, rs, _, _, _, _, rfl, e4, O1, O2, hl1, hl2⟩
    · obtain ⟨ks, rs, a, b, c, d, rfl, e2, O1, O2, hl1, hl2⟩ := hP
      obtain ⟨hn2, ws2, hp2, hal2⟩ := O2
      exact s_retO rfl (k rs p2 ws2 H' hl2 hn2 e2 hp2 hal2)
end
end BO

/-! the mirror: solving by elimination -/
namespace BO
def sm : Nat → (Nat → Rat) → Rat
  | 0, _ => 0
  | n + 1, f => sm n f + f n
theorem sm_congr {f g : Nat → Rat} : ∀ {n : Nat}, (∀ j, j < n → f j = g j) → sm n f = sm n g
  | 0, _ => rfl
  | n + 1, h => by
    show sm n f + f n = sm n g + g n
    rw [sm_congr fun j hj => h j (by omega), h n (by omega)]
theorem sm_lin {f g : Nat → Rat} {a b : Rat} : ∀ {n : Nat}, sm n (fun j => a * f j + b * g j) = a * sm n f + b * sm n g
  | 0 => by show (0 : Rat) = a * 0 + b * 0; grind
  | n + 1 => by
    show sm n _ + (a * f n + b * g n) = a * (sm n f + f n) + b * (sm n g + g n)
    rw [sm_lin]
    grind
theorem sm_zero {f : Nat → Rat} : ∀ {n : Nat}, (∀ j, j < n → f j = 0) → sm n f = 0
  | 0, _ => rfl
  | n + 1, h => by
    show sm n f + f n = 0
    rw [sm_zero fun j hj => h j (by omega), h n (by omega)]
    grind
theorem sm_single {f : Nat → Rat} {i : Nat} : ∀ {n : Nat}, i < n → (∀ j, j < n → j ≠ i → f j = 0) → sm n f = f i
  | 0, h, _ => absurd h (by omega)
  | n + 1, h, hz => by
    show sm n f + f n = f i
    by_cases e : i = n
    · subst e
      rw [sm_zero fun j hj => hz j (by omega) (by omega)]
      grind
    · rw [sm_single (by omega) fun j hj hne => hz j (by omega) hne, hz n (by omega) (fun z => e z.symm)]
      grind
theorem sm_two {f : Nat → Rat} {i k : Nat} : ∀ {n : Nat}, i < n → k < n → i ≠ k → (∀ j, j < n → j ≠ i → j ≠ k → f j = 0) → sm n f = f i + f k
  | 0, h, _, _, _ => absurd h (by omega)
  | n + 1, h, h2, hne, hz => by
    show sm n f + f n = f i + f k
    by_cases e : i = n
    · subst e
      rw [sm_single (i := k) (by omega) fun j hj hjk => hz j (by omega) (by omega) hjk]
      grind
    · by_cases e2 : k = n
      · subst e2
        rw [sm_single (i := i) (by omega) fun j hj hji => hz j (by omega) hji (by omega)]
      · rw [sm_two (by omega) (by omega) hne fun j hj h1 h2 => hz j (by omega) h1 h2, hz n (by omega) (fun z => e z.symm) (fun z => e2 z.symm)]
        grind
def rw' (t : List (List Rat)) (i : Nat) : List Rat := t.getD i []
def dot (n : Nat) (row : List Rat) (u : Nat → Rat) : Rat := sm n fun j => at0 row j * u j
def clr (row oth : List Rat) (c : Nat) : List Rat := row.mapIdx fun j x => x - at0 row c * at0 oth j
theorem at0_mapIdx {row : List Rat} {f : Nat → Rat → Rat} {j : Nat} (h : j < row.length) : at0 (row.mapIdx f) j = f j (at0 row j) := by
  unfold at0
  rw [List.getD_eq_getElem?_getD, List.getElem?_mapIdx, List.getD_eq_getElem?_getD, List.getElem?_eq_getElem h]
  rfl
theorem at0_map {row : List Rat} {f : Rat → Rat} {j : Nat} (h : j < row.length) : at0 (row.map f) j = f (at0 row j) := by
  unfold at0
  rw [List.getD_eq_getElem?_getD, List.getElem?_map, List.getD_eq_getElem?_getD, List.getElem?_eq_getElem h]
  rfl
theorem rw_set {t : List (List Rat)} {i k : Nat} {r : List Rat} (h : i < t.length) : rw' (t.set i r) k = if k = i then r else rw' t k := by
  unfold rw'
  rw [List.getD_eq_getElem?_getD, List.getD_eq_getElem?_getD]
  by_cases e : k = i
  · subst e
    rw [List.getElem?_set_self h, if_pos rfl]
    rfl
  · rw [List.getElem?_set_ne (fun z => e z.symm), if_neg e]
theorem rw_get {t : List (List Rat)} {i : Nat} (h : i < t.length) : t[i]? = some (rw' t i) := by
  unfold rw'
  rw [List.getD_eq_getElem?_getD, List.getElem?_eq_getElem h]
  rfl
theorem clr_zero {row oth : List Rat} {c : Nat} (h : at0 row c = 0) : clr row oth c = row := by
  unfold clr
  rw [h]
  refine List.ext_getElem? fun i => ?_
  rw [List.getElem?_mapIdx]
  cases row[i]? with
  | none => rfl
  | some x =>
    show some _ = some _
    congr 1
    show x - 0 * at0 oth i = x
    grind
theorem dot_clr {m : Nat} {row oth : List Rat} {c : Nat} {u : Nat → Rat} (h : row.length = m) : dot m (clr row oth c) u = dot m row u - at0 row c * dot m oth u := by
  unfold dot
  have e := sm_lin (n := m) (f := fun j => at0 row j * u j) (g := fun j => at0 oth j * u j) (a := 1) (b := -(at0 row c))
  have e2 : sm m (fun j => at0 (clr row oth c) j * u j) = sm m (fun j => 1 * (at0 row j * u j) + -(at0 row c) * (at0 oth j * u j)) := sm_congr fun j hj => by
    unfold clr
    rw [at0_mapIdx (by omega)]
    grind
  rw [e2, e]
  grind
theorem dot_scale {m : Nat} {row : List Rat} {h : Rat} {u : Nat → Rat} (hl : row.length = m) : dot m (row.map fun x => x / h) u = dot m row u / h := by
  unfold dot
  have e := sm_lin (n := m) (f := fun j => at0 row j * u j) (g := fun j => 0) (a := h⁻¹) (b := 0)
  have e2 : sm m (fun j => at0 (row.map fun x => x / h) j * u j) = sm m (fun j => h⁻¹ * (at0 row j * u j) + 0 * 0) := sm_congr fun j hj => by
    rw [at0_map (by omega), Rat.div_def]
    grind
  rw [e2, e, Rat.div_def]
  grind
/-- the table, the solutions that it has still -/
structure Tab (n : Nat) (aug t : List (List Rat)) : Prop where
  len : t.length = n
  wid : ∀ i, i < n → (rw' t i).length = n + 1
  back : ∀ u, (∀ i, i < n → dot (n + 1) (rw' t i) u = 0) → ∀ i, i < n → dot (n + 1) (rw' aug i) u = 0
def Unit' (n c : Nat) (t : List (List Rat)) : Prop := ∀ i, i < n → ∀ j, j < c → at0 (rw' t i) j = if i = j then 1 else 0
section
variable {n c m : Nat} {aug t : List (List Rat)}
theorem Tab.start (h : aug.length = n) (hw : ∀ i, i < n → (rw' aug i).length = n + 1) : Tab n aug aug := ⟨h, hw, fun _ h => h⟩
theorem Unit'.start : Unit' n 0 t := fun _ _ j hj => absurd hj (Nat.not_lt_zero _)
theorem rw_swap (ht : t.length = n) (hc : c < n) (hm : m < n) (i : Nat) : rw' ((t.set c (rw' t m)).set m (rw' t c)) i = if i = m then rw' t c else if i = c then rw' t m else rw' t i := by
  rw [rw_set (by rw [List.length_set]; omega), rw_set (by omega)]
theorem Tab.swap (h : Tab n aug t) (hc : c < n) (hm : m < n) : Tab n aug ((t.set c (rw' t m)).set m (rw' t c)) := by
  refine ⟨by simp [h.len], fun i hi => ?_, fun u hu => h.back u fun i hi => ?_⟩
  · rw [rw_swap h.len hc hm]
    split
    · exact h.wid c hc
    · split
      · exact h.wid m hm
      · exact h.wid i hi
  · by_cases e1 : i = m
    · have := hu c hc
      rw [rw_swap h.len hc hm] at this
      by_cases e2 : c = m
      · rw [if_pos e2] at this
        rw [e1, ← e2]
        exact this
      · rw [if_neg e2, if_pos rfl] at this
        rw [e1]
        exact this
    · by_cases e2 : i = c
      · have := hu m hm
        rw [rw_swap h.len hc hm, if_pos rfl] at this
        rw [e2]
        exact this
      · have := hu i hi
        rw [rw_swap h.len hc hm, if_neg e1, if_neg e2] at this
        exact this
theorem Unit'.swap (h : Unit' n c t) (ht : t.length = n) (hc : c < n) (hm : m < n) (hcm : c ≤ m) : Unit' n c ((t.set c (rw' t m)).set m (rw' t c)) := fun i hi j hj => by
  rw [rw_swap ht hc hm]
  split
  · rename_i e
    rw [h c hc j hj, if_neg (by omega), if_neg (by omega)]
  · split
    · rename_i e
      rw [h m hm j hj, if_neg (by omega), if_neg (by omega)]
    · exact h i hi j hj
theorem Tab.scale (h : Tab n aug t) (hc : c < n) {d : Rat} (hd : d ≠ 0) : Tab n aug (t.set c ((rw' t c).map fun x => x / d)) := by
  have hl : c < t.length := by rw [h.len]; exact hc
  refine ⟨by simp [h.len], fun i hi => ?_, fun u hu => h.back u fun i hi => ?_⟩
  · rw [rw_set hl]
    split
    · rw [List.length_map]; exact h.wid c hc
    · exact h.wid i hi
  · have := hu i hi
    rw [rw_set hl] at this
    split at this
    · rename_i e
      subst e
      rw [dot_scale (h.wid i hi), Rat.div_def] at this
      rcases Rat.mul_eq_zero.mp this with z | z
      · exact z
      · have q := Rat.mul_inv_cancel d hd
        rw [z, Rat.mul_zero] at q
        exact absurd q (by decide)
    · exact this
theorem Unit'.scale (h : Unit' n c t) (ht : Tab n aug t) (hc : c < n) {d : Rat} : Unit' n c (t.set c ((rw' t c).map fun x => x / d)) := fun i hi j hj => by
  rw [rw_set (by rw [ht.len]; exact hc)]
  split
  · rename_i e
    subst e
    rw [at0_map (by rw [ht.wid i hi]; omega), h i hi j hj, if_neg (by omega), Rat.div_def, Rat.zero_mul]
  · exact h i hi j hj
theorem Tab.clear (h : Tab n aug t) {i : Nat} (hc : c < n) (hi : i < n) (hic : i ≠ c) : Tab n aug (t.set i (clr (rw' t i) (rw' t c) c)) := by
  have hl : i < t.length := by rw [h.len]; exact hi
  refine ⟨by simp [h.len], fun k hk => ?_, fun u hu => h.back u fun k hk => ?_⟩
  · rw [rw_set hl]
    split
    · show (List.mapIdx _ _).length = _
      rw [List.length_mapIdx]
      exact h.wid i hi
    · exact h.wid k hk
  · have h1 := hu k hk
    have h2 := hu c hc
    rw [rw_set hl] at h1 h2
    rw [if_neg (fun z => hic z.symm)] at h2
    split at h1
    · rename_i e
      subst e
      rw [dot_clr (h.wid k hk), h2] at h1
      grind
    · exact h1
theorem Unit'.clear (h : Unit' n c t) (ht : Tab n aug t) {i : Nat} (hc : c < n) (hi : i < n) : Unit' n c (t.set i (clr (rw' t i) (rw' t c) c)) := fun k hk j hj => by
  rw [rw_set (by rw [ht.len]; exact hi)]
  split
  · rename_i e
    subst e
    unfold clr
    rw [at0_mapIdx (by rw [ht.wid k hk]; omega), h k hk j hj, h c hc j hj, if_neg (show ¬ c = j by omega)]
    grind
  · exact h k hk j hj
def NS (n : Nat) (rows : List (List Rat)) : Prop := ∀ u : Nat → Rat, (∀ i, i < n → dot n (rw' rows i) u = 0) → ∀ j, j < n → u j = 0
/-- rows and right as one table -/
structure Aug (n : Nat) (rows aug : List (List Rat)) (right : List Rat) : Prop where
  len : aug.length = n
  row : ∀ i, i < n → rw' aug i = rw' rows i ++ [at0 right i]
  wid : ∀ i, i < n → (rw' rows i).length = n
theorem at0_append_l {a b : List Rat} {j : Nat} (h : j < a.length) : at0 (a ++ b) j = at0 a j := by
  unfold at0
  rw [List.getD_eq_getElem?_getD, List.getD_eq_getElem?_getD, List.getElem?_append_left h]
theorem at0_append_r {a : List Rat} {x : Rat} : at0 (a ++ [x]) a.length = x := by
  unfold at0
  rw [List.getD_eq_getElem?_getD, List.getElem?_append_right (by omega)]
  simp
theorem Aug.dot {rows : List (List Rat)} {right : List Rat} (h : Aug n rows aug right) {i : Nat} (hi : i < n) (u : Nat → Rat) : BO.dot (n + 1) (rw' aug i) u = BO.dot n (rw' rows i) u + at0 right i * u n := by
  unfold BO.dot
  show sm n _ + at0 (rw' aug i) n * u n = _
  rw [h.row i hi]
  have e : at0 (rw' rows i ++ [at0 right i]) n = at0 right i := by
    have := at0_append_r (a := rw' rows i) (x := at0 right i)
    rw [h.wid i hi] at this
    exact this
  rw [e]
  congr 1
  exact sm_congr fun j hj => by rw [at0_append_l (by rw [h.wid i hi]; exact hj)]
theorem Aug.tab {rows : List (List Rat)} {right : List Rat} (h : Aug n rows aug right) : Tab n aug aug := .start h.len fun i hi => by
  rw [h.row i hi, List.length_append, h.wid i hi]
  rfl
/-- a column without a pivot: not so -/
theorem no_pivot {rows : List (List Rat)} {right : List Rat} (hA : Aug n rows aug right) (hN : NS n rows) (h : Tab n aug t) (hU : Unit' n c t) (hc : c < n) (h0 : ∀ i, c ≤ i → i < n → at0 (rw' t i) c = 0) : False := by
  let u : Nat → Rat := fun j => if j < c then -(at0 (rw' t j) c) else if j = c then 1 else 0
  have hu : ∀ i, i < n → dot (n + 1) (rw' t i) u = 0 := fun i hi => by
    unfold dot
    by_cases hic : i < c
    · rw [sm_two (i := i) (k := c) (by omega) (by omega) (by omega) (fun j hj h1 h2 => ?_)]
      · show at0 (rw' t i) i * (if i < c then _ else _) + at0 (rw' t i) c * (if c < c then _ else if c = c then 1 else 0) = 0
        rw [hU i hi i hic, if_pos rfl, if_pos hic, if_neg (by omega), if_pos rfl]
        grind
      · show at0 (rw' t i) j * (if j < c then _ else if j = c then 1 else 0) = 0
        by_cases hj2 : j < c
        · rw [hU i hi j hj2, if_neg (fun z => h1 z.symm)]
          grind
        · rw [if_neg hj2, if_neg h2]
          grind
    · refine sm_zero fun j hj => ?_
      show at0 (rw' t i) j * (if j < c then _ else if j = c then 1 else 0) = 0
      by_cases hj2 : j < c
      · rw [hU i hi j hj2, if_neg (by omega)]
        grind
      · rw [if_neg hj2]
        by_cases e : j = c
        · rw [e, h0 i (by omega) hi]
          grind
        · rw [if_neg e]
          grind
  have hb := h.back u hu
  have hn : u n = 0 := by
    show (if n < c then _ else if n = c then (1 : Rat) else 0) = 0
    rw [if_neg (by omega), if_neg (by omega)]
  have := hN u (fun i hi => by
    have := hb i hi
    rw [hA.dot hi, hn] at this
    grind) c hc
  have e : u c = 1 := by
    show (if c < c then _ else if c = c then (1 : Rat) else 0) = 1
    rw [if_neg (by omega), if_pos rfl]
  rw [e] at this
  exact absurd this (by decide)
/-- all columns done -/
theorem solved {rows : List (List Rat)} {right : List Rat} (hA : Aug n rows aug right) (h : Tab n aug t) (hU : Unit' n n t) (i : Nat) (hi : i < n) : dot n (rw' rows i) (fun j => at0 (rw' t j) n) = at0 right i := by
  let u : Nat → Rat := fun j => if j < n then at0 (rw' t j) n else -1
  have hu : ∀ i, i < n → dot (n + 1) (rw' t i) u = 0 := fun i hi => by
    unfold dot
    rw [sm_two (i := i) (k := n) (by omega) (by omega) (by omega) (fun j hj h1 h2 => ?_)]
    · show at0 (rw' t i) i * (if i < n then _ else _) + at0 (rw' t i) n * (if n < n then _ else -1) = 0
      rw [hU i hi i hi, if_pos rfl, if_pos hi, if_neg (by omega)]
      grind
    · rw [hU i hi j (by omega), if_neg (fun z => h1 z.symm)]
      grind
  have := h.back u hu i hi
  have hn : u n = -1 := by
    show (if n < n then _ else (-1 : Rat)) = -1
    rw [if_neg (by omega)]
  have e : dot n (rw' rows i) u = dot n (rw' rows i) (fun j => at0 (rw' t j) n) := sm_congr fun j hj => by
    show at0 (rw' rows i) j * (if j < n then _ else _) = _
    rw [if_pos hj]
  rw [hA.dot hi, hn, e] at this
  grind
end
/-! sizes -/
def RowB (N : Nat) (row : List Rat) : Prop := ∃ d : Int, d ≠ 0 ∧ d.natAbs ≤ N ∧ ∀ q ∈ row, ∃ p : Int, p.natAbs ≤ N ∧ q = Rat.divInt p d
theorem RowB.le {N M : Nat} {row : List Rat} (h : RowB N row) (hle : N ≤ M) : RowB M row := by
  obtain ⟨d, h1, h2, h3⟩ := h
  exact ⟨d, h1, Nat.le_trans h2 hle, fun q hq => by
    obtain ⟨p, hp, e⟩ := h3 q hq
    exact ⟨p, Nat.le_trans hp hle, e⟩⟩
theorem RowB.sz {N k : Nat} {row : List Rat} (h : RowB N row) (hk : N < 2 ^ k) : allSz k row := fun q hq => by
  obtain ⟨d, h1, h2, h3⟩ := h
  obtain ⟨p, hp, rfl⟩ := h3 q hq
  exact sz_divInt h1 (Nat.lt_of_le_of_lt hp hk) (Nat.lt_of_le_of_lt h2 hk)
theorem divInt_ne {p d : Int} (h : Rat.divInt p d ≠ 0) : p ≠ 0 := fun z => h (by rw [z, Rat.zero_divInt])
theorem divInt_div {p r d : Int} (hd : d ≠ 0) (hr : r ≠ 0) : Rat.divInt p d / Rat.divInt r d = Rat.divInt p r := by
  rw [Rat.div_def, Rat.inv_divInt, Rat.divInt_mul_divInt, Int.mul_comm d r, Rat.divInt_mul_right hd]
theorem RowB.scale {N : Nat} {row : List Rat} {h0 : Rat} (h : RowB N row) (hm : h0 ∈ row) (hne : h0 ≠ 0) : RowB N (row.map fun x => x / h0) := by
  obtain ⟨d, h1, h2, h3⟩ := h
  obtain ⟨r, hr, rfl⟩ := h3 h0 hm
  have hr0 := divInt_ne hne
  refine ⟨r, hr0, hr, fun q hq => ?_⟩
  obtain ⟨x, hx, rfl⟩ := List.mem_map.mp hq
  obtain ⟨p, hp, rfl⟩ := h3 x hx
  exact ⟨p, hp, divInt_div h1 hr0⟩
theorem at0_mem {row : List Rat} {j : Nat} (h : j < row.length) : at0 row j ∈ row := List.mem_of_getElem? (at0_get h)
theorem RowB.clear {N c : Nat} {row oth : List Rat} (h : RowB N row) (ho : RowB N oth) (hl : row.length = oth.length) (hc : c < row.length) (hN : 1 ≤ N) : RowB (2 * N * N) (clr row oth c) := by
  obtain ⟨d, h1, h2, h3⟩ := h
  obtain ⟨e, g1, g2, g3⟩ := ho
  obtain ⟨f, hf, ef⟩ := h3 _ (at0_mem hc)
  have mm : ∀ {x y : Int}, x.natAbs ≤ N → y.natAbs ≤ N → (x * y).natAbs ≤ N * N := fun hx hy => by
    rw [Int.natAbs_mul]
    exact Nat.mul_le_mul hx hy
  refine ⟨d * e, Int.mul_ne_zero h1 g1, Nat.le_trans (mm h2 g2) (by rw [Nat.mul_assoc]; omega), fun q hq => ?_⟩
  obtain ⟨j, hj, rfl⟩ := List.getElem_of_mem hq
  have hj' : j < row.length := by simpa [clr] using hj
  have eq : (clr row oth c)[j] = at0 row j - at0 row c * at0 oth j := by
    have := at0_mapIdx (f := fun j x => x - at0 row c * at0 oth j) hj'
    rw [← this]
    have e2 := at0_get hj
    rw [List.getElem?_eq_getElem hj] at e2
    exact Option.some.inj e2
  obtain ⟨p, hp, ep⟩ := h3 _ (at0_mem hj')
  obtain ⟨o, hoo, eo⟩ := g3 _ (at0_mem (j := j) (by omega))
  refine ⟨p * e - f * o, ?_, ?_⟩
  · have a1 := mm hp g2
    have a2 := mm hf hoo
    have := Int.natAbs_sub_le (p * e) (f * o)
    rw [Nat.mul_assoc]
    omega
  · rw [eq, ep, ef, eo, Rat.divInt_mul_divInt]
    have : Rat.divInt p d = Rat.divInt (p * e) (d * e) := (Rat.divInt_mul_right g1).symm
    rw [this, Rat.divInt_sub_divInt _ _ (Int.mul_ne_zero h1 g1) (Int.mul_ne_zero h1 g1), ← Int.sub_mul, Rat.divInt_mul_right (Int.mul_ne_zero h1 g1)]
end BO

/-! a list of lists of one's own; calls whose result is told by a relation -/
namespace BO
open PySem PySem.Spec PyProof.Rows L2
def hide (p : Addr) (H : Hp) : Hp := fun b => if b = p then none else H b
section
variable {K : PySem.W.Frag} {σ : L2.St} {H H' H0 H1 Hb : Hp} {te ta tb tl tn : TE} {t : TT} {tu tz : TS} {D : Ends} {α β γ : Type} {r : RR α} {s : RR β} {p q : Addr} {ys : List α}
theorem hide_ne {b : Addr} (h : b ≠ p) : hide p H b = H b := if_neg h
theorem hide_ex (e : Ex H H') : Ex (hide p H) (hide p H') := fun b o hb => by
  by_cases h : b = p
  · have hb : (if b = p then none else H b) = some o := hb
    rw [if_pos h] at hb
    cases hb
  · rw [hide_ne h] at hb ⊢
    exact e b o hb
theorem hide_upd {o : HO} : hide p (upd H p o) = hide p H := by
  funext b
  unfold hide
  by_cases h : b = p
  · rw [if_pos h, if_pos h]
  · rw [if_neg h, if_neg h, upd_ne h]
theorem hide_sub : Ex (hide p H) H := fun b o hb => by
  by_cases h : b = p
  · have hb : (if b = p then none else H b) = some o := hb
    rw [if_pos h] at hb
    cases hb
  · rw [hide_ne h] at hb
    exact hb
theorem hide_tx {ws : List V} (h : H p = some (.lst ws)) : Tx H (hide p H) := fun b o hb hm => by
  rw [hide_ne (fun z => by rw [z, h] at hb; cases hb; exact hm trivial)]
  exact hb
theorem sqL_at {a : Addr} {vs : List V} (h : SqL K H a vs) (e : H' a = H a) : SqL K H' a vs := by
  rcases h with (h | ⟨o, h⟩) | h
  · exact .inl (.inl (by rw [e]; exact h))
  · exact .inl (.inr ⟨o, by rw [e]; exact h⟩)
  · exact .inr h
theorem rl_hide [Fx s] {a : Addr} {ws : List V} {y : List β} (h : RL K s H (.ref a) y) (hp : H p = some (.lst ws)) (ne : a ≠ p) : RL K s (hide p H) (.ref a) y := by
  obtain ⟨a', vs, e, h1, h2⟩ := h
  cases e
  exact ⟨a, vs, rfl, sqL_at h1 (hide_ne ne), h2.fx (hide_tx hp)⟩
def RH (p : Addr) (r : RR α) : RR α := fun H v x => r (hide p H) v x
instance [Mo r] : Mo (RH p r) := ⟨fun {H H' v x} e h => Mo.mo (r := r) (H := hide p H) (H' := hide p H') (hide_ex e) h⟩
def OwnT (r : RR α) (H0 : Hp) (p : Addr) (H : Hp) (ys : List α) : Prop := H0 p = none ∧ ∃ ws, H p = some (.lst ws) ∧ All r (hide p H) ws ys
theorem OwnT.ex [Mo r] (h : OwnT r H0 p H ys) (e : Ex H H') : OwnT r H0 p H' ys := by
  obtain ⟨h1, ws, h2, h3⟩ := h
  exact ⟨h1, ws, e p _ h2, h3.mo (hide_ex e)⟩
theorem OwnT.rl [Mo r] (h : OwnT r H0 p H ys) : RL K r H (.ref p) ys := by
  obtain ⟨h1, ws, h2, h3⟩ := h
  exact ⟨p, ws, rfl, SqL.of h2, h3.mo hide_sub⟩
theorem OwnT.back (h : OwnT r H1 p H ys) (e : Ex H0 H1) : OwnT r H0 p H ys := ⟨Evl.fresh_back e h.1, h.2⟩
theorem e_ixOwn [Mo r] {i m : Nat} {x : α} (hO : OwnT r H0 p H ys) (hσ : σ[i]? = some (some (.ref p))) (hi : EvR RN tb σ H m) (hx : ys[m]? = some x) : EvR (RH p r) (tOp (rIxL K) (tVar i) tb) σ H x := fun H1 e Q q =>
  ⟨.ref p, hσ, hi H1 e _ fun w H2 e2 hw => by
    obtain ⟨_, ws, h2, h3⟩ := hO.ex (e.trans e2)
    obtain ⟨u, hu, hr⟩ := h3.get hx
    exact ⟨p, ws, (m : Int), u, rfl, hw, SqL.of h2, atI_nat hu, q u H2 e2 hr⟩⟩
/-- t[i] = a new list -/
theorem q_setF [Fx s] {t : List (List β)} {y : List β} {i j : Nat} (hO : OwnT (RL K s) H0 p H t) (e0 : Ex H0 H) (hv : EvF s te σ H y) (hσ : σ[j]? = some (some (.ref p))) (hi : EvR RN tb σ H i) (hlt : i < t.length)
    (k : ∀ H1, Ex H0 H1 → OwnT (RL K s) H0 p H1 (t.set i y) → tz D σ H1) : tSeq (tAsg te (gSub (tVar j) tb rSetL)) tz D σ H :=
  hv H (Evl.Ex.refl _) _ fun a vs H1 hn e1 ha hal => ⟨.ref p, hσ, hi H1 e1 _ fun w H3 e3 hw => by
    have e : Ex H H3 := e1.trans e3
    obtain ⟨h1, ws, h2, h3⟩ := hO.ex e
    have hw : w = .int (i : Int) := hw
    have ne : a ≠ p := fun z => by
      obtain ⟨_, us, h, _⟩ := hO
      rw [z, h] at hn
      cases hn
    refine ⟨p, ws, (i : Int), i, rfl, hw, h2, Evl.ixN_nat (by rw [h3.1]; exact hlt), k _ (Evl.Ex.mut (e0.trans e) h1) ⟨h1, _, upd_same, ?_⟩⟩
    rw [hide_upd]
    exact h3.set i (rl_hide ⟨a, vs, rfl, SqL.of (e3 a _ ha), hal.mo e3⟩ h2 ne)⟩
/-- t[i], t[j] = t[j], t[i] -/
theorem q_swap [Mo r] {i j : Nat} {s1 s2 s3 : Nat} {x y : α} (hO : OwnT r H0 p H ys) (e0 : Ex H0 H) (h1 : σ[s1]? = some (some (.ref p))) (h2 : σ[s2]? = some (some (.int (i : Int)))) (h3 : σ[s3]? = some (some (.int (j : Int)))) (hx : ys[i]? = some x) (hy : ys[j]? = some y)
    (k : ∀ H1, Ex H0 H1 → OwnT r H0 p H1 ((ys.set i y).set j x) → tz D σ H1) :
    tSeq (tAsg (tTup (tCons (tOp (rIxL K) (tVar s1) (tVar s3)) (tCons (tOp (rIxL K) (tVar s1) (tVar s2)) tNil))) (gTup K 2 (gCons (gSub (tVar s1) (tVar s2) rSetL) (gCons (gSub (tVar s1) (tVar s3) rSetL) gNil)))) tz D σ H := by
  obtain ⟨hn, ws, hp, hal⟩ := hO
  obtain ⟨u, hu, hru⟩ := hal.get hx
  obtain ⟨v, hv, hrv⟩ := hal.get hy
  have il := (List.getElem?_eq_some_iff.mp hu).1
  have jl := (List.getElem?_eq_some_iff.mp hv).1
  refine ⟨.ref p, h1, .int (j : Int), h3, p, ws, (j : Int), v, rfl, rfl, SqL.of hp, atI_nat hv, .ref p, h1, .int (i : Int), h2, p, ws, (i : Int), u, rfl, rfl, SqL.of hp, atI_nat hu, by show 2 ≤ sizeLine; decide, fun a ha => ?_⟩
  have ne : p ≠ a := fun z => by rw [← z, hp] at ha; cases ha
  have hpa : (upd H a (.tup [v, u])) p = some (.lst ws) := by rw [upd_ne ne]; exact hp
  refine ⟨a, [v, u], rfl, SqT.of upd_same, rfl, v, [u], rfl, .ref p, h1, .int (i : Int), h2, p, ws, (i : Int), i, rfl, rfl, hpa, Evl.ixN_nat il, u, [], rfl, .ref p, h1, .int (j : Int), h3, p, ws.set i v, (j : Int), j, rfl, rfl, upd_same, Evl.ixN_nat (by rw [List.length_set]; exact jl), rfl, ?_⟩
  have ee : Ex H (upd H a (.tup [v, u])) := Evl.Ex.new ha
  refine k _ (Evl.Ex.mut (Evl.Ex.mut (e0.trans ee) hn) hn) ⟨hn, _, upd_same, ?_⟩
  rw [hide_upd, hide_upd]
  exact ((hal.mo (hide_ex ee)).set i (Mo.mo (hide_ex ee) hrv)).set j (Mo.mo (hide_ex ee) hru)
/-- t.append(a list of one's own) -/
theorem q_appT [Fx s] {t : List (List β)} {y : List β} {a : Addr} {ws0 : List V} {i j : Nat} (hO : OwnT (RL K s) H0 p H t) (e0 : Ex H0 H) (hσ : σ[i]? = some (some (.ref p))) (hσ2 : σ[j]? = some (some (.ref a))) (ha : H a = some (.lst ws0)) (hal : All s H ws0 y) (ne : a ≠ p) (hlt : t.length < 100000)
    (k : ∀ us ws, H p = some (.lst us) → Ex H0 (upd H p (.lst ws)) → OwnT (RL K s) H0 p (upd H p (.lst ws)) (t ++ [y]) → tz D σ (upd H p (.lst ws))) : tSeq (tDrop (tBM K "list" rAppend (tVar i) (tCons (tVar j) tNil))) tz D σ H := by
  obtain ⟨hn, ws, hp, h3⟩ := hO
  refine ⟨.ref p, hσ, Or.inl ⟨rfl, ws, SqL.of hp⟩, .ref a, hσ2, p, ws, .ref a, rfl, rfl, hp, Evl.sz_lt (by rw [h3.1]; exact hlt), k ws _ hp (Evl.Ex.mut e0 hn) ⟨hn, _, upd_same, ?_⟩⟩
  rw [hide_upd]
  exact h3.snoc (rl_hide ⟨a, ws0, rfl, SqL.of ha, hal⟩ hp ne)
theorem q_asgLL {xs : List (List α)} {i : Nat} (h : ∀ H1, Ex H H1 → ∀ Q : VK, (∀ p vs H2, H1 p = none → Ex H1 H2 → H2 p = some (.lst vs) → All (RL K r) (fun b => if b = p then none else H2 b) vs xs → Q (.ref p) H2) → te σ H1 Q)
    (k : ∀ p H', Ex H H' → OwnT (RL K r) H p H' xs → tz D (σ.set i (some (.ref p))) H') : tSeq (tAsg te (gName i)) tz D σ H := h H (Evl.Ex.refl _) _ fun p vs H2 hn e hp hal => k p H2 e ⟨hn, vs, hp, hal⟩
/-! calls told by a relation -/
section
variable {T : List Addr} {A : AR α} {pre : α → Prop} {rb : RR β} {post : α → β → Prop} {postF : α → List β → Prop} {tq : TA} {x : α} {i j : Nat}
theorem q_asgP (tb : Tb T H) (ha : EvA A tq σ H x) (hp : pre x) (k : ∀ y v H', post x y → Ex H H' → rb H' v y → tz D (σ.set i (some v)) H') : tSeq (tAsg (tCall (spP T A pre rb post) [] E0 tq) (gName i)) tz D σ H :=
  ha H (Evl.Ex.refl _) _ fun vs H2 e2 hv => ⟨x, tb.ex e2, by rw [List.append_nil]; exact hv, hp, fun y v H' hy e3 hr => k y v H' hy (e2.trans e3) hr⟩
theorem q_asgPF (tb : Tb T H) (ha : EvA A tq σ H x) (hp : pre x) (k : ∀ y p ws H', postF x y → H p = none → Ex H H' → H' p = some (.lst ws) → All rb H' ws y → tz D (σ.set i (some (.ref p))) H') : tSeq (tAsg (tCall (spF T A pre rb postF) [] E0 tq) (gName i)) tz D σ H :=
  ha H (Evl.Ex.refl _) _ fun vs H2 e2 hv => ⟨x, tb.ex e2, by rw [List.append_nil]; exact hv, hp, fun y p ws H' hy hn e3 h1 h2 => k y p ws H' hy (Evl.fresh_back e2 hn) (e2.trans e3) h1 h2⟩
theorem q_asg2P {γ' : Type} {rc : RR γ'} {post2 : α → β × γ' → Prop} (tb : Tb T H) (ha : EvA A tq σ H x) (hp : pre x) (k : ∀ y v w H', post2 x y → Ex H H' → rb H' v y.1 → rc H' w y.2 → tz D ((σ.set i (some v)).set j (some w)) H') :
    tSeq (tAsg (tCall (spP T A pre (RP K rb rc) post2) [] E0 tq) (gTup K 2 (gCons (gName i) (gCons (gName j) gNil)))) tz D σ H :=
  ha H (Evl.Ex.refl _) _ fun vs H2 e2 hv => ⟨x, tb.ex e2, by rw [List.append_nil]; exact hv, hp, fun y v H' hy e3 hr => pair_tgt hr fun va vb h1 h2 => k y va vb H' hy (e2.trans e3) h1 h2⟩
theorem s_retP (tb : Tb T H) (ha : EvA A tq σ H x) (hp : pre x) (k : ∀ y v H', post x y → Ex H H' → rb H' v y → D.rt v H') : tRet (tCall (spP T A pre rb post) [] E0 tq) D σ H :=
  ha H (Evl.Ex.refl _) _ fun vs H2 e2 hv => ⟨x, tb.ex e2, by rw [List.append_nil]; exact hv, hp, fun y v H' hy e3 hr => k y v H' hy (e2.trans e3) hr⟩
theorem s_retPF (tb : Tb T H) (ha : EvA A tq σ H x) (hp : pre x) (k : ∀ y p ws H', postF x y → H p = none → Ex H H' → H' p = some (.lst ws) → All rb H' ws y → D.rt (.ref p) H') : tRet (tCall (spF T A pre rb postF) [] E0 tq) D σ H :=
  ha H (Evl.Ex.refl _) _ fun vs H2 e2 hv => ⟨x, tb.ex e2, by rw [List.append_nil]; exact hv, hp, fun y p ws H' hy hn e3 h1 h2 => k y p ws H' hy (Evl.fresh_back e2 hn) (e2.trans e3) h1 h2⟩
end
theorem s_asgSp {sp : Sp} {g : TG} {A : AR α} {tq : TA} {x : α} (ha : EvA A tq σ H x) (k : ∀ vs H2, Ex H H2 → A H2 vs x → sp vs H2 (fun v H3 => g v σ H3 D.nx) E0) : tAsg (tCall sp [] E0 tq) g D σ H :=
  ha H (Evl.Ex.refl _) _ fun vs H2 e2 hv => by
    rw [List.append_nil]
    exact k vs H2 e2 hv
/-! lists put together -/
theorem f_one [Fx r] {x : α} (h : EvR r te σ H x) : EvF r (tLst (tCons te tNil)) σ H [x] := fun H1 e Q q =>
  h H1 e _ fun v H2 e2 hv => ⟨by show 1 ≤ sizeLine; decide, fun p hp => q p [v] _ (Evl.fresh_back e2 hp) (e2.trans (Evl.Ex.new hp)) upd_same (.cons (Fx.fx (Tx.of (Evl.Ex.new hp)) hv) .nil)⟩
theorem f_cat [Fx r] {xs ys : List α} (h1 : EvF r ta σ H xs) (h2 : EvF r tb σ H ys) (hz : xs.length + ys.length ≤ 100000) : EvF r (tOp rCat ta tb) σ H (xs ++ ys) := fun H1 e Q q =>
  h1 H1 e _ fun a va H2 hna e2 ha hala => h2 H2 (e.trans e2) _ fun b vb H3 hnb e3 hb halb =>
    ⟨a, b, va, vb, rfl, rfl, e3 a _ ha, hb, Evl.sz_of (by rw [hala.1, halb.1]; exact hz), fun p hp => q p _ _ (Evl.fresh_back (e2.trans e3) hp) ((e2.trans e3).trans (Evl.Ex.new hp)) upd_same ((hala.mo (e3.trans (Evl.Ex.new hp))).append (halb.mo (Evl.Ex.new hp)))⟩
/-- xs[-1] -/
theorem e_last [Mo r] {xs : List α} {x : α} (h : EvR (RL K r) ta σ H xs) (hx : xs[xs.length - 1]? = some x) : EvR r (tOp (rIxL K) ta (tUn (rU fun i => .int (-i)) (tC (.int 1)))) σ H x := fun H1 e Q k =>
  h H1 e _ fun v H2 e2 ⟨a, vs, hv, hs, hal⟩ => ⟨1, rfl, by
    obtain ⟨u, hu, hr⟩ := hal.get hx
    have hl := (List.getElem?_eq_some_iff.mp hx).1
    refine ⟨a, vs, -1, u, hv, rfl, hs, ?_, k u H2 e2 hr⟩
    unfold atI ixN
    have hvl := hal.1
    rw [if_neg (by decide), if_pos (by omega)]
    show vs[((vs.length : Int) + -1).toNat]? = some u
    have : ((vs.length : Int) + -1).toNat = xs.length - 1 := by omega
    rw [this]
    exact hu⟩
end
end BO

namespace BO
open PySem PySem.Spec PyProof.Rows L2
abbrev spivot_of : Stmt := topS 10
theorem scpivot_of : FnScope ["table", "column", "number"] ["table", "column"] (defScope spivot_of) := ⟨rfl, rfl, rfl, by decide +kernel, rfl, by decide +kernel, by decide +kernel⟩

abbrev scleared : Stmt := topS 11
theorem sccleared : FnScope ["row", "other", "column", "factor", "place", "item"] ["row", "other", "column"] (defScope scleared) := ⟨rfl, rfl, rfl, by decide +kernel, rfl, by decide +kernel, by decide +kernel⟩

abbrev ssolve : Stmt := topS 12
theorem scsolve : FnScope ["rows", "right", "table", "number", "row", "column", "head", "item", "other"] ["rows", "right"] (defScope ssolve) := ⟨rfl, rfl, rfl, by decide +kernel, rfl, by decide +kernel, by decide +kernel⟩

def bd : Nat → Nat
  | 0 => 8192
  | c + 1 => 2 * bd c * bd c
theorem bd_pos : ∀ c, 1 ≤ bd c
  | 0 => by decide
  | c + 1 => by
    have := bd_pos c
    show 1 ≤ 2 * bd c * bd c
    have h : 0 < 2 * bd c * bd c := Nat.mul_pos (by omega) (by omega)
    omega
theorem bd_le (c : Nat) : bd c ≤ bd (c + 1) := by
  have := bd_pos c
  show bd c ≤ 2 * bd c * bd c
  have h : bd c * 1 ≤ bd c * (2 * bd c) := Nat.mul_le_mul_left _ (by omega)
  rw [Nat.mul_comm (2 * bd c)]
  omega
theorem bd_lt {c : Nat} (h : c ≤ 4) : bd c < 2 ^ 300 := by
  have : c = 0 ∨ c = 1 ∨ c = 2 ∨ c = 3 ∨ c = 4 := by omega
  rcases this with rfl | rfl | rfl | rfl | rfl <;> decide +kernel
def Piv (t : List (List Rat)) (c : Nat) : Option Nat → Prop
  | none => ∀ i, c ≤ i → i < t.length → at0 (rw' t i) c = 0
  | some i => c ≤ i ∧ i < t.length ∧ at0 (rw' t i) c ≠ 0
abbrev spPivot (TT : List Addr) (K : PySem.W.Frag) : Sp := spP TT (AC (RL K (RL K (RQ K))) (AC RN A0)) (fun x => x.2.1 ≤ x.1.length ∧ x.1.length ≤ 100 ∧ ∀ i, i < x.1.length → x.2.1 < (rw' x.1 i).length) (RO RN) fun x y => Piv x.1 x.2.1 y
def spClear (TT : List Addr) (K : PySem.W.Frag) : Sp := fun vs H Q _ => ∃ (row oth : List Rat) (c : Nat) (v1 v2 : V), vs = [v1, v2, .int (c : Int)] ∧ Tb TT H ∧ RL K (RQ K) H v1 row ∧ RL K (RQ K) H v2 oth ∧ (c < row.length ∧ row.length = oth.length ∧ row.length ≤ 100 ∧ allSz 300 row ∧ allSz 300 oth) ∧
  (∀ H', Ex H H' → clr row oth c = row → Q v1 H') ∧ ∀ p ws H', H p = none → Ex H H' → H' p = some (.lst ws) → All (RQ K) H' ws (clr row oth c) → Q (.ref p) H'
structure SolPre (rows : List (List Rat)) (right : List Rat) : Prop where
  le : rows.length ≤ 4
  len : right.length = rows.length
  wid : ∀ i, i < rows.length → (rw' rows i).length = rows.length
  ns : NS rows.length rows
  bound : ∀ i, i < rows.length → RowB 8192 (rw' rows i ++ [at0 right i])
structure SolPost (rows : List (List Rat)) (right y : List Rat) : Prop where
  len : y.length = rows.length
  sol : ∀ i, i < rows.length → dot rows.length (rw' rows i) (at0 y) = at0 right i
  sz : allSz 300 y
abbrev spSolve (TT : List Addr) (K : PySem.W.Frag) : Sp := spF TT (AC (RL K (RL K (RQ K))) (AC (RL K (RQ K)) A0)) (fun x => SolPre x.1 x.2.1) (RQ K) fun x y => SolPost x.1 x.2.1 y
section
variable {P : Program} {w : World} {K : PySem.W.Frag} {mg : Str → Option Value} {base : Heap} {TT : List Addr} {zZ zO : Addr}
theorem ok_pivot_of {f : Addr} {fd : FuncData} (F : Fun K "pivot_of" "pivot_of" spivot_of f fd) (T : Top K mg zZ zO) : FnOk P w K mg base CX0 1 f fd ["table", "column"] (spPivot TT K) := by
  refine F.ok scpivot_of (fun vs H Q E h => ?_) (fun cdv A outer s H vs Q E hr h => ?_)
  · obtain ⟨x, _, hA, _⟩ := h
    exact AC.len (fun _ h => AC.len (fun _ h => A0.len h) h) hA
  · obtain ⟨⟨t, c, _⟩, tb, hA, ⟨hc, hl, hw⟩, k⟩ := h
    obtain ⟨v1, _, rfl, r1, v2, _, rfl, r2, rfl⟩ := hA
    have hc : c ≤ t.length := hc
    have hl : t.length ≤ 100 := hl
    have hw : ∀ i, i < t.length → c < (rw' t i).length := hw
    refine ⟨_, (pss_cons (ps_for PassesOwn.never rfl (pi_range2 (by rfl) T.b_range (pa_cons (pv 1) (pa_cons (pe_callB call_len_seq (by rfl) T.b_len PySem.boot_len (pa_cons (pv 0) pa_nil)) pa_nil))) (pg_name (i := 2) scpivot_of.nd rfl (.inl rfl)) (pss_one (ps_if (pt_cmpR (op_neD hr.units) (pe_ix ix_list (pe_ix ix_list (pv 0) (pv 2) (fun _ _ => rfl)) (pv 1) (fun _ _ => rfl)) (pe_glob (v := .ref zZ) (by rfl) T.mZERO rfl) (nomark _)) (pss_one (ps_ret (pv 2))) pss_nil)))
      (pss_one (ps_ret pe_non))), ?_⟩
    refine q_forRm (m := c) (n := t.length) (e_var rfl r2) (e_lenL (e_var rfl r1)) hc (by omega) (fun i σ' H' => ∃ a, σ' = [some v1, some v2, a] ∧ Ex H H' ∧ ∀ j, c ≤ j → j < i → at0 (rw' t j) c = 0) (fun H1 e1 => ⟨none, rfl, e1, fun j h1 h2 => absurd h2 (by omega)⟩) (fun i σ' H' hci hi hP => ?_) (fun σ' H' hP => ?_)
    · obtain ⟨a, rfl, e1, hz⟩ := hP
      have ev : EvR (RQ K) (tOp (rIxL K) (tOp (rIxL K) (tVar 0) (tVar 2)) (tVar 1)) [some v1, some v2, some (.int (i : Int))] H' (at0 (rw' t i) c) := e_ixL (e_ixL (r := RL K (RQ K)) (e_var rfl (Mo.mo e1 r1)) (e_var (r := RN) rfl rfl) (rw_get hi)) (e_var (r := RN) rfl r2) (at0_get (hw i hi))
      refine Evl.s_when (t_cmp (e_neD dok_rat (by omega) ev (e_con (T.zero H')))) (fun hb H2 e2 => ?_) (fun hb H2 e2 => ?_)
      · refine s_ret (e_var (r := RN) (x := i) rfl rfl) fun v H3 e3 hv => ?_
        have hv : v = .int (i : Int) := hv
        exact k (some i) v H3 ⟨hci, hi, by simpa using hb⟩ ((e1.trans e2).trans e3) ⟨by rw [hv]; exact fun z => V.noConfusion z, hv⟩
      · refine ⟨_, rfl, e1.trans e2, fun j h1 h2 => ?_⟩
        by_cases e : j = i
        · subst e
          simpa using hb
        · exact hz j h1 (by omega)
    · obtain ⟨a, rfl, e1, hz⟩ := hP
      exact k none .non H' (fun j h1 h2 => hz j h1 h2) e1 rfl
theorem ok_cleared {f f_minus f_times : Addr} {fd : FuncData} (F : Fun K "cleared" "cleared" scleared f fd) (T : Top K mg zZ zO) (h_minus : Has P w K mg base "minus" ["a", "b"] 2 (spOp2 TT K fun a b => a - b) f_minus)
    (h_times : Has P w K mg base "times" ["a", "b"] 2 (spOp2 TT K fun a b => a * b) f_times) : FnOk P w K mg base CX0 3 f fd ["row", "other", "column"] (spClear TT K) := by
  refine F.ok sccleared (fun vs H Q E h => ?_) (fun cdv A outer s H vs Q E hr h => ?_)
  · obtain ⟨_, _, _, _, _, rfl, _⟩ := h
    rfl
  · obtain ⟨row, oth, c, v1, v2, rfl, tb, r1, r2, ⟨hc, hl, hle, z1, z2⟩, k1, k2⟩ := h
    refine ⟨_, (pss_cons (ps_set (i := 3) sccleared.nd rfl (.inr rfl) (pe_ix ix_list (pv 0) (pv 2) (fun _ _ => rfl)))
      (pss_cons (ps_if (pt_cmpR (op_eqD hr.units) (pv 3) (pe_glob (v := .ref zZ) (by rfl) T.mZERO rfl) (nomark _)) (pss_one (ps_ret (pv 0))) pss_nil)
      (pss_one (ps_ret (pe_lc (own := [("place", 4), ("item", 5)]) (g := _) rfl sccleared.nd (pi_enum (by rfl) T.b_enumerate (pa_cons (pv 0) pa_nil)) (blkOk_by (N := ["row", "other", "column", "factor", "place", "item"]) (sc := defScope scleared) (by decide +kernel)) (fun _ _ _ _ _ => (kx_tgt (K := K) (n := 2) rfl rfl (pgs_cons (pg_name (i := 4) sccleared.nd rfl (Or.inl rfl)) (pgs_cons (pg_name (i := 5) sccleared.nd rfl (Or.inl rfl)) pgs_nil)))) (fun _ _ _ _ _ => pts_nil) (fun _ _ _ _ _ => (pe_has h_minus (hr.mono (by decide)) (by rfl) (pa_cons (pv 5) (pa_cons (pe_has h_times (hr.mono (by decide)) (by rfl) (pa_cons (pv 3) (pa_cons (pe_ix (kx_ix_list (K := K) rfl) (pv 1) (pv 4) (fun _ _ => rfl)) pa_nil))) pa_nil))))))))), ?_⟩
    refine q_asg (e_ixL (r := RQ K) (e_var rfl r1) (e_var (r := RN) (x := c) rfl rfl) (at0_get hc)) fun vf H1 e1 hf => ?_
    have s1 := at0_sz z1 (by omega) c
    refine Evl.q_when (t_cmp (e_eqD dok_rat (by omega) (e_var (r := RQ K) (i := 3) rfl hf) (e_con (T.zero H1)))) (fun hb H2 e2 => ?_) (fun hb H2 e2 => ?_)
    · exact ⟨v1, rfl, k1 H2 (e1.trans e2) (clr_zero (by simpa using hb))⟩
    · refine s_retF (f_enum (r := RQ K) (s := RQ K) (xs := row) (fun j x => x - at0 row c * at0 oth j) (e_var rfl (Mo.mo (e1.trans e2) r1)) (by omega) (fun _ _ => rfl) (fun i x v H' hx e hv => ?_)) fun p ws H' hn e' hp hal => ?_
      · have hi := (List.getElem?_eq_some_iff.mp hx).1
        have sx := z1 x (List.mem_of_getElem? hx)
        have s2 := at0_sz z2 (by omega) i
        exact e_call (f := fun x : Rat × Rat × Unit => x.1 - x.2.1) (tb.ex ((e1.trans e2).trans e)) (a_cons (e_var (r := RQ K) rfl hv) (a_cons (e_call (f := fun x : Rat × Rat × Unit => x.1 * x.2.1) (tb.ex ((e1.trans e2).trans e)) (a_cons (e_var (r := RQ K) rfl (Mo.mo (e2.trans e) hf)) (a_cons (e_ixL (r := RQ K) (e_var rfl (Mo.mo ((e1.trans e2).trans e) r2)) (e_var (r := RN) (x := i) rfl rfl) (at0_get (by omega))) a_nil)) ⟨sz_mono s1 (by omega), sz_mono s2 (by omega)⟩) a_nil)) ⟨sz_mono sx (by omega), sz_mono (sz_mul s1 s2) (by omega)⟩
      · exact k2 p ws H' (Evl.fresh_back (e1.trans e2) hn) ((e1.trans e2).trans e') hp hal
theorem filter_true {α : Type} (xs : List α) : xs.filter (fun _ => true) = xs := List.filter_eq_self.mpr fun _ _ => rfl
theorem ok_solve {f f_pivot_of f_over f_cleared : Addr} {fd : FuncData} (F : Fun K "solve" "solve" ssolve f fd) (T : Top K mg zZ zO) (h_pivot_of : Has P w K mg base "pivot_of" ["table", "column"] 1 (spPivot TT K) f_pivot_of)
    (h_over : Has P w K mg base "over" ["a", "b"] 2 (spOver TT K) f_over) (h_cleared : Has P w K mg base "cleared" ["row", "other", "column"] 3 (spClear TT K) f_cleared) : FnOk P w K mg base CX0 4 f fd ["rows", "right"] (spSolve TT K) := by
  refine F.ok scsolve (fun vs H Q E h => ?_) (fun cdv A outer s H vs Q E hr h => ?_)
  · obtain ⟨x, _, hA, _⟩ := h
    exact AC.len (fun _ h => AC.len (fun _ h => A0.len h) h) hA
  · obtain ⟨⟨rows, right, _⟩, tb, hA, hS, k⟩ := h
    obtain ⟨v1, _, rfl, r1, v2, _, rfl, r2, rfl⟩ := hA
    have hS : SolPre rows right := hS
    obtain ⟨n, hn⟩ : ∃ n, rows.length = n := ⟨_, rfl⟩
    have hle := hS.le
    have hlen := hS.len
    have hwid := hS.wid
    have hns := hS.ns
    have hbd := hS.bound
    rw [hn] at hle hlen hwid hns hbd
    refine ⟨_, (pss_cons (ps_setLc (i := 2) (own := [("number", 3), ("row", 4)]) (g := _) rfl scsolve.nd rfl rfl (sw_true rfl rfl rfl (by decide +kernel)) (pi_enum (by rfl) T.b_enumerate (pa_cons (pv 0) pa_nil)) (blkOk_by (N := ["rows", "right", "table", "number", "row", "column", "head", "item", "other"]) (sc := defScope ssolve) (by decide +kernel)) (fun _ _ _ _ _ => (kx_tgt (K := K) (n := 2) rfl rfl (pgs_cons (pg_name (i := 3) scsolve.nd rfl (Or.inl rfl)) (pgs_cons (pg_name (i := 4) scsolve.nd rfl (Or.inl rfl)) pgs_nil)))) (fun _ _ _ _ _ => pts_nil) (fun _ _ _ _ _ => (pe_op op_cat (pe_callTy (kx_call_list_of (K := K) rfl) (by rfl) T.b_list (by decide +kernel) (pa_cons (pv 4) pa_nil)) (pe_lst (pa_cons (pe_ix (kx_ix_list (K := K) rfl) (pv 1) (pv 3) (fun _ _ => rfl)) pa_nil)))))
      (pss_cons (ps_for PassesOwn.never rfl (pi_range1 (by rfl) T.b_range (pa_cons (pe_callB call_len_seq (by rfl) T.b_len PySem.boot_len (pa_cons (pv 2) pa_nil)) pa_nil)) (pg_name (i := 5) scsolve.nd rfl (.inl rfl)) (pss_cons (ps_set (i := 3) scsolve.nd rfl (.inl rfl) (pe_has h_pivot_of (hr.mono (by decide)) (by rfl) (pa_cons (pv 2) (pa_cons (pv 5) pa_nil))))
      (pss_cons (ps_if (pt_cmpR op_isN (pv 3) pe_non (nomark _)) (pss_one (ps_ret pe_non)) pss_nil)
      (pss_cons (ps_asg (pe_tup (pa_cons (pe_ix ix_list (pv 2) (pv 3) (fun _ _ => rfl)) (pa_cons (pe_ix ix_list (pv 2) (pv 5) (fun _ _ => rfl)) pa_nil))) (pg_tup rfl (pgs_cons (pg_sub (pv 2) (pv 5) set_list) (pgs_cons (pg_sub (pv 2) (pv 3) set_list) pgs_nil))))
      (pss_cons (ps_set (i := 6) scsolve.nd rfl (.inr rfl) (pe_ix ix_list (pe_ix ix_list (pv 2) (pv 5) (fun _ _ => rfl)) (pv 5) (fun _ _ => rfl)))
      (pss_cons (ps_asg (pe_lc (own := [("item", 7)]) (g := _) rfl scsolve.nd (pi_list (pe_ix ix_list (pv 2) (pv 5) (fun _ _ => rfl))) (blkOk_by (N := ["rows", "right", "table", "number", "row", "column", "head", "item", "other"]) (sc := defScope ssolve) (by decide +kernel)) (fun _ _ _ _ _ => (pg_name (i := 7) scsolve.nd rfl (Or.inl rfl))) (fun _ _ _ _ _ => pts_nil) (fun _ _ _ _ _ => (pe_has h_over (hr.mono (by decide)) (by rfl) (pa_cons (pv 7) (pa_cons (pv 6) pa_nil))))) (pg_sub (pv 2) (pv 5) set_list))
      (pss_one (ps_for PassesOwn.never rfl (pi_range1 (by rfl) T.b_range (pa_cons (pe_callB call_len_seq (by rfl) T.b_len PySem.boot_len (pa_cons (pv 2) pa_nil)) pa_nil)) (pg_name (i := 8) scsolve.nd rfl (.inl rfl)) (pss_one (ps_if (pt_cmpR op_ne (pv 8) (pv 5) (nomark _)) (pss_one (ps_asg (pe_has h_cleared (hr.mono (by decide)) (by rfl) (pa_cons (pe_ix ix_list (pv 2) (pv 8) (fun _ _ => rfl)) (pa_cons (pe_ix ix_list (pv 2) (pv 5) (fun _ _ => rfl)) (pa_cons (pv 5) pa_nil)))) (pg_sub (pv 2) (pv 8) set_list))) pss_nil))))))))))
      (pss_one (ps_ret (pe_lc (own := [("row", 4)]) (g := _) rfl scsolve.nd (pi_list (pv 2)) (blkOk_by (N := ["rows", "right", "table", "number", "row", "column", "head", "item", "other"]) (sc := defScope ssolve) (by decide +kernel)) (fun _ _ _ _ _ => (pg_name (i := 4) scsolve.nd rfl (Or.inl rfl))) (fun _ _ _ _ _ => pts_nil) (fun _ _ _ _ _ => (pe_ix (kx_ix_list (K := K) rfl) (pv 4) (pe_un un_neg pe_int) (fun _ _ => rfl)))))))), ?_⟩
    refine q_asgLL (f_enumF (r := RQ K) (s := RL K (RQ K)) (xs := rows) (fun i row => row ++ [at0 right i]) (e_var rfl r1) (by omega) (fun _ _ => rfl) (fun i x v H' hx e hv => ?_)) fun p H0 e0 O0 => ?_
    · have hi := (List.getElem?_eq_some_iff.mp hx).1
      have hxl : x.length = n := by
        have := rw_get hi
        rw [hx] at this
        rw [Option.some.inj this]
        exact hwid i (by omega)
      exact f_cat (f_listL (e_var rfl hv)) (f_one (e_ixL (r := RQ K) (e_var rfl (Mo.mo e r2)) (e_var (r := RN) (x := i) rfl rfl) (at0_get (vs := right) (by omega)))) (by rw [hxl]; show n + 1 ≤ 100000; omega)
    · obtain ⟨aug, haug⟩ : ∃ aug, rows.mapIdx (fun i row => row ++ [at0 right i]) = aug := ⟨_, rfl⟩
      rw [haug] at O0
      have hA : Aug n rows aug right := by
        refine ⟨by rw [← haug, List.length_mapIdx]; exact hn, fun i hi => ?_, hwid⟩
        rw [← haug]
        unfold rw'
        rw [List.getD_eq_getElem?_getD, List.getElem?_mapIdx, List.getD_eq_getElem?_getD, List.getElem?_eq_getElem (by omega)]
        rfl
      refine q_forRn (n := n) (by have := e_lenL (K := K) (ta := tVar 2) (σ := [some v1, some v2, some (.ref p), none, none, none, none, none, none]) (r := RL K (RQ K)) (xs := aug) (e_var rfl O0.rl); rw [hA.len] at this; exact this) (by omega)
        (fun c σ' H' => ∃ a3 a4 a5 a6 a7 a8 t, σ' = [some v1, some v2, some (.ref p), a3, a4, a5, a6, a7, a8] ∧ Ex H H' ∧ OwnT (RL K (RQ K)) H p H' t ∧ Tab n aug t ∧ Unit' n c t ∧ ∀ i, i < n → RowB (bd c) (rw' t i))
        (fun H1 e1 => ⟨none, none, none, none, none, none, aug, rfl, e0.trans e1, O0.ex e1, hA.tab, .start, fun i hi => by rw [hA.row i hi]; exact hbd i hi⟩) (fun c σ' H' hc hP => ?_) (fun σ' H' hP => ?_)
      · obtain ⟨a3, a4, a5, a6, a7, a8, t, rfl, e1, O1, hT, hU, hB⟩ := hP
        refine q_asgP (tb.ex e1) (a_cons (e_var (r := RL K (RL K (RQ K))) rfl O1.rl) (a_cons (e_var (r := RN) (x := c) rfl rfl) a_nil)) ⟨by show c ≤ t.length; rw [hT.len]; omega, by show t.length ≤ 100; rw [hT.len]; omega, fun i hi => by
          show c < (rw' t i).length
          rw [hT.wid i (by rw [← hT.len]; exact hi)]
          omega⟩ fun o vo H2 ho e2 hvo => ?_
        have ho : Piv t c o := ho
        cases o with
        | none => exact (no_pivot hA hns hT hU hc fun i h1 h2 => ho i h1 (by rw [hT.len]; exact h2)).elim
        | some m =>
          obtain ⟨hcm, hmt, hmne⟩ := ho
          rw [hT.len] at hmt
          obtain ⟨hvn, hvo⟩ := hvo
          have hvo : vo = .int (m : Int) := hvo
          subst hvo
          refine Evl.q_when (b := false) (t_cmp (e_isN (K := K) (r := RN) (o := some m) (e_var rfl ⟨hvn, rfl⟩))) (fun hb => by cases hb) (fun _ H3 e3 => ?_)
          have hct : c < t.length := by rw [hT.len]; exact hc
          have hmt' : m < t.length := by rw [hT.len]; exact hmt
          refine q_swap (i := c) (j := m) (O1.ex (e2.trans e3)) ((e1.trans e2).trans e3) rfl rfl rfl (rw_get hct) (rw_get hmt') fun H4 e4 O4 => ?_
          have T4 := hT.swap hc hmt
          have U4 := hU.swap hT.len hc hmt hcm
          have B4 : ∀ i, i < n → RowB (bd c) (rw' ((t.set c (rw' t m)).set m (rw' t c)) i) := fun i hi => by
            rw [rw_swap hT.len hc hmt]
            split
            · exact hB c hc
            · split
              · exact hB m hmt
              · exact hB i hi
          have hd : at0 (rw' ((t.set c (rw' t m)).set m (rw' t c)) c) c ≠ 0 := by
            rw [rw_swap hT.len hc hmt]
            split
            · rename_i e
              rw [e]
              rw [← e] at hmne ⊢
              exact hmne
            · rw [if_pos rfl]
              exact hmne
          revert O4 T4 U4 B4 hd
          generalize (t.set c (rw' t m)).set m (rw' t c) = t4
          intro O4 T4 U4 B4 hd
          have hc4 : c < t4.length := by rw [T4.len]; exact hc
          have hcw : c < (rw' t4 c).length := by rw [T4.wid c hc]; omega
          refine q_asg (e_ixL (r := RQ K) (e_ixL (r := RL K (RQ K)) (e_var rfl O4.rl) (e_var (r := RN) (x := c) rfl rfl) (rw_get hc4)) (e_var (r := RN) (x := c) rfl rfl) (at0_get hcw)) fun vh H5 e5 hh => ?_
          have szc := (B4 c hc).sz (bd_lt (c := c) (by omega))
          refine q_setF (s := RQ K) (i := c) (O4.ex e5) (e4.trans e5) (f_list (r := RQ K) (s := RQ K) (xs := rw' t4 c) (fun _ => true) (fun x => x / at0 (rw' t4 c) c) (e_ixL (r := RL K (RQ K)) (e_var rfl (O4.ex e5).rl) (e_var (r := RN) (x := c) rfl rfl) (rw_get hc4)) (by rw [T4.wid c hc]; omega) (fun _ => rfl) (fun i x v H' hx e hv => fun H1 e1 Q q => q H1 (Evl.Ex.refl _)) (fun i x v H' hx _ e hv => ?_)) rfl (e_var (r := RN) (x := c) rfl rfl) hc4 fun H6 e6 O6 => ?_
          · exact e_call (f := fun x : Rat × Rat × Unit => x.1 / x.2.1) (tb.ex ((e4.trans e5).trans e)) (a_cons (e_var (r := RQ K) rfl hv) (a_cons (e_var (r := RQ K) rfl (Mo.mo e hh)) a_nil)) ⟨⟨sz_mono (szc x (List.mem_of_getElem? hx)) (by omega), sz_mono (szc _ (at0_mem hcw)) (by omega)⟩, hd⟩
          · rw [filter_true] at O6
            have T6 := T4.scale hc hd
            have U6 := U4.scale T4 hc (d := at0 (rw' t4 c) c)
            have B6 : ∀ i, i < n → RowB (bd c) (rw' (t4.set c ((rw' t4 c).map fun x => x / at0 (rw' t4 c) c)) i) := fun i hi => by
              rw [rw_set hc4]
              split
              · exact (B4 c hc).scale (at0_mem hcw) hd
              · exact B4 i hi
            have one6 : at0 (rw' (t4.set c ((rw' t4 c).map fun x => x / at0 (rw' t4 c) c)) c) c = 1 := by
              rw [rw_set hc4, if_pos rfl, at0_map hcw, Rat.div_def]
              exact Rat.mul_inv_cancel _ hd
            revert O6 T6 U6 B6 one6
            generalize t4.set c ((rw' t4 c).map fun x => x / at0 (rw' t4 c) c) = t6
            intro O6 T6 U6 B6 one6
            refine s_forRn (n := n) (by have := e_lenL (K := K) (ta := tVar 2) (σ := [some v1, some v2, some (.ref p), some (.int (m : Int)), a4, some (.int (c : Int)), some vh, a7, a8]) (r := RL K (RQ K)) (xs := t6) (e_var rfl O6.rl); rw [T6.len] at this; exact this) (by omega)
              (fun i σ' H' => ∃ b8 t, σ' = [some v1, some v2, some (.ref p), some (.int (m : Int)), a4, some (.int (c : Int)), some vh, a7, b8] ∧ Ex H H' ∧ OwnT (RL K (RQ K)) H p H' t ∧ Tab n aug t ∧ Unit' n c t ∧ at0 (rw' t c) c = 1 ∧ (∀ k, k < n → RowB (bd (c + 1)) (rw' t k)) ∧ (∀ k, i ≤ k → k < n → RowB (bd c) (rw' t k)) ∧ RowB (bd c) (rw' t c) ∧ ∀ k, k < i → k < n → k ≠ c → at0 (rw' t k) c = 0)
              (fun H1 e1 => ⟨_, t6, rfl, e6.trans e1, O6.ex e1, T6, U6, one6, fun k hk => (B6 k hk).le (bd_le c), fun k _ hk => B6 k hk, B6 c hc, fun k hk => absurd hk (Nat.not_lt_zero _)⟩) (fun i σ' H' hi hP => ?_) (fun σ' H' hP => ?_)
            · obtain ⟨b8, t7, rfl, e7, O7, T7, U7, one7, BA, BB, BC, Z7⟩ := hP
              have hi7 : i < t7.length := by rw [T7.len]; exact hi
              have hc7 : c < t7.length := by rw [T7.len]; exact hc
              refine Evl.s_when (t_cmp (e_neI (e_nn (e_var (r := RN) (x := i) rfl rfl)) (e_nn (e_var (r := RN) (x := c) rfl rfl)))) (fun hb H8 e8 => ?_) (fun hb H8 e8 => ?_)
              · have hic : i ≠ c := by
                  intro z
                  rw [z] at hb
                  simp at hb
                have O8 := O7.ex e8
                refine s_asgSp (a_cons (e_ixOwn (r := RL K (RQ K)) O8 (i := 2) (m := i) (tb := tVar 8) (σ := [some v1, some v2, some (.ref p), some (.int (m : Int)), a4, some (.int (c : Int)), some vh, a7, some (.int (i : Int))]) rfl (e_var rfl rfl) (rw_get hi7)) (a_cons (e_ixL (r := RL K (RQ K)) (K := K) (ta := tVar 2) (tb := tVar 5) (e_var rfl O8.rl) (e_var (r := RN) (x := c) rfl rfl) (rw_get hc7)) (a_cons (e_var (i := 5) (r := RN) (x := c) rfl rfl) a_nil))) fun vs H9 e9 hvs => ?_
                obtain ⟨w1, _, rfl, q1, w2, _, rfl, q2, w3, _, rfl, q3, rfl⟩ := hvs
                have q3 : w3 = .int (c : Int) := q3
                subst q3
                obtain ⟨hn9, ws9, hp9, hal9⟩ := O8.ex e9
                have e79 : Ex H H9 := (e7.trans e8).trans e9
                have cwid : c < (rw' t7 i).length := by rw [T7.wid i hi]; omega
                have fin : ∀ H10 v, Ex H9 H10 → RL K (RQ K) (hide p H10) v (clr (rw' t7 i) (rw' t7 c) c) → H10 p = some (.lst ws9) → ∃ b8 t, [some v1, some v2, some (.ref p), some (.int (m : Int)), a4, some (.int (c : Int)), some vh, a7, some (.int (i : Int))] = [some v1, some v2, some (.ref p), some (.int (m : Int)), a4, some (.int (c : Int)), some vh, a7, b8] ∧ Ex H (upd H10 p (.lst (ws9.set i v))) ∧ OwnT (RL K (RQ K)) H p (upd H10 p (.lst (ws9.set i v))) t ∧ Tab n aug t ∧ Unit' n c t ∧ at0 (rw' t c) c = 1 ∧ (∀ k, k < n → RowB (bd (c + 1)) (rw' t k)) ∧ (∀ k, i + 1 ≤ k → k < n → RowB (bd c) (rw' t k)) ∧ RowB (bd c) (rw' t c) ∧ ∀ k, k < i + 1 → k < n → k ≠ c → at0 (rw' t k) c = 0 := fun H10 v e10 hv hp10 => by
                  refine ⟨_, t7.set i (clr (rw' t7 i) (rw' t7 c) c), rfl, Evl.Ex.mut (e79.trans e10) hn9, ⟨hn9, _, upd_same, ?_⟩, T7.clear hc hi hic, U7.clear T7 hc hi, ?_, fun k hk => ?_, fun k h1 h2 => ?_, ?_, fun k h1 h2 h3 => ?_⟩
                  · rw [hide_upd]
                    exact (hal9.mo (hide_ex e10)).set i hv
                  · rw [rw_set hi7, if_neg (fun z => hic z.symm)]
                    exact one7
                  · rw [rw_set hi7]
                    split
                    · exact (BB i (Nat.le_refl _) hi).clear BC (by rw [T7.wid i hi, T7.wid c hc]) cwid (bd_pos c)
                    · exact BA k hk
                  · rw [rw_set hi7, if_neg (by omega)]
                    exact BB k (by omega) h2
                  · rw [rw_set hi7, if_neg (fun z => hic z.symm)]
                    exact BC
                  · rw [rw_set hi7]
                    split
                    · unfold clr
                      rw [at0_mapIdx cwid, one7]
                      grind
                    · exact Z7 k (by omega) h2 h3
                refine ⟨rw' t7 i, rw' t7 c, c, w1, w2, rfl, tb.ex e79, Mo.mo hide_sub q1, q2, ⟨cwid, by rw [T7.wid i hi, T7.wid c hc], by rw [T7.wid i hi]; omega, (BB i (Nat.le_refl _) hi).sz (bd_lt (by omega)), BC.sz (bd_lt (by omega))⟩, fun H10 e10 hsame => ?_, fun a wa H10 hna e10 ha hala => ?_⟩
                · refine ⟨.ref p, rfl, .int (i : Int), rfl, p, ws9, (i : Int), i, rfl, rfl, e10 p _ hp9, Evl.ixN_nat (by rw [hal9.1]; exact hi7), fin H10 w1 e10 ?_ (e10 p _ hp9)⟩
                  rw [hsame]
                  exact Mo.mo (hide_ex e10) q1
                · have ne : a ≠ p := fun z => by rw [z, hp9] at hna; cases hna
                  exact ⟨.ref p, rfl, .int (i : Int), rfl, p, ws9, (i : Int), i, rfl, rfl, e10 p _ hp9, Evl.ixN_nat (by rw [hal9.1]; exact hi7), fin H10 (.ref a) e10 (rl_hide ⟨a, wa, rfl, SqL.of ha, hala⟩ (e10 p _ hp9) ne) (e10 p _ hp9)⟩
              · have hic : i = c := by
                  have z : (i : Int) = (c : Int) := by simpa using hb
                  omega
                refine ⟨_, t7, rfl, e7.trans e8, O7.ex e8, T7, U7, one7, BA, fun k h1 h2 => BB k (by omega) h2, BC, fun k h1 h2 h3 => Z7 k (by omega) h2 h3⟩
            · obtain ⟨b8, t7, rfl, e7, O7, T7, U7, one7, BA, BB, BC, Z7⟩ := hP
              refine ⟨_, _, _, _, _, _, t7, rfl, e7, O7, T7, fun i hi j hj => ?_, BA⟩
              by_cases e : j = c
              · subst e
                by_cases e2 : i = j
                · rw [if_pos e2, e2]
                  exact one7
                · rw [if_neg e2]
                  exact Z7 i hi hi e2
              · exact U7 i hi j (by omega)
      · obtain ⟨a3, a4, a5, a6, a7, a8, t, rfl, e1, O1, hT, hU, hB⟩ := hP
        refine s_retF (f_list (r := RQ K) (s := RL K (RQ K)) (xs := t) (fun _ => true) (fun row => at0 row n) (e_var rfl O1.rl) (by rw [hT.len]; omega) (fun _ => rfl) (fun i x v H' hx e hv => fun H1 e1 Q q => q H1 (Evl.Ex.refl _)) (fun i x v H' hx _ e hv => ?_)) fun q wq H2 hnq e2 hq halq => ?_
        · have hi := (List.getElem?_eq_some_iff.mp hx).1
          have hxl : x.length = n + 1 := by
            have := rw_get hi
            rw [hx] at this
            rw [Option.some.inj this]
            exact hT.wid i (by rw [← hT.len]; exact hi)
          refine e_last (e_var rfl hv) ?_
          rw [hxl, Nat.add_sub_cancel]
          exact at0_get (by omega)
        · rw [filter_true] at halq
          have atj : ∀ j, j < n → at0 (t.map fun row => at0 row n) j = at0 (rw' t j) n := fun j hj => by
            unfold at0
            rw [List.getD_eq_getElem?_getD, List.getElem?_map, rw_get (by rw [hT.len]; exact hj)]
            rfl
          refine k _ q wq H2 ⟨by rw [List.length_map, hT.len, hn], fun i hi => ?_, fun x hx => ?_⟩ (Evl.fresh_back e1 hnq) (e1.trans e2) hq halq
          · show dot rows.length (rw' rows i) (at0 (t.map fun row => at0 row n)) = at0 right i
            rw [hn] at hi ⊢
            rw [← solved hA hT hU i hi]
            exact sm_congr fun j hj => by rw [atj j hj]
          · obtain ⟨row, hrow, rfl⟩ := List.mem_map.mp hx
            obtain ⟨i, hi, rfl⟩ := List.getElem_of_mem hrow
            have e : t[i] = rw' t i := by
              have := rw_get hi
              rw [List.getElem?_eq_getElem hi] at this
              exact Option.some.inj this
            rw [hT.len] at hi
            rw [e]
            exact ((hB i hi).sz (bd_lt (c := n) (by omega))) _ (at0_mem (by rw [hT.wid i hi]; omega))
end
end BO

/-! the mirror: the equations of a chain -/
namespace BO
def avg (es : EndL) (v : Nat → Rat) : Rat := psum es v / (wsum es : Rat)
theorem mean_avg (es : EndL) (vs : List Rat) : mean es vs = avg es (at0 vs) := rfl
theorem psum_congr {es : EndL} {f g : Nat → Rat} (h : ∀ e ∈ es, f e.1 = g e.1) : psum es f = psum es g := by
  induction es with
  | nil => rfl
  | cons e r ih =>
    show (e.2 : Rat) * f e.1 + psum r f = (e.2 : Rat) * g e.1 + psum r g
    rw [h e List.mem_cons_self, ih fun x hx => h x (List.mem_cons_of_mem _ hx)]
theorem psum_lin {es : EndL} {f g : Nat → Rat} {a b : Rat} : psum es (fun x => a * f x + b * g x) = a * psum es f + b * psum es g := by
  induction es with
  | nil => show (0 : Rat) = a * 0 + b * 0; grind
  | cons e r ih =>
    show (e.2 : Rat) * (a * f e.1 + b * g e.1) + psum r _ = a * ((e.2 : Rat) * f e.1 + psum r f) + b * ((e.2 : Rat) * g e.1 + psum r g)
    rw [ih]
    grind
theorem psum_sm {es : EndL} {f : Nat → Nat → Rat} {u : Nat → Rat} : ∀ {m : Nat}, psum es (fun g => sm m fun j => f j g * u j) = sm m fun j => psum es (f j) * u j
  | 0 => by
    show psum es (fun g => 0) = 0
    induction es with
    | nil => rfl
    | cons e r ih =>
      show (e.2 : Rat) * 0 + psum r _ = 0
      rw [ih]
      grind
  | m + 1 => by
    show psum es (fun g => sm m (fun j => f j g * u j) + f m g * u m) = sm m (fun j => psum es (f j) * u j) + psum es (f m) * u m
    have h := psum_lin (es := es) (f := fun g => sm m fun j => f j g * u j) (g := f m) (a := 1) (b := u m)
    rw [psum_sm] at h
    rw [psum_congr (g := fun x => 1 * sm m (fun j => f j x * u j) + u m * f m x) (fun e _ => by grind), h]
    grind
def ind (us : List Nat) (j g : Nat) : Rat := if us[j]? = some g then 1 else 0
def outv (us : List Nat) (ks : List Rat) (g : Nat) : Rat := if g ∈ us then 0 else at0 ks g
/-- sums of weights: whole numbers -/
theorem psum_nat {f : Nat → Rat} (hf : ∀ g, f g = 0 ∨ f g = 1) : ∀ es : EndL, ∃ k : Nat, psum es f = (k : Rat) ∧ k ≤ wsum es
  | [] => ⟨0, rfl, Nat.zero_le _⟩
  | e :: r => by
    obtain ⟨k, hk, hle⟩ := psum_nat hf r
    have hw : wsum (e :: r) = e.2 + wsum r := by unfold wsum; rw [List.map_cons, List.sum_cons]
    rcases hf e.1 with h | h
    · refine ⟨k, ?_, by omega⟩
      show (e.2 : Rat) * f e.1 + psum r f = _
      rw [h, hk]
      grind
    · refine ⟨e.2 + k, ?_, by omega⟩
      show (e.2 : Rat) * f e.1 + psum r f = _
      rw [h, hk, Rat.natCast_add]
      grind
theorem wsum_take_le (es : EndL) (i : Nat) : wsum (es.take i) ≤ wsum es := by
  have h : wsum es = wsum (es.take i) + wsum (es.drop i) := by
    unfold wsum
    rw [← List.sum_append, ← List.map_append, List.take_append_drop]
  omega
theorem divN {k t : Nat} : (k : Rat) / (t : Rat) = Rat.divInt (k : Int) (t : Int) := (Rat.divInt_eq_div _ _).symm
theorem one_sub_div {k t : Nat} (ht : 0 < t) {b : Bool} : (if b then (1 : Rat) else 0) - (k : Rat) / (t : Rat) = Rat.divInt ((if b then (t : Int) else 0) - (k : Int)) (t : Int) := by
  have htI : (t : Int) ≠ 0 := by omega
  rw [divN]
  have e1 : (if b then (1 : Rat) else 0) = Rat.divInt (if b then (t : Int) else 0) (t : Int) := by
    cases b with
    | true => exact (Rat.divInt_self' htI).symm
    | false => exact (Rat.zero_divInt _).symm
  rw [e1, Rat.divInt_sub_divInt _ _ htI htI, ← Int.sub_mul, Rat.divInt_mul_right htI]
structure EqRows (E : Nat → EndL) (us : List Nat) (ks : List Rat) (rows : List (List Rat)) (right : List Rat) : Prop where
  len : rows.length = us.length
  lenr : right.length = us.length
  wid : ∀ p, p < us.length → (rw' rows p).length = us.length
  row : ∀ p s, us[p]? = some s → ∀ j, j < us.length → at0 (rw' rows p) j = (if j = p then 1 else 0) - psum (E s) (ind us j) / (wsum (E s) : Rat)
  side : ∀ p s, us[p]? = some s → at0 right p = psum (E s) (outv us ks) / (wsum (E s) : Rat)
/-- only 0 solves it without a right side -/
def NSS (E : Nat → EndL) (us : List Nat) : Prop := ∀ U : Nat → Rat, (∀ s, s ∉ us → U s = 0) → (∀ s ∈ us, U s = avg (E s) U) → ∀ s, U s = 0
theorem ind_at {us : List Nat} (hn : us.Nodup) {p : Nat} {s : Nat} (h : us[p]? = some s) (j : Nat) : ind us j s = if j = p then 1 else 0 := by
  unfold ind
  by_cases e : j = p
  · rw [e, if_pos h, if_pos rfl]
  · rw [if_neg e, if_neg]
    intro h2
    have h1' := List.getElem?_eq_some_iff.mp h
    have h2' := List.getElem?_eq_some_iff.mp h2
    obtain ⟨l1, e1⟩ := h1'
    obtain ⟨l2, e2⟩ := h2'
    exact e ((List.getElem_inj hn).mp (e2.trans e1.symm))
theorem ind_out {us : List Nat} {s : Nat} (h : s ∉ us) (j : Nat) : ind us j s = 0 := by
  unfold ind
  rw [if_neg fun z => h (List.mem_of_getElem? z)]
/-- u, by states -/
def stU (us : List Nat) (u : Nat → Rat) (g : Nat) : Rat := sm us.length fun j => ind us j g * u j
theorem stU_at {us : List Nat} (hn : us.Nodup) {u : Nat → Rat} {p s : Nat} (h : us[p]? = some s) : stU us u s = u p := by
  unfold stU
  have hp := (List.getElem?_eq_some_iff.mp h).1
  rw [sm_single (i := p) hp fun j hj hne => by rw [ind_at hn h, if_neg hne]; grind]
  rw [ind_at hn h, if_pos rfl]
  grind
theorem stU_out {us : List Nat} {u : Nat → Rat} {s : Nat} (h : s ∉ us) : stU us u s = 0 := sm_zero fun j hj => by rw [ind_out h]; grind
theorem EqRows.dot {E : Nat → EndL} {us : List Nat} {ks right : List Rat} {rows : List (List Rat)} (h : EqRows E us ks rows right) {p s : Nat} (hp : us[p]? = some s) (u : Nat → Rat) :
    BO.dot us.length (rw' rows p) u = u p - avg (E s) (stU us u) := by
  have hlt := (List.getElem?_eq_some_iff.mp hp).1
  have e1 : BO.dot us.length (rw' rows p) u = sm us.length fun j => 1 * ((if j = p then 1 else 0) * u j) + (-(1 / (wsum (E s) : Rat))) * (psum (E s) (ind us j) * u j) := sm_congr fun j hj => by
    rw [h.row p s hp j hj, Rat.div_def, Rat.div_def]
    grind
  rw [e1, sm_lin, sm_single (i := p) hlt fun j hj hne => by rw [if_neg hne]; grind]
  rw [if_pos rfl, ← psum_sm]
  unfold avg
  show 1 * (1 * u p) + -(1 / (wsum (E s) : Rat)) * psum (E s) (stU us u) = _
  rw [Rat.div_def, Rat.div_def]
  grind
theorem mem_get {us : List Nat} {s : Nat} (h : s ∈ us) : ∃ p : Nat, us[p]? = some s := List.mem_iff_getElem?.mp h
theorem EqRows.ns {E : Nat → EndL} {us : List Nat} {ks right : List Rat} {rows : List (List Rat)} (h : EqRows E us ks rows right) (hn : us.Nodup) (hS : NSS E us) : NS us.length rows := fun u hu j hj => by
  have := hS (stU us u) (fun s hs => stU_out hs) (fun s hs => by
    obtain ⟨p, hp⟩ := mem_get hs
    have e := h.dot hp u
    rw [hu p (List.getElem?_eq_some_iff.mp hp).1] at e
    rw [stU_at hn hp]
    grind) us[j]
  rw [stU_at hn (p := j) (List.getElem?_eq_getElem hj)] at this
  exact this
/-- the solution, by states, with the known ones -/
theorem EqRows.fill {E : Nat → EndL} {us : List Nat} {ks right y : List Rat} {rows : List (List Rat)} {V : Nat → Rat} (h : EqRows E us ks rows right) (hn : us.Nodup) (hy : ∀ i, i < us.length → BO.dot us.length (rw' rows i) (at0 y) = at0 right i)
    (hV : ∀ p s, us[p]? = some s → V s = at0 y p) (hk : ∀ s, s ∉ us → V s = at0 ks s) (s : Nat) (hs : s ∈ us) : V s = avg (E s) V := by
  obtain ⟨p, hp⟩ := mem_get hs
  have e := h.dot hp (at0 y)
  rw [hy p (List.getElem?_eq_some_iff.mp hp).1, h.side p s hp] at e
  have e2 : psum (E s) V = psum (E s) (fun g => 1 * stU us (at0 y) g + 1 * outv us ks g) := psum_congr fun x _ => by
    by_cases hx : x.1 ∈ us
    · obtain ⟨q, hq⟩ := mem_get hx
      rw [stU_at hn hq, hV q x.1 hq]
      unfold outv
      rw [if_pos hx]
      grind
    · rw [stU_out hx, hk x.1 hx]
      unfold outv
      rw [if_neg hx]
      grind
  rw [hV p s hp]
  unfold avg at e ⊢
  rw [e2, psum_lin]
  rw [Rat.div_def] at e ⊢
  rw [Rat.div_def] at e
  grind
theorem EqRows.bound {E : Nat → EndL} {us : List Nat} {ks right : List Rat} {rows : List (List Rat)} {n : Nat} (h : EqRows E us ks rows right) (hE : ∀ s ∈ us, EndsOk n (E s)) (hk : ∀ s, at0 ks s = 0 ∨ at0 ks s = 1) (i : Nat) (hi : i < us.length) : RowB 8192 (rw' rows i ++ [at0 right i]) := by
  have hp : us[i]? = some us[i] := List.getElem?_eq_getElem hi
  have hEn := hE us[i] (List.getElem_mem hi)
  have hpos := wsum_pos hEn
  have hle := wsum_le hEn
  refine ⟨(wsum (E us[i]) : Int), by omega, by omega, fun q hq => ?_⟩
  rw [List.mem_append, List.mem_singleton] at hq
  rcases hq with hq | hq
  · obtain ⟨j, hj, rfl⟩ := List.getElem_of_mem hq
    have hj' : j < us.length := by rw [← h.wid i hi]; exact hj
    have e := h.row i _ hp j hj'
    have e2 := at0_get hj
    rw [List.getElem?_eq_getElem hj] at e2
    rw [Option.some.inj e2, e]
    obtain ⟨k, hk1, hk2⟩ := psum_nat (f := ind us j) (fun g => by unfold ind; split <;> simp) (E us[i])
    rw [hk1]
    have := one_sub_div (k := k) hpos (b := decide (j = i))
    simp only [decide_eq_true_eq] at this
    refine ⟨_, ?_, this⟩
    split <;> omega
  · rw [hq, h.side i _ hp]
    obtain ⟨k, hk1, hk2⟩ := psum_nat (f := outv us ks) (fun g => by unfold outv; split <;> first | exact .inl rfl | exact hk g) (E us[i])
    rw [hk1, divN]
    exact ⟨(k : Int), by omega, rfl⟩
end BO

/-! a dict from the things of a list to their places -/
namespace BO
open PySem PySem.Spec PyProof.Rows L2
section
variable {K : PySem.W.Frag} {σ : L2.St} {H H' H0 : Hp} {ta tb : TE} {tz : TS} {D : Ends} {α β : Type} {r : RR α} {s : RR β} {p q : Addr}
instance moRP [Mo r] [Mo s] : Mo (RP K r s) := ⟨fun e ⟨a, v1, v2, h1, h2, h3, h4⟩ => ⟨a, v1, v2, h1, sqT_fx (Tx.of e) h2, Mo.mo e h3, Mo.mo e h4⟩⟩
theorem e_pairM [Mo r] [Mo s] {x : α} {y : β} (h1 : EvR r ta σ H x) (h2 : EvR s tb σ H y) : EvR (RP K r s) (tTup (tCons ta (tCons tb tNil))) σ H (x, y) := fun H1 e Q q =>
  h1 H1 e _ fun v H2 e2 hv => h2 H2 (e.trans e2) _ fun w H3 e3 hw => ⟨by show 2 ≤ sizeLine; decide, fun p hp => q _ _ ((e2.trans e3).trans (Evl.Ex.new hp)) ⟨p, v, w, rfl, SqT.of upd_same, Mo.mo (e3.trans (Evl.Ex.new hp)) hv, Mo.mo (Evl.Ex.new hp) hw⟩⟩
theorem RL.imp {r' : RR α} {v : V} {xs : List α} (h : RL K r H v xs) (f : ∀ v x, r H v x → r' H v x) : RL K r' H v xs := by
  obtain ⟨a, vs, h1, h2, h3⟩ := h
  exact ⟨a, vs, h1, h2, h3.1, fun i v x e1 e2 => f v x (h3.2 i v x e1 e2)⟩
theorem hide_comm {b : Addr} {o : HO} (ne : p ≠ q) : hide q (hide p (upd H q o)) = hide q (hide p H) := by
  funext b
  unfold hide
  by_cases h : b = q
  · rw [if_pos h, if_pos h]
  · rw [if_neg h, if_neg h, upd_ne h]
/-- another list changes, none of its own -/
theorem OwnT.other {o : HO} {ys : List α} (h : OwnT (RH q r) H0 p H ys) (ne : p ≠ q) : OwnT (RH q r) H0 p (upd H q o) ys := by
  obtain ⟨h1, ws, h2, h3⟩ := h
  refine ⟨h1, ws, by rw [upd_ne ne]; exact h2, h3.1, fun i v x e1 e2 => ?_⟩
  have := h3.2 i v x e1 e2
  show r (hide q (hide p (upd H q o))) v x
  rw [hide_comm (b := p) ne]
  exact this
theorem OwnT.rl2 [Mo r] {ys : List α} (h : OwnT (RH q r) H0 p H ys) : RL K r H (.ref p) ys := (OwnT.rl h).imp fun v x hx => Mo.mo (r := r) hide_sub hx
theorem q_appT2 [Fx s] {t : List (List β)} {y : List β} {a : Addr} {ws0 wq : List V} {i j : Nat} (hO : OwnT (RH q (RL K s)) H0 p H t) (e0 : Ex H0 H) (hσ : σ[i]? = some (some (.ref p))) (hσ2 : σ[j]? = some (some (.ref a))) (ha : H a = some (.lst ws0)) (hal : All s H ws0 y) (ne : a ≠ p) (nq : a ≠ q) (hq : H q = some (.lst wq)) (npq : q ≠ p) (hlt : t.length < 100000)
    (k : ∀ us ws, H p = some (.lst us) → Ex H0 (upd H p (.lst ws)) → OwnT (RH q (RL K s)) H0 p (upd H p (.lst ws)) (t ++ [y]) → tz D σ (upd H p (.lst ws))) : tSeq (tDrop (tBM K "list" rAppend (tVar i) (tCons (tVar j) tNil))) tz D σ H := by
  obtain ⟨hn, ws, hp, h3⟩ := hO
  refine ⟨.ref p, hσ, Or.inl ⟨rfl, ws, SqL.of hp⟩, .ref a, hσ2, p, ws, .ref a, rfl, rfl, hp, Evl.sz_lt (by rw [h3.1]; exact hlt), k ws _ hp (Evl.Ex.mut e0 hn) ⟨hn, _, upd_same, ?_⟩⟩
  rw [hide_upd]
  have h1 := rl_hide (K := K) ⟨a, ws0, rfl, SqL.of ha, hal⟩ hp ne
  exact h3.snoc (rl_hide h1 (by rw [hide_ne npq]; exact hq) nq)
end
def kN (s : Nat) : Key := .inl (s : Int)
theorem kN_inj {s t : Nat} (h : kN s = kN t) : s = t := by
  have : (s : Int) = (t : Int) := Sum.inl.inj h
  omega
def RD : RR (List Nat) := fun H v us => ∃ a kvs, v = .ref a ∧ H a = some (.dK kvs) ∧ (∀ (j s : Nat), us[j]? = some s → valV kvs (kN s) = some (.int (j : Int))) ∧ ∀ s, s ∉ us → valV kvs (kN s) = none
instance : Mo RD := ⟨fun e ⟨a, kvs, h1, h2, h3, h4⟩ => ⟨a, kvs, h1, e a _ h2, h3, h4⟩⟩
section
variable {K : PySem.W.Frag} {σ : L2.St} {H : Hp} {tl td ty : TE} {us : List Nat}
theorem e_dget {j s : Nat} (h : EvR RD td σ H us) (hy : EvR RN ty σ H s) (hj : us[j]? = some s) : EvR RN (tDGet td ty) σ H j := fun H1 e Q q =>
  h H1 e _ fun v H2 e2 hv => hy H2 (e.trans e2) _ fun w H3 e3 hw => by
    obtain ⟨a, kvs, rfl, h2, h3, h4⟩ := Mo.mo (r := RD) e3 hv
    have hw : w = .int (s : Int) := hw
    refine ⟨a, .int (j : Int), rfl, ?_, q _ H3 (e2.trans e3) rfl⟩
    rw [hw, ← h3 j s hj]
    exact DGet.k (k := kN s) h2
theorem e_din {s : Nat} (hy : EvR RN ty σ H s) (h : EvR RD td σ H us) : EvR RB (tDIn ty td) σ H (decide (s ∈ us)) := fun H1 e Q q =>
  hy H1 e _ fun w H2 e2 hw => h H2 (e.trans e2) _ fun v H3 e3 hv => by
    obtain ⟨a, kvs, rfl, h2, h3, h4⟩ := hv
    have hw : w = .int (s : Int) := hw
    refine ⟨a, valV kvs (kN s), rfl, ?_, q _ H3 (e2.trans e3) ?_⟩
    · rw [hw]
      exact DGet.k (k := kN s) h2
    · show V.bl _ = V.bl _
      by_cases hs : s ∈ us
      · obtain ⟨j, hj⟩ := List.mem_iff_getElem?.mp hs
        rw [h3 j s hj, decide_eq_true hs]
        rfl
      · rw [h4 s hs, decide_eq_false hs]
        rfl
/-- {x: i for i, x in enumerate(xs)} -/
theorem e_dictEnum {j1 j2 : Nat} {vs : List Nat} (hn : us.Nodup) (h : EvR (RL K RN) tl σ H us) (hle : us.length ≤ 100000) (hw : ∀ x y, wipe (((wipe σ vs).set j1 (some x)).set j2 (some y)) vs = wipe σ vs)
    (h1 : ∀ x y, (((wipe σ vs).set j1 (some x)).set j2 (some y))[j1]? = some (some x)) (h2 : ∀ x y, (((wipe σ vs).set j1 (some x)).set j2 (some y))[j2]? = some (some y)) :
    EvR RD (tDc (iEnum K (tCons tl tNil)) (gTup K 2 (gCons (gName j1) (gCons (gName j2) gNil))) tYes (tVar j2) (tVar j1) vs) σ H us := fun H1 e Q q => (h.mono e) H1 (Evl.Ex.refl _) _ fun v H2 e2 ⟨a, ws, hv, hs, hal⟩ => by
  refine ⟨a, ws, by rw [hv], hs, fun D hD => ?_⟩
  let Pv : Nat → Hp → Prop := fun i H' => Ex H2 H' ∧ ∃ kvs, H' D = some (.dK kvs) ∧ kvs.length ≤ i ∧ (∀ (j s : Nat), (us.take i)[j]? = some s → valV kvs (kN s) = some (.int (j : Int))) ∧ ∀ s, s ∉ us.take i → valV kvs (kN s) = none
  refine ⟨fun i m H' => m = ws.length - i ∧ i ≤ ws.length ∧ Pv i H', ⟨ws.length, by simp, Nat.zero_le _, Evl.Ex.new hD, [], upd_same, Nat.le_refl _, fun j s h => by simp at h, fun s _ => rfl⟩, ?_⟩
  rintro i m H' ⟨rfl, hi, ex, kvs, hk, hkl, p1, p2⟩
  have hs' := sqL_ex ex hs
  have wk := walk_enum (K := K) (a := a) (xs := ws)
  by_cases hlt : i < ws.length
  · refine .inr ⟨wk.goes i H' hlt hs', Pv (i + 1), fun H'' p' => ⟨ws.length - (i + 1), by omega, rfl, hlt, p'⟩, fun x H'' y => ?_⟩
    obtain ⟨Tq, x', y', rfl, hT, rfl, ex', ey'⟩ := wk.yields i H' x H'' hlt hs' y
    have ex' : x' = .int (i : Int) := (Option.some.inj ex').symm
    subst ex'
    obtain ⟨s, hx, hr⟩ := hal.got ey'
    have hr : y' = .int (s : Int) := hr
    have e3 : Ex H' (upd H' Tq (.tup [.int (i : Int), y'])) := Evl.Ex.new hT
    have et : us.take (i + 1) = us.take i ++ [s] := by rw [List.take_add_one, hx]; rfl
    have nin : s ∉ us.take i := fun z => by
      have := hn.sublist (List.take_sublist (i + 1) us)
      rw [et, List.nodup_append] at this
      exact this.2.2 s z s (by simp) rfl
    have hil : i < us.length := by rw [← hal.1]; exact hlt
    refine ⟨Tq, [.int (i : Int), y'], rfl, SqT.of upd_same, rfl, _, [y'], rfl, y', [], rfl, rfl, hw _ _, yes_turn ?_⟩
    refine ⟨y', h2 _ _, .int (i : Int), h1 _ _, kvs, kN s, hr, e3 D _ hk, small5 (by omega), Evl.Ex.mut (ex.trans e3) hD, _, upd_same, Nat.le_trans (length_putK _ _ _) (by omega), fun j t ht => ?_, fun t ht => ?_⟩
    · rw [valV_put]
      rw [et] at ht
      by_cases hj : j < (us.take i).length
      · rw [List.getElem?_append_left hj] at ht
        rw [if_neg fun z => nin (by rw [← kN_inj z]; exact List.mem_of_getElem? ht)]
        exact p1 j t ht
      · have hjl := (List.getElem?_eq_some_iff.mp ht).1
        rw [List.length_append, List.length_take] at hjl
        rw [List.length_take] at hj
        have hji : j = i := by simp at hjl; omega
        rw [List.getElem?_append_right (by rw [List.length_take]; omega), List.length_take] at ht
        have : j - min i us.length = 0 := by omega
        rw [this] at ht
        have : s = t := by simpa using ht
        rw [← this, if_pos rfl, hji]
    · rw [et, List.mem_append, List.mem_singleton] at ht
      rw [valV_put, if_neg fun z => ht (.inr (kN_inj z))]
      exact p2 t fun z => ht (.inl z)
  · have hie : i = ws.length := by omega
    subst hie
    refine .inl ⟨wk.stops H' hs', q _ H' (e2.trans ex) ⟨D, kvs, rfl, hk, ?_⟩⟩
    rw [hal.1, List.take_length] at p1 p2
    exact ⟨p1, p2⟩
end
section
variable {X : Cx}
theorem sw_trueD {kx vx : Expr} {cs : List Comprehension} {sco : Scope} {ps py : Pos} {y : Str} {ln : Nat} {env : Env} (h1 : env.scope.kind = .function) (h2 : env.scope.names.lookup y = some .local) (h3 : (py.line == ps.line) = true)
    (h4 : (sco.names.any fun (n, k) => n == y && (k == .local || k == .cell)) = false) : swapsWith (.DictComp kx vx cs sco ps) (some (.Name y py)) ln env = pure true := by
  have c1 : env.kindOf y = some .local := h2
  have c2 : env.blockKind = .function := by
    unfold Env.blockKind
    rw [h1]
    rfl
  unfold swapsWith
  simp only [c2, c1, h4, Expr.pos, h3]
  rfl
/-- name = a dict comprehension on one line -/
theorem ps_setDc {i : Nat} {y : Str} {py : Pos} {kx vx tg it : Expr} {cs : List Expr} {sco : Scope} {own : List (Str × Nat)} {ps sps : Pos} {wi : TI} {g : TG} {tt : TT} {tk tv : TE} (hcalm : X.calm = true) (hnd : X.N.Nodup) (hy : X.N[i]? = some y) (hyl : X.env.scope.names.lookup y = some .local)
    (hsw : swapsWith (.DictComp kx vx [⟨tg, it, cs, 0⟩] sco ps) (some (.Name y py)) sps.line X.env = pure true) (hi : PI X tg it wi) (hok : BlkOk X.N X.env.scope sco own)
    (hg : ∀ (s : Shared) (H : Hp) (C : Addr) (cl : List (Str × Addr)) (fp : List Addr), PG (X.blk s H sco (compEnvC sco cl C X.env) fp) tg g) (ht : ∀ (s : Shared) (H : Hp) (C : Addr) (cl : List (Str × Addr)) (fp : List Addr), PTs (X.blk s H sco (compEnvC sco cl C X.env) fp) cs tt)
    (hk : ∀ (s : Shared) (H : Hp) (C : Addr) (cl : List (Str × Addr)) (fp : List Addr), PE (X.blk s H sco (compEnvC sco cl C X.env) fp) kx tk) (hv : ∀ (s : Shared) (H : Hp) (C : Addr) (cl : List (Str × Addr)) (fp : List Addr), PE (X.blk s H sco (compEnvC sco cl C X.env) fp) vx tv)
    (hf : ∀ x, foldedSetIterable it X.env x = pure x := by intro _; rfl) : PS X (.Assign [.Name y py] (.DictComp kx vx [⟨tg, it, cs, 0⟩] sco ps) sps) (tAsg (tDc wi g tt tk tv (own.map (·.2))) (gName i)) := by
  refine ⟨fun pins s σ H D I hh => ?_⟩
  rw [exec_Assign_Name_used _ _ _ _ hsw]
  refine wpAny_bind (wpAny_standAt (wpAny_bind ?_))
  show wpAny _ X.A (do let _ ← comprehension (.DictComp kx vx [⟨tg, it, cs, 0⟩] sco ps) sco X.env (firstIterPos [⟨tg, it, cs, 0⟩] ps) newDict false (eval it X.env) (some (assign (.Name y py) X.env))) _ _ s
  have h2 : tDc wi g tt tk tv (own.map (·.2)) σ H (fun x H1 => gName i x σ H1 D.nx) := hh
  refine wpAny_bind (thn (dc_core (Qf := fun _ s' => SP X pins D .next s') hcalm hnd I hi hok hg ht hk hv hf h2 fun L C s' m H' I' q hn f => ?_) fun _ s' hq => wpAny_pure (wpAny_pure hq))
  show wpAny _ _ (assign (.Name y py) X.env (.ref L)) _ _ _
  refine wpAny_assign_Name (store_ok2 (v := V.ref L) I' hnd hy (.inl hyl) rfl (fun s2 I2 ⟨a, sb, ha⟩ => ?_) (.inr hyl))
  obtain ⟨f0, f1, f2, f3, f4, f5⟩ := f
  have ne : C ≠ a := by
    rcases ha with z | z
    · rw [z]
      exact f1
    · exact fun e => f4 y a z e.symm
  exact ⟨m, hn.sameBut sb ne, fun h3 sb3 => ⟨_, H', I2.turned (t' := s2.toks) (fun b o hb e => (sb3.2 b hb).trans e) f0 f1 f3 f4 f5, q⟩⟩
end
end BO

namespace BO
open PySem PySem.Spec PyProof.Rows L2
abbrev sequations : Stmt := topS 25
theorem scequations : FnScope ["chain", "unknown", "known", "extra", "places", "place", "state", "rows", "right", "ends", "total", "row", "side", "goal", "weight", "chance"] ["chain", "unknown", "known", "extra"] (defScope sequations) := ⟨rfl, rfl, rfl, by decide +kernel, rfl, by decide +kernel, by decide +kernel⟩

abbrev sfilled : Stmt := topS 26
theorem scfilled : FnScope ["chain", "unknown", "known", "extra", "rows", "right", "found", "values", "place", "state"] ["chain", "unknown", "known", "extra"] (defScope sfilled) := ⟨rfl, rfl, rfl, by decide +kernel, rfl, by decide +kernel, by decide +kernel⟩

def chE (S : Sys) (s : Nat) : EndL := (chAt S s 0).2
structure EqPre (S : Sys) (us : List Nat) (ks ex : List Rat) : Prop where
  sys : SysOk S
  nd : us.Nodup
  lt : ∀ s ∈ us, s < S.length
  le : us.length ≤ 4
  lenk : ks.length = S.length
  lene : ex.length = S.length
  k01 : ∀ s, at0 ks s = 0 ∨ at0 ks s = 1
  e0 : ∀ s, at0 ex s = 0
theorem SysOk.chE {S : Sys} (h : SysOk S) {s : Nat} (hs : s < S.length) : EndsOk S.length (chE S s) ∧ (S.getD s [])[0]? = some (chAt S s 0) := by
  have h1 := h.chs _ (List.mem_of_getElem? (sysAt hs))
  have e : (S.getD s [])[0]? = some (chAt S s 0) := by
    unfold chAt
    rw [List.getD_eq_getElem?_getD (l := S.getD s []), List.getElem?_eq_getElem (by omega)]
    rfl
  exact ⟨h.endsAt hs (List.mem_of_getElem? e), e⟩
abbrev spEqs (TT : List Addr) (K : PySem.W.Frag) : Sp := spP TT (AC (RSys K) (AC (RL K RN) (AC (RL K (RQ K)) (AC (RL K (RQ K)) A0)))) (fun x => EqPre x.1 x.2.1 x.2.2.1 x.2.2.2.1) (RP K (RL K (RL K (RQ K))) (RL K (RQ K))) fun x y => EqRows (chE x.1) x.2.1 x.2.2.1 y.1 y.2
structure FillPost (S : Sys) (us : List Nat) (ks y : List Rat) : Prop where
  len : y.length = S.length
  out : ∀ s, s ∉ us → at0 y s = at0 ks s
  fix : ∀ s ∈ us, at0 y s = avg (chE S s) (at0 y)
  sz : allSz 300 y
abbrev spFill (TT : List Addr) (K : PySem.W.Frag) : Sp := spF TT (AC (RSys K) (AC (RL K RN) (AC (RL K (RQ K)) (AC (RL K (RQ K)) A0)))) (fun x => EqPre x.1 x.2.1 x.2.2.1 x.2.2.2.1 ∧ NSS (chE x.1) x.2.1) (RQ K) fun x y => FillPost x.1 x.2.1 x.2.2.1 y
/-- a row in the making: k of the ends seen -/
structure RowAt (es : EndL) (us : List Nat) (ks : List Rat) (i k : Nat) (row : List Rat) (side : Rat) : Prop where
  len : row.length = us.length
  row : ∀ j, j < us.length → at0 row j = (if j = i then 1 else 0) - psum (es.take k) (ind us j) / (wsum es : Rat)
  side : side = psum (es.take k) (outv us ks) / (wsum es : Rat)
section
variable {es : EndL} {us : List Nat} {ks row : List Rat} {i k n : Nat} {side : Rat}
theorem RowAt.sz (h : RowAt es us ks i k row side) (hE : EndsOk n es) {j : Nat} (hj : j < us.length) : sz 13 (at0 row j) := by
  rw [h.row j hj]
  have hp := wsum_pos hE
  have hl := wsum_le hE
  obtain ⟨c, hc, hcl⟩ := psum_nat (f := ind us j) (fun g => by unfold ind; split <;> simp) (es.take k)
  have := wsum_take_le es k
  have e := one_sub_div (k := c) hp (b := decide (j = i))
  simp only [decide_eq_true_eq] at e
  rw [hc, e]
  refine sz_divInt (by omega) ?_ (by omega)
  split <;> omega
theorem RowAt.szs (h : RowAt es us ks i k row side) (hE : EndsOk n es) (hk : ∀ s, at0 ks s = 0 ∨ at0 ks s = 1) : BO.sz 13 side := by
  rw [h.side]
  have hp := wsum_pos hE
  have hl := wsum_le hE
  obtain ⟨c, hc, hcl⟩ := psum_nat (f := outv us ks) (fun g => by unfold outv; split <;> first | exact .inl rfl | exact hk g) (es.take k)
  have := wsum_take_le es k
  rw [hc, divN]
  exact sz_divInt (by omega) (by omega) (by omega)
theorem RowAt.next_in (h : RowAt es us ks i k row side) (hn : us.Nodup) {e : Nat × Nat} (he : es[k]? = some e) {q : Nat} (hq : us[q]? = some e.1) : RowAt es us ks i (k + 1) (row.set q (at0 row q - Rat.divInt (e.2 : Int) (wsum es : Int))) side := by
  have hql := (List.getElem?_eq_some_iff.mp hq).1
  refine ⟨by rw [List.length_set]; exact h.len, fun j hj => ?_, ?_⟩
  · rw [at0_set (by rw [h.len]; exact hql), take_succ' he, psum_snoc, ind_at hn hq, ← divN]
    by_cases e1 : j = q
    · rw [if_pos e1, if_pos e1, h.row q hql, e1, Rat.div_def, Rat.div_def, Rat.div_def]
      grind
    · rw [if_neg e1, if_neg e1, h.row j hj]
      rw [Rat.mul_zero, Rat.add_zero]
  · rw [take_succ' he, psum_snoc, h.side]
    unfold outv
    rw [if_pos (List.mem_of_getElem? hq), Rat.mul_zero, Rat.add_zero]
theorem RowAt.next_out (h : RowAt es us ks i k row side) {e : Nat × Nat} (he : es[k]? = some e) (hq : e.1 ∉ us) : RowAt es us ks i (k + 1) row (side + Rat.divInt (e.2 : Int) (wsum es : Int) * at0 ks e.1) := by
  refine ⟨h.len, fun j hj => ?_, ?_⟩
  · rw [take_succ' he, psum_snoc, ind_out hq, Rat.mul_zero, Rat.add_zero]
    exact h.row j hj
  · rw [take_succ' he, psum_snoc, h.side, ← divN]
    have : outv us ks e.1 = at0 ks e.1 := by unfold outv; rw [if_neg hq]
    rw [this, Rat.div_def, Rat.div_def, Rat.div_def]
    grind
end
section
variable {P : Program} {w : World} {K : PySem.W.Frag} {mg : Str → Option Value} {base : Heap} {TT : List Addr} {zZ zO : Addr}
theorem ok_equations {f f_total_weight f_ratio f_minus f_plus f_times : Addr} {fd : FuncData} (F : Fun K "equations" "equations" sequations f fd) (T : Top K mg zZ zO) (h_total_weight : Has P w K mg base "total_weight" ["ends"] 2 (spWeight TT K) f_total_weight)
    (h_ratio : Has P w K mg base "ratio" ["n", "d"] 1 (spRatio TT K) f_ratio) (h_minus : Has P w K mg base "minus" ["a", "b"] 2 (spOp2 TT K fun a b => a - b) f_minus) (h_plus : Has P w K mg base "plus" ["a", "b"] 2 (spOp2 TT K fun a b => a + b) f_plus)
    (h_times : Has P w K mg base "times" ["a", "b"] 2 (spOp2 TT K fun a b => a * b) f_times) : FnOk P w K mg base CX0 3 f fd ["chain", "unknown", "known", "extra"] (spEqs TT K) := by
  refine F.ok scequations (fun vs H Q E h => ?_) (fun cdv A outer s H vs Q E hr h => ?_)
  · obtain ⟨x, _, hA, _⟩ := h
    exact AC.len (fun _ h => AC.len (fun _ h => AC.len (fun _ h => AC.len (fun _ h => A0.len h) h) h) h) hA
  · obtain ⟨⟨S, us, ks, ex, _⟩, tb, hA, hP, k⟩ := h
    obtain ⟨v1, _, rfl, r1, v2, _, rfl, r2, v3, _, rfl, r3, v4, _, rfl, r4, rfl⟩ := hA
    have hP : EqPre S us ks ex := hP
    have hS := hP.sys
    refine ⟨_, (pss_cons (ps_setDc (i := 4) (own := [("place", 5), ("state", 6)]) (g := _) rfl scequations.nd rfl rfl (sw_trueD rfl rfl rfl (by decide +kernel)) (pi_enum (by rfl) T.b_enumerate (pa_cons (pv 1) pa_nil)) (blkOk_by (N := ["chain", "unknown", "known", "extra", "places", "place", "state", "rows", "right", "ends", "total", "row", "side", "goal", "weight", "chance"]) (sc := defScope sequations) (by decide +kernel)) (fun _ _ _ _ _ => (kx_tgt (K := K) (n := 2) rfl rfl (pgs_cons (pg_name (i := 5) scequations.nd rfl (Or.inl rfl)) (pgs_cons (pg_name (i := 6) scequations.nd rfl (Or.inl rfl)) pgs_nil)))) (fun _ _ _ _ _ => pts_nil) (fun _ _ _ _ _ => (pv 6)) (fun _ _ _ _ _ => (pv 5)))
      (pss_cons (ps_set (i := 7) scequations.nd rfl (.inl rfl) (pe_lst pa_nil))
      (pss_cons (ps_set (i := 8) scequations.nd rfl (.inl rfl) (pe_lst pa_nil))
      (pss_cons (ps_for PassesOwn.never rfl (pi_list (pv 1)) (pg_name (i := 6) scequations.nd rfl (.inl rfl)) (pss_cons (ps_set (i := 9) scequations.nd rfl (.inl rfl) (pe_ix ix_tup (pe_ix ix_tup (pe_ix ix_tup (pv 0) (pv 6) (fun _ _ => rfl)) pe_int (fun _ _ => rfl)) pe_int (fun _ _ => rfl)))
      (pss_cons (ps_set (i := 10) scequations.nd rfl (.inl rfl) (pe_has h_total_weight (hr.mono (by decide)) (by rfl) (pa_cons (pv 9) pa_nil)))
      (pss_cons (ps_set (i := 11) scequations.nd rfl (.inl rfl) (pe_op op_rep (pe_lst (pa_cons (pe_glob (v := .ref zZ) (by rfl) T.mZERO rfl) pa_nil)) (pe_callB call_len_seq (by rfl) T.b_len PySem.boot_len (pa_cons (pv 1) pa_nil))))
      (pss_cons (ps_asg (pe_glob (v := .ref zO) (by rfl) T.mONE rfl) (pg_sub (pv 11) (pe_dget (hu_of hr) (pv 4) (pv 6) (fun _ _ => rfl)) set_list))
      (pss_cons (ps_set (i := 12) scequations.nd rfl (.inl rfl) (pe_ix ix_list (pv 3) (pv 6) (fun _ _ => rfl)))
      (pss_cons (ps_for PassesOwn.never rfl (pi_tup (pv 9)) (pg_tup rfl (pgs_cons (pg_name (i := 13) scequations.nd rfl (.inl rfl)) (pgs_cons (pg_name (i := 14) scequations.nd rfl (.inl rfl)) pgs_nil))) (pss_cons (ps_set (i := 15) scequations.nd rfl (.inl rfl) (pe_has h_ratio (hr.mono (by decide)) (by rfl) (pa_cons (pv 14) (pa_cons (pv 10) pa_nil))))
      (pss_one (ps_if (pt_cmp (pc_din (hu_of hr) (pv 13) (pv 4))) (pss_one (ps_asg (pe_has h_minus (hr.mono (by decide)) (by rfl) (pa_cons (pe_ix ix_list (pv 11) (pe_dget (hu_of hr) (pv 4) (pv 13) (fun _ _ => rfl)) (fun _ _ => rfl)) (pa_cons (pv 15) pa_nil))) (pg_sub (pv 11) (pe_dget (hu_of hr) (pv 4) (pv 13) (fun _ _ => rfl)) set_list))) (pss_one (ps_set (i := 12) scequations.nd rfl (.inl rfl) (pe_has h_plus (hr.mono (by decide)) (by rfl) (pa_cons (pv 12) (pa_cons (pe_has h_times (hr.mono (by decide)) (by rfl) (pa_cons (pv 15) (pa_cons (pe_ix ix_list (pv 2) (pv 13) (fun _ _ => rfl)) pa_nil))) pa_nil)))))))))
      (pss_cons (ps_expr (pe_bm PySem.F.plainAttrs_list PySem.F.slot_list_append PySem.F.type_list_append mt_append (pv 7) (pa_cons (pv 11) pa_nil)))
      (pss_one (ps_expr (pe_bm PySem.F.plainAttrs_list PySem.F.slot_list_append PySem.F.type_list_append mt_append (pv 8) (pa_cons (pv 12) pa_nil))))))))))))
      (pss_one (ps_ret (pe_tup (pa_cons (pv 7) (pa_cons (pv 8) pa_nil))))))))), ?_⟩
    refine q_asg (r := RD) (x := us) (e_dictEnum (us := us) hP.nd (e_var rfl r2) (by have := hP.le; omega) (fun _ _ => rfl) (fun _ _ => rfl) (fun _ _ => rfl)) fun vd H0 e0 hd => ?_
    refine q_asgF (r := RQ K) (xs := []) f_nil fun pr wr H1 hnr e1 hpr halr => ?_
    refine q_asgF (r := RQ K) (xs := []) f_nil fun ps ws H2 hns e2 hps hals => ?_
    have O1 : OwnT (RH ps (RL K (RQ K))) H0 pr H1 [] := ⟨hnr, wr, hpr, by
      have := halr.1
      exact ⟨this, fun i v x h1 h2 => by simp at h2⟩⟩
    have O2 : Own (RQ K) H0 ps H2 [] := (Own.of hns hps hals).back e1
    have nrs : pr ≠ ps := fun z => by rw [z, hns] at hpr; cases hpr
    refine q_forLv (s := RN) (Hb := H0) (u := v2) (xs := us) rfl (Mo.mo e0 r2) (fun i σ' H' => ∃ a5 a6 a9 a10 a11 a12 a13 a14 a15 rows right, σ' = [some v1, some v2, some v3, some v4, some vd, a5, a6, some (.ref pr), some (.ref ps), a9, a10, a11, a12, a13, a14, a15] ∧ Ex H0 H' ∧ OwnT (RH ps (RL K (RQ K))) H0 pr H' rows ∧ Own (RQ K) H0 ps H' right ∧
      rows.length = i ∧ right.length = i ∧ ∀ p s, p < i → us[p]? = some s → RowAt (chE S s) us ks p (chE S s).length (rw' rows p) (at0 right p))
      ⟨none, none, none, none, none, none, none, none, none, [], [], rfl, e1.trans e2, O1.ex e2, O2, rfl, rfl, fun p s hp => absurd hp (Nat.not_lt_zero _)⟩ (fun i σ' H' ⟨_, _, _, _, _, _, _, _, _, _, _, _, h, _⟩ => h) (fun i s vs σ' H' hx hP' hs => ?_) (fun σ' H' hP' => ?_)
    · obtain ⟨a5, a6, a9, a10, a11, a12, a13, a14, a15, rows, right, rfl, e3, O1, O2, hl1, hl2, hR⟩ := hP'
      have hsn := hP.lt s (List.mem_of_getElem? hx)
      have hil := (List.getElem?_eq_some_iff.mp hx).1
      obtain ⟨hE, hc0⟩ := hS.chE hsn
      have e03 := e0.trans e3
      refine q_asg (r := REnds K) (x := chE S s) (e_snd (r := RN) (e_ixT (r := RCh K) (xs := S.getD s []) (i := 0) (x := chAt S s 0) (e_ixT (r := RT K (RCh K)) (xs := S) (e_var (r := RSys K) rfl (Mo.mo e03 r1)) (e_var (r := RN) rfl hs) (sysAt hsn)) e_zero hc0)) fun ve H4 e4 he => ?_
      refine q_asg (r := RN) (x := wsum (chE S s)) (e_call (f := fun x : EndL × Unit => wsum x.1) (tb.ex (e03.trans e4)) (a_cons (e_var (r := REnds K) rfl he) a_nil) ⟨_, hE⟩) fun vt H5 e5 ht => ?_
      refine q_asgF (f_rep (r := RQ K) (x := 0) (n := us.length) (e_con (T.zero H5)) (e_lenL (r := RN) (e_var rfl (Mo.mo ((e03.trans e4).trans e5) r2))) (by have := hP.le; omega)) fun pw ww H6 hnw e6 hpw halw => ?_
      have e35 := (e3.trans e4).trans e5
      have OW : Own (RQ K) H5 pw H6 (List.replicate us.length 0) := Own.of hnw hpw halw
      refine q_setO (r := RQ K) (y := 1) (i := i) OW e6 (e_con (T.one H6)) (Evl.ev_var rfl) (e_dget (s := s) (us := us) (e_var rfl (Mo.mo (e35.trans e6) hd)) (e_var rfl hs) hx) (by rw [List.length_replicate]; exact hil) fun H7 u7 w7 e7 hp7 ex7 OW7 => ?_
      have ex7' : Ex H0 (upd H7 pw (.lst w7)) := e35.trans ex7
      refine q_asg (r := RQ K) (x := 0) (by
        have := e_ixL (K := K) (r := RQ K) (xs := ex) (i := s) (x := at0 ex s) (ta := tVar 3) (tb := tVar 6) (σ := [some v1, some v2, some v3, some v4, some vd, a5, some vs, some (.ref pr), some (.ref ps), some ve, some vt, some (.ref pw), a12, a13, a14, a15]) (H := upd H7 pw (.lst w7)) (e_var rfl (Mo.mo (e0.trans ex7') r4)) (e_var (r := RN) rfl hs) (at0_get (by rw [hP.lene]; exact hsn))
        rw [hP.e0 s] at this
        exact this) fun vz H8 e8 hz => ?_
      have ex8 : Ex H5 H8 := ex7.trans e8
      have OW8 := OW7.ex e8
      have R0 : RowAt (chE S s) us ks i 0 ((List.replicate us.length (0 : Rat)).set i 1) 0 := by
        refine ⟨by simp, fun j hj => ?_, ?_⟩
        · rw [at0_set (by simp; exact hil)]
          have : at0 (List.replicate us.length (0 : Rat)) j = 0 := by
            unfold at0
            rw [List.getD_eq_getElem?_getD, List.getElem?_replicate, if_pos hj]
            rfl
          rw [this, List.take_zero, psum, Rat.div_def, Rat.zero_mul]
          split <;> grind
        · rw [List.take_zero, psum, Rat.div_def, Rat.zero_mul]
      have he8 : REnds K H8 ve (chE S s) := Mo.mo (e5.trans ex8) he
      have hwp := wsum_pos hE
      have hwl := wsum_le hE
      refine q_forTv2 (s := RN) (s' := RN) (Hb := H5) (u := ve) (xs := chE S s) rfl (Mo.mo e5 he) (fun j σ' H' => ∃ vz a13 a14 a15 row side, σ' = [some v1, some v2, some v3, some v4, some vd, a5, some vs, some (.ref pr), some (.ref ps), some ve, some vt, some (.ref pw), some vz, a13, a14, a15] ∧ Ex H5 H' ∧ Own (RQ K) H5 pw H' row ∧ RQ K H' vz side ∧ RowAt (chE S s) us ks i j row side)
        ⟨vz, a13, a14, a15, _, 0, rfl, ex8, OW8, hz, R0⟩ (fun i σ' H' ⟨_, _, _, _, _, _, _, h, _⟩ => h) (fun j e va vb σ' H' hxe hP9 hva hvb => ?_) (fun σ' H' hP9 => ?_)
      · obtain ⟨vz, a13, a14, a15, row, side, rfl, ex9, OW9, hz9, R9⟩ := hP9
        have hem := hE.mem e (List.mem_of_getElem? hxe)
        have e05 := e0.trans (e35.trans ex9)
        refine q_asg (r := RQ K) (x := Rat.divInt (e.2 : Int) (wsum (chE S s) : Int)) (e_call (f := fun x : Int × Int × Unit => Rat.divInt x.1 x.2.1) (tb.ex e05) (a_cons (e_nn (e_var (r := RN) (i := 14) (v := vb) rfl hvb)) (a_cons (e_nn (e_var (r := RN) (i := 10) (v := vt) rfl (Mo.mo ex9 ht))) a_nil)) ⟨by show ((wsum (chE S s) : Nat) : Int) ≠ 0; omega, Bd.of (a := 13) (by show (Int.natAbs ((e.2 : Nat) : Int)) < 2 ^ 13; omega) (by omega), Bd.of (a := 13) (by show (Int.natAbs ((wsum (chE S s) : Nat) : Int)) < 2 ^ 13; omega) (by omega)⟩) fun vc H10 e10 hc10 => ?_
        have szc : sz 13 (Rat.divInt (e.2 : Int) (wsum (chE S s) : Int)) := sz_divInt (by omega) (by omega) (by omega)
        have edict : ∀ {H11 : Hp}, Ex H10 H11 → EvR RD (tVar 4) [some v1, some v2, some v3, some v4, some vd, a5, some vs, some (.ref pr), some (.ref ps), some ve, some vt, some (.ref pw), some vz, some va, some vb, some vc] H11 us := fun e11 => e_var rfl (Mo.mo ((e35.trans (ex9.trans e10)).trans e11) hd)
        have egoal : ∀ {H11 : Hp}, EvR RN (tVar 13) [some v1, some v2, some v3, some v4, some vd, a5, some vs, some (.ref pr), some (.ref ps), some ve, some vt, some (.ref pw), some vz, some va, some vb, some vc] H11 e.1 := e_var rfl hva
        refine Evl.s_if (t_val (e_din egoal (edict (Evl.Ex.refl _)))) (fun hb H11 e11 => ?_) (fun hb H11 e11 => ?_)
        · have hin : e.1 ∈ us := of_decide_eq_true hb
          obtain ⟨q, hq⟩ := mem_get hin
          have hql := (List.getElem?_eq_some_iff.mp hq).1
          have OW11 := OW9.ex (e10.trans e11)
          refine s_setO (r := RQ K) (y := at0 row q - Rat.divInt (e.2 : Int) (wsum (chE S s) : Int)) (i := q) OW11 ((ex9.trans e10).trans e11) (e_call (f := fun x : Rat × Rat × Unit => x.1 - x.2.1) (tb.ex ((e05.trans e10).trans e11)) (a_cons (e_ixL (r := RQ K) (e_var rfl OW11.rl) (e_dget (edict e11) egoal hq) (at0_get (by rw [R9.len]; exact hql))) (a_cons (e_var (r := RQ K) rfl (Mo.mo e11 hc10)) a_nil)) ⟨sz_mono (R9.sz hE hql) (by omega), sz_mono szc (by omega)⟩) (Evl.ev_var rfl) (e_dget (edict e11) egoal hq) (by rw [R9.len]; exact hql) fun H12 u12 w12 e12 hp12 ex12 OW12 => ?_
          exact ⟨vz, _, _, _, _, side, rfl, ex12, OW12, Fx.fx (Tx.set (Tx.of (((e10.trans e11).trans e12))) hp12 trivial) hz9, R9.next_in hP.nd hxe hq⟩
        · have hnin : e.1 ∉ us := of_decide_eq_false hb
          have k1 := hP.k01 e.1
          have szk : sz 1 (at0 ks e.1) := by rcases k1 with z | z <;> rw [z]; exact sz_zero; exact sz_one
          refine s_asg (r := RQ K) (x := side + Rat.divInt (e.2 : Int) (wsum (chE S s) : Int) * at0 ks e.1) (e_call (f := fun x : Rat × Rat × Unit => x.1 + x.2.1) (tb.ex ((e05.trans e10).trans e11)) (a_cons (e_var (r := RQ K) rfl (Mo.mo (e10.trans e11) hz9)) (a_cons (e_call (f := fun x : Rat × Rat × Unit => x.1 * x.2.1) (tb.ex ((e05.trans e10).trans e11)) (a_cons (e_var (r := RQ K) rfl (Mo.mo e11 hc10)) (a_cons (e_ixL (r := RQ K) (xs := ks) (e_var rfl (Mo.mo ((e05.trans e10).trans e11) r3)) egoal (at0_get (by rw [hP.lenk]; exact hem.1))) a_nil)) ⟨sz_mono szc (by omega), sz_mono szk (by omega)⟩) a_nil)) ⟨sz_mono (R9.szs hE hP.k01) (by omega), sz_mono (sz_mul szc szk) (by omega)⟩) fun vz2 H12 e12 hz12 => ?_
          exact ⟨vz2, _, _, _, row, _, rfl, ((ex9.trans e10).trans e11).trans e12, OW9.ex ((e10.trans e11).trans e12), hz12, R9.next_out hxe hnin⟩
      · obtain ⟨vz, a13, a14, a15, row, side, rfl, ex9, OW9, hz9, R9⟩ := hP9
        have O1' := O1.ex ((e4.trans e5).trans ex9)
        have O2' := O2.ex ((e4.trans e5).trans ex9)
        obtain ⟨hnw9, w9, hpw9, halw9⟩ := OW9
        have hs5 : ∃ us5, H5 ps = some (.lst us5) := (O2.ex (e4.trans e5)).at
        have hr5 : ∃ us5, H5 pr = some (.lst us5) := by
          obtain ⟨_, w, h, _⟩ := O1.ex (e4.trans e5)
          exact ⟨w, h⟩
        have nwr : pw ≠ pr := fun z => by
          obtain ⟨u, h⟩ := hr5
          rw [← z, hnw9] at h
          cases h
        have nws : pw ≠ ps := fun z => by
          obtain ⟨u, h⟩ := hs5
          rw [← z, hnw9] at h
          cases h
        obtain ⟨wq, hq9⟩ := O2'.at
        refine q_appT2 (s := RQ K) O1' (e35.trans ex9) rfl rfl hpw9 halw9 nwr nws hq9 (fun z => nrs z.symm) (by have := hP.le; omega) fun ur wr2 hpr9 ex10 O1'' => ?_
        refine s_appO (r := RQ K) (y := side) (O2'.other (o := .lst wr2) (fun z => nrs z.symm) hpr9) ex10 (Evl.ev_var rfl) (e_var (r := RQ K) rfl (Fx.fx (Tx.set (Tx.refl _) hpr9 trivial) hz9)) (by have := hP.le; omega) fun H11 u11 w11 e11 hp11 ex11 O2'' => ?_
        refine ⟨_, _, _, _, _, _, _, _, _, rows ++ [row], right ++ [side], rfl, ex11, (O1''.ex e11).other nrs, O2'', by simp [hl1], by simp [hl2], fun p t hp ht => ?_⟩
        by_cases hpi : p < i
        · have e1 : rw' (rows ++ [row]) p = rw' rows p := by
            unfold rw'
            rw [List.getD_eq_getElem?_getD, List.getD_eq_getElem?_getD, List.getElem?_append_left (by omega)]
          rw [e1, at0_append_l (by omega)]
          exact hR p t hpi ht
        · have hpi : p = i := by omega
          subst hpi
          rw [hx] at ht
          cases ht
          have e1 : rw' (rows ++ [row]) p = row := by
            unfold rw'
            rw [List.getD_eq_getElem?_getD, List.getElem?_append_right (by omega), hl1]
            simp
          have e2 : at0 (right ++ [side]) p = side := by
            rw [← hl2]
            exact at0_append_r
          rw [e1, e2]
          exact R9
    · obtain ⟨a5, a6, a9, a10, a11, a12, a13, a14, a15, rows, right, rfl, e3, O1, O2, hl1, hl2, hR⟩ := hP'
      refine s_ret (e_pairM (K := K) (e_var (r := RL K (RL K (RQ K))) rfl O1.rl2) (e_var (r := RL K (RQ K)) rfl O2.rl)) fun v H' e' hv => ?_
      have tl : ∀ s, (chE S s).take (chE S s).length = chE S s := fun s => List.take_length
      refine k (rows, right) v H' ⟨hl1, hl2, fun p hp => ?_, fun p s hp j hj => ?_, fun p s hp => ?_⟩ ((e0.trans e3).trans e') hv
      · exact (hR p us[p] hp (List.getElem?_eq_getElem hp)).len
      · have := (hR p s (List.getElem?_eq_some_iff.mp hp).1 hp).row j hj
        rw [tl] at this
        exact this
      · have := (hR p s (List.getElem?_eq_some_iff.mp hp).1 hp).side
        rw [tl] at this
        exact this
theorem ok_filled {f f_equations f_solve : Addr} {fd : FuncData} (F : Fun K "filled" "filled" sfilled f fd) (T : Top K mg zZ zO) (h_equations : Has P w K mg base "equations" ["chain", "unknown", "known", "extra"] 3 (spEqs TT K) f_equations)
    (h_solve : Has P w K mg base "solve" ["rows", "right"] 4 (spSolve TT K) f_solve) : FnOk P w K mg base CX0 5 f fd ["chain", "unknown", "known", "extra"] (spFill TT K) := by
  refine F.ok scfilled (fun vs H Q E h => ?_) (fun cdv A outer s H vs Q E hr h => ?_)
  · obtain ⟨x, _, hA, _⟩ := h
    exact AC.len (fun _ h => AC.len (fun _ h => AC.len (fun _ h => AC.len (fun _ h => A0.len h) h) h) h) hA
  · obtain ⟨⟨S, us, ks, ex, _⟩, tb, hA, ⟨hP, hN⟩, k⟩ := h
    obtain ⟨v1, _, rfl, r1, v2, _, rfl, r2, v3, _, rfl, r3, v4, _, rfl, r4, rfl⟩ := hA
    have hP : EqPre S us ks ex := hP
    have hN : NSS (chE S) us := hN
    have hS := hP.sys
    refine ⟨_, (pss_cons (ps_asg (pe_has h_equations (hr.mono (by decide)) (by rfl) (pa_cons (pv 0) (pa_cons (pv 1) (pa_cons (pv 2) (pa_cons (pv 3) pa_nil))))) (pg_tup rfl (pgs_cons (pg_name (i := 4) scfilled.nd rfl (.inl rfl)) (pgs_cons (pg_name (i := 5) scfilled.nd rfl (.inl rfl)) pgs_nil))))
      (pss_cons (ps_set (i := 6) scfilled.nd rfl (.inl rfl) (pe_has h_solve (hr.mono (by decide)) (by rfl) (pa_cons (pv 4) (pa_cons (pv 5) pa_nil))))
      (pss_cons (ps_set (i := 7) scfilled.nd rfl (.inl rfl) (pe_callTy call_list_of (by rfl) T.b_list (by decide +kernel) (pa_cons (pv 2) pa_nil)))
      (pss_cons (ps_for PassesOwn.never rfl (pi_enum (by rfl) T.b_enumerate (pa_cons (pv 1) pa_nil)) (pg_tup rfl (pgs_cons (pg_name (i := 8) scfilled.nd rfl (.inl rfl)) (pgs_cons (pg_name (i := 9) scfilled.nd rfl (.inl rfl)) pgs_nil))) (pss_one (ps_asg (pe_ix ix_list (pv 6) (pv 8) (fun _ _ => rfl)) (pg_sub (pv 7) (pv 9) set_list))))
      (pss_one (ps_ret (pv 7))))))), ?_⟩
    refine q_asg2P (K := K) tb (a_cons (e_var (r := RSys K) rfl r1) (a_cons (e_var (r := RL K RN) rfl r2) (a_cons (e_var (r := RL K (RQ K)) rfl r3) (a_cons (e_var (r := RL K (RQ K)) rfl r4) a_nil)))) hP fun y va vb H1 hy e1 ha hb => ?_
    obtain ⟨rows, right⟩ := y
    have hy : EqRows (chE S) us ks rows right := hy
    have hbd := hy.bound (n := S.length) (fun s hs => (hS.chE (hP.lt s hs)).1) hP.k01
    refine q_asgPF (tb.ex e1) (a_cons (e_var (r := RL K (RL K (RQ K))) rfl ha) (a_cons (e_var (r := RL K (RQ K)) rfl hb) a_nil)) (show SolPre rows right from ⟨by rw [hy.len]; exact hP.le, by rw [hy.len, hy.lenr], fun i hi => by rw [hy.len] at hi ⊢; exact hy.wid i hi, by rw [hy.len]; exact hy.ns hP.nd hN, fun i hi => hbd i (by rw [← hy.len]; exact hi)⟩) fun x px wx H2 hx hnx e2 hpx halx => ?_
    have hx : SolPost rows right x := hx
    have hsol := hx.sol
    rw [hy.len] at hsol
    have hxl : x.length = us.length := by rw [hx.len, hy.len]
    refine q_asgF (f_listL (e_var (r := RL K (RQ K)) rfl (Mo.mo (e1.trans e2) r3))) fun pv wv H3 hnv e3 hpv halv => ?_
    have O3 : Own (RQ K) H2 pv H3 ks := Own.of hnv hpv halv
    have e02 := e1.trans e2
    refine (s_forEv (D := { nx := _, rt := _, bk := _, ct := _ }) (s := RN) (Hb := H2) (u := v2) (xs := us) rfl (Mo.mo e02 r2) (fun i σ' H' => ∃ a8 a9 vals, σ' = [some v1, some v2, some v3, some v4, some va, some vb, some (.ref px), some (.ref pv), a8, a9] ∧ Ex H2 H' ∧ Own (RQ K) H2 pv H' vals ∧ vals.length = S.length ∧ (∀ s, s ∉ us.take i → at0 vals s = at0 ks s) ∧ ∀ p s, p < i → us[p]? = some s → at0 vals s = at0 x p)
      ⟨none, none, ks, rfl, e3, O3, hP.lenk, fun _ _ => rfl, fun p s hp => absurd hp (Nat.not_lt_zero _)⟩ (fun i σ' H' ⟨_, _, _, _, h, _⟩ => h) (fun i σ' H' H'' ⟨a, b, vals, h1, h2, h3, h4⟩ e => ⟨a, b, vals, h1, h2.trans e, h3.ex e, h4⟩) (fun i s vs σ' H' hxs hP' hs => ?_) (fun σ' H' hP' => ?_))
    · obtain ⟨a8, a9, vals, rfl, e4, O4, hl, h1, h2⟩ := hP'
      have hil := (List.getElem?_eq_some_iff.mp hxs).1
      have hsn := hP.lt s (List.mem_of_getElem? hxs)
      have rx : RL K (RQ K) H2 (.ref px) x := ⟨px, wx, rfl, SqL.of hpx, halx⟩
      refine s_setO (r := RQ K) (y := at0 x i) (i := s) O4 e4 (e_ixL (r := RQ K) (xs := x) (e_var rfl (Mo.mo e4 rx)) (e_var (r := RN) (x := i) rfl rfl) (at0_get (by rw [hxl]; exact hil))) (Evl.ev_var rfl) (e_var (r := RN) rfl hs) (by rw [hl]; exact hsn) fun H5 u5 w5 e5 hp5 ex5 O5 => ?_
      have hnin : s ∉ us.take i := fun z => by
        have := hP.nd.sublist (List.take_sublist (i + 1) us)
        rw [take_succ' hxs, List.nodup_append] at this
        exact this.2.2 s z s (by simp) rfl
      refine ⟨_, _, vals.set s (at0 x i), rfl, ex5, O5, by rw [List.length_set]; exact hl, fun t ht => ?_, fun p t hp ht => ?_⟩
      · rw [take_succ' hxs, List.mem_append, List.mem_singleton] at ht
        rw [at0_set (by rw [hl]; exact hsn), if_neg fun z => ht (.inr z)]
        exact h1 t fun z => ht (.inl z)
      · rw [at0_set (by rw [hl]; exact hsn)]
        by_cases e : t = s
        · rw [if_pos e]
          rw [e] at ht
          obtain ⟨l1, q1⟩ := List.getElem?_eq_some_iff.mp ht
          obtain ⟨l2, q2⟩ := List.getElem?_eq_some_iff.mp hxs
          rw [(List.getElem_inj hP.nd).mp (q1.trans q2.symm)]
        · rw [if_neg e]
          refine h2 p t ?_ ht
          by_cases e2 : p = i
          · rw [e2, hxs] at ht
            exact absurd (Option.some.inj ht).symm e
          · omega
    · obtain ⟨a8, a9, vals, rfl, e4, O4, hl, h1, h2⟩ := hP'
      rw [List.take_length] at h1
      obtain ⟨hn4, w4, hp4, hal4⟩ := O4
      have hx2 : ∀ p s, us[p]? = some s → at0 vals s = at0 x p := fun p s hps => h2 p s (List.getElem?_eq_some_iff.mp hps).1 hps
      refine s_retO rfl (k vals pv w4 H' ⟨hl, h1, fun s hs => hy.fill hP.nd hsol hx2 h1 s hs, fun q hq => ?_⟩ (Evl.fresh_back e02 hn4) (e02.trans e4) hp4 hal4)
      obtain ⟨j, hj, rfl⟩ := List.getElem_of_mem hq
      have e : vals[j] = at0 vals j := by
        have := at0_get hj
        rw [List.getElem?_eq_getElem hj] at this
        exact Option.some.inj this
      rw [e]
      by_cases hjs : j ∈ us
      · obtain ⟨p, hp⟩ := mem_get hjs
        rw [hx2 p j hp]
        exact hx.sz _ (at0_mem (by rw [hxl]; exact (List.getElem?_eq_some_iff.mp hp).1))
      · rw [h1 j hjs]
        rcases hP.k01 j with z | z <;> rw [z]
        · exact sz_mono sz_zero (by omega)
        · exact sz_mono sz_one (by omega)
end
end BO

/-! the mirror: values of policies, improving -/
namespace BO
section
variable {n : Nat} {es : EndL} {U W : Nat → Rat} {M : Rat}
theorem psum_zero {f : Nat → Rat} : ∀ {es : EndL}, (∀ e ∈ es, 0 ≤ f e.1) → 0 ≤ psum es f
  | [], _ => by show (0 : Rat) ≤ 0; grind
  | e :: r, h => by
    show 0 ≤ (e.2 : Rat) * f e.1 + psum r f
    have h1 := Rat.mul_nonneg (Rat.natCast_nonneg (a := e.2)) (h e List.mem_cons_self)
    have h2 := psum_zero (f := f) (es := r) fun x hx => h x (List.mem_cons_of_mem _ hx)
    grind
theorem psum_zero_all {f : Nat → Rat} : ∀ {es : EndL}, (∀ e ∈ es, 1 ≤ e.2) → (∀ e ∈ es, 0 ≤ f e.1) → psum es f ≤ 0 → ∀ e ∈ es, f e.1 = 0
  | [], _, _, _, e, he => by cases he
  | e :: r, hw, h, hs, x, hx => by
    have hs : (e.2 : Rat) * f e.1 + psum r f ≤ 0 := hs
    have h0 := h e List.mem_cons_self
    have h1 := Rat.mul_nonneg (Rat.natCast_nonneg (a := e.2)) h0
    have h2 := psum_zero (f := f) (es := r) fun x hx => h x (List.mem_cons_of_mem _ hx)
    have hpos : (0 : Rat) < (e.2 : Rat) := Rat.natCast_pos.mpr (hw e List.mem_cons_self)
    rcases List.mem_cons.mp hx with rfl | hx
    · have hz : (x.2 : Rat) * f x.1 = 0 := by grind
      rcases Rat.mul_eq_zero.mp hz with z | z
      · rw [z] at hpos
        exact absurd hpos (by grind)
      · exact z
    · exact psum_zero_all (fun x hx => hw x (List.mem_cons_of_mem _ hx)) (fun x hx => h x (List.mem_cons_of_mem _ hx)) (by grind) x hx
theorem psum_one : ∀ es : EndL, psum es (fun _ => 1) = (wsum es : Rat)
  | [] => rfl
  | e :: r => by
    show (e.2 : Rat) * 1 + psum r _ = _
    have hw : wsum (e :: r) = e.2 + wsum r := by unfold wsum; rw [List.map_cons, List.sum_cons]
    rw [psum_one r, hw, Rat.natCast_add]
    grind
theorem wpos (hE : EndsOk n es) : (0 : Rat) < (wsum es : Rat) := Rat.natCast_pos.mpr (wsum_pos hE)
theorem avg_mul (hE : EndsOk n es) : avg es U * (wsum es : Rat) = psum es U := Rat.div_mul_cancel (by have := wpos hE; grind)
theorem le_of_mul {a b c : Rat} (hc : 0 < c) (h : a * c ≤ b * c) : a ≤ b := by
  by_cases hh : a ≤ b
  · exact hh
  · have h1 : b < a := by grind
    have := Rat.mul_lt_mul_of_pos_left h1 hc
    grind
theorem psum_diff (c : Rat) : psum es (fun x => c - U x) = c * (wsum es : Rat) - psum es U := by
  have h := psum_lin (es := es) (f := fun _ => 1) (g := U) (a := c) (b := -1)
  rw [psum_one] at h
  rw [psum_congr (g := fun x => c * 1 + -1 * U x) (fun e _ => by grind), h]
  grind
theorem avg_le (hE : EndsOk n es) (h : ∀ e ∈ es, U e.1 ≤ M) : avg es U ≤ M := by
  refine le_of_mul (wpos hE) ?_
  rw [avg_mul hE]
  have h1 := psum_zero (es := es) (f := fun x => M - U x) fun e he => by have := h e he; grind
  rw [psum_diff] at h1
  grind
theorem avg_eq (hE : EndsOk n es) (h : ∀ e ∈ es, U e.1 ≤ M) (h2 : M ≤ avg es U) (e : Nat × Nat) (he : e ∈ es) : U e.1 = M := by
  have h3 : psum es (fun x => M - U x) ≤ 0 := by
    rw [psum_diff, ← avg_mul hE]
    have h0 : 0 ≤ (avg es U - M) * (wsum es : Rat) := Rat.mul_nonneg (by grind) (by have := wpos hE; grind)
    grind
  have := psum_zero_all (fun e he => (hE.mem e he).2.1) (fun e he => by have := h e he; grind) h3 e he
  grind
theorem avg_sub : avg es (fun x => U x - W x) = avg es U - avg es W := by
  have h := psum_lin (es := es) (f := U) (g := W) (a := 1) (b := -1)
  unfold avg
  rw [psum_congr (g := fun x => 1 * U x + -1 * W x) (fun e _ => by grind), h, Rat.div_def, Rat.div_def, Rat.div_def]
  grind
theorem avg_congr (h : ∀ e ∈ es, U e.1 = W e.1) : avg es U = avg es W := by unfold avg; rw [psum_congr h]
theorem avg_mono (hE : EndsOk n es) (h : ∀ e ∈ es, U e.1 ≤ W e.1) : avg es U ≤ avg es W := by
  have h1 : avg es (fun x => U x - W x) ≤ 0 := avg_le hE fun e he => by have := h e he; grind
  rw [avg_sub] at h1
  grind
theorem avg_ge (hE : EndsOk n es) (h : ∀ e ∈ es, M ≤ U e.1) : M ≤ avg es U := by
  have h1 : avg es (fun x => (0 : Rat) - U x) ≤ -M := avg_le hE fun e he => by have := h e he; grind
  have h2 := avg_sub (es := es) (U := fun _ => 0) (W := U)
  have h3 : avg es (fun _ => (0 : Rat)) = 0 := by
    have : psum es (fun _ => (0 : Rat)) = 0 := by
      have := psum_lin (es := es) (f := fun _ => 0) (g := fun _ => 0) (a := 0) (b := 0)
      rw [psum_congr (g := fun x => (0 : Rat) * 0 + 0 * 0) (fun e _ => by grind), this]
      grind
    unfold avg
    rw [this, Rat.div_def, Rat.zero_mul]
  rw [h2, h3] at h1
  grind
end
/-- reaching a target -/
inductive RchE (n : Nat) (E : Nat → EndL) (rest ts : List Nat) : Nat → Prop
  | base {s : Nat} : s < n → s ∈ ts → RchE n E rest ts s
  | step {s : Nat} {e : Nat × Nat} : s ∈ rest → e ∈ E s → RchE n E rest ts e.1 → RchE n E rest ts s
/-- the greatest of finitely many -/
theorem has_max (U : Nat → Rat) : ∀ n, 0 < n → ∃ s, s < n ∧ ∀ t, t < n → U t ≤ U s
  | 0, h => absurd h (by omega)
  | 1, _ => ⟨0, by omega, fun t ht => by
    have : t = 0 := by omega
    rw [this]
    grind⟩
  | n + 2, _ => by
    obtain ⟨s, hs, hm⟩ := has_max U (n + 1) (by omega)
    by_cases h : U (n + 1) ≤ U s
    · refine ⟨s, by omega, fun t ht => ?_⟩
      by_cases e : t = n + 1
      · rw [e]; exact h
      · exact hm t (by omega)
    · refine ⟨n + 1, by omega, fun t ht => ?_⟩
      by_cases e : t = n + 1
      · rw [e]; grind
      · have := hm t (by omega)
        grind
section
variable {n : Nat} {E E' : Nat → EndL} {rest ts : List Nat} {U V V' : Nat → Rat}
theorem max_pr (hE : ∀ s ∈ rest, EndsOk n (E s)) (ht : ∀ s, s < n → s ∈ ts → U s ≤ 0) (h : ∀ s, s < n → 0 < U s → (∀ t, t < n → U t ≤ U s) → s ∈ rest ∧ U s ≤ avg (E s) U ∧ RchE n E rest ts s) (s : Nat) (hs : s < n) : U s ≤ 0 := by
  obtain ⟨m, hm, hmax⟩ := has_max U n (by omega)
  by_cases h0 : U m ≤ 0
  · have := hmax s hs
    grind
  · have hpos : 0 < U m := by grind
    have key : ∀ s, RchE n E rest ts s → s < n → U s ≠ U m := by
      intro s hr
      induction hr with
      | base h1 h2 => intro _ z; have := ht _ h1 h2; grind
      | step h1 h2 h3 ih =>
        rename_i s e
        intro hsn z
        have hmx : ∀ t, t < n → U t ≤ U s := fun t htn => by have := hmax t htn; grind
        obtain ⟨_, q2, _⟩ := h s hsn (by grind) hmx
        have hEs := hE s h1
        have := avg_eq hEs (M := U s) (fun e he => hmx _ (hEs.mem e he).1) q2 e h2
        exact ih (hEs.mem e h2).1 (by grind)
    obtain ⟨_, _, q⟩ := h m hm hpos hmax
    exact absurd rfl (key m q hm)
/-- the value of a policy -/
structure Sol (n : Nat) (rest ts : List Nat) (E : Nat → EndL) (V : Nat → Rat) : Prop where
  fix : ∀ s ∈ rest, V s = avg (E s) V
  one : ∀ s, s < n → s ∈ ts → V s = 1
  out : ∀ s, s < n → s ∉ rest → s ∉ ts → V s = 0
  nz : ∀ s, s < n → V s ≠ 0 → RchE n E rest ts s
structure RT' (n : Nat) (rest ts : List Nat) (E : Nat → EndL) : Prop where
  ends : ∀ s ∈ rest, EndsOk n (E s)
  lt : ∀ s ∈ rest, s < n
  nt : ∀ s ∈ rest, s ∉ ts
theorem Sol.in_rest (h : Sol n rest ts E V) {s : Nat} (hs : s < n) (h0 : V s ≠ 0) (h1 : V s ≠ 1) : s ∈ rest := by
  by_cases hr : s ∈ rest
  · exact hr
  · by_cases ht : s ∈ ts
    · exact absurd (h.one s hs ht) h1
    · exact absurd (h.out s hs hr ht) h0
theorem Sol.nonneg (h : Sol n rest ts E V) (hR : RT' n rest ts E) (s : Nat) (hs : s < n) : 0 ≤ V s := by
  have := max_pr (U := fun s => 0 - V s) hR.ends (fun s hs ht => by rw [h.one s hs ht]; grind) (fun s hs hp _ => by
    have hr : s ∈ rest := h.in_rest hs (by grind) (by grind)
    refine ⟨hr, ?_, h.nz s hs (by grind)⟩
    rw [avg_sub (U := fun _ => 0), ← h.fix s hr]
    have := avg_ge (hR.ends s hr) (M := 0) (U := fun _ => (0 : Rat)) fun _ _ => by grind
    grind) s hs
  grind
/-- least: no worse -/
theorem Sol.le_of (h : Sol n rest ts E V) (h' : Sol n rest ts E' V') (hR : RT' n rest ts E) (hR' : RT' n rest ts E') (hi : ∀ s ∈ rest, avg (E' s) V ≤ V s) (s : Nat) (hs : s < n) : V' s ≤ V s := by
  have := max_pr (U := fun s => V' s - V s) hR'.ends (fun s hs ht => by rw [h.one s hs ht, h'.one s hs ht]; grind) (fun s hs hp _ => by
    have hv := h.nonneg hR s hs
    have hr : s ∈ rest := by
      by_cases hr : s ∈ rest
      · exact hr
      · by_cases ht : s ∈ ts
        · rw [h.one s hs ht, h'.one s hs ht] at hp
          exact absurd hp (by grind)
        · rw [h.out s hs hr ht, h'.out s hs hr ht] at hp
          exact absurd hp (by grind)
    refine ⟨hr, ?_, h'.nz s hs (by grind)⟩
    rw [avg_sub, ← h'.fix s hr]
    have := hi s hr
    grind) s hs
  grind
/-- greatest: no worse, if choices change only where it is better -/
theorem Sol.ge_of (h : Sol n rest ts E V) (h' : Sol n rest ts E' V') (hR : RT' n rest ts E) (hR' : RT' n rest ts E') (hi : ∀ s ∈ rest, E' s = E s ∨ V s < avg (E' s) V) (s : Nat) (hs : s < n) : V s ≤ V' s := by
  have hi' : ∀ s ∈ rest, V s ≤ avg (E' s) V := fun s hr => by
    rcases hi s hr with z | z
    · rw [z, ← h.fix s hr]; grind
    · grind
  -- where no target is reached now, there was nothing
  have stepA : ∀ s, s < n → ¬ RchE n E' rest ts s → V s ≤ 0 := by
    classical
    let U : Nat → Rat := fun s => if RchE n E' rest ts s then 0 else V s
    have hU : ∀ s, s < n → U s ≤ 0 := max_pr (E := E) hR.ends (fun s hs ht => by
      show (if _ then (0 : Rat) else V s) ≤ 0
      rw [if_pos (.base hs ht)]
      grind) fun s hs hp hmax => by
      have hnr : ¬ RchE n E' rest ts s := fun z => by
        have hp : 0 < (if RchE n E' rest ts s then (0 : Rat) else V s) := hp
        rw [if_pos z] at hp
        exact absurd hp (by grind)
      have eU : U s = V s := if_neg hnr
      have hr : s ∈ rest := by
        by_cases hr : s ∈ rest
        · exact hr
        · by_cases ht : s ∈ ts
          · exact absurd (.base hs ht) hnr
          · rw [eU, h.out s hs hr ht] at hp
            exact absurd hp (by grind)
      have hEs' := hR'.ends s hr
      have eqE : ∀ e ∈ E' s, U e.1 = V e.1 := fun e he => if_neg fun z => hnr (.step hr he z)
      have a1 : avg (E' s) U = avg (E' s) V := avg_congr eqE
      have a2 : avg (E' s) U ≤ U s := avg_le hEs' fun e he => hmax e.1 (hEs'.mem e he).1
      have same : E' s = E s := by
        rcases hi s hr with z | z
        · exact z
        · rw [← a1] at z
          grind
      refine ⟨hr, ?_, h.nz s hs (by grind)⟩
      rw [← same, a1, eU]
      exact hi' s hr
    intro s hs hn
    have := hU s hs
    have e : U s = V s := if_neg hn
    rw [e] at this
    exact this
  have := max_pr (U := fun s => V s - V' s) hR'.ends (fun s hs ht => by rw [h.one s hs ht, h'.one s hs ht]; grind) (fun s hs hp _ => by
    have hv := h'.nonneg hR' s hs
    have hrc : RchE n E' rest ts s := Classical.byContradiction fun z => by
      have := stepA s hs z
      grind
    have hr : s ∈ rest := by
      by_cases hr : s ∈ rest
      · exact hr
      · by_cases ht : s ∈ ts
        · rw [h.one s hs ht, h'.one s hs ht] at hp
          exact absurd hp (by grind)
        · rw [h.out s hs hr ht, h'.out s hs hr ht] at hp
          exact absurd hp (by grind)
    refine ⟨hr, ?_, hrc⟩
    rw [avg_sub, ← h'.fix s hr]
    have := hi' s hr
    grind) s hs
  grind
/-- 0 alone solves the equations of the states that reach a target -/
theorem nss_of {us : List Nat} (hE : ∀ s ∈ us, EndsOk n (E s)) (hlt : ∀ s ∈ us, s < n) (hnt : ∀ s ∈ us, s ∉ ts) (hsub : ∀ s ∈ us, s ∈ rest) (hr : ∀ s ∈ us, RchE n E us ts s) : NSS E us := fun U h0 h1 s => by
  have zero : ∀ es : EndL, avg es (fun _ => (0 : Rat)) = 0 := fun es => by
    have := avg_sub (es := es) (U := fun _ => (0 : Rat)) (W := fun _ => 0)
    have e : (fun _ : Nat => (0 : Rat) - 0) = fun _ => 0 := by funext _; grind
    rw [e] at this
    grind
  by_cases hs : s ∈ us
  · have a := max_pr (U := U) hE (fun s hs ht => by rw [h0 s fun z => hnt s z ht]; grind) (fun s hs hp _ => by
      have hm : s ∈ us := Classical.byContradiction fun z => by rw [h0 s z] at hp; exact absurd hp (by grind)
      exact ⟨hm, by rw [← h1 s hm]; grind, hr s hm⟩) s (hlt s hs)
    have b := max_pr (U := fun s => 0 - U s) hE (fun s hs ht => by rw [h0 s fun z => hnt s z ht]; grind) (fun s hs hp _ => by
      have hm : s ∈ us := Classical.byContradiction fun z => by rw [h0 s z] at hp; exact absurd hp (by grind)
      exact ⟨hm, by rw [avg_sub (U := fun _ => 0), ← h1 s hm, zero]; grind, hr s hm⟩) s (hlt s hs)
    grind
  · exact h0 s hs
/-- two values of a policy are one -/
theorem Sol.uniq (h : Sol n rest ts E V) (h' : Sol n rest ts E V') (hR : RT' n rest ts E) (s : Nat) (hs : s < n) : V s = V' s := by
  have a := h.le_of h' hR hR (fun s hr => by rw [← h.fix s hr]; grind) s hs
  have b := h'.le_of h hR hR (fun s hr => by rw [← h'.fix s hr]; grind) s hs
  grind
end
end BO

namespace BO
open PySem PySem.Spec PyProof.Rows L2
abbrev spolicy_chances : Stmt := topS 27
theorem scpolicy_chances : FnScope ["system", "policy", "allowed", "targets", "chain", "rest", "can", "known", "state", "unknown"] ["system", "policy", "allowed", "targets"] (defScope spolicy_chances) := ⟨rfl, rfl, rfl, by decide +kernel, rfl, by decide +kernel, by decide +kernel⟩

def pE (S : Sys) (pi : List Nat) (s : Nat) : EndL := (chAt S s (pi.getD s 0)).2
def bas (n : Nat) (ts : List Nat) : List Rat := (List.range n).map fun s => if decide (s ∈ ts) then 1 else 0
theorem bas_at {n : Nat} {ts : List Nat} {s : Nat} : at0 (bas n ts) s = if s < n ∧ s ∈ ts then 1 else 0 := by
  unfold at0 bas
  rw [List.getD_eq_getElem?_getD, List.getElem?_map]
  by_cases h : s < n
  · rw [List.getElem?_range h]
    by_cases h2 : s ∈ ts <;> simp [h, h2]
  · rw [List.getElem?_eq_none (by simp; omega)]
    simp [h]
theorem PolOk.at {S : Sys} {pi : List Nat} (h : PolOk S pi) {s : Nat} (hs : s < S.length) : pi[s]? = some (pi.getD s 0) ∧ (S.getD s [])[pi.getD s 0]? = some (chAt S s (pi.getD s 0)) := by
  have h1 : pi[s]? = some (pi.getD s 0) := by
    rw [List.getD_eq_getElem?_getD, List.getElem?_eq_getElem (by rw [h.1]; exact hs)]
    rfl
  have h2 := h.2 s _ _ h1 (sysAt hs)
  refine ⟨h1, ?_⟩
  unfold chAt
  rw [List.getD_eq_getElem?_getD (l := S.getD s []), List.getElem?_eq_getElem h2]
  rfl
theorem restr_at {S : Sys} {pi : List Nat} (h : PolOk S pi) {s : Nat} (hs : s < S.length) : (restr S pi).getD s [] = [chAt S s (pi.getD s 0)] := by
  unfold restr
  rw [List.getD_eq_getElem?_getD, List.getElem?_mapIdx, (h.at hs).1]
  rfl
theorem restr_chE {S : Sys} {pi : List Nat} (h : PolOk S pi) {s : Nat} (hs : s < S.length) : chE (restr S pi) s = pE S pi s := by
  unfold chE chAt
  rw [restr_at h hs]
  rfl
theorem restr_len {S : Sys} {pi : List Nat} (h : PolOk S pi) : (restr S pi).length = S.length := by
  unfold restr
  rw [List.length_mapIdx]
  exact h.1
theorem PolOk.ends {S : Sys} {pi : List Nat} (h : PolOk S pi) (hS : SysOk S) {s : Nat} (hs : s < S.length) : EndsOk S.length (pE S pi s) := hS.endsAt hs (List.mem_of_getElem? (h.at hs).2)
theorem restr_ok {S : Sys} {pi : List Nat} (h : PolOk S pi) (hS : SysOk S) : SysOk (restr S pi) := by
  have hl := restr_len h
  have mem : ∀ cs ∈ restr S pi, ∃ s, s < S.length ∧ cs = [chAt S s (pi.getD s 0)] := fun cs hc => by
    obtain ⟨s, hs, rfl⟩ := List.getElem_of_mem hc
    refine ⟨s, by rw [← hl]; exact hs, ?_⟩
    rw [← restr_at h (by rw [← hl]; exact hs), List.getD_eq_getElem?_getD, List.getElem?_eq_getElem hs]
    rfl
  refine ⟨by rw [hl]; exact hS.pos, by rw [hl]; exact hS.len, fun cs hc => ?_, fun cs hc c hcc => ?_⟩
  · obtain ⟨s, hs, rfl⟩ := mem cs hc
    exact ⟨Nat.le_refl _, by simp⟩
  · obtain ⟨s, hs, rfl⟩ := mem cs hc
    rw [List.mem_singleton] at hcc
    subst hcc
    rw [hl]
    exact hS.ends _ (List.mem_of_getElem? (sysAt hs)) _ (List.mem_of_getElem? (h.at hs).2)
structure PolVal (S : Sys) (pi al ts : List Nat) (y : List Rat) : Prop where
  len : y.length = S.length
  sol : Sol S.length (restOf S.length al ts) ts (pE S pi) (at0 y)
  sz : allSz 300 y
abbrev spPolC (TT : List Addr) (K : PySem.W.Frag) : Sp := spF TT (AC (RSys K) (AC (RL K RN) (AC (RL K RN) (AC (RL K RN) A0)))) (fun x => SysOk x.1 ∧ PolOk x.1 x.2.1) (RQ K) fun x y => PolVal x.1 x.2.1 x.2.2.1 x.2.2.2.1 y
theorem rest_ok {n : Nat} {al ts : List Nat} (h : n ≤ 100) : RestOk n (restOf n al ts) := ⟨fun s hs => (restOf_mem.mp hs).1, Nat.le_trans restOf_len h⟩
theorem rest_nodup {n : Nat} {al ts : List Nat} : (restOf n al ts).Nodup := List.nodup_range.sublist List.filter_sublist
section
variable {S : Sys} {pi al ts : List Nat} {can : List Bool}
def usOf (n : Nat) (al ts : List Nat) (can : List Bool) : List Nat := (restOf n al ts).filter fun s => bAt can s
theorem us_mem {n s : Nat} : s ∈ usOf n al ts can ↔ s ∈ restOf n al ts ∧ bAt can s = true := List.mem_filter
theorem can_of (hS : SysOk S) (hP : PolOk S pi) (hB : Back (restr S pi) (restOf S.length al ts) (marksOf S.length ts) can) (hC : ∀ s ∈ restOf S.length al ts, StepC (restr S pi) can s) {s : Nat} (h : Rch (restr S pi) (restOf S.length al ts) (marksOf S.length ts) s) :
    bAt can s = true ∧ RchE S.length (chE (restr S pi)) (usOf S.length al ts can) ts s := by
  induction h with
  | base h =>
    refine ⟨hB.ge _ h, ?_⟩
    rw [marks_at, Bool.and_eq_true, decide_eq_true_eq, decide_eq_true_eq] at h
    exact .base h.1 h.2
  | step h1 h2 h3 h4 ih =>
    rename_i s c e
    have hsn := (restOf_mem.mp h1).1
    rw [restr_at hP hsn, List.mem_singleton] at h2
    subst h2
    have hc : bAt can s = true := hC s h1 (by
      rw [restr_at hP hsn]
      refine List.any_eq_true.mpr ⟨_, List.mem_singleton.mpr rfl, List.any_eq_true.mpr ⟨e, h3, ih.1⟩⟩)
    refine ⟨hc, .step (us_mem.mpr ⟨h1, hc⟩) ?_ ih.2⟩
    rw [restr_chE hP hsn]
    exact h3
theorem us_eq (hS : SysOk S) (hP : PolOk S pi) : EqPre (restr S pi) (usOf S.length al ts can) (bas S.length ts) (List.replicate S.length 0) := by
  have hl := restr_len hP
  have hle := hS.len
  refine ⟨restr_ok hP hS, rest_nodup.sublist List.filter_sublist, fun s hs => by rw [hl]; exact (restOf_mem.mp (us_mem.mp hs).1).1, ?_, by rw [hl]; simp [bas], by rw [hl]; simp, fun s => ?_, fun s => ?_⟩
  · exact Nat.le_trans (List.length_filter_le _ _) (Nat.le_trans restOf_len hle)
  · rw [bas_at]
    split <;> simp
  · unfold at0
    rw [List.getD_eq_getElem?_getD, List.getElem?_replicate]
    split <;> rfl
theorem us_nss (hS : SysOk S) (hP : PolOk S pi) (hB : Back (restr S pi) (restOf S.length al ts) (marksOf S.length ts) can) (hC : ∀ s ∈ restOf S.length al ts, StepC (restr S pi) can s) : NSS (chE (restr S pi)) (usOf S.length al ts can) :=
  nss_of (n := S.length) (ts := ts) (rest := restOf S.length al ts) (fun s hs => by
    have hsn := (restOf_mem.mp (us_mem.mp hs).1).1
    rw [restr_chE hP hsn]
    exact hP.ends hS hsn) (fun s hs => (restOf_mem.mp (us_mem.mp hs).1).1) (fun s hs => (restOf_mem.mp (us_mem.mp hs).1).2.2) (fun s hs => (us_mem.mp hs).1)
    fun s hs => (can_of hS hP hB hC (hB.sound s (us_mem.mp hs).2)).2
theorem avg_zero {es : EndL} {U : Nat → Rat} (h : ∀ e ∈ es, U e.1 = 0) : avg es U = 0 := by
  have := avg_sub (es := es) (U := U) (W := U)
  rw [avg_congr (W := U) (fun e he => by have := h e he; grind)] at this
  grind
theorem rch_mono {n : Nat} {E E' : Nat → EndL} {r r' : List Nat} (h : ∀ s ∈ r, s ∈ r') (hE : ∀ s ∈ r, E s = E' s) {s : Nat} (q : RchE n E r ts s) : RchE n E' r' ts s := by
  induction q with
  | base h1 h2 => exact .base h1 h2
  | step h1 h2 h3 ih => exact .step (h _ h1) (by rw [← hE _ h1]; exact h2) ih
theorem pol_sol (hS : SysOk S) (hP : PolOk S pi) (hB : Back (restr S pi) (restOf S.length al ts) (marksOf S.length ts) can) (hC : ∀ s ∈ restOf S.length al ts, StepC (restr S pi) can s) {y : List Rat}
    (hF : FillPost (restr S pi) (usOf S.length al ts can) (bas S.length ts) y) : PolVal S pi al ts y := by
  have hl := restr_len hP
  refine ⟨by rw [hF.len, hl], ⟨fun s hs => ?_, fun s hs ht => ?_, fun s hs hr ht => ?_, fun s hs h0 => ?_⟩, hF.sz⟩
  · have hsn := (restOf_mem.mp hs).1
    by_cases hc : bAt can s = true
    · rw [← restr_chE hP hsn]
      exact hF.fix s (us_mem.mpr ⟨hs, hc⟩)
    · rw [hF.out s fun z => hc (us_mem.mp z).2, bas_at, if_neg fun z => (restOf_mem.mp hs).2.2 z.2]
      refine (avg_zero fun e he => ?_).symm
      have hne : ¬ bAt can e.1 = true := fun z => hc (hC s hs (by
        rw [restr_at hP hsn]
        exact List.any_eq_true.mpr ⟨_, List.mem_singleton.mpr rfl, List.any_eq_true.mpr ⟨e, he, z⟩⟩))
      rw [hF.out e.1 fun z => hne (us_mem.mp z).2, bas_at, if_neg fun z => hne (hB.ge _ (by rw [marks_at]; simp [z.1, z.2]))]
  · rw [hF.out s fun z => (restOf_mem.mp (us_mem.mp z).1).2.2 ht, bas_at, if_pos ⟨hs, ht⟩]
  · rw [hF.out s fun z => hr (us_mem.mp z).1, bas_at, if_neg fun z => ht z.2]
  · by_cases hu : s ∈ usOf S.length al ts can
    · have := (can_of hS hP hB hC (hB.sound s (us_mem.mp hu).2)).2
      exact rch_mono (fun t ht => (us_mem.mp ht).1) (fun t ht => restr_chE hP (restOf_mem.mp (us_mem.mp ht).1).1) this
    · rw [hF.out s hu, bas_at] at h0
      by_cases hz : s < S.length ∧ s ∈ ts
      · exact .base hz.1 hz.2
      · rw [if_neg hz] at h0
        exact absurd rfl h0
end
theorem rt_rs {K : PySem.W.Frag} {α : Type} {r : RR α} {H : Hp} {v : V} {x : List α} (h : RT K r H v x) : RS K r H v x := by
  obtain ⟨a, vs, h1, h2, h3⟩ := h
  exact ⟨a, vs, h1, .inr h2, h3⟩
section
variable {P : Program} {w : World} {K : PySem.W.Frag} {mg : Str → Option Value} {base : Heap} {TT : List Addr} {zZ zO : Addr}
theorem ok_policy_chances {f f_restricted f_rest_of f_backward f_marks f_filled : Addr} {fd : FuncData} (F : Fun K "policy_chances" "policy_chances" spolicy_chances f fd) (T : Top K mg zZ zO)
    (h_restricted : Has P w K mg base "restricted" ["system", "policy"] 1 (spRestr TT K) f_restricted) (h_rest_of : Has P w K mg base "rest_of" ["system", "allowed", "targets"] 1 (spRest TT K) f_rest_of)
    (h_backward : Has P w K mg base "backward" ["system", "rest", "known"] 4 (spBack TT K) f_backward) (h_marks : Has P w K mg base "marks" ["system", "states"] 1 (spMarks TT K) f_marks)
    (h_filled : Has P w K mg base "filled" ["chain", "unknown", "known", "extra"] 5 (spFill TT K) f_filled) : FnOk P w K mg base CX0 6 f fd ["system", "policy", "allowed", "targets"] (spPolC TT K) := by
  refine F.ok scpolicy_chances (fun vs H Q E h => ?_) (fun cdv A outer s H vs Q E hr h => ?_)
  · obtain ⟨x, _, hA, _⟩ := h
    exact AC.len (fun _ h => AC.len (fun _ h => AC.len (fun _ h => AC.len (fun _ h => A0.len h) h) h) h) hA
  · obtain ⟨⟨S, pi, al, ts, _⟩, tb, hA, ⟨hS, hP⟩, k⟩ := h
    obtain ⟨v1, _, rfl, r1, v2, _, rfl, r2, v3, _, rfl, r3, v4, _, rfl, r4, rfl⟩ := hA
    have hS : SysOk S := hS
    have hP : PolOk S pi := hP
    have hSl := hS.len
    refine ⟨_, (pss_cons (ps_set (i := 4) scpolicy_chances.nd rfl (.inl rfl) (pe_has h_restricted (hr.mono (by decide)) (by rfl) (pa_cons (pv 0) (pa_cons (pv 1) pa_nil))))
      (pss_cons (ps_set (i := 5) scpolicy_chances.nd rfl (.inl rfl) (pe_has h_rest_of (hr.mono (by decide)) (by rfl) (pa_cons (pv 0) (pa_cons (pv 2) (pa_cons (pv 3) pa_nil)))))
      (pss_cons (ps_set (i := 6) scpolicy_chances.nd rfl (.inr rfl) (pe_has h_backward (hr.mono (by decide)) (by rfl) (pa_cons (pv 4) (pa_cons (pv 5) (pa_cons (pe_has h_marks (hr.mono (by decide)) (by rfl) (pa_cons (pv 0) (pa_cons (pv 3) pa_nil))) pa_nil)))))
      (pss_cons (ps_setLc (i := 7) (own := [("state", 8)]) (g := _) rfl scpolicy_chances.nd rfl rfl (sw_true rfl rfl rfl (by decide +kernel)) (pi_range1 (by rfl) T.b_range (pa_cons (pe_callB call_len_seq (by rfl) T.b_len PySem.boot_len (pa_cons (pv 0) pa_nil)) pa_nil)) (blkOk_by (N := ["system", "policy", "allowed", "targets", "chain", "rest", "can", "known", "state", "unknown"]) (sc := defScope spolicy_chances) (by decide +kernel)) (fun _ _ _ _ _ => (pg_name (i := 8) scpolicy_chances.nd rfl (Or.inl rfl))) (fun _ _ _ _ _ => pts_nil) (fun _ _ _ _ _ => (pe_ifExp (pt_cmpR (kx_op_in_seq (K := K) rfl) (pv 8) (pv 3) (by rfl)) (pe_glob (v := .ref zO) (by rfl) T.mONE rfl) (pe_glob (v := .ref zZ) (by rfl) T.mZERO rfl))))
      (pss_cons (ps_setLc (i := 9) (own := [("state", 8)]) (g := _) rfl scpolicy_chances.nd rfl rfl (sw_true rfl rfl rfl (by decide +kernel)) (pi_list (pv 5)) (blkOk_by (N := ["system", "policy", "allowed", "targets", "chain", "rest", "can", "known", "state", "unknown"]) (sc := defScope spolicy_chances) (by decide +kernel)) (fun _ _ _ _ _ => (pg_name (i := 8) scpolicy_chances.nd rfl (Or.inl rfl))) (fun _ _ _ _ _ => pts_one (pt_val (pe_ix (kx_ix_list (K := K) rfl) (pv 6) (pv 8) (fun _ _ => rfl)))) (fun _ _ _ _ _ => (pv 8)))
      (pss_one (ps_ret (pe_has h_filled (hr.mono (by decide)) (by rfl) (pa_cons (pv 4) (pa_cons (pv 9) (pa_cons (pv 7) (pa_cons (pe_op op_rep (pe_lst (pa_cons (pe_glob (v := .ref zZ) (by rfl) T.mZERO rfl) pa_nil)) (pe_callB call_len_seq (by rfl) T.b_len PySem.boot_len (pa_cons (pv 0) pa_nil))) pa_nil)))))))))))), ?_⟩
    refine q_asg (e_call (f := fun x : Sys × List Nat × Unit => restr x.1 x.2.1) tb (a_cons (e_var (r := RSys K) rfl r1) (a_cons (e_var (r := RL K RN) rfl r2) a_nil)) ⟨hS, hP⟩) fun vc H1 e1 hc => ?_
    refine q_asgF (e_callF (f := fun x : Sys × List Nat × List Nat × Unit => restOf x.1.length x.2.1 x.2.2.1) (tb.ex e1) (a_cons (e_var (r := RSys K) rfl (Mo.mo e1 r1)) (a_cons (e_var (r := RL K RN) rfl (Mo.mo e1 r3)) (a_cons (e_var (r := RL K RN) rfl (Mo.mo e1 r4)) a_nil))) (by show S.length ≤ 100; omega)) fun pr wr H2 hnr e2 hpr halr => ?_
    have hc : RSys K H1 vc (restr S pi) := hc
    have rR : RL K RN H2 (.ref pr) (restOf S.length al ts) := ⟨pr, wr, rfl, SqL.of hpr, halr⟩
    have e02 := e1.trans e2
    refine q_asgPF (tb.ex e02) (a_cons (e_var (r := RSys K) rfl (Mo.mo e2 hc)) (a_cons (e_var (r := RL K RN) rfl rR) (a_cons (e_callF (f := fun x : Sys × List Nat × Unit => marksOf x.1.length x.2.1) (tb.ex e02) (a_cons (e_var (r := RSeq K) rfl (rt_rs (Mo.mo e02 r1))) (a_cons (e_var (r := RL K RN) rfl (Mo.mo e02 r4)) a_nil)) (by show S.length ≤ 100; omega)).toR a_nil)))
      ⟨restr_ok hP hS, by show RestOk (restr S pi).length (restOf S.length al ts); rw [restr_len hP]; exact rest_ok (by omega), by show (marksOf S.length ts).length = (restr S pi).length; rw [restr_len hP]; simp [marksOf]⟩ fun can pc wc H3 hcan hnc e3 hpc halc => ?_
    obtain ⟨hB, hC⟩ := hcan
    have hB : Back (restr S pi) (restOf S.length al ts) (marksOf S.length ts) can := hB
    have hC : ∀ s ∈ restOf S.length al ts, StepC (restr S pi) can s := hC
    have e03 := e02.trans e3
    refine q_asgF (f_range (r := RQ K) (n := S.length) (fun _ => true) (fun s => if decide (s ∈ ts) then (1 : Rat) else 0) (e_lenT (e_var (r := RSys K) rfl (Mo.mo e03 r1))) (by omega) (fun _ => rfl) (fun i H' hi e => fun H1 e1 Q q => q H1 (Evl.Ex.refl _)) (fun i H' hi _ e => ?_)) fun pk wk H4 hnk e4 hpk halk => ?_
    · refine e_if (t_cmp (e_in (e_var rfl rfl) (e_var rfl (Mo.mo (e03.trans e) r4)))) (fun hb => ?_) fun hb => ?_
      · rw [if_pos hb]
        exact e_con (T.one H')
      · rw [hb, if_neg Bool.false_ne_true]
        exact e_con (T.zero H')
    · rw [fm_true] at halk
      have rc : RL K RB H3 (.ref pc) can := ⟨pc, wc, rfl, SqL.of hpc, halc⟩
      have rk : RL K (RQ K) H4 (.ref pk) (bas S.length ts) := ⟨pk, wk, rfl, SqL.of hpk, halk⟩
      refine q_asgF (f_list (r := RN) (s := RN) (xs := restOf S.length al ts) (fun s => bAt can s) (fun s => s) (e_var rfl (Mo.mo (e3.trans e4) rR)) (by have := restOf_len (n := S.length) (al := al) (ts := ts); omega) (fun _ => rfl) (fun i s v H' hx e hv => ?_) (fun i s v H' hx _ e hv => e_var rfl hv)) fun pu wu H5 hnu e5 hpu halu => ?_
      · have hcl := hB.len
        rw [restr_len hP] at hcl
        exact t_val (e_ixL (r := RB) (e_var rfl (Mo.mo (e4.trans e) rc)) (e_var (r := RN) rfl hv) (bAt_get (by rw [hcl]; exact (restOf_mem.mp (List.mem_of_getElem? hx)).1)))
      · rw [List.map_id'] at halu
        have ru : RL K RN H5 (.ref pu) (usOf S.length al ts can) := ⟨pu, wu, rfl, SqL.of hpu, halu⟩
        have e05 := (e03.trans e4).trans e5
        refine s_retPF (tb.ex e05) (a_cons (e_var (r := RSys K) rfl (Mo.mo (((e2.trans e3).trans e4).trans e5) hc)) (a_cons (e_var (r := RL K RN) rfl ru) (a_cons (e_var (r := RL K (RQ K)) rfl (Mo.mo e5 rk)) (a_cons (f_rep (r := RQ K) (x := 0) (n := S.length) (e_con (T.zero H5)) (e_lenT (e_var (r := RSys K) rfl (Mo.mo e05 r1))) (by omega)).toR a_nil)))) ⟨us_eq hS hP, us_nss hS hP hB hC⟩ fun y p ws H6 hy hn e6 hp hal => ?_
        exact k y p ws H6 (pol_sol hS hP hB hC hy) (Evl.fresh_back e05 hn) (e05.trans e6) hp hal
end
end BO

/-! the mirror: improving ends -/
namespace BO
def pols : Nat → List (List Nat)
  | 0 => [[]]
  | n + 1 => (pols n).flatMap fun l => [0 :: l, 1 :: l, 2 :: l]
theorem pols_mem : ∀ {pi : List Nat}, (∀ c ∈ pi, c < 3) → pi ∈ pols pi.length
  | [], _ => by simp [pols]
  | c :: r, h => by
    have h1 := pols_mem (pi := r) fun x hx => h x (List.mem_cons_of_mem _ hx)
    have h2 := h c List.mem_cons_self
    show c :: r ∈ (pols r.length).flatMap fun l => [0 :: l, 1 :: l, 2 :: l]
    refine List.mem_flatMap.mpr ⟨r, h1, ?_⟩
    have : c = 0 ∨ c = 1 ∨ c = 2 := by omega
    rcases this with rfl | rfl | rfl <;> simp
/-- W is better than V -/
def Bt (most : Bool) (n : Nat) (V W : Nat → Rat) : Prop := (∀ s, s < n → if most then V s ≤ W s else W s ≤ V s) ∧ ∃ s, s < n ∧ V s ≠ W s
theorem Bt.trans {m : Bool} {n : Nat} {U V W : Nat → Rat} (h1 : Bt m n U V) (h2 : Bt m n V W) : Bt m n U W := by
  refine ⟨fun s hs => ?_, ?_⟩
  · have a := h1.1 s hs
    have b := h2.1 s hs
    cases m
    · rw [if_neg Bool.false_ne_true] at *; grind
    · rw [if_pos rfl] at *; grind
  · obtain ⟨s, hs, ne⟩ := h1.2
    refine ⟨s, hs, fun e => ne ?_⟩
    have a := h1.1 s hs
    have b := h2.1 s hs
    cases m
    · rw [if_neg Bool.false_ne_true] at *; grind
    · rw [if_pos rfl] at *; grind
open Classical in
noncomputable def cnt (n : Nat) (rest ts : List Nat) (E : List Nat → Nat → EndL) (most : Bool) (V : Nat → Rat) : Nat := (pols n).countP fun rho => decide (∃ W, Sol n rest ts (E rho) W ∧ Bt most n V W)
theorem countP_lt {α : Type} {p q : α → Bool} : ∀ {l : List α}, (∀ x ∈ l, p x = true → q x = true) → (∃ x ∈ l, q x = true ∧ p x = false) → l.countP p < l.countP q
  | [], _, h => by obtain ⟨x, hx, _⟩ := h; cases hx
  | a :: l, h, hx => by
    have hsub : ∀ x ∈ l, p x = true → q x = true := fun x hx => h x (List.mem_cons_of_mem _ hx)
    have hle : l.countP p ≤ l.countP q := List.countP_mono_left hsub
    have ha := h a List.mem_cons_self
    rw [List.countP_cons, List.countP_cons]
    obtain ⟨x, hm, hq, hp⟩ := hx
    rcases List.mem_cons.mp hm with rfl | hm
    · rw [hq, hp]
      simp
      omega
    · have := countP_lt hsub ⟨x, hm, hq, hp⟩
      cases hpa : p a
      · split <;> split <;> first | omega | simp_all
      · rw [ha hpa]
        simp
        omega
section
variable {n : Nat} {rest ts : List Nat} {E : List Nat → Nat → EndL} {most : Bool} {V Vp : Nat → Rat} {pi : List Nat}
theorem cnt_le : cnt n rest ts E most V ≤ (pols n).length := List.countP_le_length
theorem cnt_lt (hR : RT' n rest ts (E pi)) (hpi : pi ∈ pols n) (h : Sol n rest ts (E pi) V) (hb : Bt most n Vp V) : cnt n rest ts E most V < cnt n rest ts E most Vp := by
  classical
  refine countP_lt (fun rho _ hp => ?_) ⟨pi, hpi, ?_, ?_⟩
  · obtain ⟨W, h1, h2⟩ := of_decide_eq_true hp
    exact decide_eq_true ⟨W, h1, hb.trans h2⟩
  · exact decide_eq_true ⟨V, h, hb⟩
  · refine decide_eq_false fun ⟨W, h1, h2⟩ => ?_
    obtain ⟨s, hs, ne⟩ := h2.2
    exact ne (h.uniq h1 hR s hs)
/-- a policy that changes only where it is better has better values -/
theorem improves {E1 E2 : Nat → EndL} {V' : Nat → Rat} (h : Sol n rest ts E1 V) (h' : Sol n rest ts E2 V') (hR : RT' n rest ts E1) (hR' : RT' n rest ts E2) (hi : ∀ s ∈ rest, E2 s = E1 s ∨ bett (avg (E2 s) V) (V s) most = true)
    (hs : ∃ s ∈ rest, bett (avg (E2 s) V) (V s) most = true) : Bt most n V V' := by
  have strict : ∃ s, s < n ∧ V s ≠ V' s := by
    refine Classical.byContradiction fun hno => ?_
    have all : ∀ s, s < n → V s = V' s := fun s hs => Classical.byContradiction fun z => hno ⟨s, hs, z⟩
    obtain ⟨s, hr, hb⟩ := hs
    have hsn := hR.lt s hr
    have e : avg (E2 s) V = avg (E2 s) V' := avg_congr fun e he => all _ ((hR'.ends s hr).mem e he).1
    rw [e, ← h'.fix s hr, ← all s hsn, bett_irrefl] at hb
    cases hb
  refine ⟨fun s hsn => ?_, strict⟩
  cases most with
  | true =>
    rw [if_pos rfl]
    refine h.ge_of h' hR hR' (fun s hr => (hi s hr).imp id fun z => ?_) s hsn
    unfold bett at z
    simpa using z
  | false =>
    rw [if_neg Bool.false_ne_true]
    refine h.le_of h' hR hR' (fun s hr => ?_) s hsn
    rcases hi s hr with z | z
    · rw [z, ← h.fix s hr]
      grind
    · unfold bett at z
      have : avg (E2 s) V < V s := by simpa using z
      grind
end
end BO

/-! list(range(n)), tests of lists, calls taken apart -/
namespace BO
open PySem PySem.Spec PyProof.Rows L2
section
variable {K : PySem.W.Frag} {σ : L2.St} {H H' H0 : Hp} {te ta tb : TE} {tz : TS} {D : Ends} {α β γ : Type} {r : RR α} {s : RR β}
theorem f_listRg {n : Nat} (h : EvR RN ta σ H n) (hn : n ≤ 100000) : EvF RN (tLstRg (tRg1 ta)) σ H (List.range n) := fun H1 e Q q =>
  h H1 e _ fun v H2 e2 hv => ⟨(n : Int), hv, RgOk.of_le (by omega) (by omega) (by omega) (by omega), fun p hp => by
    refine q p _ _ (Evl.fresh_back e2 hp) (e2.trans (Evl.Ex.new hp)) upd_same ?_
    have e1 : rgV 0 (n : Int) = (List.range n).map fun i : Nat => V.int (i : Int) := by
      unfold rgV
      have : ((n : Int) - 0).toNat = n := by omega
      rw [this]
      refine List.map_congr_left fun i _ => ?_
      rw [Int.zero_add]
    rw [e1]
    exact All.of_nats _⟩
theorem q_asgV {i j : Nat} {v : V} (hσ : σ[j]? = some (some v)) (k : tz D (σ.set i (some v)) H) : tSeq (tAsg (tVar j) (gName i)) tz D σ H := ⟨v, hσ, k⟩
/-- a list as a test -/
theorem t_truL {xs : List α} (h : EvR (RL K r) ta σ H xs) : EvT (fun σ H Q => ta σ H fun x H' => ∃ k, TruV K x H' k ∧ Q k H') σ H (!xs.isEmpty) := fun H1 e Q q =>
  h H1 e _ fun v H2 e2 ⟨a, vs, hv, hs, hal⟩ => ⟨!xs.isEmpty, by
    rw [hv]
    refine .inl ⟨vs, hs, ?_⟩
    have := hal.1
    cases vs with
    | nil =>
      cases xs with
      | nil => rfl
      | cons x xs => simp at this
    | cons v vs =>
      cases xs with
      | nil => simp at this
      | cons x xs => rfl, q H2 e2⟩
/-- a[m], b[m] = the two of a pair -/
theorem tgt_set2 [Fx r] [Fx s] {p q : Addr} {ys : List α} {zs : List β} {i j k m : Nat} {v : V} {x : α × β} {Q : L2.St → Hp → Prop} (hO1 : Own r H0 p H ys) (hO2 : Own s H0 q H zs) (ne : p ≠ q) (e0 : Ex H0 H) (h1 : σ[i]? = some (some (.ref p))) (h2 : σ[j]? = some (some (.ref q))) (hk : σ[k]? = some (some (.int (m : Int))))
    (l1 : m < ys.length) (l2 : m < zs.length) (hv : RP K r s H v x) (kk : ∀ H', Ex H0 H' → Own r H0 p H' (ys.set m x.1) → Own s H0 q H' (zs.set m x.2) → Q σ H') : gTup K 2 (gCons (gSub (tVar i) (tVar k) rSetL) (gCons (gSub (tVar j) (tVar k) rSetL) gNil)) v σ H Q := by
  obtain ⟨hn1, ws1, hp1, ha1⟩ := hO1
  obtain ⟨hn2, ws2, hp2, ha2⟩ := hO2
  obtain ⟨a, v1, v2, rfl, hs, q1, q2⟩ := hv
  have t1 : Tx H (upd H p (.lst (ws1.set m v1))) := Tx.set (Tx.refl H) hp1 trivial
  have hp2' : (upd H p (.lst (ws1.set m v1))) q = some (.lst ws2) := by rw [upd_ne (fun z => ne z.symm)]; exact hp2
  have t2 : Tx H (upd (upd H p (.lst (ws1.set m v1))) q (.lst (ws2.set m v2))) := Tx.set t1 hp2' trivial
  refine ⟨a, [v1, v2], rfl, hs, rfl, v1, [v2], rfl, .ref p, h1, .int (m : Int), hk, p, ws1, (m : Int), m, rfl, rfl, hp1, Evl.ixN_nat (by rw [ha1.1]; exact l1), v2, [], rfl, .ref q, h2, .int (m : Int), hk, q, ws2, (m : Int), m, rfl, rfl, hp2', Evl.ixN_nat (by rw [ha2.1]; exact l2), rfl, ?_⟩
  refine kk _ (Evl.Ex.mut (Evl.Ex.mut e0 hn1) hn2) ⟨hn1, ws1.set m v1, by rw [upd_ne ne, upd_same], (ha1.fx t2).set m (Fx.fx t2 q1)⟩ ⟨hn2, ws2.set m v2, upd_same, (ha2.fx t2).set m (Fx.fx t2 q2)⟩
variable {T : List Addr} {A : AR γ} {pre : γ → Prop} {post : γ → α × β → Prop} {tq : TA} {x : γ} {i j : Nat}
theorem q_asgFst (tb : Tb T H) (ha : EvA A tq σ H x) (hp : pre x) (k : ∀ y v H', post x y → Ex H H' → r H' v y.1 → tz D (σ.set i (some v)) H') : tSeq (tAsg (tOp (rIxT K) (tCall (spP T A pre (RP K r s) post) [] E0 tq) (tC (.int 0))) (gName i)) tz D σ H :=
  ha H (Evl.Ex.refl _) _ fun vs H2 e2 hv => ⟨x, tb.ex e2, by rw [List.append_nil]; exact hv, hp, fun y v H' hy e3 ⟨a, v1, v2, h1, h2, h3, h4⟩ => ⟨a, _, 0, v1, h1, rfl, h2, rfl, k y v1 H' hy (e2.trans e3) h3⟩⟩
theorem q_asgSnd (tb : Tb T H) (ha : EvA A tq σ H x) (hp : pre x) (k : ∀ y v H', post x y → Ex H H' → s H' v y.2 → tz D (σ.set i (some v)) H') : tSeq (tAsg (tOp (rIxT K) (tCall (spP T A pre (RP K r s) post) [] E0 tq) (tC (.int 1))) (gName i)) tz D σ H :=
  ha H (Evl.Ex.refl _) _ fun vs H2 e2 hv => ⟨x, tb.ex e2, by rw [List.append_nil]; exact hv, hp, fun y v H' hy e3 ⟨a, v1, v2, h1, h2, h3, h4⟩ => ⟨a, _, 1, v2, h1, rfl, h2, rfl, k y v2 H' hy (e2.trans e3) h4⟩⟩
end
end BO

namespace BO
open PySem PySem.Spec PyProof.Rows L2
abbrev simproved : Stmt := topS 35
theorem scimproved : FnScope ["system", "rest", "policy", "values", "most", "changed", "state", "numbers", "number", "value"] ["system", "rest", "policy", "values", "most"] (defScope simproved) := ⟨rfl, rfl, rfl, by decide +kernel, rfl, by decide +kernel, by decide +kernel⟩

abbrev siterated : Stmt := topS 36
theorem sciterated : FnScope ["system", "allowed", "targets", "rest", "policy", "most", "values", "changed"] ["system", "allowed", "targets", "rest", "policy", "most"] (defScope siterated) := ⟨rfl, rfl, rfl, by decide +kernel, rfl, by decide +kernel, by decide +kernel⟩

theorem SysOk.at {S : Sys} (h : SysOk S) {s : Nat} (hs : s < S.length) : (1 ≤ (S.getD s []).length ∧ (S.getD s []).length ≤ 3) ∧ ∀ c ∈ S.getD s [], c.1 ≤ 1000 ∧ EndsOk S.length c.2 :=
  ⟨h.chs _ (List.mem_of_getElem? (sysAt hs)), h.ends _ (List.mem_of_getElem? (sysAt hs))⟩
/-- what improving leaves -/
structure Impr (S : Sys) (rest pi : List Nat) (vs : List Rat) (most : Bool) (y : List Nat) : Prop where
  ok : PolOk S y
  out : ∀ s, s ∉ rest → y.getD s 0 = pi.getD s 0
  inn : ∀ s ∈ rest, (y.getD s 0 = pi.getD s 0 ∧ ∀ c, c < (S.getD s []).length → bett (mean (chAt S s c).2 vs) (at0 vs s) most = false) ∨ bett (mean (pE S y s) vs) (at0 vs s) most = true
abbrev spImpr (TT : List Addr) (K : PySem.W.Frag) : Sp := spF TT (AC (RSys K) (AC (RL K RN) (AC (RL K RN) (AC (RL K (RQ K)) (AC RB A0)))))
  (fun x => SysOk x.1 ∧ PolOk x.1 x.2.2.1 ∧ (RestOk x.1.length x.2.1 ∧ x.2.1.Nodup) ∧ x.2.2.2.1.length = x.1.length ∧ allSz 300 x.2.2.2.1) RN fun x y => Impr x.1 x.2.1 x.2.2.1 x.2.2.2.1 x.2.2.2.2.1 y
structure Iter (S : Sys) (al ts rest : List Nat) (most : Bool) (y : List Rat × List Nat) : Prop where
  ok : PolOk S y.2
  val : PolVal S y.2 al ts y.1
  opt : ∀ s ∈ rest, ∀ c, c < (S.getD s []).length → bett (mean (chAt S s c).2 y.1) (at0 y.1 s) most = false
abbrev spIter (TT : List Addr) (K : PySem.W.Frag) : Sp := spP TT (AC (RSys K) (AC (RL K RN) (AC (RL K RN) (AC (RL K RN) (AC (RL K RN) (AC RB A0))))))
  (fun x => SysOk x.1 ∧ PolOk x.1 x.2.2.2.2.1 ∧ x.2.2.2.1.Nodup ∧ ∀ s ∈ x.2.2.2.1, s ∈ restOf x.1.length x.2.1 x.2.2.1) (RP K (RL K (RQ K)) (RL K RN)) fun x y => Iter x.1 x.2.1 x.2.2.1 x.2.2.2.1 x.2.2.2.2.2.1 y
theorem getD_set {xs : List Nat} {s t c : Nat} (h : s < xs.length) : (xs.set s c).getD t 0 = if t = s then c else xs.getD t 0 := by
  rw [List.getD_eq_getElem?_getD, List.getD_eq_getElem?_getD]
  by_cases e : t = s
  · rw [e, if_pos rfl, List.getElem?_set_self h]
    rfl
  · rw [if_neg e, List.getElem?_set_ne (fun z => e z.symm)]
theorem PolOk.of_getD {S : Sys} {pi : List Nat} (hl : pi.length = S.length) (h : ∀ s, s < S.length → pi.getD s 0 < (S.getD s []).length) : PolOk S pi := by
  refine ⟨hl, fun s c cs h1 h2 => ?_⟩
  have hs := (List.getElem?_eq_some_iff.mp h2).1
  have := h s hs
  rw [List.getD_eq_getElem?_getD, h1] at this
  rw [sysAt hs] at h2
  rw [← Option.some.inj h2]
  exact this
theorem PolOk.get {S : Sys} {pi : List Nat} (h : PolOk S pi) {s : Nat} (hs : s < S.length) : pi.getD s 0 < (S.getD s []).length := h.2 s _ _ (h.at hs).1 (sysAt hs)
theorem PolOk.set {S : Sys} {pi : List Nat} (h : PolOk S pi) {s c : Nat} (hs : s < S.length) (hc : c < (S.getD s []).length) : PolOk S (pi.set s c) := by
  refine .of_getD (by rw [List.length_set]; exact h.1) fun t ht => ?_
  rw [getD_set (by rw [h.1]; exact hs)]
  split
  · rename_i e
    rw [e]
    exact hc
  · exact h.get ht
theorem bett_best {m v x : Rat} {b : Bool} (h1 : bett m v b = false) (h2 : bett v x b = false) : bett m x b = false := by
  unfold bett at *
  cases b <;> simp at * <;> grind
theorem chAt_eq {S : Sys} {s c : Nat} : (S.getD s []).getD c (0, []) = chAt S s c := rfl
section
variable {P : Program} {w : World} {K : PySem.W.Frag} {mg : Str → Option Value} {base : Heap} {TT : List Addr} {zZ zO : Addr}
theorem ok_improved {f f_best_choice f_better f_no_cost : Addr} {fd : FuncData} (F : Fun K "improved" "improved" simproved f fd) (T : Top K mg zZ zO)
    (h_best_choice : Has P w K mg base "best_choice" ["choices", "values", "numbers", "base", "most"] 4 (spBestC TT K f_no_cost) f_best_choice) (h_better : Has P w K mg base "better" ["one", "two", "most"] 1 (spBetter TT K) f_better)
    (h_no_cost : Has P w K mg base "no_cost" ["choice"] 1 (spNoCost TT K) f_no_cost) : FnOk P w K mg base CX0 5 f fd ["system", "rest", "policy", "values", "most"] (spImpr TT K) := by
  refine F.ok scimproved (fun vs H Q E h => ?_) (fun cdv A outer s H vs Q E hr h => ?_)
  · obtain ⟨x, _, hA, _⟩ := h
    exact AC.len (fun _ h => AC.len (fun _ h => AC.len (fun _ h => AC.len (fun _ h => AC.len (fun _ h => A0.len h) h) h) h) h) hA
  · obtain ⟨⟨S, rest, pi, xs, most, _⟩, tb, hA, ⟨hS, hP, ⟨hR, hN⟩, hxl, hz⟩, k⟩ := h
    obtain ⟨v1, _, rfl, r1, v2, _, rfl, r2, v3, _, rfl, r3, v4, _, rfl, r4, v5, _, rfl, r5, rfl⟩ := hA
    have hS : SysOk S := hS
    have hP : PolOk S pi := hP
    have hR : RestOk S.length rest := hR
    have hN : rest.Nodup := hN
    have hxl : xs.length = S.length := hxl
    have hz : allSz 300 xs := hz
    have hz9 : allSz 900 xs := fun q hq => sz_mono (hz q hq) (by omega)
    refine ⟨_, (pss_cons (ps_set (i := 5) scimproved.nd rfl (.inl rfl) (pe_callTy call_list_of (by rfl) T.b_list (by decide +kernel) (pa_cons (pv 2) pa_nil)))
      (pss_cons (ps_for PassesOwn.never rfl (pi_list (pv 1)) (pg_name (i := 6) scimproved.nd rfl (.inl rfl)) (pss_cons (ps_set (i := 7) scimproved.nd rfl (.inl rfl) (pe_listRg rfl (by rfl) T.b_list (prg_1 (by rfl) T.b_range (pe_callB call_len_seq (by rfl) T.b_len PySem.boot_len (pa_cons (pe_ix ix_tup (pv 0) (pv 6) (fun _ _ => rfl)) pa_nil)))))
      (pss_cons (ps_asg (pe_has h_best_choice (hr.mono (by decide)) (by rfl) (pa_cons (pe_ix ix_tup (pv 0) (pv 6) (fun _ _ => rfl)) (pa_cons (pv 3) (pa_cons (pv 7) (pa_cons (pe_glob (v := .ref f_no_cost) (by rfl) h_no_cost.m rfl) (pa_cons (pv 4) pa_nil)))))) (pg_tup rfl (pgs_cons (pg_name (i := 8) scimproved.nd rfl (.inl rfl)) (pgs_cons (pg_name (i := 9) scimproved.nd rfl (.inl rfl)) pgs_nil))))
      (pss_one (ps_if (pt_val (pe_has h_better (hr.mono (by decide)) (by rfl) (pa_cons (pv 9) (pa_cons (pe_ix ix_list (pv 3) (pv 6) (fun _ _ => rfl)) (pa_cons (pv 4) pa_nil))))) (pss_one (ps_asg (pv 8) (pg_sub (pv 5) (pv 6) set_list))) pss_nil)))))
      (pss_one (ps_ret (pv 5))))), ?_⟩
    refine q_asgF (f_listL (e_var (r := RL K RN) rfl r3)) fun p ws H1 hn e1 hp hal => ?_
    refine q_forLv (s := RN) (Hb := H) (u := v2) (xs := rest) rfl r2 (fun i σ' H' => ∃ a6 a7 a8 a9 y, σ' = [some v1, some v2, some v3, some v4, some v5, some (.ref p), a6, a7, a8, a9] ∧ Ex H H' ∧ Own RN H p H' y ∧ Impr S (rest.take i) pi xs most y)
      ⟨none, none, none, none, pi, rfl, e1, Own.of hn hp hal, hP, fun _ _ => rfl, fun s hs => by simp at hs⟩ (fun i σ' H' ⟨_, _, _, _, _, _, h, _⟩ => h) (fun i s vs σ' H' hx hP' hs => ?_) (fun σ' H' hP' => ?_)
    · obtain ⟨a6, a7, a8, a9, y, rfl, e2, O2, hI⟩ := hP'
      have hsn := hR.lt s (List.mem_of_getElem? hx)
      have hSs := hS.at hsn
      have hsy : s < y.length := by rw [hI.ok.1]; exact hsn
      have esys : ∀ {H'' : Hp} {a7 a8 a9 : Option V}, Ex H' H'' → EvR (RT K (RCh K)) (tOp (rIxT K) (tVar 0) (tVar 6)) [some v1, some v2, some v3, some v4, some v5, some (.ref p), some vs, a7, a8, a9] H'' (S.getD s []) := fun e => e_ixT (xs := S) (e_var (r := RSys K) rfl (Mo.mo (e2.trans e) r1)) (e_var (r := RN) rfl hs) (sysAt hsn)
      refine q_asgF (f_listRg (e_lenT (esys (Evl.Ex.refl _))) (by have := hSs.1; omega)) fun pn wn H3 hnn e3 hpn haln => ?_
      have e23 := e2.trans e3
      refine q_asg2P (K := K) (tb.ex e23) (a_cons (esys e3) (a_cons (e_var (r := RL K (RQ K)) rfl (Mo.mo e23 r4)) (a_cons (e_var (r := RL K RN) rfl ⟨pn, wn, rfl, SqL.of hpn, haln⟩) (a_cons (e_con (r := RF f_no_cost) (x := ()) rfl) (a_cons (e_var (r := RB) rfl r5) a_nil)))))
        ⟨fun c hc => by show c.1 ≤ 1000 ∧ EndsOk xs.length c.2; rw [hxl]; exact hSs.2 c hc, hz9, fun z => by
          have : (List.range (S.getD s []).length).length = 0 := by rw [show List.range (S.getD s []).length = [] from z]; rfl
          rw [List.length_range] at this
          have := hSs.1
          omega, fun m hm => List.mem_range.mp hm⟩ fun y2 va vb H4 hy2 e4 hva hvb => ?_
      obtain ⟨c, val⟩ := y2
      obtain ⟨b1, b2, b3⟩ := hy2
      have hc : c < (S.getD s []).length := List.mem_range.mp b1
      have b2 : val = mean (chAt S s c).2 xs := b2
      have hEc : EndsOk S.length (chAt S s c).2 := by
        have : (S.getD s [])[c]? = some (chAt S s c) := by
          rw [← chAt_eq, List.getD_eq_getElem?_getD (l := S.getD s []), List.getElem?_eq_getElem hc]
          rfl
        exact hS.endsAt hsn (List.mem_of_getElem? this)
      have vsz : sz 3700 val := by rw [b2]; exact mean_sz (by rw [hxl]; exact hEc) hz9
      have xsz := at0_sz hz (by omega) s
      have e24 := e23.trans e4
      have et : rest.take (i + 1) = rest.take i ++ [s] := take_succ' hx
      have hnin : s ∉ rest.take i := fun z => by
        have := hN.sublist (List.take_sublist (i + 1) rest)
        rw [et, List.nodup_append] at this
        exact this.2.2 s z s (by simp) rfl
      refine Evl.s_when (t_val (e_call (f := fun x : Rat × Rat × Bool × Unit => bett x.1 x.2.1 x.2.2.1) (tb.ex e24) (a_cons (e_var (r := RQ K) rfl hvb) (a_cons (e_ixL (r := RQ K) (xs := xs) (e_var rfl (Mo.mo e24 r4)) (e_var (r := RN) rfl hs) (at0_get (by rw [hxl]; exact hsn))) (a_cons (e_var (r := RB) rfl r5) a_nil))) ⟨sz_mono vsz (by omega), sz_mono xsz (by omega)⟩)) (fun hb H5 e5 => ?_) (fun hb H5 e5 => ?_)
      · have hb : bett val (at0 xs s) most = true := hb
        refine s_setO (r := RN) (y := c) (i := s) (O2.ex ((e3.trans e4).trans e5)) (e24.trans e5) (e_var rfl hva) (Evl.ev_var rfl) (e_var (r := RN) rfl hs) hsy fun H6 u6 w6 e6 hp6 ex6 O6 => ?_
        refine ⟨_, _, _, _, y.set s c, rfl, ex6, O6, hI.ok.set hsn hc, fun t ht => ?_, fun t ht => ?_⟩
        · rw [et, List.mem_append, List.mem_singleton] at ht
          rw [getD_set hsy, if_neg fun z => ht (.inr z)]
          exact hI.out t fun z => ht (.inl z)
        · rw [et, List.mem_append, List.mem_singleton] at ht
          by_cases hts : t = s
          · refine .inr ?_
            unfold pE
            rw [getD_set hsy, if_pos hts, hts, ← b2]
            exact hb
          · have h1 := hI.inn t (ht.resolve_right hts)
            unfold pE at h1 ⊢
            rw [getD_set hsy, if_neg hts]
            exact h1
      · have hb : bett val (at0 xs s) most = false := hb
        refine ⟨_, _, _, _, y, rfl, e24.trans e5, O2.ex ((e3.trans e4).trans e5), hI.ok, fun t ht => ?_, fun t ht => ?_⟩
        · rw [et, List.mem_append, List.mem_singleton] at ht
          exact hI.out t fun z => ht (.inl z)
        · rw [et, List.mem_append, List.mem_singleton] at ht
          by_cases hts : t = s
          · refine .inl ⟨?_, fun d hd => ?_⟩
            · rw [hts]
              exact hI.out s hnin
            · rw [hts] at hd ⊢
              exact bett_best (b3 d (List.mem_range.mpr hd)) hb
          · exact hI.inn t (ht.resolve_right hts)
    · obtain ⟨a6, a7, a8, a9, y, rfl, e2, O2, hI⟩ := hP'
      rw [List.take_length] at hI
      obtain ⟨hn2, w2, hp2, hal2⟩ := O2
      exact s_retO rfl (k y p w2 H' hI hn2 e2 hp2 hal2)
theorem pol_rt {S : Sys} {pi al ts : List Nat} (hS : SysOk S) (hP : PolOk S pi) : RT' S.length (restOf S.length al ts) ts (pE S pi) :=
  ⟨fun s hs => hP.ends hS (restOf_mem.mp hs).1, fun s hs => (restOf_mem.mp hs).1, fun s hs => (restOf_mem.mp hs).2.2⟩
theorem pol_mem {S : Sys} {pi : List Nat} (hS : SysOk S) (hP : PolOk S pi) : pi ∈ pols S.length := by
  rw [← hP.1]
  refine pols_mem fun c hc => ?_
  obtain ⟨s, hs, rfl⟩ := List.getElem_of_mem hc
  have hsn : s < S.length := by rw [← hP.1]; exact hs
  have h1 := hP.get hsn
  rw [List.getD_eq_getElem?_getD, List.getElem?_eq_getElem hs] at h1
  have := (hS.at hsn).1.2
  have h1 : pi[s] < (S.getD s []).length := h1
  omega
theorem ok_iterated {f f_policy_chances f_improved : Addr} {fd : FuncData} (F : Fun K "iterated" "iterated" siterated f fd) (T : Top K mg zZ zO)
    (h_policy_chances : Has P w K mg base "policy_chances" ["system", "policy", "allowed", "targets"] 6 (spPolC TT K) f_policy_chances) (h_improved : Has P w K mg base "improved" ["system", "rest", "policy", "values", "most"] 5 (spImpr TT K) f_improved) :
    FnOk P w K mg base CX0 7 f fd ["system", "allowed", "targets", "rest", "policy", "most"] (spIter TT K) := by
  refine F.ok sciterated (fun vs H Q E h => ?_) (fun cdv A outer s H vs Q E hr h => ?_)
  · obtain ⟨x, _, hA, _⟩ := h
    exact AC.len (fun _ h => AC.len (fun _ h => AC.len (fun _ h => AC.len (fun _ h => AC.len (fun _ h => AC.len (fun _ h => A0.len h) h) h) h) h) h) hA
  · obtain ⟨⟨S, al, ts, rest, pi, most, _⟩, tb, hA, ⟨hS, hP, hN, hsub⟩, k⟩ := h
    obtain ⟨v1, _, rfl, r1, v2, _, rfl, r2, v3, _, rfl, r3, v4, _, rfl, r4, v5, _, rfl, r5, v6, _, rfl, r6, rfl⟩ := hA
    have hS : SysOk S := hS
    have hP : PolOk S pi := hP
    have hN : rest.Nodup := hN
    have hsub : ∀ s ∈ rest, s ∈ restOf S.length al ts := hsub
    have hSl := hS.len
    have hR : RestOk S.length rest := ⟨fun s hs => (restOf_mem.mp (hsub s hs)).1, by
      have := hN.length_le_of_subset hsub
      have := restOf_len (n := S.length) (al := al) (ts := ts)
      omega⟩
    refine ⟨_, (pss_one (ps_while PassesOwn.never (pt_val pe_bl) (pss_cons (ps_set (i := 6) sciterated.nd rfl (.inl rfl) (pe_has h_policy_chances (hr.mono (by decide)) (by rfl) (pa_cons (pv 0) (pa_cons (pv 4) (pa_cons (pv 1) (pa_cons (pv 2) pa_nil))))))
      (pss_cons (ps_set (i := 7) sciterated.nd rfl (.inl rfl) (pe_has h_improved (hr.mono (by decide)) (by rfl) (pa_cons (pv 0) (pa_cons (pv 3) (pa_cons (pv 4) (pa_cons (pv 6) (pa_cons (pv 5) pa_nil)))))))
      (pss_cons (ps_if (pt_cmpR (op_eqD hr.units) (pv 7) (pv 4) (nomark _)) (pss_one (ps_ret (pe_tup (pa_cons (pv 6) (pa_cons (pv 4) pa_nil))))) pss_nil)
      (pss_one (ps_set (i := 4) sciterated.nd rfl (.inl rfl) (pv 7)))))))), ?_⟩
    refine Evl.s_while (fun m σ' H' => ∃ vp a6 a7 pi, σ' = [some v1, some v2, some v3, some v4, some vp, some v6, a6, a7] ∧ Ex H H' ∧ RL K RN H' vp pi ∧ PolOk S pi ∧
      (m = (pols S.length).length + 1 ∨ ∃ Vp, m = cnt S.length (restOf S.length al ts) ts (pE S) most Vp ∧ ∀ V, Sol S.length (restOf S.length al ts) ts (pE S pi) V → Bt most S.length Vp V)) _
      ⟨v5, none, none, pi, rfl, Evl.Ex.refl _, r5, hP, .inl rfl⟩ fun m σ' H' hW => ?_
    obtain ⟨vp, a6, a7, pi, rfl, e1, rp, hP, hm⟩ := hW
    refine ⟨true, t_val e_bl, fun _ H2 e2 => ⟨fun σ2 H2 => ∃ m', m' < m ∧ ∃ vp a6 a7 pi, σ2 = [some v1, some v2, some v3, some v4, some vp, some v6, a6, a7] ∧ Ex H H2 ∧ RL K RN H2 vp pi ∧ PolOk S pi ∧
      (m' = (pols S.length).length + 1 ∨ ∃ Vp, m' = cnt S.length (restOf S.length al ts) ts (pE S) most Vp ∧ ∀ V, Sol S.length (restOf S.length al ts) ts (pE S pi) V → Bt most S.length Vp V), fun σ2 H2 h => h, ?_⟩, fun hb => by cases hb⟩
    have e12 := e1.trans e2
    refine q_asgPF (tb.ex e12) (a_cons (e_var (r := RSys K) rfl (Mo.mo e12 r1)) (a_cons (e_var (r := RL K RN) rfl (Mo.mo e2 rp)) (a_cons (e_var (r := RL K RN) rfl (Mo.mo e12 r2)) (a_cons (e_var (r := RL K RN) rfl (Mo.mo e12 r3)) a_nil)))) ⟨hS, hP⟩ fun vals pv wv H3 hval hnv e3 hpv halv => ?_
    have hval : PolVal S pi al ts vals := hval
    have rv : RL K (RQ K) H3 (.ref pv) vals := ⟨pv, wv, rfl, SqL.of hpv, halv⟩
    have e13 := e12.trans e3
    refine q_asgPF (tb.ex e13) (a_cons (e_var (r := RSys K) rfl (Mo.mo e13 r1)) (a_cons (e_var (r := RL K RN) rfl (Mo.mo e13 r4)) (a_cons (e_var (r := RL K RN) rfl (Mo.mo (e2.trans e3) rp)) (a_cons (e_var (r := RL K (RQ K)) rfl rv) (a_cons (e_var (r := RB) rfl r6) a_nil))))) ⟨hS, hP, ⟨hR, hN⟩, hval.len, hval.sz⟩ fun pi2 pc wc H4 hI hnc e4 hpc halc => ?_
    have hI : Impr S rest pi vals most pi2 := hI
    have rc : RL K RN H4 (.ref pc) pi2 := ⟨pc, wc, rfl, SqL.of hpc, halc⟩
    have e14 := e13.trans e4
    refine Evl.q_when (t_cmp (e_eqD (dok_list dok_nat) (by omega) (e_var (r := RL K RN) (i := 7) rfl rc) (e_var (r := RL K RN) (i := 4) rfl (Mo.mo ((e2.trans e3).trans e4) rp)))) (fun hb H5 e5 => ?_) (fun hb H5 e5 => ?_)
    · have hb : pi2 = pi := of_decide_eq_true hb
      refine s_ret (e_pairM (K := K) (e_var (r := RL K (RQ K)) rfl (Mo.mo (e4.trans e5) rv)) (e_var (r := RL K RN) rfl (Mo.mo (((e2.trans e3).trans e4).trans e5) rp))) fun v H6 e6 hv => ?_
      refine k (vals, pi) v H6 ⟨hP, hval, fun s hs c hc => ?_⟩ ((e14.trans e5).trans e6) hv
      rcases hI.inn s hs with z | z
      · exact z.2 c hc
      · rw [hb, mean_avg, ← hval.sol.fix s (hsub s hs), bett_irrefl] at z
        cases z
    · have hb : pi2 ≠ pi := of_decide_eq_false hb
      refine s_asg (r := RL K RN) (x := pi2) (e_var rfl (Mo.mo e5 rc)) fun v H6 e6 hv => ?_
      have hRt := pol_rt (al := al) (ts := ts) hS hP
      have hlt : cnt S.length (restOf S.length al ts) ts (pE S) most (at0 vals) < m := by
        rcases hm with hm | ⟨Vp, hm, hV⟩
        · rw [hm]
          exact Nat.lt_succ_of_le cnt_le
        · rw [hm]
          exact cnt_lt hRt (pol_mem hS hP) hval.sol (hV _ hval.sol)
      refine ⟨_, hlt, v, _, _, pi2, rfl, (e14.trans e5).trans e6, hv, hI.ok, .inr ⟨at0 vals, rfl, fun V' hV' => ?_⟩⟩
      refine improves hval.sol hV' hRt (pol_rt hS hI.ok) (fun s hs => ?_) ?_
      · by_cases hsr : s ∈ rest
        · rcases hI.inn s hsr with z | z
          · refine .inl ?_
            unfold pE
            rw [z.1]
          · exact .inr z
        · refine .inl ?_
          unfold pE
          rw [hI.out s hsr]
      · refine Classical.byContradiction fun hno => hb ?_
        refine List.ext_getElem (by rw [hI.ok.1, hP.1]) fun s h1 h2 => ?_
        have hs : pi2.getD s 0 = pi.getD s 0 := by
          by_cases hsr : s ∈ rest
          · rcases hI.inn s hsr with z | z
            · exact z.1
            · exact absurd ⟨s, hsub s hsr, z⟩ hno
          · exact hI.out s hsr
        rw [List.getD_eq_getElem?_getD, List.getD_eq_getElem?_getD, List.getElem?_eq_getElem h1, List.getElem?_eq_getElem h2] at hs
        exact hs
end
end BO

namespace BO
open PySem PySem.Spec PyProof.Rows L2
abbrev sranked : Stmt := topS 34
theorem scranked : FnScope ["system", "rest", "start", "fits", "known", "ranks", "policy", "level", "found", "state", "numbers", "n", "number"] ["system", "rest", "start", "fits"] (defScope sranked) := ⟨rfl, rfl, rfl, by decide +kernel, rfl, by decide +kernel, by decide +kernel⟩

abbrev spRanked (TT : List Addr) (K : PySem.W.Frag) (f0 : Addr) : Sp := spP TT (AC (RSeq K) (AC (RL K RN) (AC (RL K RB) (AC (RF f0) A0)))) (fun x => SysOk x.1 ∧ RestOk x.1.length x.2.1 ∧ x.2.2.1.length = x.1.length) (RP K (RL K RI) (RL K RN)) fun x y => y.1.length = x.1.length ∧ PolOk x.1 y.2
theorem count_set_le : ∀ {ks : List Bool} {s : Nat}, (ks.set s true).count false ≤ ks.count false
  | [], s => by simp
  | k :: ks, 0 => by cases k <;> simp
  | k :: ks, s + 1 => by
    have := count_set_le (ks := ks) (s := s)
    rw [List.set_cons_succ, List.count_cons, List.count_cons]
    omega
section
variable {P : Program} {w : World} {K : PySem.W.Frag} {mg : Str → Option Value} {base : Heap} {TT : List Addr} {zZ zO : Addr}
theorem ok_ranked {f f_ends_in : Addr} {fd : FuncData} (F : Fun K "ranked" "ranked" sranked f fd) (T : Top K mg zZ zO) (h_fits : Has P w K mg base "ends_in" ["ends", "known"] 2 (spEnds TT K endsIn) f_ends_in) :
    FnOk P w K mg base CX0 3 f fd ["system", "rest", "start", "fits"] (spRanked TT K f_ends_in) := by
  refine F.ok scranked (fun vs H Q E h => ?_) (fun cdv A outer s H vs Q E hr h => ?_)
  · obtain ⟨x, _, hA, _⟩ := h
    exact AC.len (fun _ h => AC.len (fun _ h => AC.len (fun _ h => AC.len (fun _ h => A0.len h) h) h) h) hA
  · obtain ⟨⟨S, rest, kn, _, _⟩, tb, hA, ⟨hS, hR, hk⟩, k⟩ := h
    obtain ⟨v1, _, rfl, r1, v2, _, rfl, r2, v3, _, rfl, r3, v4, _, rfl, r4, rfl⟩ := hA
    have hS : SysOk S := hS
    have hR : RestOk S.length rest := hR
    have hk : kn.length = S.length := hk
    have hSl := hS.len
    have r4 : v4 = .ref f_ends_in := r4
    subst r4
    refine ⟨_, (pss_cons (ps_set (i := 4) scranked.nd rfl (.inr rfl) (pe_callTy call_list_of (by rfl) T.b_list (by decide +kernel) (pa_cons (pv 2) pa_nil)))
      (pss_cons (ps_set (i := 5) scranked.nd rfl (.inl rfl) (pe_op op_rep (pe_lst (pa_cons pe_int pa_nil)) (pe_callB call_len_seq (by rfl) T.b_len PySem.boot_len (pa_cons (pv 0) pa_nil))))
      (pss_cons (ps_set (i := 6) scranked.nd rfl (.inl rfl) (pe_op op_rep (pe_lst (pa_cons pe_int pa_nil)) (pe_callB call_len_seq (by rfl) T.b_len PySem.boot_len (pa_cons (pv 0) pa_nil))))
      (pss_cons (ps_set (i := 7) scranked.nd rfl (.inl rfl) pe_int)
      (pss_one (ps_while PassesOwn.never (pt_val pe_bl) (pss_cons (ps_aug (i := 7) scranked.nd rfl (.inl rfl) pe_int ip_add)
      (pss_cons (ps_set (i := 8) scranked.nd rfl (.inl rfl) (pe_lst pa_nil))
      (pss_cons (ps_for PassesOwn.never rfl (pi_list (pv 1)) (pg_name (i := 9) scranked.nd rfl (.inr rfl)) (pss_one (ps_if (pt_not (pt_val (pe_ix ix_list (pv 4) (pv 9) (fun _ _ => rfl)))) (pss_cons (ps_setLc (i := 10) (own := [("n", 11)]) (g := _) rfl scranked.nd rfl rfl (sw_true rfl rfl rfl (by decide +kernel)) (pi_range1 (by rfl) T.b_range (pa_cons (pe_callB call_len_seq (by rfl) T.b_len PySem.boot_len (pa_cons (pe_ix ix_seq (pv 0) (pv 9) (fun _ _ => rfl)) pa_nil)) pa_nil)) (blkOk_by (N := ["system", "rest", "start", "fits", "known", "ranks", "policy", "level", "found", "state", "numbers", "n", "number"]) (sc := defScope sranked) (by decide +kernel)) (fun _ _ _ _ _ => (pg_name (i := 11) scranked.nd rfl (Or.inl rfl))) (fun _ _ _ _ _ => pts_one (pt_val (pe_hasL (i := 3) h_fits (hr.mono (by decide)) rfl (.inr (.inl rfl)) (pa_cons (pe_ix (kx_ix_tup (K := K) rfl) (pe_ix (kx_ix_tup (K := K) rfl) (pe_ix (kx_ix_seq (K := K) rfl) (pv 0) (pv 9) (fun _ _ => rfl)) (pv 11) (fun _ _ => rfl)) pe_int (fun _ _ => rfl)) (pa_cons (pv 4) pa_nil))))) (fun _ _ _ _ _ => (pv 11)))
      (pss_one (ps_if (pt_truth (pv 10) (by intro _; rfl)) (pss_one (ps_expr (pe_bm PySem.F.plainAttrs_list PySem.F.slot_list_append PySem.F.type_list_append mt_append (pv 8) (pa_cons (pe_tup (pa_cons (pv 9) (pa_cons (pe_ix ix_list (pv 10) pe_int (fun _ _ => rfl)) pa_nil))) pa_nil)))) pss_nil))) pss_nil)))
      (pss_cons (ps_if (pt_not (pt_truth (pv 8) (by intro _; rfl))) (pss_one (ps_ret (pe_tup (pa_cons (pv 5) (pa_cons (pv 6) pa_nil))))) pss_nil)
      (pss_one (ps_for PassesOwn.never rfl (pi_list (pv 8)) (pg_tup rfl (pgs_cons (pg_name (i := 9) scranked.nd rfl (.inr rfl)) (pgs_cons (pg_name (i := 12) scranked.nd rfl (.inl rfl)) pgs_nil))) (pss_cons (ps_asg pe_bl (pg_sub (pv 4) (pv 9) set_list))
      (pss_cons (ps_asg (pv 7) (pg_sub (pv 5) (pv 9) set_list))
      (pss_one (ps_asg (pv 12) (pg_sub (pv 6) (pv 9) set_list))))))))))))))))), ?_⟩
    refine q_asgF (f_listL (e_var (r := RL K RB) rfl r3)) fun p1 w1 H1 hn1 e1 hp1 hal1 => ?_
    have O1 : Own RB H p1 H1 kn := Own.of hn1 hp1 hal1
    refine q_asgF (f_rep (n := S.length) (r := RI) (x := 0) e_int (e_lenS (e_var (r := RSeq K) rfl (Mo.mo e1 r1))) (by omega)) fun p2 w2 H2 hn2 e2 hp2 hal2 => ?_
    have O2 : Own RI H p2 H2 (List.replicate S.length 0) := (Own.of hn2 hp2 hal2).back e1
    have e02 := e1.trans e2
    refine q_asgF (f_rep (n := S.length) (r := RN) e_zero (e_lenS (e_var (r := RSeq K) rfl (Mo.mo e02 r1))) (by omega)) fun p3 w3 H3 hn3 e3 hp3 hal3 => ?_
    have O3 : Own RN H p3 H3 (List.replicate S.length 0) := (Own.of hn3 hp3 hal3).back e02
    have ne12 : p1 ≠ p2 := fun z => by rw [z, hn2] at hp1; cases hp1
    have ne13 : p1 ≠ p3 := fun z => by have := e2 p1 _ hp1; rw [z, hn3] at this; cases this
    have ne23 : p2 ≠ p3 := fun z => by rw [z, hn3] at hp2; cases hp2
    have P0 : PolOk S (List.replicate S.length 0) := .of_getD (by simp) fun s hs => by
      rw [List.getD_eq_getElem?_getD, List.getElem?_replicate, if_pos hs]
      exact (hS.at hs).1.1
    refine q_asg (r := RI) (x := 0) e_int fun vl H4 e4 hl => ?_
    refine Evl.s_while (fun m σ' H' => ∃ l ks rs pi a8 a9 a10 a11 a12, σ' = [some v1, some v2, some v3, some (.ref f_ends_in), some (.ref p1), some (.ref p2), some (.ref p3), some (.int l), a8, a9, a10, a11, a12] ∧ Ex H H' ∧ Own RB H p1 H' ks ∧ Own RI H p2 H' rs ∧ Own RN H p3 H' pi ∧
      ks.length = S.length ∧ rs.length = S.length ∧ PolOk S pi ∧ m = ks.count false) _
      ⟨0, kn, _, _, none, none, none, none, none, by rw [show vl = V.int 0 from hl]; rfl, (e02.trans e3).trans e4, O1.ex ((e2.trans e3).trans e4), O2.ex (e3.trans e4), O3.ex e4, hk, by simp, P0, rfl⟩ fun m σ' H' hW => ?_
    obtain ⟨l, ks, rs, pi, a8, a9, a10, a11, a12, rfl, e5, O1, O2, O3, l1, l2, hP, rfl⟩ := hW
    refine ⟨true, t_val e_bl, fun _ H6 e6 => ⟨fun σ2 H2 => ∃ m', m' < ks.count false ∧ ∃ l ks rs pi a8 a9 a10 a11 a12, σ2 = [some v1, some v2, some v3, some (.ref f_ends_in), some (.ref p1), some (.ref p2), some (.ref p3), some (.int l), a8, a9, a10, a11, a12] ∧ Ex H H2 ∧ Own RB H p1 H2 ks ∧ Own RI H p2 H2 rs ∧ Own RN H p3 H2 pi ∧
      ks.length = S.length ∧ rs.length = S.length ∧ PolOk S pi ∧ m' = ks.count false, fun σ2 H2 h => h, ?_⟩, fun hb => by cases hb⟩
    refine Evl.q_aug (a := l) (b := 1) rfl Evl.ev_c fun H7 e7 => ?_
    refine q_asgF (r := RP K RN RN) (xs := []) f_nil fun pf wf H8 hnf e8 hpf half => ?_
    have OF : Own (RP K RN RN) H7 pf H8 [] := Own.of hnf hpf half
    have e57 := (e5.trans e6).trans e7
    have O17 := O1.ex (e6.trans e7)
    have O27 := O2.ex (e6.trans e7)
    have O37 := O3.ex (e6.trans e7)
    refine q_forLv (s := RN) (Hb := H7) (u := v2) (xs := rest) rfl (Mo.mo e57 r2) (fun i σ' H' => ∃ fo a9 a10 a11 a12, σ' = [some v1, some v2, some v3, some (.ref f_ends_in), some (.ref p1), some (.ref p2), some (.ref p3), some (.int (l + 1)), some (.ref pf), a9, a10, a11, a12] ∧ Ex H7 H' ∧ Own (RP K RN RN) H7 pf H' fo ∧ fo.length ≤ i ∧
      ∀ x ∈ fo, x.1 < S.length ∧ bAt ks x.1 = false ∧ x.2 < (S.getD x.1 []).length)
      ⟨[], a9, a10, a11, a12, rfl, e8, OF, Nat.le_refl _, fun x hx => by cases hx⟩ (fun i σ' H' ⟨_, _, _, _, _, _, h, _⟩ => h) (fun i s vs σ' H' hx hP' hs => ?_) (fun σ' H' hP' => ?_)
    · obtain ⟨fo, a9, a10, a11, a12, rfl, e9, OF, hfl, hfo⟩ := hP'
      have hsn := hR.lt s (List.mem_of_getElem? hx)
      have hil := (List.getElem?_eq_some_iff.mp hx).1
      have hSs := hS.at hsn
      have hks : s < ks.length := by rw [l1]; exact hsn
      have r1' : ∀ {H'' : Hp}, Ex H' H'' → RSeq K H'' v1 S := fun e => Mo.mo ((e57.trans e9).trans e) r1
      refine Evl.s_when (Evl.et_not (t_val (e_ixL (r := RB) (e_var rfl (O17.ex e9).rl) (e_var (r := RN) rfl hs) (bAt_get hks)))) (fun hb H10 e10 => ?_) (fun hb H10 e10 => ?_)
      · have hb : bAt ks s = false := by simpa using hb
        refine q_asgF (f_range (r := RN) (n := (S.getD s []).length) (fun c => endsIn (chAt S s c).2 ks) (fun c => c) (e_lenT (r := RCh K) (e_ixS (r := RT K (RCh K)) (xs := S) (e_var rfl (r1' e10)) (e_var (r := RN) rfl hs) (sysAt hsn))) (by have := hSs.1; omega) (fun _ => rfl) (fun c H'' hc e => ?_) (fun c H'' hc _ e => e_var rfl rfl)) fun pn wn H11 hnn e11 hpn haln => ?_
        · have hcx : (S.getD s [])[c]? = some (chAt S s c) := by
            rw [← chAt_eq, List.getD_eq_getElem?_getD (l := S.getD s []), List.getElem?_eq_getElem hc]
            rfl
          refine t_val (e_callL (f := fun x : EndL × List Bool × Unit => endsIn x.1 x.2.1) rfl (tb.ex (((e57.trans e9).trans e10).trans e)) (a_cons (e_snd (r := RN) (s := REnds K) (e_ixT (r := RCh K) (xs := S.getD s []) (e_ixS (r := RT K (RCh K)) (xs := S) (e_var rfl (r1' (e10.trans e))) (e_var (r := RN) rfl hs) (sysAt hsn)) (e_var (r := RN) (x := c) rfl rfl) hcx)) (a_cons (e_var (r := RL K RB) rfl (O17.ex ((e9.trans e10).trans e)).rl) a_nil)) ?_)
          show EndsOk ks.length (chAt S s c).2
          rw [l1]
          exact hS.endsAt hsn (List.mem_of_getElem? hcx)
        · have rn : RL K RN H11 (.ref pn) (fm (fun c => endsIn (chAt S s c).2 ks) (fun c => c) (S.getD s []).length) := ⟨pn, wn, rfl, SqL.of hpn, haln⟩
          have hmem : ∀ c ∈ fm (fun c => endsIn (chAt S s c).2 ks) (fun c => c) (S.getD s []).length, c < (S.getD s []).length := fun c hc => by
            unfold fm at hc
            rw [List.map_id', List.mem_filter, List.mem_range] at hc
            exact hc.1
          revert rn hmem
          generalize fm (fun c => endsIn (chAt S s c).2 ks) (fun c => c) (S.getD s []).length = ns
          intro rn hmem
          refine Evl.s_when (t_truL (K := K) (r := RN) (xs := ns) (e_var rfl rn)) (fun hb2 H12 e12 => ?_) (fun hb2 H12 e12 => ?_)
          · cases ns with
            | nil => cases hb2
            | cons c0 nr =>
              have e912 := (e9.trans e10).trans (e11.trans e12)
              refine s_appO (r := RP K RN RN) (y := (s, c0)) (OF.ex (e10.trans (e11.trans e12))) e912 (Evl.ev_var rfl) (e_pair (K := K) (e_var (r := RN) rfl hs) (e_ixL (r := RN) (xs := c0 :: nr) (i := 0) (x := c0) (e_var rfl (Mo.mo e12 rn)) e_zero rfl)) (by have := hR.len; omega) fun H13 u13 w13 e13 hp13 ex13 OF13 => ?_
              refine ⟨fo ++ [(s, c0)], _, _, _, _, rfl, ex13, OF13, by simp; omega, fun x hx => ?_⟩
              rw [List.mem_append, List.mem_singleton] at hx
              rcases hx with hx | hx
              · exact hfo x hx
              · rw [hx]
                exact ⟨hsn, hb, hmem c0 List.mem_cons_self⟩
          · exact ⟨fo, _, _, _, _, rfl, ((e9.trans e10).trans e11).trans e12, OF.ex ((e10.trans e11).trans e12), by omega, hfo⟩
      · exact ⟨fo, _, _, _, _, rfl, e9.trans e10, OF.ex e10, by omega, hfo⟩
    · obtain ⟨fo, a9, a10, a11, a12, rfl, e9, OF, hfl, hfo⟩ := hP'
      refine Evl.q_when (Evl.et_not (t_truL (K := K) (r := RP K RN RN) (xs := fo) (e_var rfl OF.rl))) (fun hb H10 e10 => ?_) (fun hb H10 e10 => ?_)
      · have e79 := e9.trans e10
        refine s_ret (e_pairM (K := K) (e_var (r := RL K RI) rfl (O27.ex e79).rl) (e_var (r := RL K RN) rfl (O37.ex e79).rl)) fun v H11 e11 hv => ?_
        exact k (rs, pi) v H11 ⟨l2, hP⟩ ((e57.trans e79).trans e11) hv
      · have hne : fo ≠ [] := fun z => by rw [z] at hb; cases hb
        have e79 := e9.trans e10
        obtain ⟨hnf', wf', hpf', half'⟩ := OF.ex e10
        have nf1 : p1 ≠ pf := fun z => by
          obtain ⟨u, h⟩ := O17.at
          rw [z, hnf'] at h
          cases h
        have nf2 : p2 ≠ pf := fun z => by
          obtain ⟨u, h⟩ := O27.at
          rw [z, hnf'] at h
          cases h
        have nf3 : p3 ≠ pf := fun z => by
          obtain ⟨u, h⟩ := O37.at
          rw [z, hnf'] at h
          cases h
        refine s_forG2 (s := RN) (s' := RN) (a := pf) (vs := wf') (xs := fo) rfl (fun j σ' H' => ∃ ks' rs pi a9 a10 a11 a12, σ' = [some v1, some v2, some v3, some (.ref f_ends_in), some (.ref p1), some (.ref p2), some (.ref p3), some (.int (l + 1)), some (.ref pf), a9, a10, a11, a12] ∧ Ex H H' ∧ Own RB H p1 H' ks' ∧ Own RI H p2 H' rs ∧ Own RN H p3 H' pi ∧
          ks'.length = S.length ∧ rs.length = S.length ∧ PolOk S pi ∧ H' pf = some (.lst wf') ∧ All (RP K RN RN) H' wf' fo ∧ ks'.count false ≤ ks.count false ∧ (0 < j → ks'.count false < ks.count false) ∧ (j = 0 → ks' = ks))
          ⟨ks, rs, pi, a9, a10, a11, a12, rfl, e57.trans e79, O17.ex e79, O27.ex e79, O37.ex e79, l1, l2, hP, hpf', half', Nat.le_refl _, fun z => absurd z (by omega), fun _ => rfl⟩ half'.1 (fun j σ' H' hh => ?_) (fun j x va vb σ' H' hx hP' hva hvb => ?_) (fun σ' H' hP' => ?_)
        · obtain ⟨_, _, _, _, _, _, _, _, _, _, _, _, _, _, _, h1, h2, _⟩ := hh
          exact ⟨SqL.of h1, h2⟩
        · obtain ⟨ks', rs, pi, a9, a10, a11, a12, rfl, e9, O1, O2, O3, l1', l2, hP, hpf9, half9, c1, c2, c3⟩ := hP'
          have hxm := hfo x (List.mem_of_getElem? hx)
          have hks : x.1 < ks'.length := by rw [l1']; exact hxm.1
          have cless : (ks'.set x.1 true).count false < ks.count false := by
            by_cases hj : 0 < j
            · exact Nat.lt_of_le_of_lt count_set_le (c2 hj)
            · have hz := c3 (by omega)
              subst hz
              have := count_set_lt (ks := ks') (s := x.1) (b := false) (by rw [bAt_get hks, hxm.2.1])
              rw [Bool.not_false] at this
              omega
          refine q_setO (r := RB) (y := true) (i := x.1) O1 e9 e_bl (Evl.ev_var rfl) (e_var (r := RN) rfl hva) hks fun H10 u10 w10 e10 hp10 ex10 O1' => ?_
          have O2' := (O2.ex e10).other (o := .lst w10) (fun z => ne12 z.symm) hp10
          have O3' := (O3.ex e10).other (o := .lst w10) (fun z => ne13 z.symm) hp10
          have hf' : (upd H10 p1 (.lst w10)) pf = some (.lst wf') := by rw [upd_ne (fun z => nf1 z.symm)]; exact e10 pf _ hpf9
          have hal' : All (RP K RN RN) (upd H10 p1 (.lst w10)) wf' fo := half9.fx (Tx.set (Tx.of e10) hp10 trivial)
          refine q_setO (r := RI) (y := l + 1) (i := x.1) O2' ex10 (e_var rfl rfl) (Evl.ev_var rfl) (e_var (r := RN) rfl hva) (by rw [l2]; exact hxm.1) fun H11 u11 w11 e11 hp11 ex11 O2'' => ?_
          have O1'' := (O1'.ex e11).other (o := .lst w11) ne12 hp11
          have O3'' := (O3'.ex e11).other (o := .lst w11) (fun z => ne23 z.symm) hp11
          have hf'' : (upd H11 p2 (.lst w11)) pf = some (.lst wf') := by rw [upd_ne (fun z => nf2 z.symm)]; exact e11 pf _ hf'
          have hal'' : All (RP K RN RN) (upd H11 p2 (.lst w11)) wf' fo := hal'.fx (Tx.set (Tx.of e11) hp11 trivial)
          refine s_setO (r := RN) (y := x.2) (i := x.1) O3'' ex11 (e_var rfl hvb) (Evl.ev_var rfl) (e_var (r := RN) rfl hva) (by rw [hP.1]; exact hxm.1) fun H12 u12 w12 e12 hp12 ex12 O3''' => ?_
          refine ⟨ks'.set x.1 true, rs.set x.1 (l + 1), pi.set x.1 x.2, _, _, _, _, rfl, ex12, (O1''.ex e12).other ne13 hp12, (O2''.ex e12).other ne23 hp12, O3''', by rw [List.length_set]; exact l1', by rw [List.length_set]; exact l2, hP.set hxm.1 hxm.2.2, ?_, hal''.fx (Tx.set (Tx.of e12) hp12 trivial), Nat.le_of_lt cless, fun _ => cless, fun z => absurd z (by omega)⟩
          rw [upd_ne (fun z => nf3 z.symm)]
          exact e12 pf _ hf''
        · obtain ⟨ks', rs, pi, a9, a10, a11, a12, rfl, e9, O1, O2, O3, l1', l2, hP, hpf9, half9, c1, c2, c3⟩ := hP'
          have : 0 < fo.length := List.length_pos_iff.mpr hne
          exact ⟨_, c2 this, l + 1, ks', rs, pi, _, _, _, _, _, rfl, e9, O1, O2, O3, l1', l2, hP, rfl⟩
end
end BO

namespace BO
open PySem PySem.Spec PyProof.Rows L2
abbrev sgreatest_chances : Stmt := topS 38
theorem scgreatest_chances : FnScope ["system", "allowed", "targets", "rest", "policy", "values", "chain", "state", "ranks"] ["system", "allowed", "targets"] (defScope sgreatest_chances) := ⟨rfl, rfl, rfl, by decide +kernel, rfl, by decide +kernel, by decide +kernel⟩

abbrev sleast_chances : Stmt := topS 39
theorem scleast_chances : FnScope ["system", "allowed", "targets", "rest", "zero", "policy", "state", "n", "values", "s", "start"] ["system", "allowed", "targets"] (defScope sleast_chances) := ⟨rfl, rfl, rfl, by decide +kernel, rfl, by decide +kernel, by decide +kernel⟩

abbrev sbest_chances : Stmt := topS 40
theorem scbest_chances : FnScope ["system", "allowed", "targets", "most"] ["system", "allowed", "targets", "most"] (defScope sbest_chances) := ⟨rfl, rfl, rfl, by decide +kernel, rfl, by decide +kernel, by decide +kernel⟩

def RB3 (K : PySem.W.Frag) : RR (List Rat) := fun H v xs => ∃ a v1 v2 v3, v = .ref a ∧ SqT K H a [v1, v2, v3] ∧ RT K (RQ K) H v1 xs
instance {K : PySem.W.Frag} : Fx (RB3 K) := ⟨fun e ⟨a, v1, v2, v3, h1, h2, h3⟩ => ⟨a, v1, v2, v3, h1, sqT_fx e h2, Fx.fx e h3⟩⟩
/-- some value -/
def EvV (te : TE) (σ : L2.St) (H : Hp) : Prop := ∀ H1, Ex H H1 → ∀ Q : VK, (∀ v H2, Ex H1 H2 → Q v H2) → te σ H1 Q
section
variable {K : PySem.W.Frag} {σ : L2.St} {H : Hp} {ta tb tc te : TE} {α β γ : Type} {r : RR α} {s : RR β}
theorem EvR.any {x : α} (h : EvR r te σ H x) : EvV te σ H := fun H1 e Q q => h H1 e Q fun v H2 e2 _ => q v H2 e2
theorem e_triple {xs : List Rat} (h1 : EvR (RT K (RQ K)) ta σ H xs) (h2 : EvV tb σ H) (h3 : EvV tc σ H) : EvR (RB3 K) (tTup (tCons ta (tCons tb (tCons tc tNil)))) σ H xs := fun H1 e Q q =>
  h1 H1 e _ fun v H2 e2 hv => h2 H2 (e.trans e2) _ fun w H3 e3 => h3 H3 ((e.trans e2).trans e3) _ fun u H4 e4 => ⟨by show 3 ≤ sizeLine; decide, fun p hp =>
    q _ _ (((e2.trans e3).trans e4).trans (Evl.Ex.new hp)) ⟨p, v, w, u, rfl, SqT.of upd_same, Mo.mo ((e3.trans e4).trans (Evl.Ex.new hp)) hv⟩⟩
theorem ev_tupCall {T : List Addr} {A : AR γ} {pre : γ → Prop} {postF : γ → List β → Prop} {tq : TA} {x : γ} (tb : Tb T H) (ha : EvA A tq σ H x) (hp : pre x) :
    EvV (tCB (fun (xs : List V) (H : Hp) (Q : VK) => ∃ p ys, xs = [.ref p] ∧ ((SqL K H p ys ∧ ∀ l, H l = none → Q (.ref l) (upd H l (.tup ys))) ∨ (SqT K H p ys ∧ Q (.ref p) H))) (tCons (tCall (spF T A pre s postF) [] E0 tq) tNil)) σ H := fun H1 e Q q =>
  ha H1 e _ fun vs H2 e2 hv => ⟨x, tb.ex (e.trans e2), by rw [List.append_nil]; exact hv, hp, fun y p ws H' hy hn e3 h1 h2 => ⟨p, ws, rfl, .inl ⟨SqL.of h1, fun l hl => q _ _ ((e2.trans e3).trans (Evl.Ex.new hl))⟩⟩⟩
theorem rl_rs {H : Hp} {v : V} {x : List α} (h : RL K r H v x) : RS K r H v x := by
  obtain ⟨a, vs, h1, h2, h3⟩ := h
  exact ⟨a, vs, h1, .inl h2, h3⟩
end
/-- the best values, as far as the law asks -/
structure BestV (S : Sys) (al ts : List Nat) (most : Bool) (y : List Rat) : Prop where
  len : y.length = S.length
  sz : allSz 300 y
  nonneg : ∀ s, s < S.length → 0 ≤ at0 y s
  one : ∀ s, s < S.length → s ∈ ts → at0 y s = 1
  out : ∀ s, s < S.length → s ∉ restOf S.length al ts → s ∉ ts → at0 y s = 0
  opt : ∀ s ∈ restOf S.length al ts, if most then ∀ c, c < (S.getD s []).length → avg (chAt S s c).2 (at0 y) ≤ at0 y s else ∃ c, c < (S.getD s []).length ∧ at0 y s = avg (chAt S s c).2 (at0 y)
abbrev spGreat (TT : List Addr) (K : PySem.W.Frag) (most : Bool) : Sp := spP TT (AC (RSys K) (AC (RL K RN) (AC (RL K RN) A0))) (fun x => SysOk x.1) (RB3 K) fun x y => BestV x.1 x.2.1 x.2.2.1 most y
abbrev spBest (TT : List Addr) (K : PySem.W.Frag) : Sp := spP TT (AC (RSys K) (AC (RL K RN) (AC (RL K RN) (AC RB A0)))) (fun x => SysOk x.1) (RB3 K) fun x y => BestV x.1 x.2.1 x.2.2.1 x.2.2.2.1 y
theorem Iter.great {S : Sys} {al ts : List Nat} {y : List Rat × List Nat} (h : Iter S al ts (restOf S.length al ts) true y) (hS : SysOk S) : BestV S al ts true y.1 := by
  refine ⟨h.val.len, h.val.sz, fun s hs => h.val.sol.nonneg (pol_rt hS h.ok) s hs, h.val.sol.one, h.val.sol.out, fun s hs => ?_⟩
  rw [if_pos rfl]
  intro c hc
  have := bett_le (h.opt s hs c hc)
  rw [if_pos rfl] at this
  exact this
theorem Iter.least {S : Sys} {al ts rest : List Nat} {y : List Rat × List Nat} (h : Iter S al ts rest false y) (hS : SysOk S) : BestV S al ts false y.1 := by
  refine ⟨h.val.len, h.val.sz, fun s hs => h.val.sol.nonneg (pol_rt hS h.ok) s hs, h.val.sol.one, h.val.sol.out, fun s hs => ?_⟩
  rw [if_neg Bool.false_ne_true]
  exact ⟨_, h.ok.get (restOf_mem.mp hs).1, h.val.sol.fix s hs⟩
theorem chain_eq {S : Sys} {pi : List Nat} (h : PolOk S pi) : (List.range S.length).map (fun s => [chAt S s (pi.getD s 0)]) = restr S pi := by
  refine List.ext_getElem? fun s => ?_
  unfold restr
  rw [List.getElem?_map, List.getElem?_mapIdx]
  by_cases hs : s < S.length
  · rw [List.getElem?_range hs, (h.at hs).1]
    rfl
  · rw [List.getElem?_eq_none (by simp; omega), List.getElem?_eq_none (by rw [h.1]; omega)]
    rfl
section
variable {P : Program} {w : World} {K : PySem.W.Frag} {mg : Str → Option Value} {base : Heap} {TT : List Addr} {zZ zO : Addr}
theorem ok_greatest_chances {f f_rest_of f_ranked f_marks f_iterated f_ends_in : Addr} {fd : FuncData} (F : Fun K "greatest_chances" "greatest_chances" sgreatest_chances f fd) (T : Top K mg zZ zO)
    (h_rest_of : Has P w K mg base "rest_of" ["system", "allowed", "targets"] 1 (spRest TT K) f_rest_of) (h_ranked : Has P w K mg base "ranked" ["system", "rest", "start", "fits"] 3 (spRanked TT K f_ends_in) f_ranked) (h_marks : Has P w K mg base "marks" ["system", "states"] 1 (spMarks TT K) f_marks)
    (h_iterated : Has P w K mg base "iterated" ["system", "allowed", "targets", "rest", "policy", "most"] 7 (spIter TT K) f_iterated) (h_ends_in : Has P w K mg base "ends_in" ["ends", "known"] 2 (spEnds TT K endsIn) f_ends_in) :
    FnOk P w K mg base CX0 8 f fd ["system", "allowed", "targets"] (spGreat TT K true) := by
  refine F.ok scgreatest_chances (fun vs H Q E h => ?_) (fun cdv A outer s H vs Q E hr h => ?_)
  · obtain ⟨x, _, hA, _⟩ := h
    exact AC.len (fun _ h => AC.len (fun _ h => AC.len (fun _ h => A0.len h) h) h) hA
  · obtain ⟨⟨S, al, ts, _⟩, tb, hA, hS, k⟩ := h
    obtain ⟨v1, _, rfl, r1, v2, _, rfl, r2, v3, _, rfl, r3, rfl⟩ := hA
    have hS : SysOk S := hS
    have hSl := hS.len
    refine ⟨_, (pss_cons (ps_set (i := 3) scgreatest_chances.nd rfl (.inl rfl) (pe_has h_rest_of (hr.mono (by decide)) (by rfl) (pa_cons (pv 0) (pa_cons (pv 1) (pa_cons (pv 2) pa_nil)))))
      (pss_cons (ps_set (i := 4) scgreatest_chances.nd rfl (.inr rfl) (pe_ix ix_tup (pe_has h_ranked (hr.mono (by decide)) (by rfl) (pa_cons (pv 0) (pa_cons (pv 3) (pa_cons (pe_has h_marks (hr.mono (by decide)) (by rfl) (pa_cons (pv 0) (pa_cons (pv 2) pa_nil))) (pa_cons (pe_glob (v := .ref f_ends_in) (by rfl) h_ends_in.m rfl) pa_nil))))) pe_int (fun _ _ => rfl)))
      (pss_cons (ps_asg (pe_has h_iterated (hr.mono (by decide)) (by rfl) (pa_cons (pv 0) (pa_cons (pv 1) (pa_cons (pv 2) (pa_cons (pv 3) (pa_cons (pv 4) (pa_cons pe_bl pa_nil))))))) (pg_tup rfl (pgs_cons (pg_name (i := 5) scgreatest_chances.nd rfl (.inl rfl)) (pgs_cons (pg_name (i := 4) scgreatest_chances.nd rfl (.inr rfl)) pgs_nil))))
      (pss_cons (ps_setLc (i := 6) (own := [("state", 7)]) (g := _) rfl scgreatest_chances.nd rfl rfl (sw_true rfl rfl rfl (by decide +kernel)) (pi_range1 (by rfl) T.b_range (pa_cons (pe_callB call_len_seq (by rfl) T.b_len PySem.boot_len (pa_cons (pv 0) pa_nil)) pa_nil)) (blkOk_by (N := ["system", "allowed", "targets", "rest", "policy", "values", "chain", "state", "ranks"]) (sc := defScope sgreatest_chances) (by decide +kernel)) (fun _ _ _ _ _ => (pg_name (i := 7) scgreatest_chances.nd rfl (Or.inl rfl))) (fun _ _ _ _ _ => pts_nil) (fun _ _ _ _ _ => (pe_tup (pa_cons (pe_ix (kx_ix_tup (K := K) rfl) (pe_ix (kx_ix_tup (K := K) rfl) (pv 0) (pv 7) (fun _ _ => rfl)) (pe_ix (kx_ix_list (K := K) rfl) (pv 4) (pv 7) (fun _ _ => rfl)) (fun _ _ => rfl)) pa_nil))))
      (pss_cons (ps_set (i := 8) scgreatest_chances.nd rfl (.inl rfl) (pe_ix ix_tup (pe_has h_ranked (hr.mono (by decide)) (by rfl) (pa_cons (pv 6) (pa_cons (pv 3) (pa_cons (pe_has h_marks (hr.mono (by decide)) (by rfl) (pa_cons (pv 0) (pa_cons (pv 2) pa_nil))) (pa_cons (pe_glob (v := .ref f_ends_in) (by rfl) h_ends_in.m rfl) pa_nil))))) pe_int (fun _ _ => rfl)))
      (pss_one (ps_ret (pe_tup (pa_cons (pe_callTy call_tuple_of (by rfl) T.b_tuple (by decide +kernel) (pa_cons (pv 5) pa_nil)) (pa_cons (pe_callTy call_tuple_of (by rfl) T.b_tuple (by decide +kernel) (pa_cons (pv 4) pa_nil)) (pa_cons (pe_callTy call_tuple_of (by rfl) T.b_tuple (by decide +kernel) (pa_cons (pv 8) pa_nil)) pa_nil))))))))))), ?_⟩
    refine q_asgF (e_callF (f := fun x : Sys × List Nat × List Nat × Unit => restOf x.1.length x.2.1 x.2.2.1) tb (a_cons (e_var (r := RSys K) rfl r1) (a_cons (e_var (r := RL K RN) rfl r2) (a_cons (e_var (r := RL K RN) rfl r3) a_nil))) (by show S.length ≤ 100; omega)) fun pr wr H1 hnr e1 hpr halr => ?_
    have rR : RL K RN H1 (.ref pr) (restOf S.length al ts) := ⟨pr, wr, rfl, SqL.of hpr, halr⟩
    refine q_asgSnd (tb.ex e1) (a_cons (e_var (r := RSeq K) rfl (rt_rs (Mo.mo e1 r1))) (a_cons (e_var (r := RL K RN) rfl rR) (a_cons (e_callF (f := fun x : Sys × List Nat × Unit => marksOf x.1.length x.2.1) (tb.ex e1) (a_cons (e_var (r := RSeq K) rfl (rt_rs (Mo.mo e1 r1))) (a_cons (e_var (r := RL K RN) rfl (Mo.mo e1 r3)) a_nil)) (by show S.length ≤ 100; omega)).toR (a_cons (e_con (r := RF f_ends_in) (x := ()) rfl) a_nil))))
      ⟨hS, (show RestOk S.length (restOf S.length al ts) from rest_ok (by omega)), by show (marksOf S.length ts).length = S.length; simp [marksOf]⟩ fun y vp H2 hy e2 hvp => ?_
    have hP : PolOk S y.2 := hy.2
    have e02 := e1.trans e2
    refine q_asg2P (K := K) (tb.ex e02) (a_cons (e_var (r := RSys K) rfl (Mo.mo e02 r1)) (a_cons (e_var (r := RL K RN) rfl (Mo.mo e02 r2)) (a_cons (e_var (r := RL K RN) rfl (Mo.mo e02 r3)) (a_cons (e_var (r := RL K RN) rfl (Mo.mo e2 rR)) (a_cons (e_var (r := RL K RN) rfl hvp) (a_cons (e_bl (b := true)) a_nil)))))) ⟨hS, hP, rest_nodup, fun s hs => hs⟩ fun y2 va vb H3 hy2 e3 hva hvb => ?_
    have hI : Iter S al ts (restOf S.length al ts) true y2 := hy2
    have e03 := e02.trans e3
    refine q_asgF (f_range (r := RT K (RCh K)) (n := S.length) (fun _ => true) (fun s => [chAt S s (y2.2.getD s 0)]) (e_lenT (e_var (r := RSys K) rfl (Mo.mo e03 r1))) (by omega) (fun _ => rfl) (fun i H' hi e => fun H1 e1 Q q => q H1 (Evl.Ex.refl _)) (fun i H' hi _ e => e_single (e_ixT (r := RCh K) (xs := S.getD i []) (e_ixT (r := RT K (RCh K)) (xs := S) (e_var (r := RSys K) rfl (Mo.mo (e03.trans e) r1)) (e_var (r := RN) (x := i) rfl rfl) (sysAt hi)) (e_ixL (r := RN) (xs := y2.2) (e_var rfl (Mo.mo e hvb)) (e_var (r := RN) (x := i) rfl rfl) (hI.ok.at hi).1) (hI.ok.at hi).2))) fun pc wc H4 hnc e4 hpc halc => ?_
    rw [fm_true, chain_eq hI.ok] at halc
    have rc : RSeq K H4 (.ref pc) (restr S y2.2) := rl_rs ⟨pc, wc, rfl, SqL.of hpc, halc⟩
    have e04 := e03.trans e4
    refine q_asgFst (tb.ex e04) (a_cons (e_var (r := RSeq K) rfl rc) (a_cons (e_var (r := RL K RN) rfl (Mo.mo ((e2.trans e3).trans e4) rR)) (a_cons (e_callF (f := fun x : Sys × List Nat × Unit => marksOf x.1.length x.2.1) (tb.ex e04) (a_cons (e_var (r := RSeq K) rfl (rt_rs (Mo.mo e04 r1))) (a_cons (e_var (r := RL K RN) rfl (Mo.mo e04 r3)) a_nil)) (by show S.length ≤ 100; omega)).toR (a_cons (e_con (r := RF f_ends_in) (x := ()) rfl) a_nil))))
      ⟨restr_ok hI.ok hS, by show RestOk (restr S y2.2).length (restOf S.length al ts); rw [restr_len hI.ok]; exact rest_ok (by omega), by show (marksOf S.length ts).length = (restr S y2.2).length; rw [restr_len hI.ok]; simp [marksOf]⟩ fun y3 vr H5 hy3 e5 hvr => ?_
    refine s_ret (e_triple (K := K) (e_tupleL (r := RQ K) (e_var rfl (Mo.mo (e4.trans e5) hva))) (e_tupleL (r := RN) (e_var rfl (Mo.mo (e4.trans e5) hvb))).any (e_tupleL (r := RI) (e_var rfl hvr)).any) fun v H6 e6 hv => ?_
    exact k _ v H6 (hI.great hS) ((e04.trans e5).trans e6) hv
theorem ok_least_chances {f f_rest_of f_never f_all_in f_iterated f_ranks_of_all : Addr} {fd : FuncData} (F : Fun K "least_chances" "least_chances" sleast_chances f fd) (T : Top K mg zZ zO)
    (h_rest_of : Has P w K mg base "rest_of" ["system", "allowed", "targets"] 1 (spRest TT K) f_rest_of) (h_never : Has P w K mg base "never" ["system", "allowed", "targets"] 4 (spNever TT K) f_never) (h_all_in : Has P w K mg base "all_in" ["ends", "known"] 2 (spEnds TT K allIn) f_all_in)
    (h_iterated : Has P w K mg base "iterated" ["system", "allowed", "targets", "rest", "policy", "most"] 7 (spIter TT K) f_iterated) (h_ranks_of_all : Has P w K mg base "ranks_of_all" ["system", "rest", "start"] 4 (spRanks TT K) f_ranks_of_all) :
    FnOk P w K mg base CX0 8 f fd ["system", "allowed", "targets"] (spGreat TT K false) := by
  refine F.ok scleast_chances (fun vs H Q E h => ?_) (fun cdv A outer s H vs Q E hr h => ?_)
  · obtain ⟨x, _, hA, _⟩ := h
    exact AC.len (fun _ h => AC.len (fun _ h => AC.len (fun _ h => A0.len h) h) h) hA
  · obtain ⟨⟨S, al, ts, _⟩, tb, hA, hS, k⟩ := h
    obtain ⟨v1, _, rfl, r1, v2, _, rfl, r2, v3, _, rfl, r3, rfl⟩ := hA
    have hS : SysOk S := hS
    have hSl := hS.len
    refine ⟨_, (pss_cons (ps_set (i := 3) scleast_chances.nd rfl (.inl rfl) (pe_has h_rest_of (hr.mono (by decide)) (by rfl) (pa_cons (pv 0) (pa_cons (pv 1) (pa_cons (pv 2) pa_nil)))))
      (pss_cons (ps_set (i := 4) scleast_chances.nd rfl (.inr rfl) (pe_has h_never (hr.mono (by decide)) (by rfl) (pa_cons (pv 0) (pa_cons (pv 1) (pa_cons (pv 2) pa_nil)))))
      (pss_cons (ps_set (i := 5) scleast_chances.nd rfl (.inl rfl) (pe_op op_rep (pe_lst (pa_cons pe_int pa_nil)) (pe_callB call_len_seq (by rfl) T.b_len PySem.boot_len (pa_cons (pv 0) pa_nil))))
      (pss_cons (ps_for PassesOwn.never rfl (pi_list (pv 3)) (pg_name (i := 6) scleast_chances.nd rfl (.inr rfl)) (pss_one (ps_if (pt_val (pe_ix ix_list (pv 4) (pv 6) (fun _ _ => rfl))) (pss_one (ps_asg (pe_ix ix_list (pe_lc (own := [("n", 7)]) (g := _) rfl scleast_chances.nd (pi_range1 (by rfl) T.b_range (pa_cons (pe_callB call_len_seq (by rfl) T.b_len PySem.boot_len (pa_cons (pe_ix ix_tup (pv 0) (pv 6) (fun _ _ => rfl)) pa_nil)) pa_nil)) (blkOk_by (N := ["system", "allowed", "targets", "rest", "zero", "policy", "state", "n", "values", "s", "start"]) (sc := defScope sleast_chances) (by decide +kernel)) (fun _ _ _ _ _ => (pg_name (i := 7) scleast_chances.nd rfl (Or.inl rfl))) (fun _ _ _ _ _ => pts_one (pt_val (pe_has h_all_in (hr.mono (by decide)) (by rfl) (pa_cons (pe_ix (kx_ix_tup (K := K) rfl) (pe_ix (kx_ix_tup (K := K) rfl) (pe_ix (kx_ix_tup (K := K) rfl) (pv 0) (pv 6) (fun _ _ => rfl)) (pv 7) (fun _ _ => rfl)) pe_int (fun _ _ => rfl)) (pa_cons (pv 4) pa_nil))))) (fun _ _ _ _ _ => (pv 7))) pe_int (fun _ _ => rfl)) (pg_sub (pv 5) (pv 6) set_list))) pss_nil)))
      (pss_cons (ps_asg (pe_has h_iterated (hr.mono (by decide)) (by rfl) (pa_cons (pv 0) (pa_cons (pv 1) (pa_cons (pv 2) (pa_cons (pe_lc (own := [("s", 9)]) (g := _) rfl scleast_chances.nd (pi_list (pv 3)) (blkOk_by (N := ["system", "allowed", "targets", "rest", "zero", "policy", "state", "n", "values", "s", "start"]) (sc := defScope sleast_chances) (by decide +kernel)) (fun _ _ _ _ _ => (pg_name (i := 9) scleast_chances.nd rfl (Or.inl rfl))) (fun _ _ _ _ _ => pts_one (pt_not (pt_val (pe_ix (kx_ix_list (K := K) rfl) (pv 4) (pv 9) (fun _ _ => rfl))))) (fun _ _ _ _ _ => (pv 9))) (pa_cons (pv 5) (pa_cons pe_bl pa_nil))))))) (pg_tup rfl (pgs_cons (pg_name (i := 8) scleast_chances.nd rfl (.inr rfl)) (pgs_cons (pg_name (i := 5) scleast_chances.nd rfl (.inl rfl)) pgs_nil))))
      (pss_cons (ps_setLc (i := 10) (own := [("state", 6)]) (g := _) rfl scleast_chances.nd rfl rfl (sw_true rfl rfl rfl (by decide +kernel)) (pi_range1 (by rfl) T.b_range (pa_cons (pe_callB call_len_seq (by rfl) T.b_len PySem.boot_len (pa_cons (pv 0) pa_nil)) pa_nil)) (blkOk_by (N := ["system", "allowed", "targets", "rest", "zero", "policy", "state", "n", "values", "s", "start"]) (sc := defScope sleast_chances) (by decide +kernel)) (fun _ _ _ _ _ => (pg_name (i := 6) scleast_chances.nd rfl (Or.inl rfl))) (fun _ _ _ _ _ => pts_nil) (fun _ _ _ _ _ => (pe_or (pe_cmpR (kx_op_in_seq (K := K) rfl) (pv 6) (pv 2) (by rfl)) (pe_one (pe_cmpR (kx_op_eqD (K := K) rfl hr.units) (pe_ix (kx_ix_list (K := K) rfl) (pv 8) (pv 6) (fun _ _ => rfl)) (pe_glob (v := .ref zZ) (by rfl) T.mZERO rfl) (nomark _))))))
      (pss_one (ps_ret (pe_tup (pa_cons (pe_callTy call_tuple_of (by rfl) T.b_tuple (by decide +kernel) (pa_cons (pv 8) pa_nil)) (pa_cons (pe_callTy call_tuple_of (by rfl) T.b_tuple (by decide +kernel) (pa_cons (pv 5) pa_nil)) (pa_cons (pe_callTy call_tuple_of (by rfl) T.b_tuple (by decide +kernel) (pa_cons (pe_has h_ranks_of_all (hr.mono (by decide)) (by rfl) (pa_cons (pv 0) (pa_cons (pv 3) (pa_cons (pv 10) pa_nil)))) pa_nil)) pa_nil)))))))))))), ?_⟩
    refine q_asgF (e_callF (f := fun x : Sys × List Nat × List Nat × Unit => restOf x.1.length x.2.1 x.2.2.1) tb (a_cons (e_var (r := RSys K) rfl r1) (a_cons (e_var (r := RL K RN) rfl r2) (a_cons (e_var (r := RL K RN) rfl r3) a_nil))) (by show S.length ≤ 100; omega)) fun pr wr H1 hnr e1 hpr halr => ?_
    have rR : RL K RN H1 (.ref pr) (restOf S.length al ts) := ⟨pr, wr, rfl, SqL.of hpr, halr⟩
    refine q_asgPF (tb.ex e1) (a_cons (e_var (r := RSys K) rfl (Mo.mo e1 r1)) (a_cons (e_var (r := RL K RN) rfl (Mo.mo e1 r2)) (a_cons (e_var (r := RL K RN) rfl (Mo.mo e1 r3)) a_nil))) hS fun ze pz wz H2 hz hnz e2 hpz halz => ?_
    have hZ : Nev S al ts ze := hz
    have rZ : RL K RB H2 (.ref pz) ze := ⟨pz, wz, rfl, SqL.of hpz, halz⟩
    have e02 := e1.trans e2
    refine q_asgF (f_rep (n := S.length) (r := RN) e_zero (e_lenT (e_var (r := RSys K) rfl (Mo.mo e02 r1))) (by omega)) fun pp wp H3 hnp e3 hpp halp => ?_
    have OP : Own RN H2 pp H3 (List.replicate S.length 0) := Own.of hnp hpp halp
    have P0 : PolOk S (List.replicate S.length 0) := .of_getD (by simp) fun s hs => by
      rw [List.getD_eq_getElem?_getD, List.getElem?_replicate, if_pos hs]
      exact (hS.at hs).1.1
    refine q_forLv (s := RN) (Hb := H2) (u := .ref pr) (xs := restOf S.length al ts) rfl (Mo.mo e2 rR) (fun i σ' H' => ∃ a6 pi, σ' = [some v1, some v2, some v3, some (.ref pr), some (.ref pz), some (.ref pp), a6, none, none, none, none] ∧ Ex H2 H' ∧ Own RN H2 pp H' pi ∧ PolOk S pi)
      ⟨none, _, rfl, e3, OP, P0⟩ (fun i σ' H' ⟨_, _, _, h, _⟩ => h) (fun i s vs σ' H' hx hP' hs => ?_) (fun σ' H' hP' => ?_)
    · obtain ⟨a6, pi, rfl, e4, OP, hP⟩ := hP'
      have hsr := List.mem_of_getElem? hx
      have hsn := (restOf_mem.mp hsr).1
      have hSs := hS.at hsn
      have hzl : s < ze.length := by rw [hZ.len]; exact hsn
      refine Evl.s_when (t_val (e_ixL (r := RB) (e_var rfl (Mo.mo e4 rZ)) (e_var (r := RN) rfl hs) (bAt_get hzl))) (fun hb H5 e5 => ?_) (fun hb H5 e5 => ?_)
      · have e45 := e4.trans e5
        obtain ⟨c, hc, hcin⟩ := List.any_eq_true.mp (hZ.all s hsr hb)
        obtain ⟨c0, hc0⟩ : ∃ c0, (fm (fun c => allIn (chAt S s c).2 ze) (fun c => c) (S.getD s []).length)[0]? = some c0 := by
          obtain ⟨j, hj, rfl⟩ := List.getElem_of_mem hc
          have hm : j ∈ fm (fun c => allIn (chAt S s c).2 ze) (fun c => c) (S.getD s []).length := by
            unfold fm
            rw [List.map_id', List.mem_filter, List.mem_range]
            refine ⟨hj, ?_⟩
            have : chAt S s j = (S.getD s [])[j] := by
              rw [← chAt_eq, List.getD_eq_getElem?_getD (l := S.getD s []), List.getElem?_eq_getElem hj]
              rfl
            rw [this]
            exact hcin
          revert hm
          generalize fm (fun c => allIn (chAt S s c).2 ze) (fun c => c) (S.getD s []).length = l
          intro hm
          cases l with
          | nil => cases hm
          | cons x r => exact ⟨x, rfl⟩
        have hc0l : c0 < (S.getD s []).length := by
          have := List.mem_of_getElem? hc0
          unfold fm at this
          rw [List.map_id', List.mem_filter, List.mem_range] at this
          exact this.1
        refine s_setO (r := RN) (y := c0) (i := s) (OP.ex e5) e45 (e_ixL (r := RN) (i := 0) (f_range (r := RN) (n := (S.getD s []).length) (fun c => allIn (chAt S s c).2 ze) (fun c => c) (e_lenT (r := RCh K) (e_ixT (r := RT K (RCh K)) (xs := S) (e_var (r := RSys K) rfl (Mo.mo (e02.trans e45) r1)) (e_var (r := RN) rfl hs) (sysAt hsn))) (by have := hSs.1; omega) (fun _ => rfl) (fun c H'' hc e => ?_) (fun c H'' hc _ e => e_var rfl rfl)).toR e_zero hc0) (Evl.ev_var rfl) (e_var (r := RN) rfl hs) (by rw [hP.1]; exact hsn) fun H6 u6 w6 e6 hp6 ex6 OP6 => ?_
        · have hcx : (S.getD s [])[c]? = some (chAt S s c) := by
            rw [← chAt_eq, List.getD_eq_getElem?_getD (l := S.getD s []), List.getElem?_eq_getElem hc]
            rfl
          refine t_val (e_call (f := fun x : EndL × List Bool × Unit => allIn x.1 x.2.1) (tb.ex ((e02.trans e45).trans e)) (a_cons (e_snd (r := RN) (s := REnds K) (e_ixT (r := RCh K) (xs := S.getD s []) (e_ixT (r := RT K (RCh K)) (xs := S) (e_var (r := RSys K) rfl (Mo.mo ((e02.trans e45).trans e) r1)) (e_var (r := RN) rfl hs) (sysAt hsn)) (e_var (r := RN) (x := c) rfl rfl) hcx)) (a_cons (e_var (r := RL K RB) rfl (Mo.mo (e45.trans e) rZ)) a_nil)) ?_)
          show EndsOk ze.length (chAt S s c).2
          rw [hZ.len]
          exact hS.endsAt hsn (List.mem_of_getElem? hcx)
        · exact ⟨_, _, rfl, ex6, OP6, hP.set hsn hc0l⟩
      · exact ⟨_, pi, rfl, e4.trans e5, OP.ex e5, hP⟩
    · obtain ⟨a6, pi, rfl, e4, OP, hP⟩ := hP'
      have e04 := e02.trans e4
      refine q_asg2P (K := K) (tb.ex e04) (a_cons (e_var (r := RSys K) rfl (Mo.mo e04 r1)) (a_cons (e_var (r := RL K RN) rfl (Mo.mo e04 r2)) (a_cons (e_var (r := RL K RN) rfl (Mo.mo e04 r3)) (a_cons (f_list (r := RN) (s := RN) (xs := restOf S.length al ts) (fun s => !bAt ze s) (fun s => s) (e_var rfl (Mo.mo (e2.trans e4) rR)) (by have := restOf_len (n := S.length) (al := al) (ts := ts); omega) (fun _ => rfl) (fun i s v H' hx e hv => Evl.et_not (t_val (e_ixL (r := RB) (e_var rfl (Mo.mo (e4.trans e) rZ)) (e_var (r := RN) rfl hv) (bAt_get (by rw [hZ.len]; exact (restOf_mem.mp (List.mem_of_getElem? hx)).1))))) (fun i s v H' hx _ e hv => e_var rfl hv)).toR (a_cons (e_var (r := RL K RN) rfl OP.rl) (a_cons (e_bl (b := false)) a_nil))))))
        ⟨hS, hP, by rw [List.map_id']; exact rest_nodup.sublist List.filter_sublist, fun s hs => by rw [List.map_id'] at hs; exact (List.mem_filter.mp hs).1⟩ fun y2 va vb H5 hy2 e5 hva hvb => ?_
      have hI : Iter S al ts _ false y2 := hy2
      have e05 := e04.trans e5
      have hyl := hI.val.len
      refine q_asgF (f_range (r := RB) (n := S.length) (fun _ => true) (fun s => decide (s ∈ ts) || decide (at0 y2.1 s = 0)) (e_lenT (e_var (r := RSys K) rfl (Mo.mo e05 r1))) (by omega) (fun _ => rfl) (fun i H' hi e => fun H1 e1 Q q => q H1 (Evl.Ex.refl _)) (fun i H' hi _ e => e_or (e_in (e_var rfl rfl) (e_var rfl (Mo.mo (e05.trans e) r3))) fun _ => e_eqD dok_rat (by omega) (e_ixL (r := RQ K) (xs := y2.1) (e_var rfl (Mo.mo e hva)) (e_var (r := RN) (x := i) rfl rfl) (at0_get (by rw [hyl]; exact hi))) (e_con (T.zero H')))) fun pt wt H6 hnt e6 hpt halt => ?_
      have e06 := e05.trans e6
      refine s_ret (e_triple (K := K) (e_tupleL (r := RQ K) (e_var rfl (Mo.mo e6 hva))) (e_tupleL (r := RN) (e_var rfl (Mo.mo e6 hvb))).any (ev_tupCall (K := K) (tb.ex e06) (a_cons (e_var (r := RSys K) rfl (Mo.mo e06 r1)) (a_cons (e_var (r := RL K RN) rfl (Mo.mo (((e2.trans e4).trans e5).trans e6) rR)) (a_cons (e_var (r := RL K RB) rfl ⟨pt, wt, rfl, SqL.of hpt, halt⟩) a_nil))) ⟨hS, (show RestOk S.length (restOf S.length al ts) from rest_ok (by omega)), by rw [fm_true]; simp⟩)) fun v H7 e7 hv => ?_
      exact k _ v H7 (hI.least hS) (e06.trans e7) hv
theorem ok_best_chances {f f_greatest_chances f_least_chances : Addr} {fd : FuncData} (F : Fun K "best_chances" "best_chances" sbest_chances f fd) (T : Top K mg zZ zO)
    (h_greatest_chances : Has P w K mg base "greatest_chances" ["system", "allowed", "targets"] 8 (spGreat TT K true) f_greatest_chances) (h_least_chances : Has P w K mg base "least_chances" ["system", "allowed", "targets"] 8 (spGreat TT K false) f_least_chances) :
    FnOk P w K mg base CX0 9 f fd ["system", "allowed", "targets", "most"] (spBest TT K) := by
  refine F.ok scbest_chances (fun vs H Q E h => ?_) (fun cdv A outer s H vs Q E hr h => ?_)
  · obtain ⟨x, _, hA, _⟩ := h
    exact AC.len (fun _ h => AC.len (fun _ h => AC.len (fun _ h => AC.len (fun _ h => A0.len h) h) h) h) hA
  · obtain ⟨⟨S, al, ts, m, _⟩, tb, hA, hS, k⟩ := h
    obtain ⟨v1, _, rfl, r1, v2, _, rfl, r2, v3, _, rfl, r3, v4, _, rfl, r4, rfl⟩ := hA
    have hS : SysOk S := hS
    refine ⟨_, (pss_cons (ps_if (pt_val (pv 3)) (pss_one (ps_ret (pe_has h_greatest_chances (hr.mono (by decide)) (by rfl) (pa_cons (pv 0) (pa_cons (pv 1) (pa_cons (pv 2) pa_nil)))))) pss_nil)
      (pss_one (ps_ret (pe_has h_least_chances (hr.mono (by decide)) (by rfl) (pa_cons (pv 0) (pa_cons (pv 1) (pa_cons (pv 2) pa_nil))))))), ?_⟩
    refine Evl.q_when (t_val (e_var rfl r4)) (fun hm H1 e1 => ?_) (fun hm H1 e1 => ?_)
    · have hm : m = true := hm
      subst hm
      exact s_retP (tb.ex e1) (a_cons (e_var (r := RSys K) rfl (Mo.mo e1 r1)) (a_cons (e_var (r := RL K RN) rfl (Mo.mo e1 r2)) (a_cons (e_var (r := RL K RN) rfl (Mo.mo e1 r3)) a_nil))) hS fun y v H2 hy e2 hv => k y v H2 hy (e1.trans e2) hv
    · have hm : m = false := hm
      subst hm
      exact s_retP (tb.ex e1) (a_cons (e_var (r := RSys K) rfl (Mo.mo e1 r1)) (a_cons (e_var (r := RL K RN) rfl (Mo.mo e1 r2)) (a_cons (e_var (r := RL K RN) rfl (Mo.mo e1 r3)) a_nil))) hS fun y v H2 hy e2 hv => k y v H2 hy (e1.trans e2) hv
end
end BO

/-! the mirror: so many steps -/
namespace BO
def pE' (S : Sys) (pi : List Nat) (s : Nat) : EndL := (chAt S s (pi.getD s 0)).2
/-- one step by a policy -/
def stp (S : Sys) (rest pi : List Nat) (vs : List Rat) : List Rat := vs.mapIdx fun s x => if s ∈ rest then mean (pE' S pi s) vs else x
def fol (S : Sys) (rest : List Nat) (vs : List Rat) (ps : List (List Nat)) : List Rat := ps.foldl (fun v p => stp S rest p v) vs
section
variable {S : Sys} {rest pi : List Nat} {vs ws : List Rat} {ps : List (List Nat)} {n : Nat}
theorem stp_len : (stp S rest pi vs).length = vs.length := List.length_mapIdx ..
theorem fol_len : (fol S rest vs ps).length = vs.length := by
  induction ps generalizing vs with
  | nil => rfl
  | cons p r ih =>
    show (fol S rest (stp S rest p vs) r).length = _
    rw [ih, stp_len]
theorem stp_at {s : Nat} (h : s < vs.length) : at0 (stp S rest pi vs) s = if s ∈ rest then mean (pE' S pi s) vs else at0 vs s := by
  unfold stp at0
  rw [List.getD_eq_getElem?_getD, List.getElem?_mapIdx, List.getD_eq_getElem?_getD, List.getElem?_eq_getElem h]
  rfl
theorem fol_snoc : fol S rest vs (ps ++ [pi]) = stp S rest pi (fol S rest vs ps) := by
  unfold fol
  rw [List.foldl_append]
  rfl
def LeV (n : Nat) (a b : List Rat) : Prop := ∀ s, s < n → at0 a s ≤ at0 b s
theorem LeV.refl : LeV n vs vs := fun _ _ => by grind
theorem LeV.trans {c : List Rat} (h1 : LeV n vs ws) (h2 : LeV n ws c) : LeV n vs c := fun s hs => by
  have := h1 s hs
  have := h2 s hs
  grind
/-- each policy of the list may be followed -/
def EndsP (S : Sys) (n : Nat) (rest : List Nat) (pi : List Nat) : Prop := ∀ s ∈ rest, EndsOk n (pE' S pi s)
theorem stp_mono (hE : EndsP S n rest pi) (h1 : vs.length = n) (h2 : ws.length = n) (h : LeV n vs ws) : LeV n (stp S rest pi vs) (stp S rest pi ws) := fun s hs => by
  rw [stp_at (by omega), stp_at (by omega)]
  split
  · rename_i hr
    exact avg_mono (hE s hr) fun e he => h e.1 ((hE s hr).mem e he).1
  · exact h s hs
theorem fol_mono (hE : ∀ p ∈ ps, EndsP S n rest p) (h1 : vs.length = n) (h2 : ws.length = n) (h : LeV n vs ws) : LeV n (fol S rest vs ps) (fol S rest ws ps) := by
  induction ps generalizing vs ws with
  | nil => exact h
  | cons p r ih =>
    exact ih (fun q hq => hE q (List.mem_cons_of_mem _ hq)) (by rw [stp_len]; exact h1) (by rw [stp_len]; exact h2) (stp_mono (hE p List.mem_cons_self) h1 h2 h)
/-- none of the choices is better than the policy's -/
def OptP (S : Sys) (rest : List Nat) (most : Bool) (vs : List Rat) (pi : List Nat) : Prop := ∀ s ∈ rest, ∀ c, c < (S.getD s []).length → bett (mean (chAt S s c).2 vs) (mean (pE' S pi s) vs) most = false
def LeM (most : Bool) (n : Nat) (a b : List Rat) : Prop := if most then LeV n a b else LeV n b a
theorem stp_opt {most : Bool} {q : List Nat} (hO : OptP S rest most vs pi) (hl : vs.length = n) (hq : ∀ s ∈ rest, q.getD s 0 < (S.getD s []).length) : LeM most n (stp S rest q vs) (stp S rest pi vs) := by
  have key : ∀ s ∈ rest, if most then mean (pE' S q s) vs ≤ mean (pE' S pi s) vs else mean (pE' S pi s) vs ≤ mean (pE' S q s) vs := fun s hs => bett_le (hO s hs _ (hq s hs))
  cases most with
  | true =>
    show LeV n _ _
    intro s hs
    rw [stp_at (by omega), stp_at (by omega)]
    split
    · rename_i hr
      have := key s hr
      rw [if_pos rfl] at this
      exact this
    · grind
  | false =>
    show LeV n _ _
    intro s hs
    rw [stp_at (by omega), stp_at (by omega)]
    split
    · rename_i hr
      have := key s hr
      rw [if_neg Bool.false_ne_true] at this
      exact this
    · grind
/-- told values and policies -/
structure Bnd (S : Sys) (rest : List Nat) (most : Bool) (b vs : List Rat) (ps : List (List Nat)) : Prop where
  eq : vs = fol S rest b ps
  opt : ∀ (i : Nat) (p : List Nat), ps[i]? = some p → OptP S rest most (fol S rest b (ps.take i)) p
def ValidP (S : Sys) (rest : List Nat) (p : List Nat) : Prop := ∀ s ∈ rest, p.getD s 0 < (S.getD s []).length
/-- no policies have better values -/
theorem Bnd.dom {most : Bool} {b : List Rat} {qs : List (List Nat)} (h : Bnd S rest most b vs ps) (hb : b.length = n) (hE : ∀ q ∈ qs, EndsP S n rest q ∧ ValidP S rest q) (hl : qs.length = ps.length) : LeM most n (fol S rest b qs) vs := by
  have key : ∀ i, i ≤ ps.length → LeM most n (fol S rest b (qs.take i)) (fol S rest b (ps.take i)) := by
    intro i
    induction i with
    | zero =>
      intro _
      rw [List.take_zero, List.take_zero]
      cases most <;> exact LeV.refl
    | succ i ih =>
      intro hi
      have ep : ps[i]? = some ps[i] := List.getElem?_eq_getElem (by omega)
      have eq : qs[i]? = some qs[i] := List.getElem?_eq_getElem (by omega)
      rw [take_succ' ep, take_succ' eq, fol_snoc, fol_snoc]
      have hq := hE qs[i] (List.getElem_mem _)
      have l1 : (fol S rest b (qs.take i)).length = n := by rw [fol_len, hb]
      have l2 : (fol S rest b (ps.take i)).length = n := by rw [fol_len, hb]
      have o := stp_opt (h.opt i _ ep) l2 hq.2
      have m := ih (by omega)
      cases most with
      | true => exact (stp_mono hq.1 l1 l2 m).trans o
      | false => exact LeV.trans o (stp_mono hq.1 l2 l1 m)
  have := key ps.length (Nat.le_refl _)
  rw [List.take_length, ← hl, List.take_length] at this
  rw [h.eq]
  exact this
/-- the start is below one step more -/
def IsBase (n : Nat) (rest : List Nat) (b : List Rat) : Prop := b.length = n ∧ (∀ s, s < n → 0 ≤ at0 b s) ∧ ∀ s ∈ rest, at0 b s = 0
theorem base_le {b : List Rat} (hB : IsBase n rest b) (hE : EndsP S n rest pi) : LeV n b (stp S rest pi b) := fun s hs => by
  rw [stp_at (by rw [hB.1]; exact hs)]
  split
  · rename_i hr
    rw [hB.2.2 s hr]
    exact avg_ge (hE s hr) fun e he => hB.2.1 e.1 ((hE s hr).mem e he).1
  · grind
/-- more steps: no less -/
theorem Bnd.more {most : Bool} {b : List Rat} {qs : List (List Nat)} (h : Bnd S rest most b vs ps) (h' : Bnd S rest most b ws qs) (hB : IsBase n rest b) (hP : ∀ p ∈ ps, EndsP S n rest p ∧ ValidP S rest p) (hQ : ∀ q ∈ qs, EndsP S n rest q ∧ ValidP S rest q)
    (hl : qs.length = ps.length + 1) : LeV n vs ws := by
  cases qs with
  | nil => simp at hl
  | cons q r =>
    have hq := hQ q List.mem_cons_self
    have hr : ∀ x ∈ r, EndsP S n rest x ∧ ValidP S rest x := fun x hx => hQ x (List.mem_cons_of_mem _ hx)
    have hlr : r.length = ps.length := by simpa using hl
    cases most with
    | true =>
      have d : LeV n (fol S rest b (q :: ps)) ws := h'.dom hB.1 (fun x hx => by
        rcases List.mem_cons.mp hx with rfl | hx
        · exact hq
        · exact hP x hx) (by simp [hlr])
      have m : LeV n (fol S rest b ps) (fol S rest (stp S rest q b) ps) := fol_mono (fun p hp => (hP p hp).1) hB.1 (by rw [stp_len]; exact hB.1) (base_le hB hq.1)
      rw [h.eq]
      exact m.trans d
    | false =>
      have d : LeV n vs (fol S rest b r) := h.dom hB.1 hr hlr
      have m : LeV n (fol S rest b r) (fol S rest (stp S rest q b) r) := fol_mono (fun p hp => (hr p hp).1) hB.1 (by rw [stp_len]; exact hB.1) (base_le hB hq.1)
      rw [h'.eq]
      exact d.trans m
/-- values that no step makes greater: above -/
theorem Bnd.below {most : Bool} {b V : List Rat} (h : Bnd S rest most b vs ps) (hb : LeV n b V) (hbl : b.length = n) (hVl : V.length = n) (hP : ∀ p ∈ ps, EndsP S n rest p ∧ ValidP S rest p)
    (hV : ∀ s ∈ rest, if most then ∀ c, c < (S.getD s []).length → mean (chAt S s c).2 V ≤ at0 V s else ∃ c, c < (S.getD s []).length ∧ EndsOk n (chAt S s c).2 ∧ mean (chAt S s c).2 V ≤ at0 V s) : LeV n vs V := by
  have key : ∀ i, i ≤ ps.length → LeV n (fol S rest b (ps.take i)) V := by
    intro i
    induction i with
    | zero =>
      intro _
      rw [List.take_zero]
      exact hb
    | succ i ih =>
      intro hi
      have ep : ps[i]? = some ps[i] := List.getElem?_eq_getElem (by omega)
      rw [take_succ' ep, fol_snoc]
      have hp := hP ps[i] (List.getElem_mem _)
      have l2 : (fol S rest b (ps.take i)).length = n := by rw [fol_len, hbl]
      have m := ih (by omega)
      intro s hs
      rw [stp_at (by omega)]
      split
      · rename_i hr
        have hv := hV s hr
        cases most with
        | true =>
          rw [if_pos rfl] at hv
          have h1 : mean (pE' S ps[i] s) (fol S rest b (ps.take i)) ≤ mean (pE' S ps[i] s) V := avg_mono (hp.1 s hr) fun e he => m e.1 ((hp.1 s hr).mem e he).1
          have h2 := hv _ (hp.2 s hr)
          have h2 : mean (pE' S ps[i] s) V ≤ at0 V s := h2
          grind
        | false =>
          rw [if_neg Bool.false_ne_true] at hv
          obtain ⟨c, hc, hE, hle⟩ := hv
          have h1 := bett_le (h.opt i _ ep s hr c hc)
          rw [if_neg Bool.false_ne_true] at h1
          have h2 : mean (chAt S s c).2 (fol S rest b (ps.take i)) ≤ mean (chAt S s c).2 V := avg_mono hE fun e he => m e.1 (hE.mem e he).1
          grind
      · exact m s hs
  have := key ps.length (Nat.le_refl _)
  rw [List.take_length] at this
  rw [h.eq]
  exact this
end
/-! sizes -/
def CD (N : Nat) (vs : List Rat) : Prop := ∃ D : Nat, 0 < D ∧ D ≤ N ∧ ∀ s, ∃ p : Nat, p ≤ D ∧ at0 vs s = (p : Rat) / (D : Rat)
theorem CD.le {N M : Nat} {vs : List Rat} (h : CD N vs) (hle : N ≤ M) : CD M vs := by
  obtain ⟨D, h1, h2, h3⟩ := h
  exact ⟨D, h1, Nat.le_trans h2 hle, h3⟩
theorem CD.sz {k : Nat} {vs : List Rat} (h : CD (2 ^ k) vs) : allSz (k + 1) vs := fun q hq => by
  obtain ⟨D, h1, h2, h3⟩ := h
  obtain ⟨j, hj, rfl⟩ := List.getElem_of_mem hq
  obtain ⟨p, hp, e⟩ := h3 j
  have e2 := at0_get hj
  rw [List.getElem?_eq_getElem hj] at e2
  rw [Option.some.inj e2, e, divN]
  have : 2 ^ k < 2 ^ (k + 1) := Nat.pow_lt_pow_right (by omega) (by omega)
  exact sz_divInt (by omega) (by omega) (by omega)
def prW (f : Nat → Nat) : List Nat → Nat
  | [] => 1
  | s :: r => f s * prW f r
theorem prW_pos {f : Nat → Nat} : ∀ {l : List Nat}, (∀ s ∈ l, 0 < f s) → 0 < prW f l
  | [], _ => Nat.one_pos
  | s :: r, h => Nat.mul_pos (h s List.mem_cons_self) (prW_pos fun x hx => h x (List.mem_cons_of_mem _ hx))
theorem prW_dvd {f : Nat → Nat} : ∀ {l : List Nat} {s : Nat}, s ∈ l → ∃ m, prW f l = f s * m
  | t :: r, s, h => by
    rcases List.mem_cons.mp h with rfl | h
    · exact ⟨_, rfl⟩
    · obtain ⟨m, hm⟩ := prW_dvd h
      refine ⟨f t * m, ?_⟩
      show f t * prW f r = _
      rw [hm, Nat.mul_left_comm]
theorem prW_le {f : Nat → Nat} {b : Nat} (hb : 1 ≤ b) : ∀ {l : List Nat} {k : Nat}, (∀ s ∈ l, f s ≤ b) → l.length ≤ k → prW f l ≤ b ^ k
  | [], k, _, _ => Nat.one_le_pow _ _ (by omega)
  | s :: r, 0, _, h => by simp at h
  | s :: r, k + 1, h, hl => by
    show f s * prW f r ≤ b ^ (k + 1)
    rw [Nat.pow_succ, Nat.mul_comm]
    exact Nat.mul_le_mul (prW_le hb (fun x hx => h x (List.mem_cons_of_mem _ hx)) (by simpa using hl)) (h s List.mem_cons_self)
def psN : EndL → (Nat → Nat) → Nat
  | [], _ => 0
  | e :: r, f => e.2 * f e.1 + psN r f
theorem psN_le {f : Nat → Nat} {D : Nat} (h : ∀ g, f g ≤ D) : ∀ es : EndL, psN es f ≤ wsum es * D
  | [] => by simp [psN]
  | e :: r => by
    show e.2 * f e.1 + psN r f ≤ _
    have hw : wsum (e :: r) = e.2 + wsum r := by unfold wsum; rw [List.map_cons, List.sum_cons]
    rw [hw, Nat.add_mul]
    exact Nat.add_le_add (Nat.mul_le_mul_left _ (h _)) (psN_le h r)
theorem psum_psN {f : Nat → Nat} {D : Nat} {v : Nat → Rat} (h : ∀ g, v g = (f g : Rat) / (D : Rat)) : ∀ es : EndL, psum es v = (psN es f : Rat) / (D : Rat)
  | [] => by
    show (0 : Rat) = ((0 : Nat) : Rat) / (D : Rat)
    rw [Rat.div_def]
    show (0 : Rat) = (0 : Rat) * _
    rw [Rat.zero_mul]
  | e :: r => by
    show (e.2 : Rat) * v e.1 + psum r v = ((e.2 * f e.1 + psN r f : Nat) : Rat) / (D : Rat)
    rw [psum_psN h r, h e.1, Rat.natCast_add, Rat.natCast_mul, Rat.div_def, Rat.div_def, Rat.div_def]
    grind
theorem frac_scale {a b c : Nat} (hc : 0 < c) : (a : Rat) / (b : Rat) = ((a * c : Nat) : Rat) / ((b * c : Nat) : Rat) := by
  rw [divN, divN]
  have : ((a * c : Nat) : Int) = (a : Int) * (c : Int) := by omega
  rw [Int.natCast_mul, Int.natCast_mul]
  exact (Rat.divInt_mul_right (by omega)).symm
theorem frac_div {a b c : Nat} : (a : Rat) / (b : Rat) / (c : Rat) = (a : Rat) / ((b * c : Nat) : Rat) := by
  rw [Rat.natCast_mul, Rat.div_def, Rat.div_def, Rat.div_def, Rat.inv_mul_rev]
  grind
theorem CD.stp {S : Sys} {rest pi : List Nat} {vs : List Rat} {n N : Nat} (h : CD N vs) (hl : vs.length = n) (hE : EndsP S n rest pi) (hr : rest.length ≤ 4) : CD (N * 2 ^ 48) (stp S rest pi vs) := by
  obtain ⟨D, h1, h2, h3⟩ := h
  have hpos : 0 < prW (fun s => wsum (pE' S pi s)) rest := prW_pos fun s hs => wsum_pos (hE s hs)
  have hle : prW (fun s => wsum (pE' S pi s)) rest ≤ 4000 ^ 4 := prW_le (by omega) (fun s hs => wsum_le (hE s hs)) hr
  let f : Nat → Nat := fun g => (h3 g).choose
  have hf : ∀ g, f g ≤ D ∧ at0 vs g = (f g : Rat) / (D : Rat) := fun g => (h3 g).choose_spec
  refine ⟨D * prW (fun s => wsum (pE' S pi s)) rest, Nat.mul_pos h1 hpos, Nat.mul_le_mul h2 (Nat.le_trans hle (by decide)), fun s => ?_⟩
  by_cases hs : s < n
  · rw [stp_at (by omega)]
    split
    · rename_i hr
      obtain ⟨m, hm⟩ := prW_dvd (f := fun s => wsum (pE' S pi s)) hr
      have hm0 : 0 < m := Nat.pos_of_ne_zero fun z => by rw [hm, z] at hpos; simp at hpos
      refine ⟨psN (pE' S pi s) f * m, ?_, ?_⟩
      · rw [hm, ← Nat.mul_assoc]
        refine Nat.mul_le_mul_right _ ?_
        rw [Nat.mul_comm D]
        exact psN_le (fun g => (hf g).1) _
      · show psum (pE' S pi s) (at0 vs) / (wsum (pE' S pi s) : Rat) = _
        rw [psum_psN (fun g => (hf g).2), frac_div, frac_scale hm0, hm, ← Nat.mul_assoc]
    · exact ⟨f s * prW (fun s => wsum (pE' S pi s)) rest, Nat.mul_le_mul_right _ (hf s).1, by rw [(hf s).2]; exact frac_scale hpos⟩
  · refine ⟨0, Nat.zero_le _, ?_⟩
    have : at0 (BO.stp S rest pi vs) s = 0 := by
      unfold at0
      rw [List.getD_eq_getElem?_getD, List.getElem?_eq_none (by rw [stp_len]; omega)]
      rfl
    rw [this, Rat.div_def]
    exact (Rat.zero_mul _).symm
theorem CD.fol {S : Sys} {rest : List Nat} {ps : List (List Nat)} {n : Nat} (hr : rest.length ≤ 4) (hE : ∀ p ∈ ps, EndsP S n rest p) : ∀ {vs : List Rat} {k : Nat}, CD (2 ^ k) vs → vs.length = n → CD (2 ^ (k + 48 * ps.length)) (fol S rest vs ps) := by
  induction ps with
  | nil => intro vs k h _; exact h
  | cons p r ih =>
    intro vs k h hl
    have h1 := h.stp hl (hE p List.mem_cons_self) hr
    rw [← Nat.pow_add] at h1
    have h2 := ih (fun q hq => hE q (List.mem_cons_of_mem _ hq)) h1 (by rw [stp_len]; exact hl)
    have e : k + 48 + 48 * r.length = k + 48 * (p :: r).length := by rw [List.length_cons]; omega
    rw [e] at h2
    exact h2
end BO

namespace BO
open PySem PySem.Spec PyProof.Rows L2
abbrev sbounded_chances : Stmt := topS 32
theorem scbounded_chances : FnScope ["system", "allowed", "targets", "steps", "most", "rest", "values", "state", "policies", "_", "new", "policy", "numbers"] ["system", "allowed", "targets", "steps", "most"] (defScope sbounded_chances) := ⟨rfl, rfl, rfl, by decide +kernel, rfl, by decide +kernel, by decide +kernel⟩

structure BndPost (S : Sys) (al ts : List Nat) (steps : Nat) (most : Bool) (y : List Rat × List (List Nat)) : Prop where
  len : y.2.length = steps
  bnd : Bnd S (restOf S.length al ts) most (bas S.length ts) y.1 y.2
  ok : ∀ p ∈ y.2, PolOk S p
abbrev spBnd (TT : List Addr) (K : PySem.W.Frag) : Sp := spP TT (AC (RSys K) (AC (RL K RN) (AC (RL K RN) (AC RN (AC RB A0))))) (fun x => SysOk x.1 ∧ x.2.2.2.1 ≤ 7) (RP K (RL K (RQ K)) (RL K (RT K RN))) fun x y => BndPost x.1 x.2.1 x.2.2.1 x.2.2.2.1 x.2.2.2.2.1 y
theorem bas_len {n : Nat} {ts : List Nat} : (bas n ts).length = n := by simp [bas]
theorem bas_cd {n : Nat} {ts : List Nat} : CD (2 ^ 0) (bas n ts) := ⟨1, by decide, by decide, fun s => by
  rw [bas_at]
  by_cases h : s < n ∧ s ∈ ts
  · exact ⟨1, Nat.le_refl _, by rw [if_pos h]; decide +kernel⟩
  · exact ⟨0, by omega, by rw [if_neg h]; decide +kernel⟩⟩
theorem pol_ends {S : Sys} {al ts p : List Nat} (hS : SysOk S) (hP : PolOk S p) : EndsP S S.length (restOf S.length al ts) p := fun s hs => hP.ends hS (restOf_mem.mp hs).1
theorem pol_valid {S : Sys} {al ts p : List Nat} (hP : PolOk S p) : ValidP S (restOf S.length al ts) p := fun s hs => hP.get (restOf_mem.mp hs).1
theorem fol_sz {S : Sys} {al ts : List Nat} {ps : List (List Nat)} (hS : SysOk S) (hP : ∀ p ∈ ps, PolOk S p) (hl : ps.length ≤ 7) : allSz 340 (fol S (restOf S.length al ts) (bas S.length ts) ps) := by
  have h := CD.fol (n := S.length) (Nat.le_trans restOf_len hS.len) (fun p hp => pol_ends (al := al) (ts := ts) hS (hP p hp)) (bas_cd (n := S.length) (ts := ts)) bas_len
  intro q hq
  exact sz_mono (h.sz q hq) (by omega)
section
variable {P : Program} {w : World} {K : PySem.W.Frag} {mg : Str → Option Value} {base : Heap} {TT : List Addr} {zZ zO : Addr}
theorem ok_bounded_chances {f f_rest_of f_best_choice f_no_cost : Addr} {fd : FuncData} (F : Fun K "bounded_chances" "bounded_chances" sbounded_chances f fd) (T : Top K mg zZ zO)
    (h_rest_of : Has P w K mg base "rest_of" ["system", "allowed", "targets"] 1 (spRest TT K) f_rest_of) (h_best_choice : Has P w K mg base "best_choice" ["choices", "values", "numbers", "base", "most"] 4 (spBestC TT K f_no_cost) f_best_choice)
    (h_no_cost : Has P w K mg base "no_cost" ["choice"] 1 (spNoCost TT K) f_no_cost) : FnOk P w K mg base CX0 5 f fd ["system", "allowed", "targets", "steps", "most"] (spBnd TT K) := by
  refine F.ok scbounded_chances (fun vs H Q E h => ?_) (fun cdv A outer s H vs Q E hr h => ?_)
  · obtain ⟨x, _, hA, _⟩ := h
    exact AC.len (fun _ h => AC.len (fun _ h => AC.len (fun _ h => AC.len (fun _ h => AC.len (fun _ h => A0.len h) h) h) h) h) hA
  · obtain ⟨⟨S, al, ts, steps, most, _⟩, tb, hA, ⟨hS, hst⟩, k⟩ := h
    obtain ⟨v1, _, rfl, r1, v2, _, rfl, r2, v3, _, rfl, r3, v4, _, rfl, r4, v5, _, rfl, r5, rfl⟩ := hA
    have hS : SysOk S := hS
    have hst : steps ≤ 7 := hst
    have hSl := hS.len
    refine ⟨_, (pss_cons (ps_set (i := 5) scbounded_chances.nd rfl (.inl rfl) (pe_has h_rest_of (hr.mono (by decide)) (by rfl) (pa_cons (pv 0) (pa_cons (pv 1) (pa_cons (pv 2) pa_nil)))))
      (pss_cons (ps_setLc (i := 6) (own := [("state", 7)]) (g := _) rfl scbounded_chances.nd rfl rfl (sw_true rfl rfl rfl (by decide +kernel)) (pi_range1 (by rfl) T.b_range (pa_cons (pe_callB call_len_seq (by rfl) T.b_len PySem.boot_len (pa_cons (pv 0) pa_nil)) pa_nil)) (blkOk_by (N := ["system", "allowed", "targets", "steps", "most", "rest", "values", "state", "policies", "_", "new", "policy", "numbers"]) (sc := defScope sbounded_chances) (by decide +kernel)) (fun _ _ _ _ _ => (pg_name (i := 7) scbounded_chances.nd rfl (Or.inl rfl))) (fun _ _ _ _ _ => pts_nil) (fun _ _ _ _ _ => (pe_ifExp (pt_cmpR (kx_op_in_seq (K := K) rfl) (pv 7) (pv 2) (by rfl)) (pe_glob (v := .ref zO) (by rfl) T.mONE rfl) (pe_glob (v := .ref zZ) (by rfl) T.mZERO rfl))))
      (pss_cons (ps_set (i := 8) scbounded_chances.nd rfl (.inl rfl) (pe_lst pa_nil))
      (pss_cons (ps_for PassesOwn.never rfl (pi_range1 (by rfl) T.b_range (pa_cons (pv 3) pa_nil)) (pg_name (i := 9) scbounded_chances.nd rfl (.inl rfl)) (pss_cons (ps_set (i := 10) scbounded_chances.nd rfl (.inl rfl) (pe_callTy call_list_of (by rfl) T.b_list (by decide +kernel) (pa_cons (pv 6) pa_nil)))
      (pss_cons (ps_set (i := 11) scbounded_chances.nd rfl (.inl rfl) (pe_op op_rep (pe_lst (pa_cons pe_int pa_nil)) (pe_callB call_len_seq (by rfl) T.b_len PySem.boot_len (pa_cons (pv 0) pa_nil))))
      (pss_cons (ps_for PassesOwn.never rfl (pi_list (pv 5)) (pg_name (i := 7) scbounded_chances.nd rfl (.inl rfl)) (pss_cons (ps_set (i := 12) scbounded_chances.nd rfl (.inl rfl) (pe_listRg rfl (by rfl) T.b_list (prg_1 (by rfl) T.b_range (pe_callB call_len_seq (by rfl) T.b_len PySem.boot_len (pa_cons (pe_ix ix_tup (pv 0) (pv 7) (fun _ _ => rfl)) pa_nil)))))
      (pss_one (ps_asg (pe_has h_best_choice (hr.mono (by decide)) (by rfl) (pa_cons (pe_ix ix_tup (pv 0) (pv 7) (fun _ _ => rfl)) (pa_cons (pv 6) (pa_cons (pv 12) (pa_cons (pe_glob (v := .ref f_no_cost) (by rfl) h_no_cost.m rfl) (pa_cons (pv 4) pa_nil)))))) (pg_tup rfl (pgs_cons (pg_sub (pv 11) (pv 7) set_list) (pgs_cons (pg_sub (pv 10) (pv 7) set_list) pgs_nil)))))))
      (pss_cons (ps_set (i := 6) scbounded_chances.nd rfl (.inl rfl) (pv 10))
      (pss_one (ps_expr (pe_bm PySem.F.plainAttrs_list PySem.F.slot_list_append PySem.F.type_list_append mt_append (pv 8) (pa_cons (pe_callTy call_tuple_of (by rfl) T.b_tuple (by decide +kernel) (pa_cons (pv 11) pa_nil)) pa_nil)))))))))
      (pss_one (ps_ret (pe_tup (pa_cons (pv 6) (pa_cons (pv 8) pa_nil))))))))), ?_⟩
    refine q_asgF (e_callF (f := fun x : Sys × List Nat × List Nat × Unit => restOf x.1.length x.2.1 x.2.2.1) tb (a_cons (e_var (r := RSys K) rfl r1) (a_cons (e_var (r := RL K RN) rfl r2) (a_cons (e_var (r := RL K RN) rfl r3) a_nil))) (by show S.length ≤ 100; omega)) fun pr wr H1 hnr e1 hpr halr => ?_
    have rR : RL K RN H1 (.ref pr) (restOf S.length al ts) := ⟨pr, wr, rfl, SqL.of hpr, halr⟩
    refine q_asgF (f_range (r := RQ K) (n := S.length) (fun _ => true) (fun s => if decide (s ∈ ts) then (1 : Rat) else 0) (e_lenT (e_var (r := RSys K) rfl (Mo.mo e1 r1))) (by omega) (fun _ => rfl) (fun i H' hi e => fun H1 e1 Q q => q H1 (Evl.Ex.refl _)) (fun i H' hi _ e => ?_)) fun pv wv H2 hnv e2 hpv halv => ?_
    · refine e_if (t_cmp (e_in (e_var rfl rfl) (e_var rfl (Mo.mo (e1.trans e) r3)))) (fun hb => ?_) fun hb => ?_
      · rw [if_pos hb]
        exact e_con (T.one H')
      · rw [hb, if_neg Bool.false_ne_true]
        exact e_con (T.zero H')
    · rw [fm_true] at halv
      have OV : Own (RQ K) H1 pv H2 (bas S.length ts) := Own.of hnv hpv halv
      refine q_asgF (r := RT K RN) (xs := []) f_nil fun pl wl H3 hnl e3 hpl hall => ?_
      have OL : Own (RT K RN) H1 pl H3 [] := (Own.of hnl hpl hall).back e2
      have nvl : pv ≠ pl := fun z => by rw [z, hnl] at hpv; cases hpv
      refine q_forRn (n := steps) (e_var rfl r4) (by omega) (fun i σ' H' => ∃ pv vs ps a7 a9 a10 a11 a12, σ' = [some v1, some v2, some v3, some v4, some v5, some (.ref pr), some (.ref pv), a7, some (.ref pl), a9, a10, a11, a12] ∧ Ex H1 H' ∧ Own (RQ K) H1 pv H' vs ∧ Own (RT K RN) H1 pl H' ps ∧ pv ≠ pl ∧ ps.length = i ∧ Bnd S (restOf S.length al ts) most (bas S.length ts) vs ps ∧ ∀ p ∈ ps, PolOk S p)
        (fun H4 e4 => ⟨pv, bas S.length ts, [], none, none, none, none, none, rfl, (e2.trans e3).trans e4, OV.ex (e3.trans e4), OL.ex e4, nvl, rfl, ⟨rfl, fun i p h => by simp at h⟩, fun p h => by cases h⟩) (fun i σ' H' hi hP' => ?_) (fun σ' H' hP' => ?_)
      · obtain ⟨pv, vs, ps, a7, a9, a10, a11, a12, rfl, e4, OV, OL, nvl, hpl, hB, hPs⟩ := hP'
        have hvl : vs.length = S.length := by rw [hB.eq, fol_len, bas_len]
        have hz : allSz 900 vs := fun q hq => sz_mono ((by rw [hB.eq] at hq; exact fol_sz hS hPs (by omega) q hq)) (by omega : 340 ≤ 900)
        have e04 := e1.trans e4
        refine q_asgF (f_listL (e_var (r := RL K (RQ K)) rfl OV.rl)) fun pn wn H5 hnn e5 hpn haln => ?_
        have ON : Own (RQ K) H' pn H5 vs := Own.of hnn hpn haln
        refine q_asgF (f_rep (n := S.length) (r := RN) e_zero (e_lenT (e_var (r := RSys K) rfl (Mo.mo (e04.trans e5) r1))) (by omega)) fun pp wp H6 hnp e6 hpp halp => ?_
        have OP : Own RN H' pp H6 (List.replicate S.length 0) := (Own.of hnp hpp halp).back e5
        have npn : pp ≠ pn := fun z => by rw [z, hpn] at hnp; cases hnp
        have P0 : PolOk S (List.replicate S.length 0) := .of_getD (by simp) fun s hs => by
          rw [List.getD_eq_getElem?_getD, List.getElem?_replicate, if_pos hs]
          exact (hS.at hs).1.1
        refine q_forLv (s := RN) (Hb := H') (u := .ref pr) (xs := restOf S.length al ts) rfl (Mo.mo e4 rR) (fun j σ'' H'' => ∃ pol nv a7 a12, σ'' = [some v1, some v2, some v3, some v4, some v5, some (.ref pr), some (.ref pv), a7, some (.ref pl), some (.int (i : Int)), some (.ref pn), some (.ref pp), a12] ∧ Ex H' H'' ∧ Own RN H' pp H'' pol ∧ Own (RQ K) H' pn H'' nv ∧ PolOk S pol ∧ nv.length = S.length ∧
          (∀ s, s < S.length → at0 nv s = if s ∈ (restOf S.length al ts).take j then mean (pE' S pol s) vs else at0 vs s) ∧ ∀ s ∈ (restOf S.length al ts).take j, ∀ c, c < (S.getD s []).length → bett (mean (chAt S s c).2 vs) (mean (pE' S pol s) vs) most = false)
          ⟨_, vs, a7, a12, rfl, e5.trans e6, OP, ON.ex e6, P0, hvl, fun s hs => by simp, fun s hs => by simp at hs⟩ (fun j σ' H' ⟨_, _, _, _, _, h, _⟩ => h) (fun j s vs' σ'' H'' hx hP'' hs => ?_) (fun σ'' H'' hP'' => ?_)
        · obtain ⟨pol, nv, a7, a12, rfl, e7, OP, ON, hPp, hnl, hat, hopt⟩ := hP''
          have hsr := List.mem_of_getElem? hx
          have hsn := (restOf_mem.mp hsr).1
          have hSs := hS.at hsn
          have e07 := e04.trans e7
          have esys : ∀ {H9 : Hp} {a12 : Option V}, Ex H'' H9 → EvR (RT K (RCh K)) (tOp (rIxT K) (tVar 0) (tVar 7)) [some v1, some v2, some v3, some v4, some v5, some (.ref pr), some (.ref pv), some vs', some (.ref pl), some (.int (i : Int)), some (.ref pn), some (.ref pp), a12] H9 (S.getD s []) := fun e => e_ixT (xs := S) (e_var (r := RSys K) rfl (Mo.mo (e07.trans e) r1)) (e_var (r := RN) rfl hs) (sysAt hsn)
          refine q_asgF (f_listRg (e_lenT (esys (Evl.Ex.refl _))) (by have := hSs.1; omega)) fun pm wm H8 hnm e8 hpm halm => ?_
          have hvs : vs' = .int (s : Int) := hs
          subst hvs
          refine s_asgSp (a_cons (esys e8) (a_cons (e_var (r := RL K (RQ K)) rfl (OV.ex (e7.trans e8)).rl) (a_cons (e_var (r := RL K RN) rfl ⟨pm, wm, rfl, SqL.of hpm, halm⟩) (a_cons (e_con (r := RF f_no_cost) (x := ()) rfl) (a_cons (e_var (r := RB) rfl r5) a_nil))))) fun args H9 e9 hargs => ?_
          have e79 := (e7.trans e8).trans e9
          refine ⟨_, tb.ex (e04.trans e79), hargs, ⟨fun c hc => by show c.1 ≤ 1000 ∧ EndsOk vs.length c.2; rw [hvl]; exact hSs.2 c hc, hz, fun z => by
            have : (List.range (S.getD s []).length).length = 0 := by rw [show List.range (S.getD s []).length = [] from z]; rfl
            rw [List.length_range] at this
            have := hSs.1
            omega, fun m hm => List.mem_range.mp hm⟩, fun y2 v H10 hy2 e10 hv => ?_⟩
          obtain ⟨c, val⟩ := y2
          obtain ⟨b1, b2, b3⟩ := hy2
          have hc : c < (S.getD s []).length := List.mem_range.mp b1
          have b2 : val = mean (chAt S s c).2 vs := b2
          have e7a := e79.trans e10
          have et : (restOf S.length al ts).take (j + 1) = (restOf S.length al ts).take j ++ [s] := take_succ' hx
          have hnin : s ∉ (restOf S.length al ts).take j := fun z => by
            have := (rest_nodup (n := S.length) (al := al) (ts := ts)).sublist (List.take_sublist (j + 1) _)
            rw [et, List.nodup_append] at this
            exact this.2.2 s z s (by simp) rfl
          have e810 := (e8.trans e9).trans e10
          refine tgt_set2 (K := K) (OP.ex e810) (ON.ex e810) npn e7a rfl rfl rfl (by rw [hPp.1]; exact hsn) (by rw [hnl]; exact hsn) hv fun H11 ex11 OP' ON' => ?_
          have pEs : pE' S (pol.set s c) s = (chAt S s c).2 := by
            unfold pE'
            rw [getD_set (by rw [hPp.1]; exact hsn), if_pos rfl]
          have pEt : ∀ t, t ≠ s → pE' S (pol.set s c) t = pE' S pol t := fun t ht => by
            unfold pE'
            rw [getD_set (by rw [hPp.1]; exact hsn), if_neg ht]
          refine ⟨pol.set s c, nv.set s val, _, _, rfl, ex11, OP', ON', hPp.set hsn hc, by rw [List.length_set]; exact hnl, fun t ht => ?_, fun t ht => ?_⟩
          · rw [at0_set (by rw [hnl]; exact hsn)]
            by_cases hts : t = s
            · rw [if_pos hts, hts, if_pos (by rw [et]; simp), pEs, b2]
            · rw [if_neg hts, hat t ht, pEt t hts]
              have : t ∈ (restOf S.length al ts).take (j + 1) ↔ t ∈ (restOf S.length al ts).take j := by
                rw [et, List.mem_append, List.mem_singleton]
                exact ⟨fun h => h.resolve_right hts, .inl⟩
              by_cases hm : t ∈ (restOf S.length al ts).take j
              · rw [if_pos hm, if_pos (this.mpr hm)]
              · rw [if_neg hm, if_neg fun z => hm (this.mp z)]
          · rw [et, List.mem_append, List.mem_singleton] at ht
            by_cases hts : t = s
            · rw [hts, pEs, ← b2]
              intro d hd
              exact b3 d (List.mem_range.mpr hd)
            · rw [pEt t hts]
              exact hopt t (ht.resolve_right hts)
        · obtain ⟨pol, nv, a7, a12, rfl, e7, OP, ON, hPp, hnl, hat, hopt⟩ := hP''
          rw [List.take_length] at hat hopt
          have hnv : nv = stp S (restOf S.length al ts) pol vs := list_ext_at0 (by rw [stp_len, hnl, hvl]) fun s hs => by
            rw [hat s (by rw [← hnl]; exact hs), stp_at (by rw [hvl, ← hnl]; exact hs)]
          refine q_asgV rfl ?_
          have nnl : pn ≠ pl := fun z => by
            obtain ⟨u, h⟩ := OL.at
            rw [← z, hnn] at h
            cases h
          refine s_appO (r := RT K RN) (y := pol) (OL.ex e7) (e4.trans e7) (Evl.ev_var rfl) (e_tupleL (r := RN) (e_var rfl OP.rl)) (by omega) fun H9 u9 w9 e9 hp9 ex9 OL9 => ?_
          refine ⟨pn, nv, ps ++ [pol], _, _, _, _, _, rfl, ex9, (Own.back (ON.ex e9) e4).other nnl hp9, OL9, nnl, by simp [hpl], ⟨?_, fun i' p hp => ?_⟩, fun p hp => ?_⟩
          · rw [fol_snoc, ← hB.eq]
            exact hnv
          · by_cases hi' : i' < ps.length
            · rw [List.getElem?_append_left hi'] at hp
              rw [List.take_append_of_le_length (by omega)]
              exact hB.opt i' p hp
            · have hl := (List.getElem?_eq_some_iff.mp hp).1
              have e1 : i' = ps.length := by
                rw [List.length_append, List.length_singleton] at hl
                omega
              rw [e1, List.getElem?_append_right (Nat.le_refl _)] at hp
              have hp : pol = p := by simpa using hp
              rw [← hp, e1, List.take_append_of_le_length (Nat.le_refl _), List.take_length, ← hB.eq]
              exact fun s hs c hc => hopt s hs c hc
          · rw [List.mem_append, List.mem_singleton] at hp
            rcases hp with hp | hp
            · exact hPs p hp
            · rw [hp]
              exact hPp
      · obtain ⟨pv, vs, ps, a7, a9, a10, a11, a12, rfl, e4, OV, OL, nvl, hpl, hB, hPs⟩ := hP'
        refine s_ret (e_pairM (K := K) (e_var (r := RL K (RQ K)) rfl OV.rl) (e_var (r := RL K (RT K RN)) rfl OL.rl)) fun v H5 e5 hv => ?_
        exact k (vs, ps) v H5 ⟨hpl, hB, hPs⟩ ((e1.trans e4).trans e5) hv
end
end BO

/-! for the law's own defs -/
namespace BO
open PySem PySem.Spec PyProof.Rows L2
section
variable {K : PySem.W.Frag} {σ : L2.St} {H H' H0 : Hp} {te ta tb tl : TE} {tt : TT} {tz : TS} {D : Ends} {α β γ : Type} {r : RR α} {s : RR β}
/-- [e for x in xs if t], xs a tuple -/
theorem f_tup [Fx r] [Fx s] {j : Nat} {vs : List Nat} {xs : List β} (p : β → Bool) (f : β → α) (h : EvR (RT K s) tl σ H xs) (hle : xs.length ≤ 100000) (hw : ∀ x, wipe ((wipe σ vs).set j (some x)) vs = wipe σ vs)
    (ht : ∀ (i : Nat) x v H', xs[i]? = some x → Ex H H' → s H' v x → EvT tt ((wipe σ vs).set j (some v)) H' (p x)) (he : ∀ (i : Nat) x v H', xs[i]? = some x → p x = true → Ex H H' → s H' v x → EvR r te ((wipe σ vs).set j (some v)) H' (f x)) :
    EvF r (tLc (iTup K tl) (gName j) tt te vs) σ H ((xs.filter p).map f) := fun H1 e Q q => (h.mono e) H1 (Evl.Ex.refl _) _ fun v H2 e2 ⟨a, us, hv, hs, hal⟩ => by
  refine ⟨a, hv, ⟨us, hs⟩, fun D hD => ?_⟩
  refine lc_it (walk_tup (K := K) (a := a) (xs := us)) (fun i H' => Cr r H2 D (((xs.take i).filter p).map f) H') ?_ (fun i H' _ hP => sqT_fx (Tx.of hP.2.1) hs) (fun i u H' H'' hi hP hY => ?_) fun H' hP => ?_
  · simpa using Cr.start hD
  · obtain ⟨rfl, hu⟩ := hY
    obtain ⟨x, hx, hr⟩ := hal.got hu
    have ex : Ex H H'' := (e.trans e2).trans hP.2.1
    have hr' := Fx.fx (Tx.of hP.2.1) hr
    refine ⟨hw _, cr_turn hP ?_ (ht i x u H'' hx ex hr') (fun hb => he i x u H'' hx hb ex hr') fun H4 h4 => ?_⟩
    · rw [List.length_map]
      exact Nat.le_trans (List.length_filter_le _ _) (by rw [List.length_take]; omega)
    · have : (((xs.take (i + 1)).filter p).map f) = if p x then ((xs.take i).filter p).map f ++ [f x] else ((xs.take i).filter p).map f := by
        rw [take_succ' hx, List.filter_append, List.map_append]
        cases hp : p x with
        | true => simp [List.filter, hp]
        | false => simp [List.filter, hp]
      rw [this]
      exact h4
  · rw [hal.1, List.take_length] at hP
    obtain ⟨h1, h2, ws, h3, h4⟩ := hP
    exact q D ws H' (Evl.fresh_back e2 h1) (e2.trans h2) h3 h4

theorem sumN (ns : List Nat) : (ns.map fun n : Nat => (n : Int)).sum = ((ns.sum : Nat) : Int) := by
  induction ns with
  | nil => rfl
  | cons n r ih =>
    rw [List.map_cons, List.sum_cons, List.sum_cons, ih]
    omega
theorem e_sumN {xs : List Nat} (h : EvF RN ta σ H xs) : EvR RN (tCB (rSum K) (tCons ta tNil)) σ H xs.sum := fun H1 e Q q =>
  h H1 e _ fun p ws H2 hn e2 hp hal => ⟨p, xs.map fun n : Nat => (n : Int), rfl, by
    rw [List.map_map]
    have := hal.nats
    rw [this] at hp
    exact SqL.of hp, q _ H2 e2 (by show V.int _ = V.int _; rw [sumN])⟩
/-- int(x) -/
theorem e_intI {i : Int} (h : EvR RI ta σ H i) : EvR RI (tCB (fun xs H Q => (∃ i, xs = [.int i] ∧ Q (.int i) H) ∨ ∃ k, xs = [.bl k] ∧ Q (.int (if k then 1 else 0)) H) (tCons ta tNil)) σ H i := fun H1 e Q q =>
  h H1 e _ fun v H2 e2 hv => .inl ⟨i, by rw [show v = V.int i from hv], q _ H2 e2 rfl⟩
theorem e_intB {b : Bool} (h : EvR RB ta σ H b) : EvR RI (tCB (fun xs H Q => (∃ i, xs = [.int i] ∧ Q (.int i) H) ∨ ∃ k, xs = [.bl k] ∧ Q (.int (if k then 1 else 0)) H) (tCons ta tNil)) σ H (if b then 1 else 0) := fun H1 e Q q =>
  h H1 e _ fun v H2 e2 hv => .inr ⟨b, by rw [show v = V.bl b from hv], q _ H2 e2 rfl⟩
theorem e_absI {i : Int} (h : EvR RI ta σ H i) : EvR RI (tCB (fun xs H Q => ∃ i, xs = [.int i] ∧ Q (.int (if i < 0 then -i else i)) H) (tCons ta tNil)) σ H (i.natAbs : Int) := fun H1 e Q q =>
  h H1 e _ fun v H2 e2 hv => ⟨i, by rw [show v = V.int i from hv], q _ H2 e2 (by
    show V.int _ = V.int _
    congr 1
    split <;> omega)⟩
end
end BO

namespace BO
open PySem PySem.Spec PyProof.Rows L2
abbrev s_law_ratio : Stmt := topS 45
theorem sc_law_ratio : FnScope ["_law_n", "_law_d", "_law_a", "_law_b", "_law_k", "_law_rest"] ["_law_n", "_law_d"] (defScope s_law_ratio) := ⟨rfl, rfl, rfl, by decide +kernel, rfl, by decide +kernel, by decide +kernel⟩

abbrev s_law_plus : Stmt := topS 46
theorem sc_law_plus : FnScope ["_law_a", "_law_b"] ["_law_a", "_law_b"] (defScope s_law_plus) := ⟨rfl, rfl, rfl, by decide +kernel, rfl, by decide +kernel, by decide +kernel⟩

abbrev s_law_times : Stmt := topS 47
theorem sc_law_times : FnScope ["_law_a", "_law_b"] ["_law_a", "_law_b"] (defScope s_law_times) := ⟨rfl, rfl, rfl, by decide +kernel, rfl, by decide +kernel, by decide +kernel⟩

abbrev s_law_mean : Stmt := topS 53
theorem sc_law_mean : FnScope ["_law_ends_here", "_law_values", "_law_whole", "_law_end", "_law_total", "_law_goal", "_law_weight"] ["_law_ends_here", "_law_values"] (defScope s_law_mean) := ⟨rfl, rfl, rfl, by decide +kernel, rfl, by decide +kernel, by decide +kernel⟩

abbrev s_law_less : Stmt := topS 54
theorem sc_law_less : FnScope ["_law_one", "_law_other"] ["_law_one", "_law_other"] (defScope s_law_less) := ⟨rfl, rfl, rfl, by decide +kernel, rfl, by decide +kernel, by decide +kernel⟩

abbrev s_law_followed : Stmt := topS 57
theorem sc_law_followed : FnScope ["_law_system_here", "_law_rest", "_law_targets", "_law_policies", "_law_values", "_law_k", "_law_policy", "_law_made", "_law_one"] ["_law_system_here", "_law_rest", "_law_targets", "_law_policies"] (defScope s_law_followed) := ⟨rfl, rfl, rfl, by decide +kernel, rfl, by decide +kernel, by decide +kernel⟩

abbrev s_law_none_less : Stmt := topS 58
theorem sc_law_none_less : FnScope ["_law_one", "_law_other", "_law_k"] ["_law_one", "_law_other"] (defScope s_law_none_less) := ⟨rfl, rfl, rfl, by decide +kernel, rfl, by decide +kernel, by decide +kernel⟩

def Bq (x : Nat) : Prop := x < 2 ^ 900
theorem Bq.of {x a : Nat} (h : x < 2 ^ a) (ha : a ≤ 900) : Bq x := lt_pow_of h ha
abbrev spLRatio (TT : List Addr) (K : PySem.W.Frag) : Sp := spP TT (AC RI (AC RI A0)) (fun x => x.2.1 ≠ 0 ∧ Bq x.1.natAbs ∧ Bq x.2.1.natAbs) (RQ K) fun x y => y = Rat.divInt x.1 x.2.1
abbrev spLOp (TT : List Addr) (K : PySem.W.Frag) (f : Rat → Rat → Rat) : Sp := spP TT (AC (RQ K) (AC (RQ K) A0)) (fun x => sz 440 x.1 ∧ sz 440 x.2.1) (RQ K) fun x y => y = f x.1 x.2.1
abbrev spLMean (TT : List Addr) (K : PySem.W.Frag) : Sp := spP TT (AC (REnds K) (AC (RL K (RQ K)) A0)) (fun x => EndsOk x.2.1.length x.1 ∧ CD (2 ^ 340) x.2.1) (RQ K) fun x y => y = mean x.1 x.2.1
abbrev spLess (TT : List Addr) (K : PySem.W.Frag) : Sp := spP TT (AC (RQ K) (AC (RQ K) A0)) (fun x => sz 4000 x.1 ∧ sz 4000 x.2.1) RB fun x y => y = decide (x.1 < x.2.1)
structure FolPre (S : Sys) (rest : List Nat) (ps : List (List Nat)) : Prop where
  sys : SysOk S
  ok : RestOk S.length rest
  nd : rest.Nodup
  pol : ∀ p ∈ ps, PolOk S p
  len : ps.length ≤ 7
abbrev spFol (TT : List Addr) (K : PySem.W.Frag) : Sp := spF TT (AC (RSys K) (AC (RL K RN) (AC (RL K RN) (AC (RL K (RT K RN)) A0)))) (fun x => FolPre x.1 x.2.1 x.2.2.2.1) (RQ K) fun x y => y = fol x.1 x.2.1 (bas x.1.length x.2.2.1) x.2.2.2.1
def noneLess (a b : List Rat) : Bool := ((List.range a.length).filter fun k => decide (at0 a k < at0 b k)).length == 0
theorem noneLess_of {a b : List Rat} (h : LeV a.length b a) : noneLess a b = true := by
  unfold noneLess
  rw [beq_iff_eq, List.length_eq_zero_iff, List.filter_eq_nil_iff]
  intro k hk
  have := h k (List.mem_range.mp hk)
  simp
  grind
abbrev spNone (TT : List Addr) (K : PySem.W.Frag) : Sp := spP TT (AC (RS K (RQ K)) (AC (RS K (RQ K)) A0)) (fun x => allSz 4000 x.1 ∧ allSz 4000 x.2.1 ∧ x.1.length = x.2.1.length ∧ x.1.length ≤ 100) RB fun x y => y = noneLess x.1 x.2.1
/-! dividing on -/
theorem half_mod {a b : Nat} (ha : 0 < a) (hab : a ≤ b) : 2 * (b % a) ≤ b := by
  have h1 := Nat.mod_lt b ha
  have h2 := Nat.div_add_mod b a
  have h3 : 1 ≤ b / a := (Nat.one_le_div_iff ha).mpr hab
  have h4 : a * 1 ≤ a * (b / a) := Nat.mul_le_mul_left _ h3
  omega
structure Euc (g k a b : Nat) : Prop where
  gcd : Nat.gcd a b = g
  pos : 0 < b
  fall : k = 0 ∨ (a < b ∧ a * b * 2 ^ (k - 1) < 2 ^ 1800)
theorem Euc.next {g k a b : Nat} (h : Euc g k a b) (ha : a ≠ 0) (hA : k = 0 → a * b < 2 ^ 1800) : Euc g (k + 1) (b % a) a := by
  have hpos : 0 < a := Nat.pos_of_ne_zero ha
  refine ⟨by rw [← Nat.gcd_rec]; exact h.gcd, hpos, .inr ⟨Nat.mod_lt _ hpos, ?_⟩⟩
  rcases h.fall with rfl | ⟨hlt, hf⟩
  · have h1 := hA rfl
    have : b % a * a ≤ a * b := by rw [Nat.mul_comm]; exact Nat.mul_le_mul_left _ (Nat.mod_le _ _)
    simpa using Nat.lt_of_le_of_lt this h1
  · have hm := half_mod hpos (Nat.le_of_lt hlt)
    have hk : k + 1 - 1 = k := rfl
    rw [hk]
    by_cases h0 : k = 0
    · subst h0
      have : b % a * a ≤ a * b := by rw [Nat.mul_comm]; exact Nat.mul_le_mul_left _ (Nat.mod_le _ _)
      simp at hf
      simpa using Nat.lt_of_le_of_lt this hf
    · have e : 2 ^ k = 2 * 2 ^ (k - 1) := by
        rw [← Nat.pow_succ']
        congr 1
        omega
      rw [e]
      have : b % a * a * (2 * 2 ^ (k - 1)) ≤ a * b * 2 ^ (k - 1) := by
        rw [← Nat.mul_assoc]
        refine Nat.mul_le_mul_right _ ?_
        have : b % a * a * 2 = a * (2 * (b % a)) := by
          rw [Nat.mul_comm (b % a) a, Nat.mul_assoc, Nat.mul_comm (b % a) 2]
        rw [this]
        exact Nat.mul_le_mul_left _ hm
      omega
theorem Euc.last {g a b : Nat} (h : Euc g 2000 a b) : a = 0 := by
  rcases h.fall with z | ⟨_, hf⟩
  · exact absurd z (by decide)
  · refine Classical.byContradiction fun ha => ?_
    have h1 : 1 ≤ a * b := Nat.mul_pos (Nat.pos_of_ne_zero ha) h.pos
    have h2 : 1 * 2 ^ (2000 - 1) ≤ a * b * 2 ^ (2000 - 1) := Nat.mul_le_mul_right _ h1
    have h3 : (2 : Nat) ^ 1800 ≤ 2 ^ (2000 - 1) := Nat.pow_le_pow_right (by omega) (by omega)
    omega
section
variable {P : Program} {w : World} {K : PySem.W.Frag} {mg : Str → Option Value} {base : Heap} {TT : List Addr} {zZ zO : Addr}
theorem ok__law_ratio {f : Addr} {fd : FuncData} (F : Fun K "_law_ratio" "_law_ratio" s_law_ratio f fd) (T : Top K mg zZ zO) : FnOk P w K mg base CX0 1 f fd ["_law_n", "_law_d"] (spLRatio TT K) := by
  refine F.ok sc_law_ratio (fun vs H Q E h => ?_) (fun cdv A outer s H vs Q E hr h => ?_)
  · obtain ⟨x, _, hA, _⟩ := h
    exact AC.len (fun _ h => AC.len (fun _ h => A0.len h) h) hA
  · obtain ⟨⟨n, d, _⟩, tb, hA, ⟨h0, hn, hd⟩, k⟩ := h
    obtain ⟨v, _, rfl, rfl, v', _, rfl, rfl, rfl⟩ := hA
    have h0 : d ≠ 0 := h0
    refine ⟨_, (Evl.pss_cut (ps_if (pt_cmpR op_lt (pv 1) pe_int (nomark _)) (pss_cons (ps_set (i := 0) sc_law_ratio.nd rfl (.inl rfl) (pe_op op_sub pe_int (pv 0)))
      (pss_one (ps_set (i := 1) sc_law_ratio.nd rfl (.inl rfl) (pe_op op_sub pe_int (pv 1))))) pss_nil)
      (pss_cons (ps_set (i := 2) sc_law_ratio.nd rfl (.inl rfl) (pe_callB call_abs (by rfl) T.b_abs (by decide +kernel) (pa_cons (pv 0) pa_nil)))
      (pss_cons (ps_set (i := 3) sc_law_ratio.nd rfl (.inl rfl) (pv 1))
      (pss_cons (ps_for PassesOwn.never rfl (pi_range1 (by rfl) T.b_range (pa_cons pe_int pa_nil)) (pg_name (i := 4) sc_law_ratio.nd rfl (.inl rfl)) (pss_cons (ps_if (pt_cmpR op_eq (pv 2) pe_int (nomark _)) (pss_one ps_break) pss_nil)
      (pss_cons (ps_set (i := 5) sc_law_ratio.nd rfl (.inl rfl) (pe_op op_mod (pe_callTy call_int1 (by rfl) T.b_int (by decide +kernel) (pa_cons (pv 3) pa_nil)) (pv 2)))
      (pss_cons (ps_set (i := 3) sc_law_ratio.nd rfl (.inl rfl) (pv 2))
      (pss_one (ps_set (i := 2) sc_law_ratio.nd rfl (.inl rfl) (pv 5)))))))
      (pss_one (ps_ret (pe_tup (pa_cons (pe_op op_fdivW (pv 0) (pv 3)) (pa_cons (pe_op op_fdivW (pv 1) (pv 3)) pa_nil))))))))), ?_⟩
    refine Evl.q_cut (M := fun σ' H' => ∃ n' d' : Int, σ' = [some (.int n'), some (.int d'), none, none, none, none] ∧ Ex H H' ∧ 0 < d' ∧ Bq n'.natAbs ∧ Bq d'.natAbs ∧ Rat.divInt n' d' = Rat.divInt n d) ?_ fun σ' H1 hM => ?_
    · refine Evl.s_if (t_cmp (e_opB (e_var (r := RI) (x := d) rfl rfl) e_int)) (fun hb H1 e1 => ?_) (fun hb H1 e1 => ?_)
      · have hlt : d < 0 := of_decide_eq_true hb
        refine q_asg (e_op0 e_int (e_var (r := RI) (x := n) rfl rfl)) fun vn H2 e2 hvn => ?_
        refine s_asg (e_op0 e_int (e_var (r := RI) (x := d) rfl rfl)) fun vd H3 e3 hvd => ?_
        have hvn : vn = .int (0 - n) := hvn
        have hvd : vd = .int (0 - d) := hvd
        refine ⟨0 - n, 0 - d, by rw [hvn, hvd]; rfl, (e1.trans e2).trans e3, by omega, by rw [show (0 - n).natAbs = n.natAbs by omega]; exact hn, by rw [show (0 - d).natAbs = d.natAbs by omega]; exact hd, ?_⟩
        rw [Int.zero_sub, Int.zero_sub, Rat.neg_divInt_neg]
      · have hge : ¬ d < 0 := of_decide_eq_false hb
        exact ⟨n, d, rfl, e1, by omega, hn, hd, rfl⟩
    · obtain ⟨n', d', rfl, e1, hp, hn', hd', he⟩ := hM
      refine q_asg (e_absI (e_var (r := RI) (x := n') rfl rfl)) fun va H2 e2 hva => ?_
      refine q_asg (r := RI) (x := d') (e_var rfl rfl) fun vb H3 e3 hvb => ?_
      have hva : va = .int (n'.natAbs : Int) := hva
      have hvb : vb = .int d' := hvb
      subst hva hvb
      obtain ⟨dn, hdn⟩ : ∃ dn : Nat, d' = (dn : Int) := ⟨d'.toNat, by omega⟩
      subst hdn
      have hdn : 0 < dn := by omega
      have hdB : Bq dn := by rw [Int.natAbs_natCast] at hd'; exact hd'
      have hAB : n'.natAbs * dn < 2 ^ 1800 := mul_lt2 (a := 900) (b := 900) hn' hdB
      have e13 := (e1.trans e2).trans e3
      have fin : ∀ (o4 o5 : Option V) (b : Nat) (H4 : Hp), Ex H H4 → b = Nat.gcd n'.natAbs dn → tRet (tTup (tCons (tOp (rI CDivW fun i j => .int (i / j)) (tVar 0) (tVar 3)) (tCons (tOp (rI CDivW fun i j => .int (i / j)) (tVar 1) (tVar 3)) tNil)))
          { nx := fun _ H' => Q .non H', rt := Q } [some (.int n'), some (.int (dn : Int)), some (.int ((0 : Nat) : Int)), some (.int (b : Int)), o4, o5] H4 := fun o4 o5 b H4 e4 hb => by
        subst hb
        obtain ⟨p1, p2⟩ := ratio_parts (n := n') (d := (dn : Int)) (by omega)
        rw [Int.natAbs_natCast] at p1 p2
        have gle : Nat.gcd n'.natAbs dn ≤ dn := Nat.le_of_dvd hdn (Nat.gcd_dvd_right _ _)
        have gpos : 0 < Nat.gcd n'.natAbs dn := Nat.gcd_pos_of_pos_right _ hdn
        have hW : ∀ i, CDivW i ((Nat.gcd n'.natAbs dn : Nat) : Int) := fun i => wide_div (b := 900) (by omega) (by rw [Int.natAbs_natCast]; exact Nat.lt_of_le_of_lt gle hdB) (by omega) (by omega)
        refine s_ret (e_frac (K := K) (q := Rat.divInt n' (dn : Int)) (e_opC (hW _) (e_var (r := RI) rfl rfl) (e_var (r := RI) rfl rfl)) (e_opC (hW _) (e_var (r := RI) rfl rfl) (e_var (r := RI) rfl rfl)) p1 p2) fun v H5 e5 hv => ?_
        exact k (Rat.divInt n' (dn : Int)) v H5 he (e4.trans e5) hv
      refine q_forRn (n := 2000) (by exact e_nat) (by omega) (fun i σ' H' => ∃ (a b : Nat) (o4 o5 : Option V), σ' = [some (.int n'), some (.int (dn : Int)), some (.int (a : Int)), some (.int (b : Int)), o4, o5] ∧ Ex H H' ∧ Euc (Nat.gcd n'.natAbs dn) i a b ∧ (i = 0 → a * b < 2 ^ 1800))
        (fun H4 e4 => ⟨n'.natAbs, dn, none, none, rfl, e13.trans e4, ⟨rfl, hdn, .inl rfl⟩, fun _ => hAB⟩) (fun i σ' H' hi hP => ?_) (fun σ' H' hP => ?_)
      · obtain ⟨a, b, o4, o5, rfl, e4, hE, hA⟩ := hP
        refine Evl.q_when (t_cmp (e_eqI (e_nn (e_var (r := RN) (x := a) rfl rfl)) e_int)) (fun hb H5 e5 => ?_) (fun hb H5 e5 => ?_)
        · have ha : a = 0 := by
            have : (a : Int) = 0 := of_decide_eq_true hb
            omega
          subst ha
          refine fin _ _ b H5 (e4.trans e5) ?_
          have := hE.gcd
          rw [Nat.gcd_zero_left] at this
          exact this
        · have ha : a ≠ 0 := fun z => by
            rw [z] at hb
            exact absurd hb (by decide)
          refine q_asg (r := RN) (x := b % a) (fun H6 e6 Q q => ?_) fun v5 H6 e6 hv5 => ?_
          · exact (e_opC (C := fun _ j => (0 : Int) < j) (g := fun i j => i % j) (i := (b : Int)) (j := (a : Int)) (by omega) (e_intI (e_nn (e_var (r := RN) (x := b) rfl rfl))) (e_nn (e_var (r := RN) (x := a) rfl rfl))) H6 e6 Q fun v H7 e7 hv => q v H7 e7 (by
              have hv : v = .int ((b : Int) % (a : Int)) := hv
              show v = .int ((b % a : Nat) : Int)
              rw [hv, Int.natCast_emod])
          · refine q_asg (r := RN) (x := a) (e_var rfl rfl) fun v3 H7 e7 hv3 => ?_
            refine s_asg (r := RN) (x := b % a) (e_var rfl hv5) fun v2 H8 e8 hv2 => ?_
            have hv5 : v5 = .int ((b % a : Nat) : Int) := hv5
            have hv3 : v3 = .int (a : Int) := hv3
            have hv2 : v2 = .int ((b % a : Nat) : Int) := hv2
            subst hv5 hv3 hv2
            exact ⟨b % a, a, _, _, rfl, (((e4.trans e5).trans e6).trans e7).trans e8, hE.next ha hA, fun z => absurd z (by omega)⟩
      · obtain ⟨a, b, o4, o5, rfl, e4, hE, hA⟩ := hP
        have ha := hE.last
        subst ha
        refine fin _ _ b H' e4 ?_
        have := hE.gcd
        rw [Nat.gcd_zero_left] at this
        exact this
theorem ok__law_plus {f f__law_ratio : Addr} {fd : FuncData} (F : Fun K "_law_plus" "_law_plus" s_law_plus f fd) (T : Top K mg zZ zO) (h__law_ratio : Has P w K mg base "_law_ratio" ["_law_n", "_law_d"] 1 (spLRatio TT K) f__law_ratio) : FnOk P w K mg base CX0 2 f fd ["_law_a", "_law_b"] (spLOp TT K fun a b => a + b) := by
  refine F.ok sc_law_plus (fun vs H Q E h => ?_) (fun cdv A outer s H vs Q E hr h => ?_)
  · obtain ⟨x, _, hA, _⟩ := h
    exact AC.len (fun _ h => AC.len (fun _ h => A0.len h) h) hA
  · obtain ⟨⟨a, b, _⟩, tb, hA, ⟨ha, hb⟩, k⟩ := h
    obtain ⟨va, _, rfl, ra, vb, _, rfl, rb, rfl⟩ := hA
    refine ⟨_, (pss_one (ps_ret (pe_has h__law_ratio (hr.mono (by decide)) (by rfl) (pa_cons (pe_op op_add (pe_op op_mulW (pe_ix ix_tup (pv 0) pe_int (fun _ _ => rfl)) (pe_ix ix_tup (pv 1) pe_int (fun _ _ => rfl))) (pe_op op_mulW (pe_ix ix_tup (pv 1) pe_int (fun _ _ => rfl)) (pe_ix ix_tup (pv 0) pe_int (fun _ _ => rfl)))) (pa_cons (pe_op op_mulW (pe_ix ix_tup (pv 0) pe_int (fun _ _ => rfl)) (pe_ix ix_tup (pv 1) pe_int (fun _ _ => rfl))) pa_nil))))), ?_⟩
    obtain ⟨m1, m2, m3, m4, m5⟩ := mulW4 ha hb (by omega)
    have ea : EvR (RQ K) (tVar 0) (start ["_law_a", "_law_b"] [va, vb]) H a := e_var rfl ra
    have eb : EvR (RQ K) (tVar 1) (start ["_law_a", "_law_b"] [va, vb]) H b := e_var rfl rb
    refine s_ret (e_call (f := fun x : Int × Int × Unit => Rat.divInt x.1 x.2.1) tb (a_cons (e_op0 (e_opC m2 (e_num ea) (e_den eb)) (e_opC m3 (e_num eb) (e_den ea))) (a_cons (e_opC m4 (e_den ea) (e_den eb)) a_nil)) ⟨den_ne, Bq.of (num_add ha hb) (by omega), Bq.of (den_mul ha hb) (by omega)⟩) fun v H' e' hv => ?_
    exact k _ v H' (ratio_add a b) e' hv
theorem ok__law_times {f f__law_ratio : Addr} {fd : FuncData} (F : Fun K "_law_times" "_law_times" s_law_times f fd) (T : Top K mg zZ zO) (h__law_ratio : Has P w K mg base "_law_ratio" ["_law_n", "_law_d"] 1 (spLRatio TT K) f__law_ratio) : FnOk P w K mg base CX0 2 f fd ["_law_a", "_law_b"] (spLOp TT K fun a b => a * b) := by
  refine F.ok sc_law_times (fun vs H Q E h => ?_) (fun cdv A outer s H vs Q E hr h => ?_)
  · obtain ⟨x, _, hA, _⟩ := h
    exact AC.len (fun _ h => AC.len (fun _ h => A0.len h) h) hA
  · obtain ⟨⟨a, b, _⟩, tb, hA, ⟨ha, hb⟩, k⟩ := h
    obtain ⟨va, _, rfl, ra, vb, _, rfl, rb, rfl⟩ := hA
    refine ⟨_, (pss_one (ps_ret (pe_has h__law_ratio (hr.mono (by decide)) (by rfl) (pa_cons (pe_op op_mulW (pe_ix ix_tup (pv 0) pe_int (fun _ _ => rfl)) (pe_ix ix_tup (pv 1) pe_int (fun _ _ => rfl))) (pa_cons (pe_op op_mulW (pe_ix ix_tup (pv 0) pe_int (fun _ _ => rfl)) (pe_ix ix_tup (pv 1) pe_int (fun _ _ => rfl))) pa_nil))))), ?_⟩
    obtain ⟨m1, m2, m3, m4, m5⟩ := mulW4 ha hb (by omega)
    have ea : EvR (RQ K) (tVar 0) (start ["_law_a", "_law_b"] [va, vb]) H a := e_var rfl ra
    have eb : EvR (RQ K) (tVar 1) (start ["_law_a", "_law_b"] [va, vb]) H b := e_var rfl rb
    refine s_ret (e_call (f := fun x : Int × Int × Unit => Rat.divInt x.1 x.2.1) tb (a_cons (e_opC m1 (e_num ea) (e_num eb)) (a_cons (e_opC m4 (e_den ea) (e_den eb)) a_nil)) ⟨den_ne, Bq.of (num_mul ha hb) (by omega), Bq.of (den_mul ha hb) (by omega)⟩) fun v H' e' hv => ?_
    exact k _ v H' (ratio_mul a b) e' hv
theorem ok__law_less {f : Addr} {fd : FuncData} (F : Fun K "_law_less" "_law_less" s_law_less f fd) (T : Top K mg zZ zO) : FnOk P w K mg base CX0 1 f fd ["_law_one", "_law_other"] (spLess TT K) := by
  refine F.ok sc_law_less (fun vs H Q E h => ?_) (fun cdv A outer s H vs Q E hr h => ?_)
  · obtain ⟨x, _, hA, _⟩ := h
    exact AC.len (fun _ h => AC.len (fun _ h => A0.len h) h) hA
  · obtain ⟨⟨a, b, _⟩, tb, hA, ⟨ha, hb⟩, k⟩ := h
    obtain ⟨va, _, rfl, ra, vb, _, rfl, rb, rfl⟩ := hA
    refine ⟨_, (pss_one (ps_ret (pe_cmpR op_lt (pe_op op_mulW (pe_ix ix_tup (pv 0) pe_int (fun _ _ => rfl)) (pe_ix ix_tup (pv 1) pe_int (fun _ _ => rfl))) (pe_op op_mulW (pe_ix ix_tup (pv 1) pe_int (fun _ _ => rfl)) (pe_ix ix_tup (pv 0) pe_int (fun _ _ => rfl))) (nomark _)))), ?_⟩
    obtain ⟨m1, m2, m3, m4, m5⟩ := mulW4 ha hb (by omega)
    have ea : EvR (RQ K) (tVar 0) (start ["_law_one", "_law_other"] [va, vb]) H a := e_var rfl ra
    have eb : EvR (RQ K) (tVar 1) (start ["_law_one", "_law_other"] [va, vb]) H b := e_var rfl rb
    refine s_ret (e_opB (e_opC m2 (e_num ea) (e_den eb)) (e_opC m3 (e_num eb) (e_den ea))) fun v H' e' hv => ?_
    rw [lt_cross] at hv
    exact k _ v H' rfl e' hv
theorem cd_mean_sz {es : EndL} {vs : List Rat} {n : Nat} (h : CD (2 ^ 340) vs) (hE : EndsOk n es) (i : Nat) : sz 354 (psum (es.take i) (at0 vs) / (wsum es : Rat)) := by
  obtain ⟨D, h1, h2, h3⟩ := h
  let f : Nat → Nat := fun g => (h3 g).choose
  have hf : ∀ g, f g ≤ D ∧ at0 vs g = (f g : Rat) / (D : Rat) := fun g => (h3 g).choose_spec
  rw [psum_psN (fun g => (hf g).2), frac_div, divN]
  have w1 := wsum_pos hE
  have w2 := wsum_le hE
  have w3 := wsum_take_le es i
  have a1 : psN (es.take i) f ≤ wsum (es.take i) * D := psN_le (fun g => (hf g).1) _
  have a2 : wsum (es.take i) * D ≤ wsum es * D := Nat.mul_le_mul_right _ w3
  have a3 : wsum es * D < 2 ^ (12 + 341) := mul_lt2 (a := 12) (b := 341) (by omega) (Nat.lt_of_le_of_lt h2 (by decide +kernel))
  have hpos : 0 < D * wsum es := Nat.mul_pos h1 w1
  have e : D * wsum es = wsum es * D := Nat.mul_comm _ _
  have a4 : (2 : Nat) ^ (12 + 341) < 2 ^ 354 := by decide +kernel
  refine sz_divInt (by omega) (by rw [Int.natAbs_natCast]; omega) (by rw [Int.natAbs_natCast]; omega)
theorem ok__law_mean {f f__law_plus f__law_times f__law_ratio : Addr} {fd : FuncData} (F : Fun K "_law_mean" "_law_mean" s_law_mean f fd) (T : Top K mg zZ zO) (h__law_plus : Has P w K mg base "_law_plus" ["_law_a", "_law_b"] 2 (spLOp TT K fun a b => a + b) f__law_plus)
    (h__law_times : Has P w K mg base "_law_times" ["_law_a", "_law_b"] 2 (spLOp TT K fun a b => a * b) f__law_times) (h__law_ratio : Has P w K mg base "_law_ratio" ["_law_n", "_law_d"] 1 (spLRatio TT K) f__law_ratio) : FnOk P w K mg base CX0 3 f fd ["_law_ends_here", "_law_values"] (spLMean TT K) := by
  refine F.ok sc_law_mean (fun vs H Q E h => ?_) (fun cdv A outer s H vs Q E hr h => ?_)
  · obtain ⟨x, _, hA, _⟩ := h
    exact AC.len (fun _ h => AC.len (fun _ h => A0.len h) h) hA
  · obtain ⟨⟨es, xs, _⟩, tb, hA, ⟨hE, hz⟩, k⟩ := h
    obtain ⟨v, _, rfl, rv, v', _, rfl, rv', rfl⟩ := hA
    have hE : EndsOk xs.length es := hE
    have hz : CD (2 ^ 340) xs := hz
    have hw1 := wsum_pos hE
    have hw2 := wsum_le hE
    have hel := hE.len
    refine ⟨_, (pss_cons (ps_set (i := 2) sc_law_mean.nd rfl (.inl rfl) (pe_callB (cr_sum rfl) (by rfl) T.b_sum PyProof.Rows.boot_sum (pa_cons (pe_lc (own := [("_law_end", 3)]) (g := _) rfl sc_law_mean.nd (pi_tup (pv 0)) (blkOk_by (N := ["_law_ends_here", "_law_values", "_law_whole", "_law_end", "_law_total", "_law_goal", "_law_weight"]) (sc := defScope s_law_mean) (by decide +kernel)) (fun _ _ _ _ _ => (pg_name (i := 3) sc_law_mean.nd rfl (Or.inl rfl))) (fun _ _ _ _ _ => pts_nil) (fun _ _ _ _ _ => (pe_ix (kx_ix_tup (K := K) rfl) (pv 3) pe_int (fun _ _ => rfl)))) pa_nil)))
      (pss_cons (ps_set (i := 4) sc_law_mean.nd rfl (.inl rfl) (pe_tup (pa_cons pe_int (pa_cons pe_int pa_nil))))
      (pss_cons (ps_for PassesOwn.never rfl (pi_tup (pv 0)) (pg_tup rfl (pgs_cons (pg_name (i := 5) sc_law_mean.nd rfl (.inl rfl)) (pgs_cons (pg_name (i := 6) sc_law_mean.nd rfl (.inl rfl)) pgs_nil))) (pss_one (ps_set (i := 4) sc_law_mean.nd rfl (.inl rfl) (pe_has h__law_plus (hr.mono (by decide)) (by rfl) (pa_cons (pv 4) (pa_cons (pe_has h__law_times (hr.mono (by decide)) (by rfl) (pa_cons (pe_has h__law_ratio (hr.mono (by decide)) (by rfl) (pa_cons (pv 6) (pa_cons (pv 2) pa_nil))) (pa_cons (pe_ix ix_list (pv 1) (pv 5) (fun _ _ => rfl)) pa_nil))) pa_nil))))))
      (pss_one (ps_ret (pv 4)))))), ?_⟩
    refine q_asg (r := RN) (x := wsum es) (by
      have := e_sumN (K := K) (f_tup (r := RN) (s := RP K RN RN) (xs := es) (vs := [3]) (j := 3) (σ := start ["_law_ends_here", "_law_values", "_law_whole", "_law_end", "_law_total", "_law_goal", "_law_weight"] [v, v']) (tl := tVar 0) (tt := tYes) (te := tOp (rIxT K) (tVar 3) (tC (.int 1))) (fun _ => true) (fun e => e.2) (e_var rfl rv) (by omega) (fun _ => rfl) (fun i x v H' hx e hv => fun H1 e1 Q q => q H1 (Evl.Ex.refl _)) (fun i x v H' hx _ e hv => e_snd (r := RN) (s := RN) (e_var rfl hv)))
      rw [filter_true] at this
      exact this) fun vw H1 e1 hvw => ?_
    refine q_asg (r := RQ K) (x := 0) (e_frac e_int e_int rfl rfl) fun u0 H2 e2 hu0 => ?_
    refine q_forTv2 (s := RN) (s' := RN) (Hb := H1) (u := v) (xs := es) rfl (Mo.mo e1 rv) (fun i σ' H' => ∃ u o3 a b, σ' = [some v, some v', some vw, o3, some u, a, b] ∧ Ex H1 H' ∧ RQ K H' u (psum (es.take i) (at0 xs) / (wsum es : Rat))) ⟨u0, none, none, none, rfl, e2, by
      rw [List.take_zero, psum, Rat.div_def, Rat.zero_mul]
      exact hu0⟩ (fun i σ' H' ⟨_, _, _, _, _, h, _⟩ => h) (fun i e va vb σ' H' hx hP ha hb => ?_) (fun σ' H' hP => ?_)
    · obtain ⟨u, o3, a, b, rfl, e', hu⟩ := hP
      have hm := hE.mem e (List.mem_of_getElem? hx)
      have e0 := e1.trans e'
      have szr : sz 13 (Rat.divInt (e.2 : Int) (wsum es : Int)) := sz_divInt (by omega) (by omega) (by omega)
      have szv : sz 341 (at0 xs e.1) := at0_sz hz.sz (by omega) e.1
      refine s_asg (e_call (f := fun x : Rat × Rat × Unit => x.1 + x.2.1) (tb.ex e0) (a_cons (e_var (r := RQ K) rfl hu) (a_cons (e_call (f := fun x : Rat × Rat × Unit => x.1 * x.2.1) (tb.ex e0) (a_cons (e_call (f := fun x : Int × Int × Unit => Rat.divInt x.1 x.2.1) (tb.ex e0) (a_cons (e_nn (e_var (r := RN) (v := vb) (i := 6) rfl hb)) (a_cons (e_nn (e_var (r := RN) (v := vw) (i := 2) rfl (Mo.mo e' hvw))) a_nil)) ⟨by show ((wsum es : Nat) : Int) ≠ 0; omega, Bq.of (a := 13) (by show (Int.natAbs ((e.2 : Nat) : Int)) < 2 ^ 13; omega) (by omega), Bq.of (a := 13) (by show (Int.natAbs ((wsum es : Nat) : Int)) < 2 ^ 13; omega) (by omega)⟩)
        (a_cons (e_ixL (r := RQ K) (xs := xs) (e_var rfl (Mo.mo e0 rv')) (e_var (r := RN) rfl ha) (at0_get hm.1)) a_nil)) ⟨sz_mono szr (by omega), sz_mono szv (by omega)⟩) a_nil)) ⟨sz_mono (cd_mean_sz hz hE i) (by omega), sz_mono (sz_mul szr szv) (by omega)⟩) fun u2 H3 e3 hu2 => ?_
      refine ⟨u2, _, _, _, rfl, e'.trans e3, ?_⟩
      have eq : psum (es.take (i + 1)) (at0 xs) / (wsum es : Rat) = psum (es.take i) (at0 xs) / (wsum es : Rat) + Rat.divInt (e.2 : Int) (wsum es : Int) * at0 xs e.1 := by
        rw [take_succ' hx, psum_snoc, ← divN, Rat.div_def, Rat.div_def, Rat.div_def]
        grind
      rw [eq]
      exact hu2
    · obtain ⟨u, o3, a, b, rfl, e', hu⟩ := hP
      rw [List.take_length] at hu
      exact s_ret (e_var (r := RQ K) rfl hu) fun v H3 e3 hv => k _ v H3 rfl ((e1.trans e').trans e3) hv
theorem ok__law_none_less {f f__law_less : Addr} {fd : FuncData} (F : Fun K "_law_none_less" "_law_none_less" s_law_none_less f fd) (T : Top K mg zZ zO) (h__law_less : Has P w K mg base "_law_less" ["_law_one", "_law_other"] 1 (spLess TT K) f__law_less) :
    FnOk P w K mg base CX0 2 f fd ["_law_one", "_law_other"] (spNone TT K) := by
  refine F.ok sc_law_none_less (fun vs H Q E h => ?_) (fun cdv A outer s H vs Q E hr h => ?_)
  · obtain ⟨x, _, hA, _⟩ := h
    exact AC.len (fun _ h => AC.len (fun _ h => A0.len h) h) hA
  · obtain ⟨⟨a, b, _⟩, tb, hA, ⟨ha, hb, hl, hle⟩, k⟩ := h
    obtain ⟨va, _, rfl, ra, vb, _, rfl, rb, rfl⟩ := hA
    have ha : allSz 4000 a := ha
    have hb : allSz 4000 b := hb
    have hl : a.length = b.length := hl
    have hle : a.length ≤ 100 := hle
    refine ⟨_, (pss_one (ps_ret (pe_cmpR op_eq (pe_callB call_len_seq (by rfl) T.b_len PySem.boot_len (pa_cons (pe_lc (own := [("_law_k", 2)]) (g := _) rfl sc_law_none_less.nd (pi_range1 (by rfl) T.b_range (pa_cons (pe_callB call_len_seq (by rfl) T.b_len PySem.boot_len (pa_cons (pv 0) pa_nil)) pa_nil)) (blkOk_by (N := ["_law_one", "_law_other", "_law_k"]) (sc := defScope s_law_none_less) (by decide +kernel)) (fun _ _ _ _ _ => (pg_name (i := 2) sc_law_none_less.nd rfl (Or.inl rfl))) (fun _ _ _ _ _ => pts_one (pt_val (pe_has h__law_less (hr.mono (by decide)) (by rfl) (pa_cons (pe_ix (kx_ix_seq (K := K) rfl) (pv 0) (pv 2) (fun _ _ => rfl)) (pa_cons (pe_ix (kx_ix_seq (K := K) rfl) (pv 1) (pv 2) (fun _ _ => rfl)) pa_nil))))) (fun _ _ _ _ _ => (pv 2))) pa_nil)) pe_int (nomark _)))), ?_⟩
    refine s_ret (e_eqI (e_nn (e_lenL (r := RN) (f_range (r := RN) (n := a.length) (fun k => decide (at0 a k < at0 b k)) (fun k => k) (e_lenS (r := RQ K) (e_var rfl ra)) (by omega) (fun _ => rfl) (fun i H' hi e => ?_) (fun i H' hi _ e => e_var rfl rfl)).toR)) e_int) fun v H' e' hv => ?_
    · exact t_val (e_call (f := fun x : Rat × Rat × Unit => decide (x.1 < x.2.1)) (tb.ex e) (a_cons (e_ixS (r := RQ K) (xs := a) (e_var rfl (Mo.mo e ra)) (e_var (r := RN) (x := i) rfl rfl) (at0_get hi)) (a_cons (e_ixS (r := RQ K) (xs := b) (e_var rfl (Mo.mo e rb)) (e_var (r := RN) (x := i) rfl rfl) (at0_get (by omega))) a_nil)) ⟨at0_sz ha (by omega) i, at0_sz hb (by omega) i⟩)
    · refine k _ v H' ?_ e' hv
      show decide (((fm (fun k => decide (at0 a k < at0 b k)) (fun k => k) a.length).length : Int) = 0) = noneLess a b
      unfold fm noneLess
      rw [List.map_id', Bool.eq_iff_iff, decide_eq_true_eq, beq_iff_eq]
      omega
theorem ok__law_followed {f f__law_mean : Addr} {fd : FuncData} (F : Fun K "_law_followed" "_law_followed" s_law_followed f fd) (T : Top K mg zZ zO) (h__law_mean : Has P w K mg base "_law_mean" ["_law_ends_here", "_law_values"] 3 (spLMean TT K) f__law_mean) :
    FnOk P w K mg base CX0 4 f fd ["_law_system_here", "_law_rest", "_law_targets", "_law_policies"] (spFol TT K) := by
  refine F.ok sc_law_followed (fun vs H Q E h => ?_) (fun cdv A outer s H vs Q E hr h => ?_)
  · obtain ⟨x, _, hA, _⟩ := h
    exact AC.len (fun _ h => AC.len (fun _ h => AC.len (fun _ h => AC.len (fun _ h => A0.len h) h) h) h) hA
  · obtain ⟨⟨S, rest, ts, ps, _⟩, tb, hA, hP, k⟩ := h
    obtain ⟨v1, _, rfl, r1, v2, _, rfl, r2, v3, _, rfl, r3, v4, _, rfl, r4, rfl⟩ := hA
    have hP : FolPre S rest ps := hP
    have hS := hP.sys
    have hSl := hS.len
    have hrl : rest.length ≤ 4 := by
      have := hP.nd.length_le_of_subset (l₂ := List.range S.length) fun s hs => List.mem_range.mpr (hP.ok.lt s hs)
      rw [List.length_range] at this
      omega
    have hEp : ∀ p ∈ ps, EndsP S S.length rest p := fun p hp s hs => (hP.pol p hp).ends hS (hP.ok.lt s hs)
    refine ⟨_, (pss_cons (ps_setLc (i := 4) (own := [("_law_k", 5)]) (g := _) rfl sc_law_followed.nd rfl rfl (sw_true rfl rfl rfl (by decide +kernel)) (pi_range1 (by rfl) T.b_range (pa_cons (pe_callB call_len_seq (by rfl) T.b_len PySem.boot_len (pa_cons (pv 0) pa_nil)) pa_nil)) (blkOk_by (N := ["_law_system_here", "_law_rest", "_law_targets", "_law_policies", "_law_values", "_law_k", "_law_policy", "_law_made", "_law_one"]) (sc := defScope s_law_followed) (by decide +kernel)) (fun _ _ _ _ _ => (pg_name (i := 5) sc_law_followed.nd rfl (Or.inl rfl))) (fun _ _ _ _ _ => pts_nil) (fun _ _ _ _ _ => (pe_tup (pa_cons (pe_callTy call_int1 (by rfl) T.b_int (by decide +kernel) (pa_cons (pe_cmpR (kx_op_in_seq (K := K) rfl) (pv 5) (pv 2) (by rfl)) pa_nil)) (pa_cons pe_int pa_nil)))))
      (pss_cons (ps_for PassesOwn.never rfl (pi_list (pv 3)) (pg_name (i := 6) sc_law_followed.nd rfl (.inl rfl)) (pss_cons (ps_set (i := 7) sc_law_followed.nd rfl (.inl rfl) (pe_callTy call_list_of (by rfl) T.b_list (by decide +kernel) (pa_cons (pv 4) pa_nil)))
      (pss_cons (ps_for PassesOwn.never rfl (pi_list (pv 1)) (pg_name (i := 8) sc_law_followed.nd rfl (.inl rfl)) (pss_one (ps_asg (pe_has h__law_mean (hr.mono (by decide)) (by rfl) (pa_cons (pe_ix ix_tup (pe_ix ix_tup (pe_ix ix_tup (pv 0) (pv 8) (fun _ _ => rfl)) (pe_ix ix_tup (pv 6) (pv 8) (fun _ _ => rfl)) (fun _ _ => rfl)) pe_int (fun _ _ => rfl)) (pa_cons (pv 4) pa_nil))) (pg_sub (pv 7) (pv 8) set_list))))
      (pss_one (ps_set (i := 4) sc_law_followed.nd rfl (.inl rfl) (pv 7))))))
      (pss_one (ps_ret (pv 4))))), ?_⟩
    refine q_asgF (f_range (r := RQ K) (n := S.length) (fun _ => true) (fun s => if decide (s ∈ ts) then (1 : Rat) else 0) (e_lenT (e_var (r := RSys K) rfl r1)) (by omega) (fun _ => rfl) (fun i H' hi e => fun H1 e1 Q q => q H1 (Evl.Ex.refl _)) (fun i H' hi _ e => ?_)) fun pv wv H1 hnv e1 hpv halv => ?_
    · refine e_frac (n := if decide (i ∈ ts) then 1 else 0) (d := 1) (e_intB (e_in (e_var rfl rfl) (e_var rfl (Mo.mo e r3)))) e_int ?_ ?_
      · split <;> rfl
      · split <;> rfl
    · rw [fm_true] at halv
      have OV : Own (RQ K) H pv H1 (bas S.length ts) := Own.of hnv hpv halv
      refine q_forLv (s := RT K RN) (Hb := H) (u := v4) (xs := ps) rfl r4 (fun i σ' H' => ∃ pv vs a5 a6 a7 a8, σ' = [some v1, some v2, some v3, some v4, some (.ref pv), a5, a6, a7, a8] ∧ Ex H H' ∧ Own (RQ K) H pv H' vs ∧ vs = fol S rest (bas S.length ts) (ps.take i))
        ⟨pv, _, none, none, none, none, rfl, e1, OV, rfl⟩ (fun i σ' H' ⟨_, _, _, _, _, _, _, h, _⟩ => h) (fun i pol vp σ' H' hx hP' hvp => ?_) (fun σ' H' hP' => ?_)
      · obtain ⟨pv, vs, a5, a6, a7, a8, rfl, e2, OV, hvs⟩ := hP'
        have hpol := hP.pol pol (List.mem_of_getElem? hx)
        have hvl : vs.length = S.length := by rw [hvs, fol_len, bas_len]
        have hcd : CD (2 ^ 340) vs := by
          rw [hvs]
          have h := CD.fol (n := S.length) hrl (fun p hp => hEp p (List.mem_of_mem_take hp)) (bas_cd (n := S.length) (ts := ts)) bas_len (ps := ps.take i)
          refine h.le (Nat.pow_le_pow_right (by omega) ?_)
          have := hP.len
          rw [List.length_take]
          omega
        refine q_asgF (f_listL (e_var (r := RL K (RQ K)) rfl OV.rl)) fun pn wn H3 hnn e3 hpn haln => ?_
        have ON : Own (RQ K) H' pn H3 vs := Own.of hnn hpn haln
        refine q_forLv (s := RN) (Hb := H') (u := v2) (xs := rest) rfl (Mo.mo e2 r2) (fun j σ'' H'' => ∃ nv a8, σ'' = [some v1, some v2, some v3, some v4, some (.ref pv), a5, some vp, some (.ref pn), a8] ∧ Ex H' H'' ∧ Own (RQ K) H' pn H'' nv ∧ nv.length = S.length ∧ ∀ s, s < S.length → at0 nv s = if s ∈ rest.take j then mean (pE' S pol s) vs else at0 vs s)
          ⟨vs, a8, rfl, e3, ON, hvl, fun s hs => by simp⟩ (fun j σ' H' ⟨_, _, _, h, _⟩ => h) (fun j s vs' σ'' H'' hxs hP'' hs => ?_) (fun σ'' H'' hP'' => ?_)
        · obtain ⟨nv, a8, rfl, e4, ON, hnl, hat⟩ := hP''
          have hsn := hP.ok.lt s (List.mem_of_getElem? hxs)
          have e04 := e2.trans e4
          have hpa := hpol.at hsn
          refine s_setO (r := RQ K) (y := mean (pE' S pol s) vs) (i := s) ON e4 (e_call (f := fun x : EndL × List Rat × Unit => mean x.1 x.2.1) (tb.ex e04) (a_cons (e_snd (r := RN) (s := REnds K) (x := chAt S s (pol.getD s 0)) (e_ixT (r := RCh K) (xs := S.getD s []) (e_ixT (r := RT K (RCh K)) (xs := S) (e_var (r := RSys K) rfl (Mo.mo e04 r1)) (e_var (r := RN) rfl hs) (sysAt hsn)) (e_ixT (r := RN) (xs := pol) (e_var rfl (Mo.mo e4 hvp)) (e_var (r := RN) rfl hs) hpa.1) hpa.2)) (a_cons (e_var (r := RL K (RQ K)) rfl (OV.ex e4).rl) a_nil)) ⟨by show EndsOk vs.length _; rw [hvl]; exact hpol.ends hS hsn, hcd⟩) (Evl.ev_var rfl) (e_var (r := RN) rfl hs) (by rw [hnl]; exact hsn) fun H5 u5 w5 e5 hp5 ex5 ON5 => ?_
          refine ⟨_, _, rfl, ex5, ON5, by rw [List.length_set]; exact hnl, fun t ht => ?_⟩
          have et : rest.take (j + 1) = rest.take j ++ [s] := take_succ' hxs
          rw [at0_set (by rw [hnl]; exact hsn)]
          by_cases hts : t = s
          · rw [if_pos hts, hts, if_pos (by rw [et]; simp)]
          · rw [if_neg hts, hat t ht]
            have : t ∈ rest.take (j + 1) ↔ t ∈ rest.take j := by
              rw [et, List.mem_append, List.mem_singleton]
              exact ⟨fun h => h.resolve_right hts, .inl⟩
            by_cases hm : t ∈ rest.take j
            · rw [if_pos hm, if_pos (this.mpr hm)]
            · rw [if_neg hm, if_neg fun z => hm (this.mp z)]
        · obtain ⟨nv, a8, rfl, e4, ON, hnl, hat⟩ := hP''
          rw [List.take_length] at hat
          refine ⟨.ref pn, rfl, pn, nv, _, _, _, _, rfl, e2.trans e4, Own.back ON e2, ?_⟩
          rw [take_succ' hx, fol_snoc, ← hvs]
          exact list_ext_at0 (by rw [stp_len, hnl, hvl]) fun s hs => by rw [hat s (by rw [← hnl]; exact hs), stp_at (by rw [hvl, ← hnl]; exact hs)]
      · obtain ⟨pv, vs, a5, a6, a7, a8, rfl, e2, OV, hvs⟩ := hP'
        rw [List.take_length] at hvs
        obtain ⟨hn2, w2, hp2, hal2⟩ := OV
        exact s_retO rfl (k vs pv w2 H' hvs hn2 e2 hp2 hal2)
end
end BO

/-! the law's state: a list of the tape and the place on it -/
namespace BO
open PySem PySem.Spec PyProof.Rows L2
structure TapeOk (tape : List Nat) : Prop where
  lt : ∀ x ∈ tape, x < 2 ^ 31
  len : tape.length ≤ 3000
structure SK (ps pt : Addr) (tape : List Nat) (H : Hp) (n : Nat) : Prop where
  st : H ps = some (.lst [.ref pt, .int (n : Int)])
  tp : ∃ ws, H pt = some (.lst ws) ∧ All RN H ws tape
  ne : pt ≠ ps
  ok : TapeOk tape
abbrev Es (ps : Addr) (H H' : Hp) : Prop := Ex (hide ps H) (hide ps H')
class FxA {α : Type} (A : AR α) : Prop where
  fx : ∀ {H H' : Hp} {vs : List V} {x : α}, Tx H H' → A H vs x → A H' vs x
instance : FxA A0 := ⟨fun _ h => h⟩
instance {α β : Type} {r : RR α} {A : AR β} [Fx r] [FxA A] : FxA (AC r A) := ⟨fun e ⟨v, ws, h1, h2, h3⟩ => ⟨v, ws, h1, Fx.fx e h2, FxA.fx e h3⟩⟩
/-- a def that draws: the state first, then A; no more than c draws -/
def spS (T : List Addr) {γ β : Type} (A : AR γ) (c : Nat) (pre : γ → Prop) (r : RR β) (post : γ → β → Prop) : Sp := fun vs H Q _ => ∃ (ps pt : Addr) (tape : List Nat) (n : Nat) (x : γ) (ws : List V), vs = .ref ps :: ws ∧ Tb T H ∧ SK ps pt tape H n ∧ n + c ≤ 100000 ∧ A (hide ps H) ws x ∧ pre x ∧
  ∀ y v H' m, post x y → Es ps H H' → SK ps pt tape H' m → m ≤ n + c → r (hide ps H') v y → Q v H'
section
variable {K : PySem.W.Frag} {σ : L2.St} {H H' H0 : Hp} {te ta tb tn : TE} {tt uu : TT} {tu tz : TS} {D : Ends} {α β γ : Type} {r : RR α} {s : RR β} {ps pt : Addr} {tape : List Nat} {n c d : Nat}
theorem SK.ex (h : SK ps pt tape H n) (e : Ex H H') : SK ps pt tape H' n := by
  obtain ⟨h1, ⟨ws, h2, h3⟩, h4, h5⟩ := h
  exact ⟨e _ _ h1, ⟨ws, e _ _ h2, h3.mo e⟩, h4, h5⟩
theorem Es.of (e : Ex H H') : Es ps H H' := hide_ex e
theorem SK.tabs {T : List Addr} (ht : Tb T H) (h : SK ps pt tape H n) : Tb T (hide ps H) := fun P hP => by
  have h1 := ht P hP
  have ne : P ≠ ps := fun z => by
    rw [z, h.st] at h1
    cases h1
  rw [hide_ne ne]
  exact h1
theorem SK.tx (h : SK ps pt tape H n) : Tx H (hide ps H) := hide_tx h.st
def SvR (ps pt : Addr) (tape : List Nat) (c : Nat) (r : RR α) (P : α → Prop) (te : TE) (σ : L2.St) (H : Hp) : Prop := ∀ H1 n, Es ps H H1 → SK ps pt tape H1 n → n + c ≤ 100000 → ∀ Q : VK, (∀ x v H2 m, P x → Es ps H1 H2 → SK ps pt tape H2 m → m ≤ n + c → r (hide ps H2) v x → Q v H2) → te σ H1 Q
def SvT (ps pt : Addr) (tape : List Nat) (c : Nat) (P : Bool → Prop) (tt : TT) (σ : L2.St) (H : Hp) : Prop := ∀ H1 n, Es ps H H1 → SK ps pt tape H1 n → n + c ≤ 100000 → ∀ Q : Bool → Hp → Prop, (∀ b H2 m, P b → Es ps H1 H2 → SK ps pt tape H2 m → m ≤ n + c → Q b H2) → tt σ H1 Q
def SvF (ps pt : Addr) (tape : List Nat) (c : Nat) (r : RR α) (P : List α → Prop) (te : TE) (σ : L2.St) (H : Hp) : Prop := ∀ H1 n, Es ps H H1 → SK ps pt tape H1 n → n + c ≤ 100000 → ∀ Q : VK, (∀ ys p ws H2 m, P ys → hide ps H1 p = none → p ≠ ps → Es ps H1 H2 → SK ps pt tape H2 m → m ≤ n + c → H2 p = some (.lst ws) → All r (hide ps H2) ws ys → Q (.ref p) H2) → te σ H1 Q
theorem e_varS [Mo r] {i : Nat} {v : V} {x : α} (h : σ[i]? = some (some v)) (hr : r (hide ps H) v x) : ∀ H', Es ps H H' → EvR r (tVar i) σ H' x := fun H' e => e_var h (Mo.mo hide_sub (Mo.mo e hr))
theorem sv_pure [Fx r] {x : α} (h : ∀ H', Es ps H H' → EvR r te σ H' x) : SvR ps pt tape 0 r (fun y => y = x) te σ H := fun H1 n e sk _ Q q => h H1 e H1 (Evl.Ex.refl _) Q fun v H2 e2 hv => q x v H2 n rfl (Es.of e2) (sk.ex e2) (Nat.le_refl _) (Fx.fx (sk.ex e2).tx hv)
theorem SvR.imp {P P' : α → Prop} (h : SvR ps pt tape c r P te σ H) (f : ∀ x, P x → P' x) (hc : c ≤ d) : SvR ps pt tape d r P' te σ H := fun H1 n e sk hn Q q => h H1 n e sk (by omega) Q fun x v H2 m hp e2 sk2 hm hv => q x v H2 m (f x hp) e2 sk2 (by omega) hv
theorem sv_call {T : List Addr} {A : AR γ} [FxA A] {pre : γ → Prop} {post : γ → β → Prop} {tq : TA} {i : Nat} {x : γ} (tb : Tb T (hide ps H)) (hσ : σ[i]? = some (some (.ref ps))) (ha : ∀ H', Es ps H H' → EvA A tq σ H' x) (hp : pre x) :
    SvR ps pt tape c s (post x) (tCall (spS T A c pre s post) [] E0 (tCons (tVar i) tq)) σ H := fun H1 n1 e sk hn Q q =>
  ⟨.ref ps, hσ, ha H1 e H1 (Evl.Ex.refl _) _ fun ws H2 e2 hw => ⟨ps, pt, tape, n1, x, ws, by rw [List.append_nil], (tb.ex (e.trans (Es.of e2))).ex hide_sub, sk.ex e2, hn, FxA.fx (sk.ex e2).tx hw, hp, fun y v H3 m hy e3 sk3 hm hv => q y v H3 m hy ((Es.of e2).trans e3) sk3 hm hv⟩⟩
theorem q_asgS {P : α → Prop} {i : Nat} (h : SvR ps pt tape c r P te σ H) (sk : SK ps pt tape H n) (hn : n + c ≤ 100000) (k : ∀ x v H' m, P x → Es ps H H' → SK ps pt tape H' m → m ≤ n + c → r (hide ps H') v x → tz D (σ.set i (some v)) H') : tSeq (tAsg te (gName i)) tz D σ H :=
  h H n (Evl.Ex.refl _) sk hn _ k
theorem s_retS {P : α → Prop} (h : SvR ps pt tape c r P te σ H) (sk : SK ps pt tape H n) (hn : n + c ≤ 100000) (k : ∀ x v H' m, P x → Es ps H H' → SK ps pt tape H' m → m ≤ n + c → r (hide ps H') v x → D.rt v H') : tRet te D σ H :=
  h H n (Evl.Ex.refl _) sk hn _ k
theorem hide_upd_ne {q p : Addr} {o : HO} (h : p ≠ q) : hide q (upd H p o) = upd (hide q H) p o := by
  funext b
  unfold hide
  by_cases h1 : b = q
  · rw [if_pos h1, upd_ne (fun z => h (z.symm.trans h1)), if_pos h1]
  · rw [if_neg h1]
    by_cases h2 : b = p
    · rw [h2, upd_same, upd_same]
    · rw [upd_ne h2, upd_ne h2, if_neg h1]
/-- a new object behind -/
theorem es_new {p : Addr} {o : HO} (sk : SK ps pt tape H n) (h : H p = none) : Es ps H (upd H p o) ∧ p ≠ ps ∧ hide ps (upd H p o) = upd (hide ps H) p o := by
  have ne : p ≠ ps := fun z => by rw [z, sk.st] at h; cases h
  exact ⟨hide_ex (Evl.Ex.new h), ne, hide_upd_ne ne⟩
theorem sv_pair [Fx r] [Fx s] {P1 : α → Prop} {P2 : β → Prop} (h1 : SvR ps pt tape c r P1 ta σ H) (h2 : SvR ps pt tape d s P2 tb σ H) : SvR ps pt tape (c + d) (RP K r s) (fun y => P1 y.1 ∧ P2 y.2) (tTup (tCons ta (tCons tb tNil))) σ H := fun H1 n e sk hn Q q =>
  h1 H1 n e sk (by omega) _ fun x v H2 m hx e2 sk2 hm hv => h2 H2 m (e.trans e2) sk2 (by omega) _ fun y w H3 l hy e3 sk3 hl hw => ⟨by show 2 ≤ sizeLine; decide, fun p hp => by
    obtain ⟨f1, f2, f3⟩ := es_new (o := .tup [v, w]) sk3 hp
    exact q (x, y) _ _ l ⟨hx, hy⟩ ((e2.trans e3).trans f1) (sk3.ex (Evl.Ex.new hp)) (by omega) ⟨p, v, w, rfl, SqT.of (by rw [f3, upd_same]), Mo.mo (e3.trans f1) hv, Mo.mo f1 hw⟩⟩
theorem sv_add1 {P : Nat → Prop} (h : SvR ps pt tape c RN P te σ H) : SvR ps pt tape c RN (fun y => ∃ x, P x ∧ y = 1 + x) (tOp (rI0 fun i j => .int (i + j)) (tC (.int 1)) te) σ H := fun H1 n e sk hn Q q =>
  h H1 n e sk hn _ fun x v H2 m hx e2 sk2 hm hv => ⟨1, (x : Int), rfl, hv, q (1 + x) _ H2 m ⟨x, hx, rfl⟩ e2 sk2 hm (by show V.int _ = V.int _; rw [Int.natCast_add]; rfl)⟩
theorem svt_eq0 {P : Nat → Prop} (h : SvR ps pt tape c RN P te σ H) : SvT ps pt tape c (fun _ => True) (tTest (tOp rEq te (tC (.int 0)))) σ H := fun H1 n e sk hn Q q =>
  h H1 n e sk hn _ fun x v H2 m hx e2 sk2 hm hv => ⟨by rw [show v = V.int (x : Int) from hv]; rfl, _, rfl, q _ H2 m trivial e2 sk2 hm⟩
theorem svt_yes : SvT ps pt tape 0 (fun b => b = true) tYes σ H := fun H1 n e sk hn Q q => q true H1 n rfl (Evl.Ex.refl _) sk (Nat.le_refl _)
theorem svt_or {a : Bool} {P : Bool → Prop} (h1 : ∀ H', Es ps H H' → EvT tt σ H' a) (h2 : SvT ps pt tape c P uu σ H) : SvT ps pt tape c (fun b => a = true → b = true) (tOr tt uu) σ H := fun H1 n e sk hn Q q =>
  h1 H1 e H1 (Evl.Ex.refl _) _ fun H2 e2 => by
    cases a with
    | true => exact q true H2 n (fun _ => rfl) (Es.of e2) (sk.ex e2) (by omega)
    | false => exact h2 H2 n (e.trans (Es.of e2)) (sk.ex e2) hn Q fun b H3 m _ e3 sk3 hm => q b H3 m (fun z => by cases z) ((Es.of e2).trans e3) sk3 hm
theorem s_ifS {P : Bool → Prop} {tw : TS} (h : SvT ps pt tape c P tt σ H) (sk : SK ps pt tape H n) (hn : n + c ≤ 100000) (h1 : P true → ∀ H' m, Es ps H H' → SK ps pt tape H' m → m ≤ n + c → tu D σ H') (h2 : P false → ∀ H' m, Es ps H H' → SK ps pt tape H' m → m ≤ n + c → tw D σ H') : tIfS tt tu tw D σ H :=
  h H n (Evl.Ex.refl _) sk hn _ fun b H2 m hp e2 sk2 hm => by
    cases b with
    | true => exact h1 hp H2 m e2 sk2 hm
    | false => exact h2 hp H2 m e2 sk2 hm
/-- constants in a new list -/
theorem f_consts {tq : TA} (ns : List Nat) (h : ∀ H1 Q, Q (ns.map fun n : Nat => V.int (n : Int)) H1 → tq σ H1 Q) (hl : ns.length ≤ 1000) : EvF RN (tLst tq) σ H ns := fun H1 e Q q =>
  h H1 _ ⟨Evl.sz_of (by rw [List.length_map]; omega), fun p hp => q p _ _ hp (Evl.Ex.new hp) upd_same (All.of_nats ns)⟩
theorem sv_item {ns : List Nat} (h1 : ∀ H', EvF RN ta σ H' ns) (h2 : SvR ps pt tape c RN (fun y => y < ns.length) tb σ H) : SvR ps pt tape c RN (fun y => y ∈ ns) (tOp (rIxL K) ta tb) σ H := fun H1 n e sk hn Q q =>
  h1 H1 H1 (Evl.Ex.refl _) _ fun p ws H2 hp e2 hws hal => h2 H2 n (e.trans (Es.of e2)) (sk.ex e2) hn _ fun x v H3 m hx e3 sk3 hm hv => by
    have ne : p ≠ ps := fun z => by rw [z, sk.st] at hp; cases hp
    have h3 : H3 p = some (.lst ws) := hide_sub _ _ (e3 p _ (by rw [hide_ne ne]; exact hws))
    have hx2 : ns[x]? = some ns[x] := List.getElem?_eq_getElem hx
    obtain ⟨u, hu, hr⟩ := hal.get hx2
    exact ⟨p, ws, (x : Int), u, rfl, hv, SqL.of h3, atI_nat hu, q ns[x] u H3 m (List.getElem_mem hx) ((Es.of e2).trans e3) sk3 hm hr⟩
theorem sv_tupleF [Fx r] {P : List α → Prop} (h : SvF ps pt tape c r P te σ H) :
    SvR ps pt tape c (RT K r) P (tCB (fun (xs : List V) (H : Hp) (Q : VK) => ∃ p ys, xs = [.ref p] ∧ ((SqL K H p ys ∧ ∀ l, H l = none → Q (.ref l) (upd H l (.tup ys))) ∨ (SqT K H p ys ∧ Q (.ref p) H))) (tCons te tNil)) σ H := fun H1 n e sk hn Q q =>
  h H1 n e sk hn _ fun ys p ws H2 m hP hn2 hne e2 sk2 hm hp hal => ⟨p, ws, rfl, .inl ⟨SqL.of hp, fun l hl => by
    obtain ⟨f1, f2, f3⟩ := es_new (o := .tup ws) sk2 hl
    exact q ys _ _ m hP (e2.trans f1) (sk2.ex (Evl.Ex.new hl)) hm ⟨l, ws, rfl, SqT.of (by rw [f3, upd_same]), hal.mo f1⟩⟩⟩
/-- tuple(a list of one's own) -/
theorem sv_tupleO [Fx r] {ys : List α} {p : Addr} {i : Nat} (hσ : σ[i]? = some (some (.ref p))) (hO : Own r (hide ps H0) p (hide ps H) ys) :
    SvR ps pt tape 0 (RT K r) (fun y => y = ys) (tCB (fun (xs : List V) (H : Hp) (Q : VK) => ∃ p ys, xs = [.ref p] ∧ ((SqL K H p ys ∧ ∀ l, H l = none → Q (.ref l) (upd H l (.tup ys))) ∨ (SqT K H p ys ∧ Q (.ref p) H))) (tCons (tVar i) tNil)) σ H := fun H1 n e sk hn Q q => by
  obtain ⟨_, ws, hp, hal⟩ := hO.ex e
  refine ⟨.ref p, hσ, p, ws, rfl, .inl ⟨SqL.of (hide_sub _ _ hp), fun l hl => ?_⟩⟩
  obtain ⟨f1, f2, f3⟩ := es_new (o := .tup ws) sk hl
  exact q ys _ _ n rfl f1 (sk.ex (Evl.Ex.new hl)) (Nat.le_refl _) ⟨l, ws, rfl, SqT.of (by rw [f3, upd_same]), hal.mo f1⟩
theorem own_app [Fx r] {ys : List α} {p : Addr} {H2 : Hp} {m : Nat} {x : α} {v : V} (hO : Own r (hide ps H0) p (hide ps H) ys) (sk0 : SK ps pt tape H0 d) (e0 : Es ps H0 H) (e2 : Es ps H H2) (sk2 : SK ps pt tape H2 m) (hv : r (hide ps H2) v x) :
    ∃ ws, H2 p = some (.lst ws) ∧ ws.length = ys.length ∧ Es ps H0 (upd H2 p (.lst (ws ++ [v]))) ∧ SK ps pt tape (upd H2 p (.lst (ws ++ [v]))) m ∧ Own r (hide ps H0) p (hide ps (upd H2 p (.lst (ws ++ [v])))) (ys ++ [x]) := by
  obtain ⟨hn0, ws, hp, hal⟩ := hO
  have ne : p ≠ ps := fun z => by
    have h : hide ps H ps = some (.lst ws) := by rw [z] at hp; exact hp
    unfold hide at h
    rw [if_pos rfl] at h
    cases h
  have hp2 := e2 p _ hp
  have hup : hide ps (upd H2 p (.lst (ws ++ [v]))) = upd (hide ps H2) p (.lst (ws ++ [v])) := hide_upd_ne ne
  have tx : Tx (hide ps H2) (hide ps (upd H2 p (.lst (ws ++ [v])))) := by rw [hup]; exact Tx.set (Tx.refl _) hp2 trivial
  refine ⟨ws, hide_sub _ _ hp2, hal.1, ?_, ?_, hn0, ws ++ [v], by rw [hup, upd_same], ?_⟩
  · show Ex (hide ps H0) (hide ps (upd H2 p (.lst (ws ++ [v]))))
    rw [hup]
    exact Evl.Ex.mut (e0.trans e2) hn0
  · obtain ⟨s1, ⟨wt, s2, s3⟩, s4, s5⟩ := sk2
    have npt : pt ≠ p := fun z => by
      obtain ⟨_, ⟨w0, t2, _⟩, t4, _⟩ := sk0
      rw [← z, hide_ne t4, t2] at hn0
      cases hn0
    exact ⟨by rw [upd_ne (fun z => ne z.symm)]; exact s1, ⟨wt, by rw [upd_ne npt]; exact s2, ⟨s3.1, fun i v x h1 h2 => s3.2 i v x h1 h2⟩⟩, s4, s5⟩
  · exact ((hal.mo e2).fx tx).snoc (Fx.fx tx hv)
/-- xs.append(e), e drawing -/
theorem s_appS [Fx r] {ys : List α} {P : α → Prop} {p : Addr} {i : Nat} (hO : Own r (hide ps H0) p (hide ps H) ys) (sk0 : SK ps pt tape H0 d) (e0 : Es ps H0 H) (hσ : σ[i]? = some (some (.ref p))) (hv : SvR ps pt tape c r P te σ H) (sk : SK ps pt tape H n) (hn : n + c ≤ 100000) (hlt : ys.length < 100000)
    (k : ∀ x H' m, P x → Es ps H0 H' → SK ps pt tape H' m → m ≤ n + c → Own r (hide ps H0) p (hide ps H') (ys ++ [x]) → D.nx σ H') : tDrop (tBM K "list" rAppend (tVar i) (tCons te tNil)) D σ H := by
  have hO' := hO
  obtain ⟨_, ws, hp, _⟩ := hO'
  refine ⟨.ref p, hσ, Or.inl ⟨rfl, ws, SqL.of (hide_sub _ _ hp)⟩, hv H n (Evl.Ex.refl _) sk hn _ fun x v H2 m hx e2 sk2 hm hv => ?_⟩
  obtain ⟨ws2, q1, q2, q3, q4, q5⟩ := own_app hO sk0 e0 e2 sk2 hv
  exact ⟨p, ws2, v, rfl, rfl, q1, Evl.sz_lt (by rw [q2]; exact hlt), k x _ m hx q3 q4 hm q5⟩
/-- comprehensions whose test, whose elements draw -/
def CrS (ps pt : Addr) (tape : List Nat) (r : RR α) (H0 : Hp) (n0 c : Nat) (D : Addr) (Pl : Nat → List α → Prop) (i : Nat) (H' : Hp) : Prop := ∃ ys m, Pl i ys ∧ Es ps H0 H' ∧ SK ps pt tape H' m ∧ m ≤ n0 + i * c ∧ Own r (hide ps H0) D (hide ps H') ys
theorem crS_start {D : Addr} {Pl : Nat → List α → Prop} {n0 : Nat} (h0 : Pl 0 []) (sk : SK ps pt tape H0 n0) (hD : H0 D = none) : CrS ps pt tape r H0 n0 c D Pl 0 (upd H0 D (.lst [])) := by
  obtain ⟨f1, f2, f3⟩ := es_new (o := .lst []) sk hD
  exact ⟨[], n0, h0, f1, sk.ex (Evl.Ex.new hD), by omega, by rw [hide_ne f2]; exact hD, [], by rw [f3, upd_same], .nil⟩
theorem crS_turn [Fx r] {D : Addr} {Pl : Nat → List α → Prop} {n0 d1 d2 i : Nat} {σ2 : L2.St} {Pt : Bool → Prop} {Z : Hp → Prop} (sk0 : SK ps pt tape H0 n0) (h : CrS ps pt tape r H0 n0 (d1 + d2) D Pl i H') (hb : n0 + (i + 1) * (d1 + d2) ≤ 100000) (hlen : ∀ ys, Pl i ys → ys.length ≤ 1000)
    (ht : SvT ps pt tape d1 Pt tt σ2 H') (he : Pt true → ∀ ys, Pl i ys → SvR ps pt tape d2 r (fun y => Pl (i + 1) (ys ++ [y])) te σ2 H') (hf : Pt false → ∀ ys, Pl i ys → Pl (i + 1) ys) (hZ : ∀ H4, CrS ps pt tape r H0 n0 (d1 + d2) D Pl (i + 1) H4 → Z H4) :
    tt σ2 H' fun b H3 => if b = true then te σ2 H3 fun y H4 => ∃ acc, H4 D = some (.lst acc) ∧ acc.length < sizeLine ∧ Z (upd H4 D (.lst (acc ++ [y]))) else Z H3 := by
  obtain ⟨ys, m, hP, e0, sk, hm, hO⟩ := h
  have e1 : (i + 1) * (d1 + d2) = i * (d1 + d2) + (d1 + d2) := Nat.succ_mul _ _
  refine ht H' m (Evl.Ex.refl _) sk (by omega) _ fun b H3 m3 hpt e3 sk3 hm3 => ?_
  cases b with
  | true =>
    refine iteT (he hpt ys hP H3 m3 e3 sk3 (by omega) _ fun x v H4 m4 hx e4 sk4 hm4 hv => ?_)
    obtain ⟨ws, q1, q2, q3, q4, q5⟩ := own_app hO sk0 e0 (e3.trans e4) sk4 hv
    have := hlen ys hP
    exact ⟨ws, q1, small5 (by omega), hZ _ ⟨ys ++ [x], m4, hx, q3, q4, by omega, q5⟩⟩
  | false =>
    refine iteF (hZ _ ⟨ys, m3, hf hpt ys hP, e0.trans e3, sk3, by omega, hO.ex e3⟩)
theorem svF_done {D : Addr} {Pl : Nat → List α → Prop} {n0 i : Nat} {Q : VK} (h : CrS ps pt tape r H0 n0 c D Pl i H') (q : ∀ ys ws m, Pl i ys → hide ps H0 D = none → D ≠ ps → Es ps H0 H' → SK ps pt tape H' m → m ≤ n0 + i * c → H' D = some (.lst ws) → All r (hide ps H') ws ys → Q (.ref D) H') : Q (.ref D) H' := by
  obtain ⟨ys, m, hP, e0, sk, hm, h1, ws, h2, h3⟩ := h
  have ne : D ≠ ps := fun z => by
    rw [z] at h2
    unfold hide at h2
    rw [if_pos rfl] at h2
    cases h2
  exact q ys ws m hP h1 ne e0 sk hm (hide_sub _ _ h2) h3
theorem f_rangeS [Fx r] {N j d1 d2 : Nat} {vs : List Nat} (Pl : Nat → List α → Prop) {Pt : Bool → Prop} (hN : ∀ H', Es ps H H' → EvR RN tn σ H' N) (hle : N ≤ 1000) (hw : ∀ x, wipe ((wipe σ vs).set j (some x)) vs = wipe σ vs) (h0 : Pl 0 []) (hlen : ∀ i ys, Pl i ys → ys.length ≤ i)
    (ht : ∀ i H', i < N → Es ps H H' → SvT ps pt tape d1 Pt tt ((wipe σ vs).set j (some (.int (i : Int)))) H') (he : ∀ i H', i < N → Pt true → Es ps H H' → ∀ ys, Pl i ys → SvR ps pt tape d2 r (fun y => Pl (i + 1) (ys ++ [y])) te ((wipe σ vs).set j (some (.int (i : Int)))) H')
    (hf : ∀ i, Pt false → ∀ ys, Pl i ys → Pl (i + 1) ys) : SvF ps pt tape (N * (d1 + d2)) r (Pl N) (tLc (iRng1 (tCons tn tNil)) (gName j) tt te vs) σ H := fun H1 n e sk hn Q q =>
  hN H1 e H1 (Evl.Ex.refl _) _ fun v H2 e2 hv => by
    have hv : v = .int (N : Int) := hv
    subst hv
    refine ⟨(N : Int), rfl, by omega, by omega, fun D hD => ?_⟩
    have sk2 := sk.ex e2
    refine lc_range (lo := 0) (n := (N : Int).toNat) (fun i H' => i ≤ N ∧ CrS ps pt tape r H2 n (d1 + d2) D Pl i H') ⟨Nat.zero_le _, crS_start h0 sk2 hD⟩ (fun i H' hi hP => ?_) fun H' hP => ?_
    · have hi' : i < N := by omega
      have z : (0 : Int) + (i : Int) = (i : Int) := Int.zero_add _
      rw [z]
      have ex : Es ps H H' := (e.trans (Es.of e2)).trans (by obtain ⟨_, _, _, h, _⟩ := hP.2; exact h)
      have hb : n + (i + 1) * (d1 + d2) ≤ 100000 := by
        have := Nat.mul_le_mul_right (d1 + d2) (show i + 1 ≤ N by omega)
        omega
      exact ⟨hw _, crS_turn sk2 hP.2 hb (fun ys hy => by have := hlen i ys hy; omega) (ht i H' hi' ex) (fun hp ys hy => he i H' hi' hp ex ys hy) (fun hp ys hy => hf i hp ys hy) fun H4 h4 => ⟨by omega, h4⟩⟩
    · have en : (N : Int).toNat = N := by omega
      rw [en] at hP
      refine svF_done hP.2 fun ys ws m h1 h2 h3 h4 h5 h6 h7 h8 => q ys D ws H' m h1 ?_ h3 ((Es.of e2).trans h4) h5 h6 h7 h8
      exact Evl.fresh_back (Es.of e2) h2
theorem f_tupS [Fx r] [Fx s] {tl : TE} {j d1 d2 : Nat} {vs : List Nat} {xs : List β} (Pl : Nat → List α → Prop) {Pt : Bool → Prop} (hX : ∀ H', Es ps H H' → EvR (RT K s) tl σ H' xs) (hle : xs.length ≤ 1000) (hw : ∀ x, wipe ((wipe σ vs).set j (some x)) vs = wipe σ vs) (h0 : Pl 0 []) (hlen : ∀ i ys, Pl i ys → ys.length ≤ i)
    (ht : ∀ (i : Nat) x v H', xs[i]? = some x → Es ps H H' → s H' v x → SvT ps pt tape d1 Pt tt ((wipe σ vs).set j (some v)) H') (he : ∀ (i : Nat) x v H', xs[i]? = some x → Pt true → Es ps H H' → s (hide ps H') v x → ∀ ys, Pl i ys → SvR ps pt tape d2 r (fun y => Pl (i + 1) (ys ++ [y])) te ((wipe σ vs).set j (some v)) H')
    (hf : ∀ i, Pt false → ∀ ys, Pl i ys → Pl (i + 1) ys) : SvF ps pt tape (xs.length * (d1 + d2)) r (Pl xs.length) (tLc (iTup K tl) (gName j) tt te vs) σ H := fun H1 n e sk hn Q q =>
  hX H1 e H1 (Evl.Ex.refl _) _ fun v H2 e2 ⟨a, us, hv, hs, hal⟩ => by
    refine ⟨a, hv, ⟨us, hs⟩, fun D hD => ?_⟩
    have sk2 := sk.ex e2
    have hs' := sqT_fx sk2.tx hs
    have hal' := hal.fx sk2.tx
    refine lc_it (walk_tup (K := K) (a := a) (xs := us)) (fun i H' => CrS ps pt tape r H2 n (d1 + d2) D Pl i H') (crS_start h0 sk2 hD) (fun i H' _ hP => ?_) (fun i u H' H'' hi hP hY => ?_) fun H' hP => ?_
    · obtain ⟨_, _, _, h, _⟩ := hP
      exact sqT_fx (Tx.of hide_sub) (sqT_fx (Tx.of h) hs')
    · obtain ⟨rfl, hu⟩ := hY
      obtain ⟨x, hx, hr⟩ := hal'.got hu
      have hil := (List.getElem?_eq_some_iff.mp hx).1
      have e3 : Es ps H2 H'' := by obtain ⟨_, _, _, h, _⟩ := hP; exact h
      have ex : Es ps H H'' := (e.trans (Es.of e2)).trans e3
      have hr' := Fx.fx (Tx.of e3) hr
      have hb : n + (i + 1) * (d1 + d2) ≤ 100000 := by
        have := Nat.mul_le_mul_right (d1 + d2) (show i + 1 ≤ xs.length by omega)
        omega
      exact ⟨hw _, crS_turn sk2 hP hb (fun ys hy => by have := hlen i ys hy; omega) (ht i x u H'' hx ex (Fx.fx (Tx.of hide_sub) hr')) (fun hp ys hy => he i x u H'' hx hp ex hr' ys hy) (fun hp ys hy => hf i hp ys hy) fun H4 h4 => h4⟩
    · rw [hal.1] at hP
      refine svF_done hP fun ys ws m h1 h2 h3 h4 h5 h6 h7 h8 => q ys D ws H' m h1 ?_ h3 ((Es.of e2).trans h4) h5 h6 h7 h8
      exact Evl.fresh_back (Es.of e2) h2
/-- for i in range(n), n drawn -/
theorem s_forRS {P : Nat → Prop} {j : Nat} (h : SvR ps pt tape c RN P tn σ H) (sk : SK ps pt tape H n) (hn : n + c ≤ 100000) (hP : ∀ N, P N → N ≤ 1000) (Pv : Nat → Nat → L2.St → Hp → Prop) (h0 : ∀ N H1 m, P N → Es ps H H1 → SK ps pt tape H1 m → m ≤ n + c → Pv N 0 σ H1)
    (hs : ∀ N (i : Nat) σ' H', P N → i < N → Pv N i σ' H' → tu { D with nx := Pv N (i + 1), ct := Pv N (i + 1), bk := D.nx } (σ'.set j (some (.int (i : Int)))) H') (hd : ∀ N σ' H', P N → Pv N N σ' H' → D.nx σ' H') : tFor (iRng1 (tCons tn tNil)) (gName j) tu D σ H :=
  h H n (Evl.Ex.refl _) sk hn _ fun N v H1 m hN e sk1 hm hv => by
    have hv : v = .int (N : Int) := hv
    subst hv
    have hle := hP N hN
    refine ⟨(N : Int), rfl, by omega, by omega, for_range (lo := 0) (n := (N : Int).toNat) (Pv N) (h0 N H1 m hN e sk1 hm) (fun i σ' H' hi p => ?_) (hd N · · hN)⟩
    have e0 : (0 : Int) + (i : Int) = (i : Int) := Int.zero_add _
    rw [e0]
    exact hs N i σ' H' hN (by omega) p
theorem q_forRS {P : Nat → Prop} {j : Nat} (h : SvR ps pt tape c RN P tn σ H) (sk : SK ps pt tape H n) (hn : n + c ≤ 100000) (hP : ∀ N, P N → N ≤ 1000) (Pv : Nat → Nat → L2.St → Hp → Prop) (h0 : ∀ N H1 m, P N → Es ps H H1 → SK ps pt tape H1 m → m ≤ n + c → Pv N 0 σ H1)
    (hs : ∀ N (i : Nat) σ' H', P N → i < N → Pv N i σ' H' → tu { D with nx := Pv N (i + 1), ct := Pv N (i + 1), bk := tz D } (σ'.set j (some (.int (i : Int)))) H') (hd : ∀ N σ' H', P N → Pv N N σ' H' → tz D σ' H') : tSeq (tFor (iRng1 (tCons tn tNil)) (gName j) tu) tz D σ H :=
  s_forRS (D := { D with nx := tz D }) h sk hn hP Pv h0 hs hd
theorem q_asgSF {P : List α → Prop} {i : Nat} (h : SvF ps pt tape c r P te σ H) (sk : SK ps pt tape H n) (hn : n + c ≤ 100000) (k : ∀ ys p ws H' m, P ys → hide ps H p = none → p ≠ ps → Es ps H H' → SK ps pt tape H' m → m ≤ n + c → H' p = some (.lst ws) → All r (hide ps H') ws ys → tz D (σ.set i (some (.ref p))) H') : tSeq (tAsg te (gName i)) tz D σ H :=
  h H n (Evl.Ex.refl _) sk hn _ k
theorem f_rev {xs : List α} [Mo r] (h : EvR (RL K r) te σ H xs) : EvF r (tRevL K te) σ H xs.reverse := fun H1 e Q q =>
  h H1 e _ fun v H2 e2 ⟨a, vs, hv, hs, hal⟩ => ⟨a, vs, hv, hs, fun p hp => q p _ _ (Evl.fresh_back e2 hp) (e2.trans (Evl.Ex.new hp)) upd_same (by
    have hal' := hal.mo (Evl.Ex.new (o := .lst vs.reverse) hp)
    refine ⟨by simp [hal.1], fun i v x h1 h2 => ?_⟩
    have l1 := (List.getElem?_eq_some_iff.mp h1).1
    have l2 := (List.getElem?_eq_some_iff.mp h2).1
    rw [List.length_reverse] at l1 l2
    rw [List.getElem?_reverse l1] at h1
    rw [List.getElem?_reverse l2, ← hal.1] at h2
    exact hal'.2 _ v x h1 h2)⟩
end
end BO

namespace BO
open PySem PySem.Spec PyProof.Rows L2
abbrev s_law_tape : Stmt := topS 42
theorem sc_law_tape : FnScope ["_law_script", "_law_tape_here", "_law_cell", "_law_number", "_law_k", "_law_first"] ["_law_script"] (defScope s_law_tape) := ⟨rfl, rfl, rfl, by decide +kernel, rfl, by decide +kernel, by decide +kernel⟩

abbrev s_law_draw : Stmt := topS 43
theorem sc_law_draw : FnScope ["_law_tape_here", "_law_at", "_law_many", "_law_number"] ["_law_tape_here", "_law_at", "_law_many"] (defScope s_law_draw) := ⟨rfl, rfl, rfl, by decide +kernel, rfl, by decide +kernel, by decide +kernel⟩

abbrev s_law_take : Stmt := topS 44
theorem sc_law_take : FnScope ["_law_state", "_law_many"] ["_law_state", "_law_many"] (defScope s_law_take) := ⟨rfl, rfl, rfl, by decide +kernel, rfl, by decide +kernel, by decide +kernel⟩

abbrev s_law_ends : Stmt := topS 49
theorem sc_law_ends : FnScope ["_law_state", "_law_many", "_law_ends_here", "_law_first", "_law_goal"] ["_law_state", "_law_many"] (defScope s_law_ends) := ⟨rfl, rfl, rfl, by decide +kernel, rfl, by decide +kernel, by decide +kernel⟩

abbrev s_law_choices : Stmt := topS 50
theorem sc_law_choices : FnScope ["_law_state", "_law_many", "_law_most", "_law_choices_here", "_law_k"] ["_law_state", "_law_many", "_law_most"] (defScope s_law_choices) := ⟨rfl, rfl, rfl, by decide +kernel, rfl, by decide +kernel, by decide +kernel⟩

abbrev s_law_system : Stmt := topS 51
theorem sc_law_system : FnScope ["_law_state", "_law_most", "_law_many", "_law_k"] ["_law_state", "_law_most"] (defScope s_law_system) := ⟨rfl, rfl, rfl, by decide +kernel, rfl, by decide +kernel, by decide +kernel⟩

abbrev s_law_some : Stmt := topS 52
theorem sc_law_some : FnScope ["_law_state", "_law_many", "_law_share", "_law_found", "_law_k"] ["_law_state", "_law_many", "_law_share"] (defScope s_law_some) := ⟨rfl, rfl, rfl, by decide +kernel, rfl, by decide +kernel, by decide +kernel⟩

abbrev s_law_drawn_policy : Stmt := topS 56
theorem sc_law_drawn_policy : FnScope ["_law_state", "_law_system_here", "_law_choices_here"] ["_law_state", "_law_system_here"] (defScope s_law_drawn_policy) := ⟨rfl, rfl, rfl, by decide +kernel, rfl, by decide +kernel, by decide +kernel⟩

abbrev spTape (TT : List Addr) (K : PySem.W.Frag) : Sp := spF TT (AC (RL K RI) A0) (fun x => x.1.length ≤ 64) RN fun _ y => TapeOk y
abbrev spDraw (TT : List Addr) (K : PySem.W.Frag) : Sp := spP TT (AC (RL K RN) (AC RN (AC RN A0))) (fun x => TapeOk x.1 ∧ x.2.1 ≤ 100000 ∧ 0 < x.2.2.1) RN fun x y => y < x.2.2.1
abbrev spTake (TT : List Addr) : Sp := spS TT (AC RN A0) 1 (fun x => 0 < x.1) RN fun x y => y < x.1
abbrev spLEnds (TT : List Addr) (K : PySem.W.Frag) : Sp := spS TT (AC RN A0) 9 (fun x => 1 ≤ x.1 ∧ x.1 ≤ 4) (REnds K) fun x y => EndsOk x.1 y
structure ChsOk (n : Nat) (cs : List Choice) : Prop where
  pos : 1 ≤ cs.length
  le : cs.length ≤ 3
  all : ∀ c ∈ cs, c.1 ≤ 1000 ∧ EndsOk n c.2
abbrev spLChs (TT : List Addr) (K : PySem.W.Frag) : Sp := spS TT (AC RN (AC RN A0)) 31 (fun x => (1 ≤ x.1 ∧ x.1 ≤ 4) ∧ 1 ≤ x.2.1 ∧ x.2.1 ≤ 3) (RT K (RCh K)) fun x y => ChsOk x.1 y
abbrev spLSys (TT : List Addr) (K : PySem.W.Frag) : Sp := spS TT (AC RN A0) 125 (fun x => 1 ≤ x.1 ∧ x.1 ≤ 4) (RSys K) fun x y => SysOk y
abbrev spSome (TT : List Addr) (K : PySem.W.Frag) : Sp := spS TT (AC RN (AC RN A0)) 5 (fun x => x.1 ≤ 4 ∧ 0 < x.2.1) (RL K RN) fun x y => True
abbrev spDrawn (TT : List Addr) (K : PySem.W.Frag) : Sp := spS TT (AC (RSys K) A0) 4 (fun x => SysOk x.1) (RT K RN) fun x y => PolOk x.1 y
theorem sv_take {TT : List Addr} {σ : L2.St} {H : Hp} {tb : TE} {ps pt : Addr} {tape : List Nat} {i : Nat} (many : Nat) (tbh : Tb TT (hide ps H)) (hσ : σ[i]? = some (some (.ref ps))) (ha : ∀ H', Es ps H H' → EvR RN tb σ H' many) (hm : 0 < many) :
    SvR ps pt tape 1 RN (fun y => y < many) (tCall (spTake TT) [] E0 (tCons (tVar i) (tCons tb tNil))) σ H := sv_call (A := AC RN A0) (s := RN) (c := 1) (pre := fun x => 0 < x.1) (post := fun x y => y < x.1) (x := (many, ())) tbh hσ (fun H' e => a_cons (ha H' e) a_nil) hm
theorem e_modC {σ : L2.St} {H : Hp} {ta tb : TE} {i : Int} {m : Nat} (h : EvR RI ta σ H i) (hb : EvR RN tb σ H m) (hm : 0 < m) : EvR RN (tOp (rI (fun _ j => 0 < j) fun i j => .int (i % j)) ta tb) σ H (i % (m : Int)).toNat := fun H1 e Q q =>
  h H1 e _ fun v H2 e2 hv => hb H2 (e.trans e2) _ fun w H3 e3 hw => ⟨i, (m : Int), hv, hw, by omega, q _ H3 (e2.trans e3) (by
    show V.int _ = V.int _
    have := Int.emod_nonneg i (show (m : Int) ≠ 0 by omega)
    congr 1
    omega)⟩
theorem mod_lt' (i : Int) {m : Nat} (hm : 0 < m) : (i % (m : Int)).toNat < m := by
  have h1 := Int.emod_nonneg i (show (m : Int) ≠ 0 by omega)
  have h2 := Int.emod_lt_of_pos i (show (0 : Int) < m by omega)
  omega
section
variable {P : Program} {w : World} {K : PySem.W.Frag} {mg : Str → Option Value} {base : Heap} {TT : List Addr} {zZ zO : Addr}
theorem ok__law_draw {f : Addr} {fd : FuncData} (F : Fun K "_law_draw" "_law_draw" s_law_draw f fd) (T : Top K mg zZ zO) : FnOk P w K mg base CX0 1 f fd ["_law_tape_here", "_law_at", "_law_many"] (spDraw TT K) := by
  refine F.ok sc_law_draw (fun vs H Q E h => ?_) (fun cdv A outer s H vs Q E hr h => ?_)
  · obtain ⟨x, _, hA, _⟩ := h
    exact AC.len (fun _ h => AC.len (fun _ h => AC.len (fun _ h => A0.len h) h) h) hA
  · obtain ⟨⟨tape, n, many, _⟩, tb, hA, ⟨hT, hn, hm⟩, k⟩ := h
    obtain ⟨v1, _, rfl, r1, v2, _, rfl, r2, v3, _, rfl, r3, rfl⟩ := hA
    have hT : TapeOk tape := hT
    have hn : n ≤ 100000 := hn
    have hm : 0 < many := hm
    refine ⟨_, (pss_cons (ps_if (pt_cmpR op_lt (pv 1) (pe_callB call_len_seq (by rfl) T.b_len PySem.boot_len (pa_cons (pv 0) pa_nil)) (nomark _)) (pss_one (ps_ret (pe_op op_mod (pe_callTy call_int1 (by rfl) T.b_int (by decide +kernel) (pa_cons (pe_ix ix_list (pv 0) (pv 1) (fun _ _ => rfl)) pa_nil)) (pv 2)))) pss_nil)
      (pss_cons (ps_set (i := 3) sc_law_draw.nd rfl (.inl rfl) pe_int)
      (Evl.pss_cut (ps_if (pt_cmpR op_gt (pe_callB call_len_seq (by rfl) T.b_len PySem.boot_len (pa_cons (pv 0) pa_nil)) pe_int (nomark _)) (pss_one (ps_set (i := 3) sc_law_draw.nd rfl (.inl rfl) (pe_ix ix_list (pv 0) (pe_op op_mod (pe_callTy call_int1 (by rfl) T.b_int (by decide +kernel) (pa_cons (pv 1) pa_nil)) (pe_callB call_len_seq (by rfl) T.b_len PySem.boot_len (pa_cons (pv 0) pa_nil))) (fun _ _ => rfl)))) pss_nil)
      (pss_one (ps_ret (pe_op op_mod (pe_op op_mod (pe_callTy call_int1 (by rfl) T.b_int (by decide +kernel) (pa_cons (pe_op op_add (pe_op op_mul (pe_op op_mulW (pe_op op_add (pv 3) (pv 1)) (pe_op op_add (pv 1) pe_int)) pe_int) (pe_op op_mul (pv 1) pe_int)) pa_nil)) pe_int) (pv 2))))))), ?_⟩
    refine Evl.q_when (t_cmp (e_opB (e_nn (e_var (r := RN) rfl r2)) (e_nn (e_lenL (r := RN) (e_var rfl r1))))) (fun hb H1 e1 => ?_) (fun hb H1 e1 => ?_)
    · have hlt : n < tape.length := by
        have : (n : Int) < (tape.length : Int) := of_decide_eq_true hb
        omega
      refine s_ret (e_modC (e_intI (e_nn (e_ixL (r := RN) (xs := tape) (e_var rfl (Mo.mo e1 r1)) (e_var (r := RN) rfl r2) (List.getElem?_eq_getElem hlt)))) (e_var (r := RN) rfl r3) hm) fun v H2 e2 hv => ?_
      exact k _ v H2 (mod_lt' _ hm) (e1.trans e2) hv
    · refine q_asg (r := RN) (x := 1) e_one fun vn H2 e2 hvn => ?_
      have hvn : vn = .int ((1 : Nat) : Int) := hvn
      subst hvn
      refine Evl.q_cut (M := fun σ' H' => ∃ x : Nat, σ' = [some v1, some v2, some v3, some (.int (x : Int))] ∧ Ex H H' ∧ x < 2 ^ 31) ?_ fun σ' H3 hM => ?_
      · refine Evl.s_when (t_cmp (e_opB (e_nn (e_lenL (r := RN) (e_var rfl (Mo.mo (e1.trans e2) r1)))) e_int)) (fun hb H3 e3 => ?_) (fun hb H3 e3 => ?_)
        · have hpos : 0 < tape.length := by
            have : (0 : Int) < (tape.length : Int) := of_decide_eq_true hb
            omega
          have hlt : ((n : Int) % (tape.length : Int)).toNat < tape.length := mod_lt' _ hpos
          have e13 := (e1.trans e2).trans e3
          refine s_asg (e_ixL (r := RN) (xs := tape) (e_var rfl (Mo.mo e13 r1)) (e_modC (e_intI (e_nn (e_var (r := RN) rfl r2))) (e_lenL (r := RN) (e_var rfl (Mo.mo e13 r1))) hpos) (List.getElem?_eq_getElem hlt)) fun v H4 e4 hv => ?_
          have hv : v = .int ((tape[((n : Int) % (tape.length : Int)).toNat] : Nat) : Int) := hv
          subst hv
          exact ⟨_, rfl, e13.trans e4, hT.lt _ (List.getElem_mem hlt)⟩
        · exact ⟨1, rfl, (e1.trans e2).trans e3, by decide⟩
      · obtain ⟨x, rfl, e3, hx⟩ := hM
        have hW : CMulW ((x : Int) + (n : Int)) ((n : Int) + 3) := wide_mul (a := 32) (b := 20) (by omega) (by omega) (by omega) (by omega) (by omega)
        have en : EvR RI (tVar 1) [some v1, some v2, some v3, some (.int (x : Int))] H3 (n : Int) := e_nn (e_var rfl r2)
        refine s_ret (e_modC (e_nn (e_modC (m := 65521) (e_intI (e_op0 (e_opC (.inr ⟨by decide, by decide⟩) (e_opC hW (e_op0 (e_nn (e_var (r := RN) (x := x) rfl rfl)) en) (e_op0 en e_int)) e_int) (e_opC (.inr ⟨by decide, by decide⟩) en e_int))) (by exact e_nat) (by decide))) (e_var (r := RN) rfl r3) hm) fun v H4 e4 hv => ?_
        exact k _ v H4 (mod_lt' _ hm) (e3.trans e4) hv
theorem ok__law_take {f f__law_draw : Addr} {fd : FuncData} (F : Fun K "_law_take" "_law_take" s_law_take f fd) (T : Top K mg zZ zO) (h__law_draw : Has P w K mg base "_law_draw" ["_law_tape_here", "_law_at", "_law_many"] 1 (spDraw TT K) f__law_draw) : FnOk P w K mg base CX0 2 f fd ["_law_state", "_law_many"] (spTake TT) := by
  refine F.ok sc_law_take (fun vs H Q E h => ?_) (fun cdv A outer s H vs Q E hr h => ?_)
  · obtain ⟨ps, pt, tape, n, x, ws, rfl, _, _, _, hA, _⟩ := h
    rw [List.length_cons, AC.len (fun _ h => A0.len h) hA]
    rfl
  · obtain ⟨ps, pt, tape, n, ⟨many, _⟩, ws, rfl, tb, sk, hn, hA, hm, k⟩ := h
    obtain ⟨v2, _, rfl, r2, rfl⟩ := hA
    have hm : 0 < many := hm
    have r2 : v2 = .int (many : Int) := r2
    subst r2
    refine ⟨_, (pss_cons (ps_asg (pe_op op_add (pe_ix ix_list (pv 0) pe_int (fun _ _ => rfl)) pe_int) (pg_sub (pv 0) pe_int set_list))
      (pss_one (ps_ret (pe_has h__law_draw (hr.mono (by decide)) (by rfl) (pa_cons (pe_ix ix_list (pv 0) pe_int (fun _ _ => rfl)) (pa_cons (pe_ix ix_list (pv 0) pe_int (fun _ _ => rfl)) (pa_cons (pv 1) pa_nil))))))), ?_⟩
    refine ⟨.ref ps, rfl, ps, _, 1, .int (n : Int), rfl, rfl, SqL.of sk.st, rfl, (n : Int), 1, rfl, rfl, .ref ps, rfl, ps, _, 1, 1, rfl, rfl, sk.st, rfl, ?_⟩
    have st1 : (upd H ps (.lst ([.ref pt, .int (n : Int)].set 1 (.int ((n : Int) + 1))))) ps = some (.lst [.ref pt, .int ((n + 1 : Nat) : Int)]) := by
      rw [upd_same]
      rfl
    obtain ⟨wt, tp1, tp2⟩ := sk.tp
    have sk1 : SK ps pt tape (upd H ps (.lst ([.ref pt, .int (n : Int)].set 1 (.int ((n : Int) + 1))))) (n + 1) := ⟨st1, ⟨wt, by rw [upd_ne sk.ne]; exact tp1, ⟨tp2.1, fun i v x h1 h2 => tp2.2 i v x h1 h2⟩⟩, sk.ne, sk.ok⟩
    have es1 : Es ps H (upd H ps (.lst ([.ref pt, .int (n : Int)].set 1 (.int ((n : Int) + 1))))) := by
      show Ex (hide ps H) (hide ps (upd H ps _))
      rw [hide_upd]
      exact Evl.Ex.refl _
    have tb1 : Tb TT (upd H ps (.lst ([.ref pt, .int (n : Int)].set 1 (.int ((n : Int) + 1))))) := ((SK.tabs tb sk).ex es1).ex hide_sub
    revert st1 sk1 es1 tb1
    generalize upd H ps (.lst ([.ref pt, .int (n : Int)].set 1 (.int ((n : Int) + 1)))) = H1
    intro st1 sk1 es1 tb1
    obtain ⟨wt1, tp3, tp4⟩ := sk1.tp
    have e0 : EvR (RL K RN) (tOp (rIxL K) (tVar 0) (tC (.int 0))) [some (.ref ps), some (.int (many : Int))] H1 tape := fun H2 e Q q => ⟨.ref ps, rfl, ps, _, 0, .ref pt, rfl, rfl, SqL.of (e _ _ st1), rfl, q _ H2 (Evl.Ex.refl _) ⟨pt, wt1, rfl, SqL.of (e _ _ tp3), tp4.mo e⟩⟩
    have e1 : EvR RN (tOp (rIxL K) (tVar 0) (tC (.int 1))) [some (.ref ps), some (.int (many : Int))] H1 (n + 1) := fun H2 e Q q => ⟨.ref ps, rfl, ps, _, 1, .int ((n + 1 : Nat) : Int), rfl, rfl, SqL.of (e _ _ st1), rfl, q _ H2 (Evl.Ex.refl _) rfl⟩
    refine s_retP tb1 (a_cons e0 (a_cons e1 (a_cons (e_var (r := RN) (x := many) rfl rfl) a_nil))) ⟨sk.ok, hn, hm⟩ fun y v H2 hy e2 hv => ?_
    exact k y v H2 (n + 1) hy (es1.trans (Es.of e2)) (sk1.ex e2) (Nat.le_refl _) hv
theorem ok__law_tape {f : Addr} {fd : FuncData} (F : Fun K "_law_tape" "_law_tape" s_law_tape f fd) (T : Top K mg zZ zO) : FnOk P w K mg base CX0 1 f fd ["_law_script"] (spTape TT K) := by
  refine F.ok sc_law_tape (fun vs H Q E h => ?_) (fun cdv A outer s H vs Q E hr h => ?_)
  · obtain ⟨x, _, hA, _⟩ := h
    exact AC.len (fun _ h => A0.len h) hA
  · obtain ⟨⟨xs, _⟩, tb, hA, hl, k⟩ := h
    obtain ⟨v1, _, rfl, r1, rfl⟩ := hA
    have hl : xs.length ≤ 64 := hl
    refine ⟨_, (pss_cons (ps_set (i := 1) sc_law_tape.nd rfl (.inl rfl) (pe_lst pa_nil))
      (pss_cons (ps_for PassesOwn.never rfl (pi_list (pv 0)) (pg_name (i := 2) sc_law_tape.nd rfl (.inl rfl)) (pss_cons (ps_set (i := 3) sc_law_tape.nd rfl (.inl rfl) (pe_op op_mul pe_int (pe_callTy call_int1 (by rfl) T.b_int (by decide +kernel) (pa_cons (pv 2) pa_nil))))
      (Evl.pss_cut (ps_if (pt_cmpR op_lt (pv 3) pe_int (nomark _)) (pss_one (ps_set (i := 3) sc_law_tape.nd rfl (.inl rfl) (pe_op op_sub (pe_un un_neg pe_int) (pv 3)))) pss_nil)
      (pss_one (ps_if (pt_cmpR op_ge (pv 3) (pe_op op_pow pe_int pe_int) (nomark _)) (pss_one (ps_for PassesOwn.never rfl (pi_range1 (by rfl) T.b_range (pa_cons pe_int pa_nil)) (pg_name (i := 4) sc_law_tape.nd rfl (.inl rfl)) (pss_one (ps_if (pt_cmpR op_gt (pv 3) pe_int (nomark _)) (pss_cons (ps_expr (pe_bm PySem.F.plainAttrs_list PySem.F.slot_list_append PySem.F.type_list_append mt_append (pv 1) (pa_cons (pe_op op_mod (pe_callTy call_int1 (by rfl) T.b_int (by decide +kernel) (pa_cons (pv 3) pa_nil)) pe_int) pa_nil)))
      (pss_one (ps_set (i := 3) sc_law_tape.nd rfl (.inl rfl) (pe_op op_fdiv (pv 3) pe_int)))) pss_nil)))) (pss_one (ps_for PassesOwn.never rfl (pi_range1 (by rfl) T.b_range (pa_cons pe_int pa_nil)) (pg_name (i := 4) sc_law_tape.nd rfl (.inl rfl)) (pss_cons (ps_set (i := 5) sc_law_tape.nd rfl (.inl rfl) (pe_op op_mod (pe_callTy call_int1 (by rfl) T.b_int (by decide +kernel) (pa_cons (pe_op op_add (pe_op op_add (pe_op op_mul (pv 3) pe_int) (pe_op op_mul (pv 4) pe_int)) pe_int) pa_nil)) pe_int))
      (pss_one (ps_expr (pe_bm PySem.F.plainAttrs_list PySem.F.slot_list_append PySem.F.type_list_append mt_append (pv 1) (pa_cons (pe_op op_mod (pe_callTy call_int1 (by rfl) T.b_int (by decide +kernel) (pa_cons (pe_op op_add (pe_op op_mul (pv 5) pe_int) (pe_op op_fdiv (pv 5) pe_int)) pa_nil)) pe_int) pa_nil))))))))))))
      (pss_one (ps_ret (pv 1))))), ?_⟩
    refine q_asgF (r := RN) (xs := []) f_nil fun p w1 H1 hn1 e1 hp1 hal1 => ?_
    have O1 : Own RN H p H1 [] := Own.of hn1 hp1 hal1
    have app : ∀ {tp : List Nat} {y : Nat}, (∀ x ∈ tp, x < 2 ^ 31) → y < 2 ^ 31 → ∀ x ∈ tp ++ [y], x < 2 ^ 31 := fun h1 h2 x hx => by
      rw [List.mem_append, List.mem_singleton] at hx
      rcases hx with hx | hx
      · exact h1 x hx
      · rw [hx]
        exact h2
    refine q_forLv (s := RI) (Hb := H) (u := v1) (xs := xs) rfl r1 (fun i σ' H' => ∃ o2 o3 o4 o5 tp, σ' = [some v1, some (.ref p), o2, o3, o4, o5] ∧ Ex H H' ∧ Own RN H p H' tp ∧ (∀ x ∈ tp, x < 2 ^ 31) ∧ tp.length ≤ 40 * i)
      ⟨none, none, none, none, [], rfl, e1, O1, fun x hx => (by cases hx), Nat.le_refl _⟩ (fun i σ' H' ⟨_, _, _, _, _, _, h, _⟩ => h) (fun i x vx σ' H' hx hP hvx => ?_) (fun σ' H' hP => ?_)
    · obtain ⟨o2, o3, o4, o5, tp, rfl, e2, O, hlt, hlen⟩ := hP
      have hil := (List.getElem?_eq_some_iff.mp hx).1
      have hvx : vx = .int x := hvx
      subst hvx
      refine q_asg (e_opC (.inl ⟨by decide, by decide⟩) e_int (e_intI (e_var (r := RI) (x := x) rfl rfl))) fun vn H2 e3 hvn => ?_
      have hvn : vn = .int (2 * x) := hvn
      subst hvn
      refine Evl.q_cut (M := fun σ' H' => ∃ num : Int, σ' = [some v1, some (.ref p), some (.int x), some (.int num), o4, o5] ∧ Ex H H' ∧ Own RN H p H' tp) ?_ fun σ' H3 hM => ?_
      · refine Evl.s_when (t_cmp (e_opB (e_var (r := RI) (x := 2 * x) rfl rfl) e_int)) (fun hb H3 e4 => ?_) (fun hb H3 e4 => ?_)
        · refine s_asg (e_op0 (e_neg e_int) (e_var (r := RI) (x := 2 * x) rfl rfl)) fun vm H4 e5 hvm => ?_
          have hvm : vm = .int (-1 - 2 * x) := hvm
          subst hvm
          exact ⟨_, rfl, ((e2.trans e3).trans e4).trans e5, O.ex ((e3.trans e4).trans e5)⟩
        · exact ⟨_, rfl, (e2.trans e3).trans e4, O.ex (e3.trans e4)⟩
      · obtain ⟨num, rfl, e4, O⟩ := hM
        refine Evl.s_if (t_cmp (e_opB (e_var (r := RI) (x := num) rfl rfl) (e_opC ⟨by decide, by decide, by decide⟩ e_int e_int))) (fun hb H4 e5 => ?_) (fun hb H4 e5 => ?_)
        · refine s_forRn (n := 40) (by exact e_nat) (by omega) (fun j σ' H' => ∃ (num : Int) (o4 : Option V) (tp : List Nat), σ' = [some v1, some (.ref p), some (.int x), some (.int num), o4, o5] ∧ Ex H H' ∧ Own RN H p H' tp ∧ (∀ x ∈ tp, x < 2 ^ 31) ∧ tp.length ≤ 40 * i + j)
            (fun H5 e6 => ⟨num, o4, tp, rfl, (e4.trans e5).trans e6, O.ex (e5.trans e6), hlt, hlen⟩) (fun j σ' H' hj hP => ?_) (fun σ' H' hP => ?_)
          · obtain ⟨num, o4, tp, rfl, e6, O, hlt, hlen⟩ := hP
            refine Evl.s_when (t_cmp (e_opB (e_var (r := RI) (x := num) rfl rfl) e_int)) (fun hb H5 e7 => ?_) (fun hb H5 e7 => ?_)
            · refine q_appO (r := RN) (O.ex e7) (e6.trans e7) (Evl.ev_var rfl) (e_modC (m := 1000) (e_intI (e_var (r := RI) (x := num) rfl rfl)) (by exact e_nat) (by decide)) (by omega) fun H6 u6 w6 e8 hp6 ex6 O6 => ?_
              refine s_asg (e_opC (C := CDiv) ⟨by decide, by decide⟩ (e_var (r := RI) (x := num) rfl rfl) e_int) fun vm H7 e9 hvm => ?_
              have hvm : vm = .int (num / 1000) := hvm
              subst hvm
              have := mod_lt' num (m := 1000) (by decide)
              exact ⟨_, _, _, rfl, ex6.trans e9, O6.ex e9, app hlt (by omega), by rw [List.length_append, List.length_singleton]; omega⟩
            · exact ⟨num, _, tp, rfl, e6.trans e7, O.ex e7, hlt, by omega⟩
          · obtain ⟨num, o4, tp, rfl, e6, O, hlt, hlen⟩ := hP
            exact ⟨_, _, _, _, tp, rfl, e6, O, hlt, by omega⟩
        · refine s_forRn (n := 3) (by exact e_nat) (by omega) (fun j σ' H' => ∃ (o4 o5 : Option V) (tp : List Nat), σ' = [some v1, some (.ref p), some (.int x), some (.int num), o4, o5] ∧ Ex H H' ∧ Own RN H p H' tp ∧ (∀ x ∈ tp, x < 2 ^ 31) ∧ tp.length ≤ 40 * i + j)
            (fun H5 e6 => ⟨o4, o5, tp, rfl, (e4.trans e5).trans e6, O.ex (e5.trans e6), hlt, hlen⟩) (fun j σ' H' hj hP => ?_) (fun σ' H' hP => ?_)
          · obtain ⟨o4, o5, tp, rfl, e6, O, hlt, hlen⟩ := hP
            refine q_asg (r := RN) (e_modC (m := 2147483629) (e_intI (e_op0 (e_op0 (e_opC (.inr ⟨by decide, by decide⟩) (e_var (r := RI) (x := num) rfl rfl) e_int) (e_opC (.inr ⟨by decide, by decide⟩) (e_var (r := RI) (x := (j : Int)) rfl rfl) e_int)) e_int)) (by exact e_nat) (by decide)) fun vm H6 e7 hvm => ?_
            refine s_appO (r := RN) (O.ex e7) (e6.trans e7) (Evl.ev_var rfl) (e_modC (m := 2147483629) (e_intI (e_op0 (e_opC (.inr ⟨by decide, by decide⟩) (e_nn (e_var (r := RN) rfl hvm)) e_int) (e_opC (C := CDiv) ⟨by decide, by decide⟩ (e_nn (e_var (r := RN) rfl hvm)) e_int))) (by exact e_nat) (by decide)) (by omega) fun H7 u7 w7 e8 hp7 ex7 O7 => ?_
            refine ⟨_, _, _, rfl, ex7, O7, app hlt ?_, by rw [List.length_append, List.length_singleton]; omega⟩
            exact Nat.lt_trans (mod_lt' _ (m := 2147483629) (by decide)) (by decide)
          · obtain ⟨o4, o5, tp, rfl, e6, O, hlt, hlen⟩ := hP
            exact ⟨_, _, _, _, tp, rfl, e6, O, hlt, by omega⟩
    · obtain ⟨o2, o3, o4, o5, tp, rfl, e2, O, hlt, hlen⟩ := hP
      obtain ⟨hn2, w2, hp2, hal2⟩ := O
      exact s_retO rfl (k tp p w2 H' ⟨hlt, by omega⟩ hn2 e2 hp2 hal2)
theorem ok__law_ends {f f__law_take : Addr} {fd : FuncData} (F : Fun K "_law_ends" "_law_ends" s_law_ends f fd) (T : Top K mg zZ zO) (h__law_take : Has P w K mg base "_law_take" ["_law_state", "_law_many"] 2 (spTake TT) f__law_take) : FnOk P w K mg base CX0 3 f fd ["_law_state", "_law_many"] (spLEnds TT K) := by
  refine F.ok sc_law_ends (fun vs H Q E h => ?_) (fun cdv A outer s H vs Q E hr h => ?_)
  · obtain ⟨ps, pt, tape, n, x, ws, rfl, _, _, _, hA, _⟩ := h
    rw [List.length_cons, AC.len (fun _ h => A0.len h) hA]
    rfl
  · obtain ⟨ps, pt, tape, n, ⟨many, _⟩, ws, rfl, tb, sk, hn, hA, ⟨hm1, hm4⟩, k⟩ := h
    obtain ⟨v2, _, rfl, r2, rfl⟩ := hA
    have hm1 : 1 ≤ many := hm1
    have hm4 : many ≤ 4 := hm4
    have r2 : v2 = .int (many : Int) := r2
    subst r2
    refine ⟨_, (pss_cons (ps_set (i := 2) sc_law_ends.nd rfl (.inl rfl) (pe_lst pa_nil))
      (pss_cons (ps_set (i := 3) sc_law_ends.nd rfl (.inl rfl) (pe_has h__law_take (hr.mono (by decide)) (by rfl) (pa_cons (pv 0) (pa_cons (pv 1) pa_nil))))
      (pss_cons (ps_for PassesOwn.never rfl (pi_range1 (by rfl) T.b_range (pa_cons (pv 1) pa_nil)) (pg_name (i := 4) sc_law_ends.nd rfl (.inl rfl)) (pss_one (ps_if (PW.pt (pw_or (pt_cmpR op_eq (pv 4) (pv 3) (nomark _)) (pw_or1 (pt_cmpR op_eq (pe_has h__law_take (hr.mono (by decide)) (by rfl) (pa_cons (pv 0) (pa_cons pe_int pa_nil))) pe_int (nomark _))))) (pss_one (ps_expr (pe_bm PySem.F.plainAttrs_list PySem.F.slot_list_append PySem.F.type_list_append mt_append (pv 2) (pa_cons (pe_tup (pa_cons (pv 4) (pa_cons (pe_ix ix_list (pe_lst (pa_cons pe_int (pa_cons pe_int (pa_cons pe_int (pa_cons pe_int (pa_cons pe_int (pa_cons pe_int pa_nil))))))) (pe_has h__law_take (hr.mono (by decide)) (by rfl) (pa_cons (pv 0) (pa_cons pe_int pa_nil))) (fun _ _ => rfl)) pa_nil))) pa_nil)))) pss_nil)))
      (pss_one (ps_ret (pe_callTy call_tuple_of (by rfl) T.b_tuple (by decide +kernel) (pa_cons (pv 2) pa_nil))))))), ?_⟩
    refine q_asgF (r := RP K RN RN) (xs := []) f_nil fun p w1 H1 hn1 e1 hp1 hal1 => ?_
    have nps : p ≠ ps := fun z => by rw [z, sk.st] at hn1; cases hn1
    have O1 : Own (RP K RN RN) (hide ps H) p (hide ps H1) [] := ⟨by rw [hide_ne nps]; exact hn1, w1, by rw [hide_ne nps]; exact hp1, hal1.fx (sk.ex e1).tx⟩
    refine q_asgS (sv_take many ((SK.tabs tb sk).ex (Es.of e1)) rfl (fun H' e => (e_var (r := RN) (x := many) rfl rfl)) (by omega)) (sk.ex e1) (by omega) fun first vf H2 m hf e2 sk2 hm2 hvf => ?_
    have hvf : vf = .int (first : Int) := hvf
    subst hvf
    have hf : first < many := hf
    have e02 := (Es.of e1 (ps := ps)).trans e2
    refine q_forRn (n := many) (e_var (r := RN) (x := many) rfl rfl) (by omega) (fun i σ' H' => ∃ es m o, σ' = [some (.ref ps), some (.int (many : Int)), some (.ref p), some (.int (first : Int)), o] ∧ Es ps H H' ∧ SK ps pt tape H' m ∧ m ≤ n + 1 + 2 * i ∧ Own (RP K RN RN) (hide ps H) p (hide ps H') es ∧ es.length ≤ i ∧
      (∀ e ∈ es, e.1 < many ∧ 1 ≤ e.2 ∧ e.2 ≤ 1000) ∧ (first < i → es ≠ []))
      (fun H3 e3 => ⟨[], m, none, rfl, e02.trans (Es.of e3), sk2.ex e3, hm2, (O1.ex e2).ex (Es.of e3), Nat.le_refl _, fun e he => (by cases he), fun z => absurd z (Nat.not_lt_zero _)⟩) (fun i σ' H' hi hP => ?_) (fun σ' H' hP => ?_)
    · obtain ⟨es, m, o, rfl, e3, sk3, hm3, O, hl, hall, hne⟩ := hP
      refine s_ifS (c := 1) (svt_or (a := decide ((i : Int) = (first : Int))) (fun H'' e => t_cmp (e_eqI (e_nn (e_var (r := RN) (x := i) rfl rfl)) (e_nn (e_var (r := RN) (x := first) rfl rfl)))) (svt_eq0 (sv_take 3 ((SK.tabs tb sk).ex e3) rfl (fun H' e => (by exact e_nat)) (by decide)))) sk3 (by omega) (fun _ H4 m4 e4 sk4 hm4' => ?_) (fun hfl H4 m4 e4 sk4 hm4' => ?_)
      · refine s_appS (r := RP K RN RN) (O.ex e4) sk (e3.trans e4) rfl (sv_pair (r := RN) (s := RN) (c := 0) (d := 1) (sv_pure (x := i) fun H'' e => e_var (r := RN) rfl rfl) (sv_item (K := K) (σ := [some (.ref ps), some (.int (many : Int)), some (.ref p), some (.int (first : Int)), some (.int (i : Int))]) (ns := [1, 1, 2, 3, 10, 1000]) (fun H'' => f_consts [1, 1, 2, 3, 10, 1000] (fun H1 Q q => q) (by decide)) (sv_take 6 ((SK.tabs tb sk).ex (e3.trans e4)) rfl (fun H' e => (by exact e_nat)) (by decide)))) sk4 (by omega) (by omega) fun x H5 m5 hx e5 sk5 hm5 O5 => ?_
        obtain ⟨hx1, hx2⟩ := hx
        refine ⟨es ++ [x], m5, _, rfl, e5, sk5, by omega, O5, by simp; omega, fun e he => ?_, fun _ z => by simp at z⟩
        rw [List.mem_append, List.mem_singleton] at he
        rcases he with he | he
        · exact hall e he
        · rw [he]
          have : x.2 = 1 ∨ x.2 = 1 ∨ x.2 = 2 ∨ x.2 = 3 ∨ x.2 = 10 ∨ x.2 = 1000 := by simpa using hx2
          exact ⟨by rw [hx1]; exact hi, by omega, by omega⟩
      · have hif : i ≠ first := fun z => by
          have : decide ((i : Int) = (first : Int)) = true := decide_eq_true (by omega)
          exact absurd (hfl this) (by decide)
        exact ⟨es, m4, _, rfl, e3.trans e4, sk4, by omega, O.ex e4, by omega, hall, fun h => hne (by omega)⟩
    · obtain ⟨es, m, o, rfl, e3, sk3, hm3, O, hl, hall, hne⟩ := hP
      refine s_retS (sv_tupleO (K := K) (r := RP K RN RN) rfl O) sk3 (by omega) fun x v H4 m4 hx e4 sk4 hm4' hv => ?_
      subst hx
      exact k x v H4 m4 ⟨hne hf, by omega, hall⟩ (e3.trans e4) sk4 (by omega) hv
theorem ok__law_choices {f f__law_take f__law_ends : Addr} {fd : FuncData} (F : Fun K "_law_choices" "_law_choices" s_law_choices f fd) (T : Top K mg zZ zO) (h__law_take : Has P w K mg base "_law_take" ["_law_state", "_law_many"] 2 (spTake TT) f__law_take)
    (h__law_ends : Has P w K mg base "_law_ends" ["_law_state", "_law_many"] 3 (spLEnds TT K) f__law_ends) : FnOk P w K mg base CX0 4 f fd ["_law_state", "_law_many", "_law_most"] (spLChs TT K) := by
  refine F.ok sc_law_choices (fun vs H Q E h => ?_) (fun cdv A outer s H vs Q E hr h => ?_)
  · obtain ⟨ps, pt, tape, n, x, ws, rfl, _, _, _, hA, _⟩ := h
    rw [List.length_cons, AC.len (fun _ h => AC.len (fun _ h => A0.len h) h) hA]
    rfl
  · obtain ⟨ps, pt, tape, n, ⟨many, most, _⟩, ws, rfl, tb, sk, hn, hA, ⟨⟨hm1, hm4⟩, hk1, hk3⟩, k⟩ := h
    obtain ⟨v2, _, rfl, r2, v3, _, rfl, r3, rfl⟩ := hA
    have hm1 : 1 ≤ many := hm1
    have hm4 : many ≤ 4 := hm4
    have hk1 : 1 ≤ most := hk1
    have hk3 : most ≤ 3 := hk3
    have r2 : v2 = .int (many : Int) := r2
    have r3 : v3 = .int (most : Int) := r3
    subst r2 r3
    refine ⟨_, (pss_cons (ps_set (i := 3) sc_law_choices.nd rfl (.inl rfl) (pe_lst pa_nil))
      (pss_cons (ps_for PassesOwn.never rfl (pi_range1 (by rfl) T.b_range (pa_cons (pe_op op_add pe_int (pe_has h__law_take (hr.mono (by decide)) (by rfl) (pa_cons (pv 0) (pa_cons (pv 2) pa_nil)))) pa_nil)) (pg_name (i := 4) sc_law_choices.nd rfl (.inl rfl)) (pss_one (ps_expr (pe_bm PySem.F.plainAttrs_list PySem.F.slot_list_append PySem.F.type_list_append mt_append (pv 3) (pa_cons (pe_tup (pa_cons (pe_ix ix_list (pe_lst (pa_cons pe_int (pa_cons pe_int (pa_cons pe_int (pa_cons pe_int (pa_cons pe_int pa_nil)))))) (pe_has h__law_take (hr.mono (by decide)) (by rfl) (pa_cons (pv 0) (pa_cons pe_int pa_nil))) (fun _ _ => rfl)) (pa_cons (pe_has h__law_ends (hr.mono (by decide)) (by rfl) (pa_cons (pv 0) (pa_cons (pv 1) pa_nil))) pa_nil))) pa_nil)))))
      (pss_one (ps_ret (pe_callTy call_tuple_of (by rfl) T.b_tuple (by decide +kernel) (pa_cons (pv 3) pa_nil)))))), ?_⟩
    refine q_asgF (r := RCh K) (xs := []) f_nil fun p w1 H1 hn1 e1 hp1 hal1 => ?_
    have nps : p ≠ ps := fun z => by rw [z, sk.st] at hn1; cases hn1
    have O1 : Own (RCh K) (hide ps H) p (hide ps H1) [] := ⟨by rw [hide_ne nps]; exact hn1, w1, by rw [hide_ne nps]; exact hp1, hal1.fx (sk.ex e1).tx⟩
    refine q_forRS (sv_add1 (sv_take most ((SK.tabs tb sk).ex (Es.of e1)) rfl (fun H' e => (e_var (r := RN) (x := most) rfl rfl)) (by omega))) (sk.ex e1) (by omega) (fun N hN => by
      obtain ⟨x, hx, rfl⟩ := hN
      have hx : x < most := hx
      omega) (fun N i σ' H' => ∃ cs m o, σ' = [some (.ref ps), some (.int (many : Int)), some (.int (most : Int)), some (.ref p), o] ∧ Es ps H H' ∧ SK ps pt tape H' m ∧ m ≤ n + 1 + 10 * i ∧ Own (RCh K) (hide ps H) p (hide ps H') cs ∧ cs.length = i ∧ ∀ c ∈ cs, c.1 ≤ 1000 ∧ EndsOk many c.2)
      (fun N H2 m hN e2 sk2 hm2 => ⟨[], m, none, rfl, (Es.of e1).trans e2, sk2, by omega, O1.ex e2, rfl, fun c hc => (by cases hc)⟩) (fun N i σ' H' hN hi hP => ?_) (fun N σ' H' hN hP => ?_)
    · obtain ⟨cs, m, o, rfl, e3, sk3, hm3, O, hl, hall⟩ := hP
      obtain ⟨x, hx, rfl⟩ := hN
      have hx : x < most := hx
      refine s_appS (r := RCh K) O sk e3 rfl (sv_pair (r := RN) (s := REnds K) (c := 1) (d := 9) (sv_item (K := K) (σ := [some (.ref ps), some (.int (many : Int)), some (.int (most : Int)), some (.ref p), some (.int (i : Int))]) (ns := [0, 1, 2, 5, 1000]) (fun H'' => f_consts [0, 1, 2, 5, 1000] (fun H1 Q q => q) (by decide)) (sv_take 5 ((SK.tabs tb sk).ex e3) rfl (fun H' e => (by exact e_nat)) (by decide)))
        (sv_call (A := AC RN A0) (x := (many, ())) ((SK.tabs tb sk).ex e3) rfl (fun H'' e => a_cons (e_var (r := RN) (x := many) rfl rfl) a_nil) ⟨hm1, hm4⟩)) sk3 (by omega) (by omega) fun y H5 m5 hy e5 sk5 hm5 O5 => ?_
      obtain ⟨hy1, hy2⟩ := hy
      refine ⟨cs ++ [y], m5, _, rfl, e5, sk5, by omega, O5, by simp [hl], fun c hc => ?_⟩
      rw [List.mem_append, List.mem_singleton] at hc
      rcases hc with hc | hc
      · exact hall c hc
      · rw [hc]
        have : y.1 = 0 ∨ y.1 = 1 ∨ y.1 = 2 ∨ y.1 = 5 ∨ y.1 = 1000 := by simpa using hy1
        exact ⟨by omega, hy2⟩
    · obtain ⟨cs, m, o, rfl, e3, sk3, hm3, O, hl, hall⟩ := hP
      obtain ⟨x, hx, rfl⟩ := hN
      have hx : x < most := hx
      refine s_retS (sv_tupleO (K := K) (r := RCh K) rfl O) sk3 (by omega) fun y v H4 m4 hy e4 sk4 hm4' hv => ?_
      subst hy
      exact k y v H4 m4 ⟨by omega, by omega, hall⟩ (e3.trans e4) sk4 (by omega) hv
theorem ok__law_system {f f__law_take f__law_choices : Addr} {fd : FuncData} (F : Fun K "_law_system" "_law_system" s_law_system f fd) (T : Top K mg zZ zO) (h__law_take : Has P w K mg base "_law_take" ["_law_state", "_law_many"] 2 (spTake TT) f__law_take)
    (h__law_choices : Has P w K mg base "_law_choices" ["_law_state", "_law_many", "_law_most"] 4 (spLChs TT K) f__law_choices) : FnOk P w K mg base CX0 5 f fd ["_law_state", "_law_most"] (spLSys TT K) := by
  refine F.ok sc_law_system (fun vs H Q E h => ?_) (fun cdv A outer s H vs Q E hr h => ?_)
  · obtain ⟨ps, pt, tape, n, x, ws, rfl, _, _, _, hA, _⟩ := h
    rw [List.length_cons, AC.len (fun _ h => A0.len h) hA]
    rfl
  · obtain ⟨ps, pt, tape, n, ⟨most, _⟩, ws, rfl, tb, sk, hn, hA, ⟨hk1, hk4⟩, k⟩ := h
    obtain ⟨v2, _, rfl, r2, rfl⟩ := hA
    have hk1 : 1 ≤ most := hk1
    have hk4 : most ≤ 4 := hk4
    have r2 : v2 = .int (most : Int) := r2
    subst r2
    refine ⟨_, (pss_cons (ps_set (i := 2) sc_law_system.nd rfl (.inr rfl) (pe_op op_add pe_int (pe_has h__law_take (hr.mono (by decide)) (by rfl) (pa_cons (pv 0) (pa_cons (pv 1) pa_nil)))))
      (pss_one (ps_ret (pe_callTy call_tuple_of (by rfl) T.b_tuple (by decide +kernel) (pa_cons (pe_lc (own := [("_law_k", 3)]) (g := _) rfl sc_law_system.nd (pi_range1 (by rfl) T.b_range (pa_cons (pv 2) pa_nil)) (blkOk_by (N := ["_law_state", "_law_most", "_law_many", "_law_k"]) (sc := defScope s_law_system) (by decide +kernel)) (fun _ _ _ _ _ => (pg_name (i := 3) sc_law_system.nd rfl (Or.inl rfl))) (fun _ _ _ _ _ => pts_nil) (fun _ _ _ _ _ => (pe_has h__law_choices (hr.mono (by decide)) (by rfl) (pa_cons (pv 0) (pa_cons (pv 2) (pa_cons pe_int pa_nil)))))) pa_nil))))), ?_⟩
    refine q_asgS (sv_add1 (sv_take most (SK.tabs tb sk) rfl (fun H' e => (e_var (r := RN) (x := most) rfl rfl)) (by omega))) sk (by omega) fun many vm H2 m hmany e2 sk2 hm2 hvm => ?_
    obtain ⟨x, hx, rfl⟩ := hmany
    have hx : x < most := hx
    have hvm : vm = .int ((1 + x : Nat) : Int) := hvm
    subst hvm
    have hcost : (1 + x) * (0 + 31) ≤ 124 := by
      have := Nat.mul_le_mul_right (0 + 31) (show 1 + x ≤ 4 by omega)
      omega
    refine s_retS (sv_tupleF (K := K) (f_rangeS (r := RT K (RCh K)) (N := 1 + x) (d1 := 0) (d2 := 31) (fun i ys => ys.length = i ∧ ∀ cs ∈ ys, ChsOk (1 + x) cs) (Pt := fun b => b = true) (fun H' e => e_var (r := RN) rfl rfl) (by omega) (fun _ => rfl) ⟨rfl, fun cs h => by cases h⟩ (fun i ys h => Nat.le_of_eq h.1) (fun i H' hi e => svt_yes) (fun i H' hi _ e ys hys => ?_) (fun i z => by cases z))) sk2 (by omega) fun ys v H3 m3 hys e3 sk3 hm3 hv => ?_
    · refine SvR.imp (sv_call (A := AC RN (AC RN A0)) (x := (1 + x, 3, ())) ((SK.tabs tb sk).ex (e2.trans e)) rfl (fun H'' e => a_cons (e_var (r := RN) (x := 1 + x) rfl rfl) (a_cons (by exact e_nat) a_nil)) ⟨⟨by show 1 ≤ 1 + x; omega, by show 1 + x ≤ 4; omega⟩, by show 1 ≤ 3; omega, by show 3 ≤ 3; omega⟩) (fun y hy => ?_) (Nat.le_refl _)
      · refine ⟨by simp [hys.1], fun cs hcs => ?_⟩
        rw [List.mem_append, List.mem_singleton] at hcs
        rcases hcs with hcs | hcs
        · exact hys.2 cs hcs
        · rw [hcs]
          exact hy
    · obtain ⟨hl, hall⟩ := hys
      refine k ys v H3 m3 ⟨by omega, by omega, fun cs hcs => ⟨(hall cs hcs).pos, (hall cs hcs).le⟩, fun cs hcs c hc => ?_⟩ (e2.trans e3) sk3 (by omega) hv
      rw [hl]
      exact (hall cs hcs).all c hc
theorem ok__law_some {f f__law_take : Addr} {fd : FuncData} (F : Fun K "_law_some" "_law_some" s_law_some f fd) (T : Top K mg zZ zO) (h__law_take : Has P w K mg base "_law_take" ["_law_state", "_law_many"] 2 (spTake TT) f__law_take) :
    FnOk P w K mg base CX0 3 f fd ["_law_state", "_law_many", "_law_share"] (spSome TT K) := by
  refine F.ok sc_law_some (fun vs H Q E h => ?_) (fun cdv A outer s H vs Q E hr h => ?_)
  · obtain ⟨ps, pt, tape, n, x, ws, rfl, _, _, _, hA, _⟩ := h
    rw [List.length_cons, AC.len (fun _ h => AC.len (fun _ h => A0.len h) h) hA]
    rfl
  · obtain ⟨ps, pt, tape, n, ⟨many, share, _⟩, ws, rfl, tb, sk, hn, hA, ⟨hm4, hs0⟩, k⟩ := h
    obtain ⟨v2, _, rfl, r2, v3, _, rfl, r3, rfl⟩ := hA
    have hm4 : many ≤ 4 := hm4
    have hs0 : 0 < share := hs0
    have r2 : v2 = .int (many : Int) := r2
    have r3 : v3 = .int (share : Int) := r3
    subst r2 r3
    refine ⟨_, (pss_cons (ps_setLc (i := 3) (own := [("_law_k", 4)]) (g := _) rfl sc_law_some.nd rfl rfl (sw_true rfl rfl rfl (by decide +kernel)) (pi_range1 (by rfl) T.b_range (pa_cons (pv 1) pa_nil)) (blkOk_by (N := ["_law_state", "_law_many", "_law_share", "_law_found", "_law_k"]) (sc := defScope s_law_some) (by decide +kernel)) (fun _ _ _ _ _ => (pg_name (i := 4) sc_law_some.nd rfl (Or.inl rfl))) (fun _ _ _ _ _ => pts_one (pt_cmpR op_eq (pe_has h__law_take (hr.mono (by decide)) (by rfl) (pa_cons (pv 0) (pa_cons (pv 2) pa_nil))) pe_int (nomark _))) (fun _ _ _ _ _ => (pv 4)))
      (Evl.pss_cut (ps_if (pt_cmpR op_eq (pe_has h__law_take (hr.mono (by decide)) (by rfl) (pa_cons (pv 0) (pa_cons pe_int pa_nil))) pe_int (nomark _)) (pss_one (ps_set (i := 3) sc_law_some.nd rfl (.inl rfl) (pe_revL (pv 3)))) pss_nil)
      (pss_one (ps_ret (pv 3))))), ?_⟩
    refine q_asgSF (f_rangeS (r := RN) (N := many) (d1 := 1) (d2 := 0) (fun i ys => ys.length ≤ i) (Pt := fun _ => True) (fun H' e => e_var (r := RN) rfl rfl) (by omega) (fun _ => rfl) (Nat.le_refl _) (fun i ys h => h) (fun i H' hi e => svt_eq0 (sv_take share ((SK.tabs tb sk).ex e) rfl (fun H'' e => (e_var (r := RN) (x := share) rfl rfl)) hs0))
      (fun i H' hi _ e ys hys => (sv_pure (r := RN) (x := i) fun H'' e => e_var (r := RN) rfl rfl).imp (fun y _ => by simp; exact hys) (Nat.le_refl _)) (fun i _ ys hys => Nat.le_succ_of_le hys)) sk (by omega) fun ys p ws H2 m hys hnp nps e2 sk2 hm2 hp hal => ?_
    have rY : RL K RN (hide ps H2) (.ref p) ys := ⟨p, ws, rfl, SqL.of (by rw [hide_ne nps]; exact hp), hal⟩
    refine Evl.q_cut (M := fun σ' H' => ∃ v xs m, σ' = [some (.ref ps), some (.int (many : Int)), some (.int (share : Int)), some v, none] ∧ Es ps H H' ∧ SK ps pt tape H' m ∧ m ≤ n + 5 ∧ RL K RN (hide ps H') v xs) ?_ fun σ' H3 hM => ?_
    · refine s_ifS (c := 1) (svt_eq0 (sv_take 2 ((SK.tabs tb sk).ex e2) rfl (fun H'' e => (by exact e_nat)) (by decide))) sk2 (by omega) (fun _ H3 m3 e3 sk3 hm3 => ?_) (fun _ H3 m3 e3 sk3 hm3 => ?_)
      · refine (f_rev (K := K) (r := RN) (xs := ys) (te := tVar 3) (σ := [some (.ref ps), some (.int (many : Int)), some (.int (share : Int)), some (.ref p), none]) (e_var rfl (Mo.mo hide_sub (Mo.mo e3 rY)))) H3 (Evl.Ex.refl _) _ fun q wq H4 hnq e4 hq halq => ?_
        have nqs : q ≠ ps := fun z => by rw [z, sk3.st] at hnq; cases hnq
        exact ⟨.ref q, ys.reverse, m3, rfl, (e2.trans e3).trans (Es.of e4), sk3.ex e4, by omega, q, wq, rfl, SqL.of (by rw [hide_ne nqs]; exact hq), halq.fx (sk3.ex e4).tx⟩
      · exact ⟨.ref p, ys, m3, rfl, e2.trans e3, sk3, by omega, Mo.mo e3 rY⟩
    · obtain ⟨v, xs, m3, rfl, e3, sk3, hm3, hv⟩ := hM
      exact ⟨v, rfl, k xs v H3 m3 trivial e3 sk3 hm3 hv⟩
theorem ok__law_drawn_policy {f f__law_take : Addr} {fd : FuncData} (F : Fun K "_law_drawn_policy" "_law_drawn_policy" s_law_drawn_policy f fd) (T : Top K mg zZ zO) (h__law_take : Has P w K mg base "_law_take" ["_law_state", "_law_many"] 2 (spTake TT) f__law_take) :
    FnOk P w K mg base CX0 3 f fd ["_law_state", "_law_system_here"] (spDrawn TT K) := by
  refine F.ok sc_law_drawn_policy (fun vs H Q E h => ?_) (fun cdv A outer s H vs Q E hr h => ?_)
  · obtain ⟨ps, pt, tape, n, x, ws, rfl, _, _, _, hA, _⟩ := h
    rw [List.length_cons, AC.len (fun _ h => A0.len h) hA]
    rfl
  · obtain ⟨ps, pt, tape, n, ⟨S, _⟩, ws, rfl, tb, sk, hn, hA, hS, k⟩ := h
    obtain ⟨v2, _, rfl, r2, rfl⟩ := hA
    have hS : SysOk S := hS
    have hSl := hS.len
    refine ⟨_, (pss_one (ps_ret (pe_callTy call_tuple_of (by rfl) T.b_tuple (by decide +kernel) (pa_cons (pe_lc (own := [("_law_choices_here", 2)]) (g := _) rfl sc_law_drawn_policy.nd (pi_tup (pv 1)) (blkOk_by (N := ["_law_state", "_law_system_here", "_law_choices_here"]) (sc := defScope s_law_drawn_policy) (by decide +kernel)) (fun _ _ _ _ _ => (pg_name (i := 2) sc_law_drawn_policy.nd rfl (Or.inl rfl))) (fun _ _ _ _ _ => pts_nil) (fun _ _ _ _ _ => (pe_has h__law_take (hr.mono (by decide)) (by rfl) (pa_cons (pv 0) (pa_cons (pe_callB (kx_call_len_seq (K := K) rfl) (by rfl) T.b_len PySem.boot_len (pa_cons (pv 2) pa_nil)) pa_nil))))) pa_nil)))), ?_⟩
    refine s_retS (sv_tupleF (K := K) (f_tupS (r := RN) (s := RT K (RCh K)) (xs := S) (d1 := 0) (d2 := 1) (fun i ys => ys.length = i ∧ ∀ (j c : Nat), ys[j]? = some c → c < (S.getD j []).length) (Pt := fun b => b = true) (e_varS (r := RSys K) rfl r2) (by omega) (fun _ => rfl) ⟨rfl, fun j c h => by simp at h⟩ (fun i ys h => Nat.le_of_eq h.1) (fun i x v H' hx e hv => svt_yes) (fun i x v H' hx _ e hv ys hys => ?_) (fun i z => by cases z))) sk (by omega) fun ys v H3 m3 hys e3 sk3 hm3 hv => ?_
    · have hil := (List.getElem?_eq_some_iff.mp hx).1
      have ex : S.getD i [] = x := by
        have := sysAt hil
        rw [hx] at this
        exact (Option.some.inj this).symm
      have hpos := (hS.at hil).1.1
      rw [ex] at hpos
      refine (sv_take x.length ((SK.tabs tb sk).ex e) rfl (fun H'' e2 => e_lenT (r := RCh K) (e_var rfl (Fx.fx (Tx.of hide_sub) (Fx.fx (Tx.of e2) hv)))) hpos).imp (fun y hy => ?_) (Nat.le_refl _)
      refine ⟨by simp [hys.1], fun j c hjc => ?_⟩
      by_cases hj : j < ys.length
      · rw [List.getElem?_append_left hj] at hjc
        exact hys.2 j c hjc
      · have hl := (List.getElem?_eq_some_iff.mp hjc).1
        rw [List.length_append, List.length_singleton] at hl
        have hji : j = ys.length := by omega
        rw [hji, List.getElem?_append_right (Nat.le_refl _)] at hjc
        have hjc : y = c := by simpa using hjc
        rw [hji, hys.1, ex, ← hjc]
        exact hy
    · refine k ys v H3 m3 ⟨hys.1, fun s c cs h1 h2 => ?_⟩ e3 sk3 (by omega) hv
      have := hys.2 s c h1
      have hs := (List.getElem?_eq_some_iff.mp h2).1
      rw [sysAt hs] at h2
      rw [← Option.some.inj h2]
      exact this
end
end BO

namespace BO
open PySem PySem.Spec PyProof.Rows L2
abbrev slaw : Stmt := topS 59
theorem sclaw : FnScope ["_law_script", "_law_state", "_law_system_here", "_law_many", "_law_allowed", "_law_targets", "_law_most", "_law_rest", "_law_k", "_law_best", "_law_before", "_law_steps", "_law_values", "_law_policies", "_law_drawn", "_law_other", "_law_turned"] ["_law_script"] (defScope slaw) := ⟨rfl, rfl, rfl, by decide +kernel, rfl, by decide +kernel, by decide +kernel⟩

abbrev spLaw (TT : List Addr) (K : PySem.W.Frag) : Sp := spP TT (AC (RL K RI) A0) (fun x => x.1.length ≤ 64) RB fun _ y => y = true
section
variable {K : PySem.W.Frag} {σ : L2.St} {H H' H0 : Hp} {te ta tb tl : TE} {tt : TT} {tz : TS} {D : Ends} {α β γ : Type} {r : RR α} {s : RR β} {ps pt : Addr} {tape : List Nat} {n c d : Nat}
instance moRO [Mo r] : Mo (RO r) := ⟨fun {H H' v x} e h => by
  cases x with
  | none => exact h
  | some x => exact ⟨h.1, Mo.mo e h.2⟩⟩
theorem e_notN {o : Option α} (h : EvR (RO r) te σ H o) : EvR RB (tOp (fun x y H Q => y = .non ∧ Q (.bl (!decide (x = .non))) H) te (tC .non)) σ H (!o.isNone) := fun H1 e Q q =>
  h H1 e _ fun v H2 e2 hv => ⟨rfl, by
    cases o with
    | none =>
      have hv : v = .non := hv
      rw [hv]
      exact q _ H2 e2 rfl
    | some x =>
      refine q _ H2 e2 ?_
      show V.bl _ = V.bl _
      rw [decide_eq_false hv.1]
      rfl⟩
/-- [tape, 0] -/
theorem q_state {T : List Addr} {A : AR γ} {pre : γ → Prop} {tq : TA} {x : γ} {i : Nat} (ht : Tb T H) (ha : EvA A tq σ H x) (hp : pre x) (k : ∀ tape pt ps H', H ps = none → Ex H H' → SK ps pt tape H' 0 → tz D (σ.set i (some (.ref ps))) H') :
    tSeq (tAsg (tLst (tCons (tCall (spF T A pre RN fun _ y => TapeOk y) [] E0 tq) (tCons (tC (.int 0)) tNil))) (gName i)) tz D σ H :=
  ha H (Evl.Ex.refl _) _ fun vs H2 e2 hv => ⟨x, ht.ex e2, by rw [List.append_nil]; exact hv, hp, fun ys p ws H3 hy hn e3 h1 h2 => ⟨by show 2 ≤ sizeLine; decide, fun q hq => by
    have ne : p ≠ q := fun z => by rw [z, hq] at h1; cases h1
    have e4 : Ex H (upd H3 q (.lst [.ref p, .int 0])) := (e2.trans e3).trans (Evl.Ex.new hq)
    exact k ys p q _ (Evl.fresh_back (e2.trans e3) hq) e4 ⟨upd_same, ⟨ws, by rw [upd_ne ne]; exact h1, ⟨h2.1, fun i v x q1 q2 => h2.2 i v x q1 q2⟩⟩, ne, hy⟩⟩⟩
/-- a list that a number cannot stand in is not the state -/
theorem rl_hideSK (sk : SK ps pt tape H n) {v : V} {xs : List α} (h : RL K r H v xs) (hi : ∀ (m : Int) x, ¬ r H (.int m) x) [Fx r] : RL K r (hide ps H) v xs := by
  obtain ⟨a, vs, rfl, h1, h2⟩ := h
  refine ⟨a, vs, rfl, ?_, h2.fx sk.tx⟩
  by_cases ha : a = ps
  · rcases h1 with h1 | h1
    · rcases h1 with h1 | ⟨o, h1⟩
      · rw [ha, sk.st] at h1
        cases h1
        have hl := h2.1
        cases xs with
        | nil => simp at hl
        | cons x0 xs =>
          cases xs with
          | nil => simp at hl
          | cons x1 xs => exact (hi _ x1 (h2.2 1 _ x1 rfl rfl)).elim
      · rw [ha, sk.st] at h1
        cases h1
    · exact .inr h1
  · exact sqL_at h1 (hide_ne ha)
theorem rq_int {m : Int} {x : Rat} : ¬ RQ K H (.int m) x := fun ⟨a, h, _⟩ => by cases h
theorem rt_int {m : Int} {x : List α} : ¬ RT K r H (.int m) x := fun ⟨a, _, h, _⟩ => by cases h
theorem sv_if {P : α → Prop} {P' : Bool → Prop} (h : SvT ps pt tape c P' tt σ H) (h1 : SvR ps pt tape d r P ta σ H) (h2 : SvR ps pt tape d r P tb σ H) : SvR ps pt tape (c + d) r P (tIf tt ta tb) σ H := fun H1 n e sk hn Q q =>
  h H1 n e sk (by omega) _ fun b H2 m _ e2 sk2 hm => by
    cases b with
    | true => exact h1 H2 m (e.trans e2) sk2 (by omega) Q fun x v H3 l hx e3 sk3 hl hv => q x v H3 l hx (e2.trans e3) sk3 (by omega) hv
    | false => exact h2 H2 m (e.trans e2) sk2 (by omega) Q fun x v H3 l hx e3 sk3 hl hv => q x v H3 l hx (e2.trans e3) sk3 (by omega) hv
theorem sv_ofF [Fx r] {xs : List α} (h : ∀ H', Es ps H H' → EvF r te σ H' xs) : SvR ps pt tape 0 (RL K r) (fun y => y = xs) te σ H := fun H1 n e sk hn Q q =>
  h H1 e H1 (Evl.Ex.refl _) _ fun p ws H2 hp e2 hws hal => by
    have ne : p ≠ ps := fun z => by rw [z, sk.st] at hp; cases hp
    exact q xs (.ref p) H2 n rfl (Es.of e2) (sk.ex e2) (Nat.le_refl _) ⟨p, ws, rfl, SqL.of (by rw [hide_ne ne]; exact hws), hal.fx (sk.ex e2).tx⟩
theorem sv_eq0v {P : Nat → Prop} (h : SvR ps pt tape c RN P te σ H) : SvR ps pt tape c RB (fun _ => True) (tOp rEq te (tC (.int 0))) σ H := fun H1 n e sk hn Q q =>
  h H1 n e sk hn _ fun x v H2 m hx e2 sk2 hm hv => ⟨by rw [show v = V.int (x : Int) from hv]; rfl, q _ _ H2 m trivial e2 sk2 hm rfl⟩
theorem q_asgB {T : List Addr} {A : AR γ} {pre : γ → Prop} {post : γ → List Rat → Prop} {tq : TA} {x : γ} {i : Nat} (ht : Tb T H) (ha : EvA A tq σ H x) (hp : pre x) (k : ∀ y v H', post x y → Ex H H' → RT K (RQ K) H' v y → tz D (σ.set i (some v)) H') :
    tSeq (tAsg (tOp (rIxT K) (tCall (spP T A pre (RB3 K) post) [] E0 tq) (tC (.int 0))) (gName i)) tz D σ H :=
  ha H (Evl.Ex.refl _) _ fun vs H2 e2 hv => ⟨x, ht.ex e2, by rw [List.append_nil]; exact hv, hp, fun y v H' hy e3 ⟨a, v1, v2, v3, h1, h2, h3⟩ => ⟨a, _, 0, v1, h1, rfl, h2, rfl, k y v1 H' hy (e2.trans e3) h3⟩⟩
end
/-! the values, as the law compares them -/
section
variable {S : Sys} {al ts : List Nat} {i : Nat} {most : Bool} {y z : List Rat × List (List Nat)}
theorem BndPost.vl (h : BndPost S al ts i most y) : y.1.length = S.length := by rw [h.bnd.eq, fol_len, bas_len]
theorem BndPost.vz (h : BndPost S al ts i most y) (hS : SysOk S) (hi : i ≤ 7) : allSz 340 y.1 := by
  rw [h.bnd.eq]
  exact fol_sz hS h.ok (by rw [h.len]; exact hi)
theorem BndPost.pp (h : BndPost S al ts i most y) (hS : SysOk S) : ∀ p ∈ y.2, EndsP S S.length (restOf S.length al ts) p ∧ ValidP S (restOf S.length al ts) p := fun p hp => ⟨pol_ends hS (h.ok p hp), pol_valid (h.ok p hp)⟩
theorem base_is : IsBase S.length (restOf S.length al ts) (bas S.length ts) := ⟨bas_len, fun s hs => by rw [bas_at]; split <;> decide +kernel, fun s hs => by
  rw [bas_at, if_neg fun z => (restOf_mem.mp hs).2.2 z.2]⟩
theorem BndPost.more (h : BndPost S al ts i most y) (h' : BndPost S al ts (i + 1) most z) (hS : SysOk S) : noneLess z.1 y.1 = true :=
  noneLess_of (by rw [h'.vl]; exact h.bnd.more h'.bnd base_is (h.pp hS) (h'.pp hS) (by rw [h'.len, h.len]))
theorem BndPost.below {b : List Rat} (h : BndPost S al ts i most y) (hB : BestV S al ts most b) (hS : SysOk S) : noneLess b y.1 = true := by
  refine noneLess_of ?_
  rw [hB.len]
  refine h.bnd.below (fun s hs => ?_) bas_len hB.len (h.pp hS) fun s hs => ?_
  · rw [bas_at]
    by_cases ht : s < S.length ∧ s ∈ ts
    · rw [if_pos ht, hB.one s hs ht.2]
      grind
    · rw [if_neg ht]
      exact hB.nonneg s hs
  · have hsn := (restOf_mem.mp hs).1
    have ho := hB.opt s hs
    cases most with
    | true =>
      rw [if_pos rfl] at ho ⊢
      exact ho
    | false =>
      rw [if_neg Bool.false_ne_true] at ho ⊢
      obtain ⟨c, hc, he⟩ := ho
      have hcx : (S.getD s [])[c]? = some (chAt S s c) := by
        rw [← chAt_eq, List.getD_eq_getElem?_getD (l := S.getD s []), List.getElem?_eq_getElem hc]
        rfl
      refine ⟨c, hc, hS.endsAt hsn (List.mem_of_getElem? hcx), ?_⟩
      rw [he]
      show avg _ _ ≤ avg _ _
      grind
/-- other policies -/
theorem BndPost.others (h : BndPost S al ts i most y) (hS : SysOk S) {qs : List (List Nat)} (hq : ∀ q ∈ qs, PolOk S q) (hl : qs.length = i) :
    (if most then noneLess y.1 (fol S (restOf S.length al ts) (bas S.length ts) qs) else noneLess (fol S (restOf S.length al ts) (bas S.length ts) qs) y.1) = true := by
  have d := h.bnd.dom (n := S.length) bas_len (fun q hq' => ⟨pol_ends hS (hq q hq'), pol_valid (hq q hq')⟩) (by rw [hl, h.len])
  cases most with
  | true =>
    rw [if_pos rfl]
    exact noneLess_of (by rw [h.vl]; exact d)
  | false =>
    rw [if_neg Bool.false_ne_true]
    exact noneLess_of (by rw [fol_len, bas_len]; exact d)
end
section
variable {P : Program} {w : World} {K : PySem.W.Frag} {mg : Str → Option Value} {base : Heap} {TT : List Addr} {zZ zO : Addr}
theorem ok_law {f f__law_tape f__law_system f__law_take f__law_some f_best_chances f_bounded_chances f__law_none_less f__law_followed f__law_drawn_policy : Addr} {fd : FuncData} (F : Fun K "law" "law" slaw f fd) (T : Top K mg zZ zO)
    (h__law_tape : Has P w K mg base "_law_tape" ["_law_script"] 1 (spTape TT K) f__law_tape) (h__law_system : Has P w K mg base "_law_system" ["_law_state", "_law_most"] 5 (spLSys TT K) f__law_system)
    (h__law_take : Has P w K mg base "_law_take" ["_law_state", "_law_many"] 2 (spTake TT) f__law_take) (h__law_some : Has P w K mg base "_law_some" ["_law_state", "_law_many", "_law_share"] 3 (spSome TT K) f__law_some)
    (h_best_chances : Has P w K mg base "best_chances" ["system", "allowed", "targets", "most"] 9 (spBest TT K) f_best_chances) (h_bounded_chances : Has P w K mg base "bounded_chances" ["system", "allowed", "targets", "steps", "most"] 5 (spBnd TT K) f_bounded_chances)
    (h__law_none_less : Has P w K mg base "_law_none_less" ["_law_one", "_law_other"] 2 (spNone TT K) f__law_none_less) (h__law_followed : Has P w K mg base "_law_followed" ["_law_system_here", "_law_rest", "_law_targets", "_law_policies"] 4 (spFol TT K) f__law_followed)
    (h__law_drawn_policy : Has P w K mg base "_law_drawn_policy" ["_law_state", "_law_system_here"] 3 (spDrawn TT K) f__law_drawn_policy) : FnOk P w K mg base CX0 10 f fd ["_law_script"] (spLaw TT K) := by
  refine F.ok sclaw (fun vs H Q E h => ?_) (fun cdv A outer s H vs Q E hr h => ?_)
  · obtain ⟨x, _, hA, _⟩ := h
    exact AC.len (fun _ h => A0.len h) hA
  · obtain ⟨⟨xs, _⟩, tb, hA, hl, k⟩ := h
    obtain ⟨v1, _, rfl, r1, rfl⟩ := hA
    have hl : xs.length ≤ 64 := hl
    refine ⟨_, (pss_cons (ps_set (i := 1) sclaw.nd rfl (.inr rfl) (pe_lst (pa_cons (pe_has h__law_tape (hr.mono (by decide)) (by rfl) (pa_cons (pv 0) pa_nil)) (pa_cons pe_int pa_nil))))
      (pss_cons (ps_set (i := 2) sclaw.nd rfl (.inr rfl) (pe_has h__law_system (hr.mono (by decide)) (by rfl) (pa_cons (pv 1) (pa_cons pe_int pa_nil))))
      (pss_cons (ps_set (i := 3) sclaw.nd rfl (.inl rfl) (pe_callB call_len_seq (by rfl) T.b_len PySem.boot_len (pa_cons (pv 2) pa_nil)))
      (pss_cons (ps_set (i := 4) sclaw.nd rfl (.inr rfl) (pe_ifExp (pt_cmpR op_eq (pe_has h__law_take (hr.mono (by decide)) (by rfl) (pa_cons (pv 1) (pa_cons pe_int pa_nil))) pe_int (nomark _)) (pe_has h__law_some (hr.mono (by decide)) (by rfl) (pa_cons (pv 1) (pa_cons (pv 3) (pa_cons pe_int pa_nil)))) (pe_listRg rfl (by rfl) T.b_list (prg_1 (by rfl) T.b_range (pv 3)))))
      (pss_cons (ps_set (i := 5) sclaw.nd rfl (.inr rfl) (pe_has h__law_some (hr.mono (by decide)) (by rfl) (pa_cons (pv 1) (pa_cons (pv 3) (pa_cons pe_int pa_nil)))))
      (pss_cons (ps_set (i := 6) sclaw.nd rfl (.inl rfl) (pe_cmpR op_eq (pe_has h__law_take (hr.mono (by decide)) (by rfl) (pa_cons (pv 1) (pa_cons pe_int pa_nil))) pe_int (nomark _)))
      (pss_cons (ps_setLc (i := 7) (own := [("_law_k", 8)]) (g := _) rfl sclaw.nd rfl rfl (sw_true rfl rfl rfl (by decide +kernel)) (pi_range1 (by rfl) T.b_range (pa_cons (pv 3) pa_nil)) (blkOk_by (N := ["_law_script", "_law_state", "_law_system_here", "_law_many", "_law_allowed", "_law_targets", "_law_most", "_law_rest", "_law_k", "_law_best", "_law_before", "_law_steps", "_law_values", "_law_policies", "_law_drawn", "_law_other", "_law_turned"]) (sc := defScope slaw) (by decide +kernel)) (fun _ _ _ _ _ => (pg_name (i := 8) sclaw.nd rfl (Or.inl rfl))) (fun _ _ _ _ _ => pts_one (PW.pt (pw_and (pt_cmpR (kx_op_in_seq (K := K) rfl) (pv 8) (pv 4) (by rfl)) (pw_and1 (pt_cmpR (kx_op_notIn_seq (K := K) rfl) (pv 8) (pv 5) (by rfl)))))) (fun _ _ _ _ _ => (pv 8)))
      (pss_cons (ps_set (i := 9) sclaw.nd rfl (.inl rfl) (pe_ix ix_tup (pe_has h_best_chances (hr.mono (by decide)) (by rfl) (pa_cons (pv 2) (pa_cons (pv 4) (pa_cons (pv 5) (pa_cons (pv 6) pa_nil))))) pe_int (fun _ _ => rfl)))
      (pss_cons (ps_set (i := 10) sclaw.nd rfl (.inl rfl) pe_non)
      (pss_cons (ps_for PassesOwn.never rfl (pi_range1 (by rfl) T.b_range (pa_cons (pe_op op_add pe_int (pe_has h__law_take (hr.mono (by decide)) (by rfl) (pa_cons (pv 1) (pa_cons pe_int pa_nil)))) pa_nil)) (pg_name (i := 11) sclaw.nd rfl (.inl rfl)) (pss_cons (ps_asg (pe_has h_bounded_chances (hr.mono (by decide)) (by rfl) (pa_cons (pv 2) (pa_cons (pv 4) (pa_cons (pv 5) (pa_cons (pv 11) (pa_cons (pv 6) pa_nil)))))) (pg_tup rfl (pgs_cons (pg_name (i := 12) sclaw.nd rfl (.inl rfl)) (pgs_cons (pg_name (i := 13) sclaw.nd rfl (.inl rfl)) pgs_nil))))
      (pss_cons (ps_if (PW.pt (pw_and (pt_cmpR op_eq (pv 11) pe_int (nomark _)) (pw_and1 (pt_cmpR (op_neD hr.units) (pv 12) (pe_lc (own := [("_law_k", 8)]) (g := _) rfl sclaw.nd (pi_range1 (by rfl) T.b_range (pa_cons (pv 3) pa_nil)) (blkOk_by (N := ["_law_script", "_law_state", "_law_system_here", "_law_many", "_law_allowed", "_law_targets", "_law_most", "_law_rest", "_law_k", "_law_best", "_law_before", "_law_steps", "_law_values", "_law_policies", "_law_drawn", "_law_other", "_law_turned"]) (sc := defScope slaw) (by decide +kernel)) (fun _ _ _ _ _ => (pg_name (i := 8) sclaw.nd rfl (Or.inl rfl))) (fun _ _ _ _ _ => pts_nil) (fun _ _ _ _ _ => (pe_tup (pa_cons (pe_callTy call_int1 (by rfl) T.b_int (by decide +kernel) (pa_cons (pe_cmpR (kx_op_in_seq (K := K) rfl) (pv 8) (pv 5) (by rfl)) pa_nil)) (pa_cons pe_int pa_nil))))) (nomark _))))) (pss_one (ps_ret pe_bl)) pss_nil)
      (pss_cons (ps_if (PW.pt (pw_or (PW.pt (pw_and (pt_cmpR op_notN (pv 10) pe_non (nomark _)) (pw_and1 (pt_not (pt_val (pe_has h__law_none_less (hr.mono (by decide)) (by rfl) (pa_cons (pv 12) (pa_cons (pv 10) pa_nil)))))))) (pw_or1 (pt_not (pt_val (pe_has h__law_none_less (hr.mono (by decide)) (by rfl) (pa_cons (pv 9) (pa_cons (pv 12) pa_nil)))))))) (pss_one (ps_ret pe_bl)) pss_nil)
      (pss_cons (ps_if (PW.pt (pw_or (pt_cmpR op_ne (pe_callB call_len_seq (by rfl) T.b_len PySem.boot_len (pa_cons (pv 13) pa_nil)) (pv 11) (nomark _)) (pw_or1 (pt_cmpR (op_neD hr.units) (pe_has h__law_followed (hr.mono (by decide)) (by rfl) (pa_cons (pv 2) (pa_cons (pv 7) (pa_cons (pv 5) (pa_cons (pv 13) pa_nil))))) (pv 12) (nomark _))))) (pss_one (ps_ret pe_bl)) pss_nil)
      (pss_cons (ps_setLc (i := 14) (own := [("_law_k", 8)]) (g := _) rfl sclaw.nd rfl rfl (sw_true rfl rfl rfl (by decide +kernel)) (pi_range1 (by rfl) T.b_range (pa_cons (pv 11) pa_nil)) (blkOk_by (N := ["_law_script", "_law_state", "_law_system_here", "_law_many", "_law_allowed", "_law_targets", "_law_most", "_law_rest", "_law_k", "_law_best", "_law_before", "_law_steps", "_law_values", "_law_policies", "_law_drawn", "_law_other", "_law_turned"]) (sc := defScope slaw) (by decide +kernel)) (fun _ _ _ _ _ => (pg_name (i := 8) sclaw.nd rfl (Or.inl rfl))) (fun _ _ _ _ _ => pts_nil) (fun _ _ _ _ _ => (pe_has h__law_drawn_policy (hr.mono (by decide)) (by rfl) (pa_cons (pv 1) (pa_cons (pv 2) pa_nil)))))
      (pss_cons (ps_set (i := 15) sclaw.nd rfl (.inl rfl) (pe_has h__law_followed (hr.mono (by decide)) (by rfl) (pa_cons (pv 2) (pa_cons (pv 7) (pa_cons (pv 5) (pa_cons (pv 14) pa_nil))))))
      (pss_cons (ps_if (PW.pt (pw_or (PW.pt (pw_and (pt_val (pv 6)) (pw_and1 (pt_not (pt_val (pe_has h__law_none_less (hr.mono (by decide)) (by rfl) (pa_cons (pv 12) (pa_cons (pv 15) pa_nil)))))))) (pw_or1 (PW.pt (pw_and (pt_not (pt_val (pv 6))) (pw_and1 (pt_not (pt_val (pe_has h__law_none_less (hr.mono (by decide)) (by rfl) (pa_cons (pv 15) (pa_cons (pv 12) pa_nil))))))))))) (pss_one (ps_ret pe_bl)) pss_nil)
      (pss_cons (ps_set (i := 16) sclaw.nd rfl (.inl rfl) (pe_ix ix_tup (pe_has h_bounded_chances (hr.mono (by decide)) (by rfl) (pa_cons (pv 2) (pa_cons (pv 4) (pa_cons (pv 5) (pa_cons (pv 11) (pa_cons (pe_not (pv 6)) pa_nil)))))) pe_int (fun _ _ => rfl)))
      (pss_cons (ps_if (PW.pt (pw_or (PW.pt (pw_and (pt_val (pv 6)) (pw_and1 (pt_not (pt_val (pe_has h__law_none_less (hr.mono (by decide)) (by rfl) (pa_cons (pv 12) (pa_cons (pv 16) pa_nil)))))))) (pw_or1 (PW.pt (pw_and (pt_not (pt_val (pv 6))) (pw_and1 (pt_not (pt_val (pe_has h__law_none_less (hr.mono (by decide)) (by rfl) (pa_cons (pv 16) (pa_cons (pv 12) pa_nil))))))))))) (pss_one (ps_ret pe_bl)) pss_nil)
      (pss_one (ps_set (i := 10) sclaw.nd rfl (.inl rfl) (pv 12)))))))))))))
      (pss_one (ps_ret pe_bl)))))))))))), ?_⟩
    refine q_state tb (a_cons (e_var (r := RL K RI) rfl r1) a_nil) hl fun tape pt ps H1 hps e1 sk1 => ?_
    -- from here on, all is known but for the state
    have fin : ∀ H', Es ps H1 H' → Ex H H' := fun H' e b o hb => by
      have h1 := e1 b o hb
      have ne : b ≠ ps := fun z => by rw [z, hps] at hb; cases hb
      exact hide_sub _ _ (e b o (by rw [hide_ne ne]; exact h1))
    have tbh : Tb TT (hide ps H1) := SK.tabs (tb.ex e1) sk1
    refine q_asgS (sv_call (A := AC RN A0) (x := (4, ())) tbh rfl (fun H' e => a_cons (by exact e_nat) a_nil) ⟨by decide, by decide⟩) sk1 (by omega) fun S vS H2 n2 hS e2 sk2 hn2 hvS => ?_
    have hS : SysOk S := hS
    have hSl := hS.len
    have tb2 := tbh.ex e2
    refine q_asg (e_lenT (r := RT K (RCh K)) (e_varS (r := RSys K) rfl hvS H2 (Evl.Ex.refl _))) fun vm H3 e3 hvm => ?_
    have hvm : vm = .int (S.length : Int) := hvm
    subst hvm
    have es3 : Es ps H2 H3 := Es.of e3
    have sk3 := sk2.ex e3
    have hvS3 : RSys K (hide ps H3) vS S := Mo.mo es3 hvS
    have tb3 := tb2.ex es3
    refine q_asgS (P := fun _ : List Nat => True) (c := 1 + 5) (sv_if (svt_eq0 (sv_take 3 tb3 rfl (fun H' e => by exact e_nat) (by decide))) ((sv_call (A := AC RN (AC RN A0)) (s := RL K RN) (c := 5) (x := (S.length, 2, ())) tb3 rfl (fun H' e => a_cons (e_var (r := RN) (x := S.length) rfl rfl) (a_cons (by exact e_nat) a_nil)) ⟨by show S.length ≤ 4; omega, by show 0 < 2; omega⟩).imp (fun _ _ => trivial) (Nat.le_refl _))
      ((sv_ofF (K := K) (fun H' e => f_listRg (e_var (r := RN) (x := S.length) rfl rfl) (by omega))).imp (fun _ _ => trivial) (by omega))) sk3 (by omega) fun al va H4 n4 _ e4 sk4 hn4 hva => ?_
    have tb4 := tb3.ex e4
    refine q_asgS (sv_call (A := AC RN (AC RN A0)) (s := RL K RN) (c := 5) (x := (S.length, 3, ())) tb4 rfl (fun H' e => a_cons (e_var (r := RN) (x := S.length) rfl rfl) (a_cons (by exact e_nat) a_nil)) ⟨by show S.length ≤ 4; omega, by show 0 < 3; omega⟩) sk4 (by omega) fun ts vt H5 n5 _ e5 sk5 hn5 hvt => ?_
    have tb5 := tb4.ex e5
    refine q_asgS (sv_eq0v (sv_take 2 tb5 rfl (fun H' e => by exact e_nat) (by decide))) sk5 (by omega) fun most vb H6 n6 _ e6 sk6 hn6 hvb => ?_
    have hvb : vb = .bl most := hvb
    subst hvb
    have hva6 : RL K RN (hide ps H6) va al := Mo.mo (e5.trans e6) hva
    have hvt6 : RL K RN (hide ps H6) vt ts := Mo.mo e6 hvt
    have hvS6 : RSys K (hide ps H6) vS S := Mo.mo ((e4.trans e5).trans e6) hvS3
    have tb6 := tb5.ex e6
    refine q_asgF (f_range (r := RN) (n := S.length) (fun s => decide (s ∈ al) && !decide (s ∈ ts)) (fun s => s) (e_var (r := RN) rfl rfl) (by omega) (fun _ => rfl)
      (fun i H' hi e => Evl.et_and (t_cmp (e_in (e_var rfl rfl) (e_var rfl (Mo.mo e (Mo.mo hide_sub hva6))))) fun _ => t_cmp (e_notIn (e_var rfl rfl) (e_var rfl (Mo.mo e (Mo.mo hide_sub hvt6))))) (fun i H' hi _ e => e_var rfl rfl)) fun pr wr H7 hnr e7 hpr halr => ?_
    have sk7 := sk6.ex e7
    have es7 : Es ps H6 H7 := Es.of e7
    have npr : pr ≠ ps := fun z => by rw [z, sk6.st] at hnr; cases hnr
    have hrest : fm (fun s => decide (s ∈ al) && !decide (s ∈ ts)) (fun s => s) S.length = restOf S.length al ts := by
      unfold fm restOf
      rw [List.map_id']
    rw [hrest] at halr
    have hvr7 : RL K RN (hide ps H7) (.ref pr) (restOf S.length al ts) := ⟨pr, wr, rfl, SqL.of (by rw [hide_ne npr]; exact hpr), halr.fx sk7.tx⟩
    have hva7 := Mo.mo es7 hva6
    have hvt7 := Mo.mo es7 hvt6
    have hvS7 := Mo.mo es7 hvS6
    have tb7 := tb6.ex es7
    refine q_asgB (K := K) (tb7.ex hide_sub) (a_cons (e_var (r := RSys K) rfl (Mo.mo hide_sub hvS7)) (a_cons (e_var (r := RL K RN) rfl (Mo.mo hide_sub hva7)) (a_cons (e_var (r := RL K RN) rfl (Mo.mo hide_sub hvt7)) (a_cons (e_var (r := RB) (x := most) rfl rfl) a_nil)))) hS fun best vbest H8 hbest e8 hvbest => ?_
    have hbest : BestV S al ts most best := hbest
    have sk8 := sk7.ex e8
    have es8 : Es ps H7 H8 := Es.of e8
    have hvbest8 : RT K (RQ K) (hide ps H8) vbest best := Fx.fx sk8.tx hvbest
    refine q_asg (r := RO RN) (x := none) (fun H1 e Q q => q _ H1 (Evl.Ex.refl _) rfl) fun vn H9 e9 hvn => ?_
    have hvn : vn = .non := hvn
    subst hvn
    have sk9 := sk8.ex e9
    have es9 : Es ps H7 H9 := es8.trans (Es.of e9)
    have e19 : Es ps H1 H9 := ((((e2.trans es3).trans e4).trans e5).trans e6).trans (es7.trans es9)
    have tb9 := tb7.ex es9
    have hvS9 := Mo.mo es9 hvS7
    have hva9 := Mo.mo es9 hva7
    have hvt9 := Mo.mo es9 hvt7
    have hvr9 := Mo.mo es9 hvr7
    have hvb9 := Fx.fx (Tx.of (Es.of e9)) hvbest8
    have hrl : (restOf S.length al ts).length ≤ 4 := Nat.le_trans restOf_len hSl
    have hsz9 : allSz 4000 best := fun q hq => sz_mono (hbest.sz q hq) (by omega)
    refine q_forRS (sv_add1 (sv_take 7 tb9 rfl (fun H' e => by exact e_nat) (by decide))) sk9 (by omega) (fun N hN => by
      obtain ⟨x, hx, rfl⟩ := hN
      have hx : x < 7 := hx
      omega) (fun N i σ' H' => ∃ a8 bef vbef a11 a12 a13 a14 a15 a16 m, σ' = [some v1, some (.ref ps), some vS, some (.int (S.length : Int)), some va, some vt, some (.bl most), some (.ref pr), a8, some vbest, some vbef, a11, a12, a13, a14, a15, a16] ∧ Es ps H9 H' ∧ SK ps pt tape H' m ∧ m ≤ n6 + 1 + i * 28 ∧
        RO (RL K (RQ K)) (hide ps H') vbef bef ∧ ∀ b, bef = some b → ∃ z j, i = j + 1 ∧ BndPost S al ts j most z ∧ z.1 = b)
      (fun N H' m hN e sk hm => ⟨none, none, .non, none, none, none, none, none, none, m, rfl, e, sk, by omega, rfl, fun b z => by cases z⟩) (fun N i σ' H' hN hi hP => ?_) (fun N σ' H' hN hP => ?_)
    · obtain ⟨x, hx, rfl⟩ := hN
      have hx : x < 7 := hx
      have hi7 : i ≤ 6 := by omega
      obtain ⟨a8, bef, vbef, a11, a12, a13, a14, a15, a16, m, rfl, e, sk, hm, hbef, hb2⟩ := hP
      have tbx := tb9.ex e
      -- the bounded ones
      refine q_asg2P (K := K) (tbx.ex hide_sub) (a_cons (e_varS (r := RSys K) rfl (Mo.mo e hvS9) H' (Evl.Ex.refl _)) (a_cons (e_varS (r := RL K RN) rfl (Mo.mo e hva9) H' (Evl.Ex.refl _)) (a_cons (e_varS (r := RL K RN) rfl (Mo.mo e hvt9) H' (Evl.Ex.refl _)) (a_cons (e_var (r := RN) (x := i) rfl rfl) (a_cons (e_var (r := RB) (x := most) rfl rfl) a_nil))))) ⟨hS, by show i ≤ 7; omega⟩ fun y vv vp Ha hy ea hvv hvp => ?_
      have hy : BndPost S al ts i most y := hy
      have ska := sk.ex ea
      have esa : Es ps H9 Ha := e.trans (Es.of ea)
      have hvv' : RL K (RQ K) (hide ps Ha) vv y.1 := rl_hideSK ska hvv fun _ _ => rq_int
      have hvp' : RL K (RT K RN) (hide ps Ha) vp y.2 := rl_hideSK ska hvp fun _ _ => rt_int
      have hbefa : RO (RL K (RQ K)) (hide ps Ha) vbef bef := Mo.mo (Es.of ea) hbef
      have hyl := hy.vl
      have hyz : allSz 4000 y.1 := fun q hq => sz_mono (hy.vz hS (by omega) q hq) (by omega)
      -- within 0 steps
      refine Evl.q_when (b := false) (Evl.et_is (Evl.et_and (t_cmp (e_eqI (e_nn (e_var (r := RN) (x := i) rfl rfl)) e_int)) fun _ => t_cmp (e_neD (dok_list dok_rat) (by omega) (e_var (r := RL K (RQ K)) rfl hvv) (f_range (r := RQ K) (n := S.length) (fun _ => true) (fun s => if decide (s ∈ ts) then (1 : Rat) else 0) (e_var (r := RN) rfl rfl) (by omega) (fun _ => rfl) (fun j H'' hj e => fun H1 e1 Q q => q H1 (Evl.Ex.refl _)) (fun j H'' hj _ e3 => ?_)).toR)) ?_) (fun hb => by cases hb) (fun _ Hb eb => ?_)
      · refine e_frac (n := if decide (j ∈ ts) then 1 else 0) (d := 1) (e_intB (e_in (e_var rfl rfl) (e_var rfl (Mo.mo e3 (Mo.mo hide_sub (Mo.mo esa hvt9)))))) e_int ?_ ?_
        · split <;> rfl
        · split <;> rfl
      · rw [fm_true]
        by_cases h0 : i = 0
        · have : y.2 = [] := List.length_eq_zero_iff.mp (by rw [hy.len, h0])
          have e1 : y.1 = bas S.length ts := by
            rw [hy.bnd.eq, this]
            rfl
          rw [e1]
          have : decide (bas S.length ts = (List.range S.length).map fun s => if decide (s ∈ ts) then (1 : Rat) else 0) = true := decide_eq_true rfl
          rw [this]
          simp
        · have : decide ((i : Int) = 0) = false := decide_eq_false (by omega)
          rw [this]
          rfl
      · have skb := ska.ex eb
        have esb : Es ps H9 Hb := esa.trans (Es.of eb)
        have tbb := tb9.ex esb
        have hvvb := Mo.mo (Es.of eb) hvv'
        have hvpb := Mo.mo (Es.of eb) hvp'
        have hbefb := Mo.mo (Es.of eb) hbefa
        have evv : ∀ {H'' : Hp} {σ1 : L2.St}, Es ps Hb H'' → σ1[12]? = some (some vv) → EvR (RS K (RQ K)) (tVar 12) σ1 H'' y.1 := fun e1 hσ => e_var hσ (rl_rs (Mo.mo hide_sub (Mo.mo e1 hvvb)))
        -- more steps, and the best ones
        refine Evl.q_when (b := false) ?_ (fun hb => by cases hb) (fun _ Hc ec => ?_)
        · have h2 := hy.below hbest hS
          cases bef with
          | none =>
            refine Evl.et_is (Evl.et_or (Evl.et_and (b := true) (t_cmp (e_notN (r := RL K (RQ K)) (o := none) (e_var rfl (Mo.mo hide_sub hbefb)))) (fun z => by cases z)) fun _ => Evl.et_not (t_val (e_call (f := fun x : List Rat × List Rat × Unit => noneLess x.1 x.2.1) (tbb.ex hide_sub) (a_cons (e_var (r := RS K (RQ K)) rfl (rt_rs (Mo.mo hide_sub (Fx.fx (Tx.of esb) hvb9)))) (a_cons (evv (Evl.Ex.refl _) rfl) a_nil)) ⟨hsz9, hyz, by show best.length = y.1.length; rw [hbest.len, hyl], by show best.length ≤ 100; rw [hbest.len]; omega⟩))) ?_
            show (!true && true || !noneLess best y.1) = false
            rw [h2]
            rfl
          | some b =>
            obtain ⟨z, j, hij, hz, hzb⟩ := hb2 b rfl
            subst hij hzb
            have h1 := hz.more hy hS
            have hzl := hz.vl
            have hzz : allSz 4000 z.1 := fun q hq => sz_mono (hz.vz hS (by omega) q hq) (by omega)
            refine Evl.et_is (Evl.et_or (Evl.et_and (t_cmp (e_notN (r := RL K (RQ K)) (o := some z.1) (e_var rfl (Mo.mo hide_sub hbefb)))) (fun _ => Evl.et_not (t_val (e_call (f := fun x : List Rat × List Rat × Unit => noneLess x.1 x.2.1) (tbb.ex hide_sub) (a_cons (evv (Evl.Ex.refl _) rfl) (a_cons (e_var (r := RS K (RQ K)) rfl (rl_rs (Mo.mo hide_sub hbefb.2))) a_nil)) ⟨hyz, hzz, by show y.1.length = z.1.length; rw [hyl, hzl], by show y.1.length ≤ 100; omega⟩))))
              fun _ => Evl.et_not (t_val (e_call (f := fun x : List Rat × List Rat × Unit => noneLess x.1 x.2.1) (tbb.ex hide_sub) (a_cons (e_var (r := RS K (RQ K)) rfl (rt_rs (Mo.mo hide_sub (Fx.fx (Tx.of esb) hvb9)))) (a_cons (evv (Evl.Ex.refl _) rfl) a_nil)) ⟨hsz9, hyz, by show best.length = y.1.length; rw [hbest.len, hyl], by show best.length ≤ 100; rw [hbest.len]; omega⟩))) ?_
            show (!(some z.1).isNone && !noneLess y.1 z.1 || !noneLess best y.1) = false
            rw [h1, h2]
            rfl
        · have skc := skb.ex ec
          have esc : Es ps H9 Hc := esb.trans (Es.of ec)
          have tbc := tb9.ex esc
          have hvvc := Mo.mo (Es.of ec) hvvb
          have hvpc := Mo.mo (Es.of ec) hvpb
          have fpre : ∀ {ps' : List (List Nat)}, (∀ p ∈ ps', PolOk S p) → ps'.length = i → FolPre S (restOf S.length al ts) ps' := fun h1 h2 => ⟨hS, rest_ok (by omega), rest_nodup, h1, by omega⟩
          -- the told policies
          refine Evl.q_when (b := false) (Evl.et_is (Evl.et_or (t_cmp (e_neI (e_nn (e_lenL (r := RT K RN) (e_var rfl (Mo.mo hide_sub hvpc)))) (e_nn (e_var (r := RN) (x := i) rfl rfl)))) fun _ => t_cmp (e_neD (dok_list dok_rat) (by omega) (e_callF (f := fun x : Sys × List Nat × List Nat × List (List Nat) × Unit => fol x.1 x.2.1 (bas x.1.length x.2.2.1) x.2.2.2.1) (tbc.ex hide_sub) (a_cons (e_var (r := RSys K) rfl (Mo.mo hide_sub (Mo.mo esc hvS9))) (a_cons (e_var (r := RL K RN) rfl (Mo.mo hide_sub (Mo.mo esc hvr9))) (a_cons (e_var (r := RL K RN) rfl (Mo.mo hide_sub (Mo.mo esc hvt9))) (a_cons (e_var (r := RL K (RT K RN)) rfl (Mo.mo hide_sub hvpc)) a_nil)))) (fpre hy.ok hy.len)).toR (e_var (r := RL K (RQ K)) rfl (Mo.mo hide_sub hvvc)))) ?_) (fun hb => by cases hb) (fun _ Hd ed => ?_)
          · show (!decide ((y.2.length : Int) = (i : Int)) || !decide (fol S (restOf S.length al ts) (bas S.length ts) y.2 = y.1)) = false
            rw [decide_eq_true (show (y.2.length : Int) = (i : Int) by rw [hy.len]), decide_eq_true hy.bnd.eq.symm]
            rfl
          · have skd := skc.ex ed
            have esd : Es ps H9 Hd := esc.trans (Es.of ed)
            have tbd := tb9.ex esd
            have hvvd := Mo.mo (Es.of ed) hvvc
            have hcost : i * (0 + 4) ≤ 24 := by omega
            -- policies drawn anew
            refine q_asgSF (f_rangeS (r := RT K RN) (N := i) (d1 := 0) (d2 := 4) (fun j ys => ys.length = j ∧ ∀ p ∈ ys, PolOk S p) (Pt := fun b => b = true) (fun H' e => e_var (r := RN) rfl rfl) (by omega) (fun _ => rfl) ⟨rfl, fun p h => by cases h⟩ (fun j ys h => Nat.le_of_eq h.1) (fun j H' hj e => svt_yes) (fun j H'' hj _ e3 ys hys => ?_) (fun j z => by cases z)) skd (by omega) fun dr pd wd He me hdr hnd npd ee ske hme hpd hald => ?_
            · refine (sv_call (A := AC (RSys K) A0) (s := RT K RN) (c := 4) (x := (S, ())) (tbd.ex e3) rfl (fun H4 e4 => a_cons (e_var (r := RSys K) rfl (Mo.mo hide_sub (Mo.mo ((esd.trans e3).trans e4) hvS9))) a_nil) hS).imp (fun p hp => ?_) (Nat.le_refl _)
              refine ⟨by simp [hys.1], fun q hq => ?_⟩
              rw [List.mem_append, List.mem_singleton] at hq
              rcases hq with hq | hq
              · exact hys.2 q hq
              · rw [hq]
                exact hp
            · obtain ⟨hdl, hdo⟩ := hdr
              have ese : Es ps H9 He := esd.trans ee
              have tbe := tb9.ex ese
              have hvve := Mo.mo ee hvvd
              have hvd : RL K (RT K RN) (hide ps He) (.ref pd) dr := ⟨pd, wd, rfl, SqL.of (by rw [hide_ne npd]; exact hpd), hald⟩
              refine q_asgF (e_callF (f := fun x : Sys × List Nat × List Nat × List (List Nat) × Unit => fol x.1 x.2.1 (bas x.1.length x.2.2.1) x.2.2.2.1) (tbe.ex hide_sub) (a_cons (e_var (r := RSys K) rfl (Mo.mo hide_sub (Mo.mo ese hvS9))) (a_cons (e_var (r := RL K RN) rfl (Mo.mo hide_sub (Mo.mo ese hvr9))) (a_cons (e_var (r := RL K RN) rfl (Mo.mo hide_sub (Mo.mo ese hvt9))) (a_cons (e_var (r := RL K (RT K RN)) rfl (Mo.mo hide_sub hvd)) a_nil)))) (fpre hdo hdl)) fun po wo Hf hno ef hpo halo => ?_
              obtain ⟨ot, hot⟩ : ∃ ot, fol S (restOf S.length al ts) (bas S.length ts) dr = ot := ⟨_, rfl⟩
              have halo : All (RQ K) Hf wo (fol S (restOf S.length al ts) (bas S.length ts) dr) := halo
              have hoth := hy.others hS hdo hdl
              have hotz : allSz 4000 ot := fun q hq => sz_mono (by rw [← hot] at hq; exact fol_sz hS hdo (by omega) q hq) (by omega : 340 ≤ 4000)
              have hotl : ot.length = S.length := by rw [← hot, fol_len, bas_len]
              rw [hot] at halo hoth
              have rO : RL K (RQ K) Hf (.ref po) ot := ⟨po, wo, rfl, SqL.of hpo, halo⟩
              have skf := ske.ex ef
              have esf : Es ps H9 Hf := ese.trans (Es.of ef)
              have tbf := tb9.ex esf
              have hvvf := Mo.mo (Es.of ef) hvve
              have rV : RL K (RQ K) Hf vv y.1 := Mo.mo hide_sub hvvf
              refine Evl.q_when (b := false) (Evl.et_is (Evl.et_or (Evl.et_and (t_val (e_var (r := RB) (x := most) rfl rfl)) fun _ => Evl.et_not (t_val (e_call (f := fun x : List Rat × List Rat × Unit => noneLess x.1 x.2.1) (tbf.ex hide_sub) (a_cons (e_var (r := RS K (RQ K)) rfl (rl_rs rV)) (a_cons (e_var (r := RS K (RQ K)) rfl (rl_rs rO)) a_nil)) ⟨hyz, hotz, by show y.1.length = ot.length; rw [hyl, hotl], by show y.1.length ≤ 100; omega⟩)))
                fun _ => Evl.et_and (Evl.et_not (t_val (e_var (r := RB) (x := most) rfl rfl))) fun _ => Evl.et_not (t_val (e_call (f := fun x : List Rat × List Rat × Unit => noneLess x.1 x.2.1) (tbf.ex hide_sub) (a_cons (e_var (r := RS K (RQ K)) rfl (rl_rs rO)) (a_cons (e_var (r := RS K (RQ K)) rfl (rl_rs rV)) a_nil)) ⟨hotz, hyz, by show ot.length = y.1.length; rw [hyl, hotl], by show ot.length ≤ 100; omega⟩))) ?_) (fun hb => by cases hb) (fun _ Hg eg => ?_)
              · show (most && !noneLess y.1 ot || !most && !noneLess ot y.1) = false
                cases most with
                | true =>
                  rw [if_pos rfl] at hoth
                  rw [hoth]
                  rfl
                | false =>
                  rw [if_neg Bool.false_ne_true] at hoth
                  rw [hoth]
                  rfl
              · have skg := skf.ex eg
                have esg : Es ps H9 Hg := esf.trans (Es.of eg)
                have tbg := tb9.ex esg
                have hvvg := Mo.mo (Es.of eg) hvvf
                refine q_asgFst (tbg.ex hide_sub) (a_cons (e_var (r := RSys K) rfl (Mo.mo hide_sub (Mo.mo esg hvS9))) (a_cons (e_var (r := RL K RN) rfl (Mo.mo hide_sub (Mo.mo esg hva9))) (a_cons (e_var (r := RL K RN) rfl (Mo.mo hide_sub (Mo.mo esg hvt9))) (a_cons (e_var (r := RN) (x := i) rfl rfl) (a_cons (e_not (e_var (r := RB) (x := most) rfl rfl)) a_nil))))) ⟨hS, by show i ≤ 7; omega⟩ fun z vz Hh hz eh hvz => ?_
                have hz : BndPost S al ts i (!most) z := hz
                have skh := skg.ex eh
                have esh : Es ps H9 Hh := esg.trans (Es.of eh)
                have tbh' := tb9.ex esh
                have hvvh := Mo.mo (Es.of eh) hvvg
                have rV2 : RL K (RQ K) Hh vv y.1 := Mo.mo hide_sub hvvh
                have hzl := hz.vl
                have hzz : allSz 4000 z.1 := fun q hq => sz_mono (hz.vz hS (by omega) q hq) (by omega)
                have hturn := hy.others hS hz.ok hz.len
                rw [← hz.bnd.eq] at hturn
                refine Evl.q_when (b := false) (Evl.et_is (Evl.et_or (Evl.et_and (t_val (e_var (r := RB) (x := most) rfl rfl)) fun _ => Evl.et_not (t_val (e_call (f := fun x : List Rat × List Rat × Unit => noneLess x.1 x.2.1) (tbh'.ex hide_sub) (a_cons (e_var (r := RS K (RQ K)) rfl (rl_rs rV2)) (a_cons (e_var (r := RS K (RQ K)) rfl (rl_rs hvz)) a_nil)) ⟨hyz, hzz, by show y.1.length = z.1.length; rw [hyl, hzl], by show y.1.length ≤ 100; omega⟩)))
                  fun _ => Evl.et_and (Evl.et_not (t_val (e_var (r := RB) (x := most) rfl rfl))) fun _ => Evl.et_not (t_val (e_call (f := fun x : List Rat × List Rat × Unit => noneLess x.1 x.2.1) (tbh'.ex hide_sub) (a_cons (e_var (r := RS K (RQ K)) rfl (rl_rs hvz)) (a_cons (e_var (r := RS K (RQ K)) rfl (rl_rs rV2)) a_nil)) ⟨hzz, hyz, by show z.1.length = y.1.length; rw [hyl, hzl], by show z.1.length ≤ 100; omega⟩))) ?_) (fun hb => by cases hb) (fun _ Hi' ei => ?_)
                · show (most && !noneLess y.1 z.1 || !most && !noneLess z.1 y.1) = false
                  cases most with
                  | true =>
                    rw [if_pos rfl] at hturn
                    rw [hturn]
                    rfl
                  | false =>
                    rw [if_neg Bool.false_ne_true] at hturn
                    rw [hturn]
                    rfl
                · refine ⟨vv, rfl, _, some y.1, vv, _, _, _, _, _, _, me, rfl, esh.trans (Es.of ei), skh.ex ei, by omega, ⟨?_, Mo.mo (Es.of ei) hvvh⟩, fun b hb => ?_⟩
                  · obtain ⟨a, _, h, _⟩ := hvv
                    rw [h]
                    exact fun z => V.noConfusion z
                  · cases hb
                    exact ⟨y, i, rfl, hy, rfl⟩
    · obtain ⟨a8, bef, vbef, a11, a12, a13, a14, a15, a16, m, rfl, e, sk, hm, hbef, hb2⟩ := hP
      exact k true (.bl true) H' rfl (fin H' (e19.trans e)) rfl
end
end BO

/-! the end: the law's call, its tables of code objects told by TabO -/
namespace BO
open PySem PySem.Spec PyProof.Rows L2
abbrev emptyTab : Obj := { cls := .none, data := .fields #[] }
/-- the heap ahead of the law's call: the script, the tables -/
structure Ahead (K : PySem.W.Frag) (cs : List (Addr × Addr)) (h : Heap) (a : Addr) (vs : List Value) : Prop where
  tab : ∀ p ∈ cs, h.get? p.2 = some emptyTab
  nt : ∀ p ∈ cs, K.lookup p.2 = none
  hd : ∀ p ∈ cs, PySem.W.CodeHd h p.1 p.2
  scr : h.get? a = some { cls := .type "list", data := .seq vs.toArray }
theorem Ahead.at {K : PySem.W.Frag} {cs : List (Addr × Addr)} {h : Heap} {a : Addr} {vs : List Value} (A : Ahead K cs h a vs) {b : Addr} (hb : b ∈ cs.map (·.2)) : h.get? b = some emptyTab := by
  obtain ⟨p, hp, rfl⟩ := List.mem_map.mp hb
  exact A.tab p hp
theorem Ahead.ne {K : PySem.W.Frag} {cs : List (Addr × Addr)} {h : Heap} {a : Addr} {vs : List Value} (A : Ahead K cs h a vs) : a ∉ cs.map (·.2) := fun hz => by
  have q := A.at hz
  rw [A.scr] at q
  have := congrArg Obj.data (Option.some.inj q)
  exact absurd this (by intro z; cases z)
theorem law_callG {P : Program} {w : World} {K : PySem.W.Frag} {mg mb : Str → Option Value} {k : Nat} {fa a : Addr} {cs : List (Addr × Addr)} {fd : FuncData} {x : Str} {h1 : Shared} {vs : List Value} {ns : List Int}
    (KX : K.In h1.heap) (G1 : h1.heap.Ns mainGlobals mg) (B1 : h1.heap.Ns builtinsNs mb) (BB : ∀ x : Str, x ≠ "__name__" → mb x = bootBuiltins x) (NL : h1.heap.NoLimit) (g0 : h1.gens = #[]) (A : Ahead K cs h1.heap a vs)
    (BM : ∃ (bm : Addr) (ob : Obj), mg "__builtins__" = some (.ref bm) ∧ bm ≠ builtinsNs ∧ h1.heap.get? bm = some ob ∧ ob.cls = .type "module" ∧ ob.dict = some builtinsNs ∧ ob.data = .plain)
    (hi : IntsAre vs ns) (hl : ns.length ≤ 64) (room : Room k callerA)
    (F : ∀ bs : Heap, K.In bs → bs.Ns mainGlobals mg → (∀ p ∈ cs, GxR.TabB bs mg p.1 p.2) → FnOk P w K mg bs CX0 k fa fd [x] (spLaw (cs.map (·.2)) K)) (bind : ∀ (s : Shared) (u : Value), BindsTo s fd ⟨[u], []⟩ [(x, u)]) :
    codeAny (model P w) callerA (.call (.ref fa) ⟨[.ref a], []⟩) (fun r s2 => r = .ok (.ret (.bool true)) ∧ OldK h1.heap s2.heap ∧ s2.os = h1.os ∧ AllBare s2.gens) h1 := by
  have rv := vals_ints hi
  have lenV := hi.length
  have hls : ns.length ≤ sizeLine := Nat.le_trans hl (by decide)
  -- whatever abstract heap: the tables, the script, nothing else
  have core : ∀ H : Hp, (∀ b ∈ cs.map (·.2), H b = some (TabO b)) → (∀ b u, H b = some u → b ∈ cs.map (·.2) ∨ (b = a ∧ ∃ o ys, u = .frz o (.lst ys))) → SqL K H a (ns.map V.int) → HOk P w H h1.heap → (H a ≠ none → K.lookup a = none) →
      codeAny (model P w) callerA (.call (.ref fa) ⟨[.ref a], []⟩) (fun r s2 => r = .ok (.ret (.bool true)) ∧ OldK h1.heap s2.heap ∧ s2.os = h1.os ∧ AllBare s2.gens) h1 := by
    intro H hT hU hS hok hK
    have plain : ∀ {b : Addr} {o : Obj}, h1.heap.get? b = some o → (∀ ws n, o.data ≠ .seq ws n) → o.data ≠ .fields #[] → H b = none := fun {b o} eb q1 q2 => by
      cases hb : H b with
      | none => rfl
      | some u =>
        rcases hU b u hb with z | ⟨z, _⟩
        · rw [A.at z] at eb
          cases eb
          exact absurd rfl q2
        · rw [z, A.scr] at eb
          cases eb
          exact absurd rfl (q1 _ _)
    have down : ∀ {b : Addr} {o : Obj}, h1.heap.get? b = some o → H b = none → (hidT h1.heap H).get? b = some o := fun q1 q2 => hidT_get q1 q2
    have isD : ∀ {b : Addr} {m : Str → Option Value}, h1.heap.Ns b m → (hidT h1.heap H).Ns b m := fun {b m} q => by
      obtain ⟨o, es, ep, q1, q2, q3⟩ := q
      refine ⟨o, es, ep, down q1 (plain q1 ?_ ?_), q2, q3⟩
      · intro ws n z
        rw [q2] at z
        cases z
      · intro z
        rw [q2] at z
        cases z
    have KB : K.In (hidT h1.heap H) := by
      intro b o q
      refine down (KX b o q) ?_
      cases hb : H b with
      | none => rfl
      | some u =>
        rcases hU b u hb with z | ⟨z, _⟩
        · obtain ⟨p, hp, rfl⟩ := List.mem_map.mp z
          rw [A.nt p hp] at q
          cases q
        · subst z
          rw [hK (by rw [hb]; exact fun z => by cases z)] at q
          cases q
    have MO : L2.Mod K mg (hidT h1.heap H) := by
      refine ⟨KB, isD G1, ⟨mb, isD B1, BB⟩, ?_⟩
      obtain ⟨mc, n1, n2⟩ := NL
      exact ⟨mc, isD n1, n2⟩
    have TB : ∀ p ∈ cs, GxR.TabB (hidT h1.heap H) mg p.1 p.2 := by
      intro p hp
      refine ⟨?_, ?_, fun z => ?_⟩
      · obtain ⟨o, us, file, tf, flags, tg, inF, text, tt, q1, q0, q2, q3, rest⟩ := A.hd p hp
        refine ⟨o, us, file, tf, flags, tg, inF, text, tt, down q1 (plain q1 ?_ ?_), q0, q2, q3, rest⟩
        · intro ws n z
          rw [q2] at z
          cases z
        · intro z
          rw [q2] at z
          cases z
          simp at q3
      · obtain ⟨bm, ob, b1, b2, b3, b4, b5, b6⟩ := BM
        refine ⟨bm, ob, b1, b2, fun z => ?_, fun z => ?_, down b3 (plain b3 ?_ ?_), b4, b5, b6⟩
        · obtain ⟨o, es, ep, q1, q2, _⟩ := G1
          rw [z, q1] at b3
          cases b3
          rw [q2] at b6
          cases b6
        · rw [z, A.tab p hp] at b3
          cases b3
          cases b6
        · intro ws n z
          rw [b6] at z
          cases z
        · intro z
          rw [b6] at z
          cases z
      · obtain ⟨o, es, ep, q1, q2, _⟩ := G1
        rw [z, A.tab p hp] at q1
        cases q1
        cases q2
    have E1 : Env0 P w K mg (hidT h1.heap H) callerA [] h1 H := by
      refine ⟨rfl, MO, fun b o q => of_hidT q, Nat.le_of_eq (hidT_size _ _), trivial, ?_, hok, .of_eq g0⟩
      intro b hb
      exact absurd (show b ∈ ([] : List Addr) from hb) (by simp)
    have tb0 : Tb (cs.map (·.2)) H := hT
    have want : spLaw (cs.map (·.2)) K [.ref a] H (fun v H2 => v = .bl true ∧ Ex H H2) fun _ _ _ => False := by
      refine ⟨(ns, ()), tb0, ⟨.ref a, [], rfl, ⟨a, ns.map V.int, rfl, hS, ⟨by simp, fun i v y h1 h2 => ?_⟩⟩, rfl⟩, hl, fun y v H2 hy e hv => ?_⟩
      · rw [List.getElem?_map, h2] at h1
        cases h1
        rfl
      · have hy : y = true := hy
        subst hy
        exact ⟨hv, e⟩
    refine codeAny_mono ((F _ KB (isD G1) TB).run callerA [] h1 H ⟨[.ref a], []⟩ [.ref a] [.ref a] _ _ room E1 (bind h1 (.ref a)) (.cons rfl .nil) want) ?_
    intro r s2 hr
    cases r with
    | error e => exact False.elim hr
    | ok fl =>
      cases fl with
      | next => exact False.elim hr
      | brk => exact False.elim hr
      | cont => exact False.elim hr
      | ret u =>
        obtain ⟨v, H2, os, bare, un, hok2, ru, rfl, ex⟩ := hr
        obtain rfl : u = Value.bool true := ru
        have same : ∀ b o, b ∉ cs.map (·.2) → h1.heap.get? b = some o → s2.heap.get? b = some o := by
          intro b o nb q
          cases hb : H b with
          | none => exact un.keep b o q hb (fun z => absurd (show b ∈ ([] : List Addr) from z) (by simp)) (by simp)
          | some u =>
            rcases hU b u hb with z | ⟨_, ob, ys, z⟩
            · exact absurd z nb
            · subst z
              obtain ⟨q1, _⟩ := hok b _ hb
              obtain ⟨q2, _⟩ := hok2 b _ (un.frzs b ob _ hb)
              rw [q] at q1
              cases q1
              exact q2
        have grown : ∀ b ∈ cs.map (·.2), ∃ more : Array Value, s2.heap.get? b = some { cls := .none, data := .fields more } := by
          intro b hb
          have z : ObjOk P w H2 s2.heap b (TabO b) := hok2 b _ (ex b _ (hT b hb))
          obtain ⟨⟨more, q, _⟩, _⟩ := z
          exact ⟨more, q⟩
        refine ⟨rfl, ⟨fun b o q => ?_, fun b o q => ?_⟩, os, bare⟩
        · by_cases hb : b ∈ cs.map (·.2)
          · obtain ⟨more, hm⟩ := grown b hb
            obtain ⟨p, hp, rfl⟩ := List.mem_map.mp hb
            rw [A.tab p hp] at q
            cases q
            refine .inr (.inl ⟨((A.hd p hp).tab (A.tab p hp)).isCodeTable, rfl, #[], more, rfl, ?_⟩)
            rw [Array.empty_append]
            exact hm
          · exact .inl (same b o hb q)
        · by_cases hb : b ∈ cs.map (·.2)
          · obtain ⟨more, hm⟩ := grown b hb
            exact ⟨_, hm⟩
          · exact ⟨o, same b o hb q⟩
  have tabOk : ∀ {H : Hp} {b : Addr}, b ∈ cs.map (·.2) → ObjOk P w H h1.heap b (TabO b) := fun {H b} hb => by
    have q := A.at hb
    exact ⟨⟨#[], q, trivial⟩, ⟨_, q⟩, fun g1 g2 ⟨ps, e, t⟩ st => ⟨ps, st _ e, t⟩⟩
  cases hk : K.lookup a with
  | some o =>
    have q := KX a o hk
    rw [A.scr] at q
    cases q
    refine core (fun b => if b ∈ cs.map (·.2) then some (TabO b) else none) (fun b hb => if_pos hb) ?_ (.inr ⟨_, vs.toArray, _, hk, rfl, rfl, rfl, ?_, ?_⟩) ?_ ?_
    · intro b u z
      by_cases hb : b ∈ cs.map (·.2)
      · exact .inl hb
      · rw [if_neg hb] at z
        cases z
    · rw [List.size_toArray, lenV]
      exact hls
    · simpa using rv
    · intro b u z
      by_cases hb : b ∈ cs.map (·.2)
      · have z' := (if_pos hb).symm.trans z
        cases z'
        exact tabOk hb
      · have z' := (if_neg hb).symm.trans z
        cases z'
    · intro z
      exact absurd (if_neg A.ne) z
  | none =>
    refine core (fun b => if b ∈ cs.map (·.2) then some (TabO b) else if b = a then some (.frz { cls := .type "list", data := .seq vs.toArray } (.lst (ns.map V.int))) else none) (fun b hb => if_pos hb) ?_ (.inl (.inr ⟨{ cls := .type "list", data := .seq vs.toArray }, ?_⟩)) ?_ (fun _ => hk)
    · intro b u z
      by_cases hb : b ∈ cs.map (·.2)
      · exact .inl hb
      · rw [if_neg hb] at z
        by_cases ha : b = a
        · rw [if_pos ha] at z
          cases z
          exact .inr ⟨ha, _, _, rfl⟩
        · rw [if_neg ha] at z
          cases z
    · show (if a ∈ cs.map (·.2) then some (TabO a) else if a = a then _ else none) = _
      rw [if_neg A.ne, if_pos rfl]
    · intro b u z
      by_cases hb : b ∈ cs.map (·.2)
      · have z' := (if_pos hb).symm.trans z
        cases z'
        exact tabOk hb
      · have z1 := (if_neg hb).symm.trans z
        by_cases ha : b = a
        · have z2 := (if_pos ha).symm.trans z1
          cases z2
          rw [ha]
          exact ⟨A.scr, by rw [List.length_map]; exact hls, vs, _, rv, A.scr⟩
        · have z2 := (if_neg ha).symm.trans z1
          cases z2
/-- what the head has to tell -/
def LawG (l : PySem.W.OpenLaw) (w : World) (K : PySem.W.Frag) (k : Nat) (x : Str) (mg : Str → Option Value) (fa : Addr) (h : Heap) : Prop :=
  ∃ (fd : FuncData) (cs : List (Addr × Addr)), (∀ p ∈ cs, h.get? p.2 = some emptyTab) ∧ (∀ p ∈ cs, K.lookup p.2 = none) ∧ (∀ p ∈ cs, PySem.W.CodeHd h p.1 p.2) ∧ (∀ (s : Shared) (u : Value), BindsTo s fd ⟨[u], []⟩ [(x, u)]) ∧
    ∀ bs : Heap, K.In bs → bs.Ns mainGlobals mg → (∀ p ∈ cs, GxR.TabB bs mg p.1 p.2) → FnOk l.prog w K mg bs CX0 k fa fd [x] (spLaw (cs.map (·.2)) K)
/-- the tables of the view's defs are empty -/
def Tabs (q : Program) (K : PySem.W.Frag) (mg : Str → Option Value) (h : Heap) : Prop := ∀ (x : Str) (f : Addr), ((recsOf q).any fun e => e.name == x) = true → mg x = some (.ref f) → LamX.OwnTab K f h
theorem walk_BO {l : PySem.W.OpenLaw} {k : Nat} {q : Program} {loose : List Str} {XP : (Str → Option Value) → Heap → Prop} {YP : World → Heap → Prop} {d : DefRec} {K : Params → PySem.W.Frag} {x : Str}
    (hn : l.most = some 63) (hdf : d.params.defaults = []) (room : Room k callerA) (hY : ∀ (w : World) (h : Heap), YP w h → (K w.params).In h)
    (F : ∀ (w : World) (mg : Str → Option Value) (fa : Addr) (h : Heap), (K w.params).In h → h.Ns mainGlobals mg → mg d.name = some (.ref fa) → Tabs q (K w.params) mg h → LawG l w (K w.params) k x mg fa h) :
    PySem.W.WalkO q loose XP YP l.row.toRowW d [] (fun f vs => PySem.call f vs) := by
  refine Att.attach_callB hn hdf ?_
  intro w s0 h1 mg mb fa o pm cd doc a vs ns G Y _ _ _ hmg hobj hints hlen _ hg
  have KX := hY w _ Y
  have tabs : Tabs q (K w.params) mg h1.heap := by
    intro y f hrec hy c P o1 fd1 e dd vs1 sl k1 k2 k3 k4 k5
    obtain ⟨dL, hm, hn1⟩ := List.any_eq_true.mp hrec
    obtain ⟨a2, o2, fd2, c2, P2, t1, t2, t3, t4, t5, t6⟩ := G.T.tab dL hm
    rw [beq_iff_eq.mp hn1, hy] at t1
    cases t1
    rw [KX _ _ k1] at t2
    cases t2
    rw [k2] at t3
    cases t3
    rw [k3] at t4
    cases t4
    obtain ⟨⟨oc, vc, u1, _, u3, u4⟩, hP⟩ := t6
    rw [KX _ _ k4] at u1
    cases u1
    cases u3
    rw [k5] at u4
    cases u4
    exact hP
  obtain ⟨fd, cs, q1, q2, q3, q4, q5⟩ := F w mg fa _ KX G.T.g hmg tabs
  exact law_callG KX G.T.g G.T.b G.T.builtins G.T.nolimit hg ⟨q1, q2, q3, hobj⟩ G.T.bmain hints (by omega) room q5 q4
end BO

/-! all defs, the head -/
namespace BO
open PySem PySem.Spec PyProof.Rows L2
/-- what stands behind the top of a def -/
structure DefK (K : PySem.W.Frag) (x : Str) (st : Stmt) (f : Addr) : Prop where
  a : PySem.W.nsIn K mainGlobals x = some (some (.ref f))
  fn : ∃ fd, Fun K x x st f fd
theorem defK {K : PySem.W.Frag} {x : Str} {st : Stmt} {f : Addr} {oc kV dc pm cd ct : Value} {od an : Option Addr} {sl : Array (Option Value)} (a : PySem.W.nsIn K mainGlobals x = some (some (.ref f)))
    (l : K.lookup f = some ⟨oc, od, .func (PySem.W.fnOf x x (defArgs st) (defBody st) (defScope st) .none kV dc pm an cd ct), sl⟩) (c : PySem.W.codeIn K cd x = true) (k : PySem.W.keepIn K (.ref f) = true) : DefK K x st f := ⟨a, _, fun_mk l c k⟩
/-- .. and its code object, its table -/
structure DefC (K : PySem.W.Frag) (x : Str) (st : Stmt) (f c Pt : Addr) : Prop where
  a : PySem.W.nsIn K mainGlobals x = some (some (.ref f))
  ex : ∃ (fd : FuncData) (oc : Value) (od : Option Addr) (kV doc pm : Value) (an : Option Addr) (ct : Value) (osl : Array (Option Value)),
    fd = PySem.W.fnOf x x (defArgs st) (defBody st) (defScope st) .none kV doc pm an (.ref c) ct ∧ K.lookup f = some ⟨oc, od, .func fd, osl⟩ ∧ PySem.W.codeIn K (.ref c) x = true
  kp : PySem.W.keepIn K (.ref f) = true
  hd : PySem.W.codeHdIn K c Pt = true
  nt : K.lookup Pt = none
  ct : ∃ (e : Value) (dd : Option Addr) (vs : Array Value) (sl : Array (Option Value)), K.lookup c = some ⟨e, dd, .fields vs, sl⟩ ∧ vs[11]? = some (.ref Pt)
theorem codeHd_one {K : PySem.W.Frag} {c Pt : Addr} {o : Obj} (q : K.lookup c = some o) (h : PySem.W.codeHdIn [(c, o)] c Pt = true) : PySem.W.codeHdIn K c Pt = true := by
  have e : List.lookup c [(c, o)] = some o := by simp [List.lookup]
  unfold PySem.W.codeHdIn at h ⊢
  rw [e] at h
  rw [q]
  exact h
theorem defC {K : PySem.W.Frag} {x : Str} {st : Stmt} {f c Pt : Addr} {oc kV dc pm ct e : Value} {od an dd : Option Addr} {sl sl2 : Array (Option Value)} {vs : Array Value} (a : PySem.W.nsIn K mainGlobals x = some (some (.ref f)))
    (l : K.lookup f = some ⟨oc, od, .func (PySem.W.fnOf x x (defArgs st) (defBody st) (defScope st) .none kV dc pm an (.ref c) ct), sl⟩) (cc : PySem.W.codeIn K (.ref c) x = true) (k : PySem.W.keepIn K (.ref f) = true)
    (q : K.lookup c = some ⟨e, dd, .fields vs, sl2⟩) (p : vs[11]? = some (.ref Pt)) (hd : PySem.W.codeHdIn [(c, ⟨e, dd, .fields vs, sl2⟩)] c Pt = true) (nt : K.lookup Pt = none) : DefC K x st f c Pt := ⟨a, ⟨_, oc, od, kV, dc, pm, an, ct, sl, rfl, l, cc⟩, k, codeHd_one q hd, nt, ⟨e, dd, vs, sl2, q, p⟩⟩
theorem DefC.tab {K : PySem.W.Frag} {x : Str} {st : Stmt} {f c Pt : Addr} {q : Program} {mg : Str → Option Value} {h : Heap} (d : DefC K x st f c Pt) (X : K.In h) (G : h.Ns mainGlobals mg) (T : Tabs q K mg h) (hr : ((recsOf q).any fun e => e.name == x) = true) : h.get? Pt = some emptyTab := by
  obtain ⟨fd, oc, od, kV, doc, pm, an, ct, osl, rfl, l, cc⟩ := d.ex
  obtain ⟨e, dd, vs, sl, q1, q2⟩ := d.ct
  exact T x f hr (PySem.W.mg_of X G d.a) c Pt _ _ e dd vs sl l rfl rfl q1 q2
theorem DefC.fun {K : PySem.W.Frag} {x : Str} {st : Stmt} {f c Pt : Addr} {TT : List Addr} {mg : Str → Option Value} {base : Heap} (d : DefC K x st f c Pt) (tb : GxR.TabB base mg c Pt) (m : Pt ∈ TT) : ∃ fd, FunC K mg base TT x st f fd c Pt := by
  obtain ⟨fd, h⟩ := d.ex
  exact ⟨fd, h, tb, m⟩
theorem FunC.binds {K : PySem.W.Frag} {x : Str} {st : Stmt} {f c Pt : Addr} {fd : FuncData} {TT : List Addr} {mg : Str → Option Value} {base : Heap} {ps : List Str} (F : FunC K mg base TT x st f fd c Pt)
    (h : ∀ (kV doc pm : Value) (an : Option Addr) (ct : Value) (us : List Value), us.length = ps.length → bindArgs (PySem.W.fnOf x x (defArgs st) (defBody st) (defScope st) .none kV doc pm an (.ref c) ct) ⟨us, []⟩ = pure (ps.zip us)) : Binds K fd ps [] := by
  obtain ⟨oc, od, kV, doc, pm, an, ct, osl, rfl, lk, hcd⟩ := F.ex
  exact .all (h kV doc pm an ct)
theorem has_mk {P : Program} {w : World} {K : PySem.W.Frag} {mg : Str → Option Value} {h base : Heap} {x : Str} {f : Addr} {fd : FuncData} {ps : List Str} {k : Nat} {sp : Sp} (X : K.In h) (G : h.Ns mainGlobals mg) (a : PySem.W.nsIn K mainGlobals x = some (some (.ref f))) (kp : PySem.W.keepIn K (.ref f) = true)
    (ok : FnOk P w K mg base CX0 k f fd ps sp) (b : Binds K fd ps []) : Has P w K mg base x ps k sp f := ⟨⟨fd, ok, b⟩, PySem.W.mg_of X G a, kp⟩
theorem tupK {K : PySem.W.Frag} {z : Addr} {dd : Option Addr} {i j : Int} {t0 t1 : Tok} {n : Nat} {sl : Array (Option Value)} (l : K.lookup z = some ⟨.type "tuple", dd, .seq #[.int i t0, .int j t1] n, sl⟩) (H : Hp) : SqT K H z [.int i, .int j] :=
  .inr ⟨_, #[.int i t0, .int j t1], n, l, rfl, rfl, (by show 2 ≤ sizeLine; decide), .cons ⟨t0, rfl⟩ (.cons ⟨t1, rfl⟩ .nil)⟩
theorem all_BO {l : PySem.W.OpenLaw} {w : World} {K : PySem.W.Frag} {h : Heap} {mg : Str → Option Value} {fa : Addr} {q : Program} (X : K.In h) (G : h.Ns mainGlobals mg) (hfa : mg "law" = some (.ref fa)) (TBS : Tabs q K mg h)
    (r_total_weight : ((recsOf q).any fun e => e.name == ("total_weight" : Str)) = true)
    (r_ends_in : ((recsOf q).any fun e => e.name == ("ends_in" : Str)) = true)
    (r_all_in : ((recsOf q).any fun e => e.name == ("all_in" : Str)) = true)
    (r_backward : ((recsOf q).any fun e => e.name == ("backward" : Str)) = true)
    (r_never : ((recsOf q).any fun e => e.name == ("never" : Str)) = true)
    (r_ranks_of_all : ((recsOf q).any fun e => e.name == ("ranks_of_all" : Str)) = true)
    {zZ zO : Addr} {ddZ ddO : Option Addr} {tZ0 tZ1 tO0 tO1 : Tok} {nZ nO : Nat} {slZ slO : Array (Option Value)}
    (z_len : PySem.W.nsIn K mainGlobals "len" = some none)
    (z_int : PySem.W.nsIn K mainGlobals "int" = some none)
    (z_abs : PySem.W.nsIn K mainGlobals "abs" = some none)
    (z_list : PySem.W.nsIn K mainGlobals "list" = some none)
    (z_tuple : PySem.W.nsIn K mainGlobals "tuple" = some none)
    (z_range : PySem.W.nsIn K mainGlobals "range" = some none)
    (z_enumerate : PySem.W.nsIn K mainGlobals "enumerate" = some none)
    (z_sum : PySem.W.nsIn K mainGlobals "sum" = some none)
    (z_any : PySem.W.nsIn K mainGlobals "any" = some none)
    (z_all : PySem.W.nsIn K mainGlobals "all" = some none)
    (z_gcd : PySem.W.nsIn K mainGlobals "gcd" = some (some (.builtin "math.gcd"))) (z_ZERO : PySem.W.nsIn K mainGlobals "ZERO" = some (some (.ref zZ))) (l_ZERO : K.lookup zZ = some ⟨.type "tuple", ddZ, .seq #[.int 0 tZ0, .int 1 tZ1] nZ, slZ⟩)
    (z_ONE : PySem.W.nsIn K mainGlobals "ONE" = some (some (.ref zO))) (l_ONE : K.lookup zO = some ⟨.type "tuple", ddO, .seq #[.int 1 tO0, .int 1 tO1] nO, slO⟩)
    {f_ratio : Addr} (d_ratio : DefK K "ratio" sratio f_ratio)
    {f_plus : Addr} (d_plus : DefK K "plus" splus f_plus)
    {f_minus : Addr} (d_minus : DefK K "minus" sminus f_minus)
    {f_times : Addr} (d_times : DefK K "times" stimes f_times)
    {f_over : Addr} (d_over : DefK K "over" sover f_over)
    {f_pivot_of : Addr} (d_pivot_of : DefK K "pivot_of" spivot_of f_pivot_of)
    {f_cleared : Addr} (d_cleared : DefK K "cleared" scleared f_cleared)
    {f_solve : Addr} (d_solve : DefK K "solve" ssolve f_solve)
    {f_total_weight c_total_weight t_total_weight : Addr} (d_total_weight : DefC K "total_weight" stotal_weight f_total_weight c_total_weight t_total_weight)
    {f_mean : Addr} (d_mean : DefK K "mean" smean f_mean)
    {f_ends_in c_ends_in t_ends_in : Addr} (d_ends_in : DefC K "ends_in" sends_in f_ends_in c_ends_in t_ends_in)
    {f_all_in c_all_in t_all_in : Addr} (d_all_in : DefC K "all_in" sall_in f_all_in c_all_in t_all_in)
    {f_marks : Addr} (d_marks : DefK K "marks" smarks f_marks)
    {f_restricted : Addr} (d_restricted : DefK K "restricted" srestricted f_restricted)
    {f_rest_of : Addr} (d_rest_of : DefK K "rest_of" srest_of f_rest_of)
    {f_backward c_backward t_backward : Addr} (d_backward : DefC K "backward" sbackward f_backward c_backward t_backward)
    {f_never c_never t_never : Addr} (d_never : DefC K "never" snever f_never c_never t_never)
    {f_equations : Addr} (d_equations : DefK K "equations" sequations f_equations)
    {f_filled : Addr} (d_filled : DefK K "filled" sfilled f_filled)
    {f_policy_chances : Addr} (d_policy_chances : DefK K "policy_chances" spolicy_chances f_policy_chances)
    {f_better : Addr} (d_better : DefK K "better" sbetter f_better)
    {f_no_cost : Addr} (d_no_cost : DefK K "no_cost" sno_cost f_no_cost)
    {f_best_choice : Addr} (d_best_choice : DefK K "best_choice" sbest_choice f_best_choice)
    {f_bounded_chances : Addr} (d_bounded_chances : DefK K "bounded_chances" sbounded_chances f_bounded_chances)
    {f_ranked : Addr} (d_ranked : DefK K "ranked" sranked f_ranked)
    {f_improved : Addr} (d_improved : DefK K "improved" simproved f_improved)
    {f_iterated : Addr} (d_iterated : DefK K "iterated" siterated f_iterated)
    {f_ranks_of_all c_ranks_of_all t_ranks_of_all : Addr} (d_ranks_of_all : DefC K "ranks_of_all" sranks_of_all f_ranks_of_all c_ranks_of_all t_ranks_of_all)
    {f_greatest_chances : Addr} (d_greatest_chances : DefK K "greatest_chances" sgreatest_chances f_greatest_chances)
    {f_least_chances : Addr} (d_least_chances : DefK K "least_chances" sleast_chances f_least_chances)
    {f_best_chances : Addr} (d_best_chances : DefK K "best_chances" sbest_chances f_best_chances)
    {f__law_tape : Addr} (d__law_tape : DefK K "_law_tape" s_law_tape f__law_tape)
    {f__law_draw : Addr} (d__law_draw : DefK K "_law_draw" s_law_draw f__law_draw)
    {f__law_take : Addr} (d__law_take : DefK K "_law_take" s_law_take f__law_take)
    {f__law_ratio : Addr} (d__law_ratio : DefK K "_law_ratio" s_law_ratio f__law_ratio)
    {f__law_plus : Addr} (d__law_plus : DefK K "_law_plus" s_law_plus f__law_plus)
    {f__law_times : Addr} (d__law_times : DefK K "_law_times" s_law_times f__law_times)
    {f__law_ends : Addr} (d__law_ends : DefK K "_law_ends" s_law_ends f__law_ends)
    {f__law_choices : Addr} (d__law_choices : DefK K "_law_choices" s_law_choices f__law_choices)
    {f__law_system : Addr} (d__law_system : DefK K "_law_system" s_law_system f__law_system)
    {f__law_some : Addr} (d__law_some : DefK K "_law_some" s_law_some f__law_some)
    {f__law_mean : Addr} (d__law_mean : DefK K "_law_mean" s_law_mean f__law_mean)
    {f__law_less : Addr} (d__law_less : DefK K "_law_less" s_law_less f__law_less)
    {f__law_drawn_policy : Addr} (d__law_drawn_policy : DefK K "_law_drawn_policy" s_law_drawn_policy f__law_drawn_policy)
    {f__law_followed : Addr} (d__law_followed : DefK K "_law_followed" s_law_followed f__law_followed)
    {f__law_none_less : Addr} (d__law_none_less : DefK K "_law_none_less" s_law_none_less f__law_none_less)
    {f_law : Addr} (d_law : DefK K "law" slaw f_law)
    : LawG l w K 10 "_law_script" mg fa h := by
  have e := hfa.symm.trans (PySem.W.mg_of X G d_law.a)
  cases e
  have T : Top K mg zZ zO := ⟨PySem.W.mg_none_of X G z_len, PySem.W.mg_none_of X G z_int, PySem.W.mg_none_of X G z_abs, PySem.W.mg_none_of X G z_list, PySem.W.mg_none_of X G z_tuple, PySem.W.mg_none_of X G z_range, PySem.W.mg_none_of X G z_enumerate, PySem.W.mg_none_of X G z_sum, PySem.W.mg_none_of X G z_any, PySem.W.mg_none_of X G z_all, PySem.W.mg_of X G z_gcd, PySem.W.mg_of X G z_ZERO, PySem.W.mg_of X G z_ONE, tupK l_ZERO, tupK l_ONE⟩
  obtain ⟨fd_ratio, F_ratio⟩ := d_ratio.fn
  obtain ⟨fd_plus, F_plus⟩ := d_plus.fn
  obtain ⟨fd_minus, F_minus⟩ := d_minus.fn
  obtain ⟨fd_times, F_times⟩ := d_times.fn
  obtain ⟨fd_over, F_over⟩ := d_over.fn
  obtain ⟨fd_pivot_of, F_pivot_of⟩ := d_pivot_of.fn
  obtain ⟨fd_cleared, F_cleared⟩ := d_cleared.fn
  obtain ⟨fd_solve, F_solve⟩ := d_solve.fn
  obtain ⟨fd_mean, F_mean⟩ := d_mean.fn
  obtain ⟨fd_marks, F_marks⟩ := d_marks.fn
  obtain ⟨fd_restricted, F_restricted⟩ := d_restricted.fn
  obtain ⟨fd_rest_of, F_rest_of⟩ := d_rest_of.fn
  obtain ⟨fd_equations, F_equations⟩ := d_equations.fn
  obtain ⟨fd_filled, F_filled⟩ := d_filled.fn
  obtain ⟨fd_policy_chances, F_policy_chances⟩ := d_policy_chances.fn
  obtain ⟨fd_better, F_better⟩ := d_better.fn
  obtain ⟨fd_no_cost, F_no_cost⟩ := d_no_cost.fn
  obtain ⟨fd_best_choice, F_best_choice⟩ := d_best_choice.fn
  obtain ⟨fd_bounded_chances, F_bounded_chances⟩ := d_bounded_chances.fn
  obtain ⟨fd_ranked, F_ranked⟩ := d_ranked.fn
  obtain ⟨fd_improved, F_improved⟩ := d_improved.fn
  obtain ⟨fd_iterated, F_iterated⟩ := d_iterated.fn
  obtain ⟨fd_greatest_chances, F_greatest_chances⟩ := d_greatest_chances.fn
  obtain ⟨fd_least_chances, F_least_chances⟩ := d_least_chances.fn
  obtain ⟨fd_best_chances, F_best_chances⟩ := d_best_chances.fn
  obtain ⟨fd__law_tape, F__law_tape⟩ := d__law_tape.fn
  obtain ⟨fd__law_draw, F__law_draw⟩ := d__law_draw.fn
  obtain ⟨fd__law_take, F__law_take⟩ := d__law_take.fn
  obtain ⟨fd__law_ratio, F__law_ratio⟩ := d__law_ratio.fn
  obtain ⟨fd__law_plus, F__law_plus⟩ := d__law_plus.fn
  obtain ⟨fd__law_times, F__law_times⟩ := d__law_times.fn
  obtain ⟨fd__law_ends, F__law_ends⟩ := d__law_ends.fn
  obtain ⟨fd__law_choices, F__law_choices⟩ := d__law_choices.fn
  obtain ⟨fd__law_system, F__law_system⟩ := d__law_system.fn
  obtain ⟨fd__law_some, F__law_some⟩ := d__law_some.fn
  obtain ⟨fd__law_mean, F__law_mean⟩ := d__law_mean.fn
  obtain ⟨fd__law_less, F__law_less⟩ := d__law_less.fn
  obtain ⟨fd__law_drawn_policy, F__law_drawn_policy⟩ := d__law_drawn_policy.fn
  obtain ⟨fd__law_followed, F__law_followed⟩ := d__law_followed.fn
  obtain ⟨fd__law_none_less, F__law_none_less⟩ := d__law_none_less.fn
  obtain ⟨fd_law, F_law⟩ := d_law.fn
  have q1 : ∀ p ∈ [(c_total_weight, t_total_weight), (c_ends_in, t_ends_in), (c_all_in, t_all_in), (c_backward, t_backward), (c_never, t_never), (c_ranks_of_all, t_ranks_of_all)], h.get? p.2 = some emptyTab := by
    intro p hp
    simp only [List.mem_cons, List.not_mem_nil, or_false] at hp
    rcases hp with rfl | rfl | rfl | rfl | rfl | rfl
    · exact d_total_weight.tab X G TBS r_total_weight
    · exact d_ends_in.tab X G TBS r_ends_in
    · exact d_all_in.tab X G TBS r_all_in
    · exact d_backward.tab X G TBS r_backward
    · exact d_never.tab X G TBS r_never
    · exact d_ranks_of_all.tab X G TBS r_ranks_of_all
  have q2 : ∀ p ∈ [(c_total_weight, t_total_weight), (c_ends_in, t_ends_in), (c_all_in, t_all_in), (c_backward, t_backward), (c_never, t_never), (c_ranks_of_all, t_ranks_of_all)], K.lookup p.2 = none := by
    intro p hp
    simp only [List.mem_cons, List.not_mem_nil, or_false] at hp
    rcases hp with rfl | rfl | rfl | rfl | rfl | rfl
    · exact d_total_weight.nt
    · exact d_ends_in.nt
    · exact d_all_in.nt
    · exact d_backward.nt
    · exact d_never.nt
    · exact d_ranks_of_all.nt
  have q3 : ∀ p ∈ [(c_total_weight, t_total_weight), (c_ends_in, t_ends_in), (c_all_in, t_all_in), (c_backward, t_backward), (c_never, t_never), (c_ranks_of_all, t_ranks_of_all)], PySem.W.CodeHd h p.1 p.2 := by
    intro p hp
    simp only [List.mem_cons, List.not_mem_nil, or_false] at hp
    rcases hp with rfl | rfl | rfl | rfl | rfl | rfl
    · exact PySem.W.codeHd_of_K X d_total_weight.hd
    · exact PySem.W.codeHd_of_K X d_ends_in.hd
    · exact PySem.W.codeHd_of_K X d_all_in.hd
    · exact PySem.W.codeHd_of_K X d_backward.hd
    · exact PySem.W.codeHd_of_K X d_never.hd
    · exact PySem.W.codeHd_of_K X d_ranks_of_all.hd
  refine ⟨fd_law, [(c_total_weight, t_total_weight), (c_ends_in, t_ends_in), (c_all_in, t_all_in), (c_backward, t_backward), (c_never, t_never), (c_ranks_of_all, t_ranks_of_all)], q1, q2, q3, ?_, fun bs KB GB TB => ?_⟩
  · obtain ⟨oc, od, kV, doc, pm, an, cdv, ct, osl, rfl, lk, hcd⟩ := F_law.ex
    exact fun s u => .of_eq rfl
  obtain ⟨fd_total_weight, F_total_weight⟩ := d_total_weight.fun (TT := [t_total_weight, t_ends_in, t_all_in, t_backward, t_never, t_ranks_of_all]) (TB (c_total_weight, t_total_weight) (by simp)) (by simp)
  obtain ⟨fd_ends_in, F_ends_in⟩ := d_ends_in.fun (TT := [t_total_weight, t_ends_in, t_all_in, t_backward, t_never, t_ranks_of_all]) (TB (c_ends_in, t_ends_in) (by simp)) (by simp)
  obtain ⟨fd_all_in, F_all_in⟩ := d_all_in.fun (TT := [t_total_weight, t_ends_in, t_all_in, t_backward, t_never, t_ranks_of_all]) (TB (c_all_in, t_all_in) (by simp)) (by simp)
  obtain ⟨fd_backward, F_backward⟩ := d_backward.fun (TT := [t_total_weight, t_ends_in, t_all_in, t_backward, t_never, t_ranks_of_all]) (TB (c_backward, t_backward) (by simp)) (by simp)
  obtain ⟨fd_never, F_never⟩ := d_never.fun (TT := [t_total_weight, t_ends_in, t_all_in, t_backward, t_never, t_ranks_of_all]) (TB (c_never, t_never) (by simp)) (by simp)
  obtain ⟨fd_ranks_of_all, F_ranks_of_all⟩ := d_ranks_of_all.fun (TT := [t_total_weight, t_ends_in, t_all_in, t_backward, t_never, t_ranks_of_all]) (TB (c_ranks_of_all, t_ranks_of_all) (by simp)) (by simp)
  have o_ratio := ok_ratio (P := l.prog) (w := w) (base := bs) (TT := [t_total_weight, t_ends_in, t_all_in, t_backward, t_never, t_ranks_of_all]) (mg := mg) F_ratio T 
  have h_ratio := has_mk X G d_ratio.a F_ratio.kp o_ratio (F_ratio.binds (ps := ["n", "d"]) fun _ _ _ _ _ _ us hl => match us, hl with | [_, _], _ => rfl)
  have o_plus := ok_plus (P := l.prog) (w := w) (base := bs) (TT := [t_total_weight, t_ends_in, t_all_in, t_backward, t_never, t_ranks_of_all]) (mg := mg) F_plus T h_ratio
  have h_plus := has_mk X G d_plus.a F_plus.kp o_plus (F_plus.binds (ps := ["a", "b"]) fun _ _ _ _ _ _ us hl => match us, hl with | [_, _], _ => rfl)
  have o_minus := ok_minus (P := l.prog) (w := w) (base := bs) (TT := [t_total_weight, t_ends_in, t_all_in, t_backward, t_never, t_ranks_of_all]) (mg := mg) F_minus T h_ratio
  have h_minus := has_mk X G d_minus.a F_minus.kp o_minus (F_minus.binds (ps := ["a", "b"]) fun _ _ _ _ _ _ us hl => match us, hl with | [_, _], _ => rfl)
  have o_times := ok_times (P := l.prog) (w := w) (base := bs) (TT := [t_total_weight, t_ends_in, t_all_in, t_backward, t_never, t_ranks_of_all]) (mg := mg) F_times T h_ratio
  have h_times := has_mk X G d_times.a F_times.kp o_times (F_times.binds (ps := ["a", "b"]) fun _ _ _ _ _ _ us hl => match us, hl with | [_, _], _ => rfl)
  have o_over := ok_over (P := l.prog) (w := w) (base := bs) (TT := [t_total_weight, t_ends_in, t_all_in, t_backward, t_never, t_ranks_of_all]) (mg := mg) F_over T h_ratio
  have h_over := has_mk X G d_over.a F_over.kp o_over (F_over.binds (ps := ["a", "b"]) fun _ _ _ _ _ _ us hl => match us, hl with | [_, _], _ => rfl)
  have o_pivot_of := ok_pivot_of (P := l.prog) (w := w) (base := bs) (TT := [t_total_weight, t_ends_in, t_all_in, t_backward, t_never, t_ranks_of_all]) (mg := mg) F_pivot_of T 
  have h_pivot_of := has_mk X G d_pivot_of.a F_pivot_of.kp o_pivot_of (F_pivot_of.binds (ps := ["table", "column"]) fun _ _ _ _ _ _ us hl => match us, hl with | [_, _], _ => rfl)
  have o_cleared := ok_cleared (P := l.prog) (w := w) (base := bs) (TT := [t_total_weight, t_ends_in, t_all_in, t_backward, t_never, t_ranks_of_all]) (mg := mg) F_cleared T h_minus h_times
  have h_cleared := has_mk X G d_cleared.a F_cleared.kp o_cleared (F_cleared.binds (ps := ["row", "other", "column"]) fun _ _ _ _ _ _ us hl => match us, hl with | [_, _, _], _ => rfl)
  have o_solve := ok_solve (P := l.prog) (w := w) (base := bs) (TT := [t_total_weight, t_ends_in, t_all_in, t_backward, t_never, t_ranks_of_all]) (mg := mg) F_solve T h_pivot_of h_over h_cleared
  have h_solve := has_mk X G d_solve.a F_solve.kp o_solve (F_solve.binds (ps := ["rows", "right"]) fun _ _ _ _ _ _ us hl => match us, hl with | [_, _], _ => rfl)
  have o_total_weight := ok_total_weight (P := l.prog) (w := w) (base := bs) (TT := [t_total_weight, t_ends_in, t_all_in, t_backward, t_never, t_ranks_of_all]) (mg := mg) F_total_weight T 
  have h_total_weight := has_mk X G d_total_weight.a d_total_weight.kp o_total_weight (F_total_weight.binds (ps := ["ends"]) fun _ _ _ _ _ us hl => match us, hl with | [_], _ => rfl)
  have o_mean := ok_mean (P := l.prog) (w := w) (base := bs) (TT := [t_total_weight, t_ends_in, t_all_in, t_backward, t_never, t_ranks_of_all]) (mg := mg) F_mean T h_plus h_times h_over h_total_weight
  have h_mean := has_mk X G d_mean.a F_mean.kp o_mean (F_mean.binds (ps := ["ends", "values"]) fun _ _ _ _ _ _ us hl => match us, hl with | [_, _], _ => rfl)
  have o_ends_in := ok_ends_in (P := l.prog) (w := w) (base := bs) (TT := [t_total_weight, t_ends_in, t_all_in, t_backward, t_never, t_ranks_of_all]) (mg := mg) F_ends_in T 
  have h_ends_in := has_mk X G d_ends_in.a d_ends_in.kp o_ends_in (F_ends_in.binds (ps := ["ends", "known"]) fun _ _ _ _ _ us hl => match us, hl with | [_, _], _ => rfl)
  have o_all_in := ok_all_in (P := l.prog) (w := w) (base := bs) (TT := [t_total_weight, t_ends_in, t_all_in, t_backward, t_never, t_ranks_of_all]) (mg := mg) F_all_in T 
  have h_all_in := has_mk X G d_all_in.a d_all_in.kp o_all_in (F_all_in.binds (ps := ["ends", "known"]) fun _ _ _ _ _ us hl => match us, hl with | [_, _], _ => rfl)
  have o_marks := ok_marks (P := l.prog) (w := w) (base := bs) (TT := [t_total_weight, t_ends_in, t_all_in, t_backward, t_never, t_ranks_of_all]) (mg := mg) F_marks T 
  have h_marks := has_mk X G d_marks.a F_marks.kp o_marks (F_marks.binds (ps := ["system", "states"]) fun _ _ _ _ _ _ us hl => match us, hl with | [_, _], _ => rfl)
  have o_restricted := ok_restricted (P := l.prog) (w := w) (base := bs) (TT := [t_total_weight, t_ends_in, t_all_in, t_backward, t_never, t_ranks_of_all]) (mg := mg) F_restricted T 
  have h_restricted := has_mk X G d_restricted.a F_restricted.kp o_restricted (F_restricted.binds (ps := ["system", "policy"]) fun _ _ _ _ _ _ us hl => match us, hl with | [_, _], _ => rfl)
  have o_rest_of := ok_rest_of (P := l.prog) (w := w) (base := bs) (TT := [t_total_weight, t_ends_in, t_all_in, t_backward, t_never, t_ranks_of_all]) (mg := mg) F_rest_of T 
  have h_rest_of := has_mk X G d_rest_of.a F_rest_of.kp o_rest_of (F_rest_of.binds (ps := ["system", "allowed", "targets"]) fun _ _ _ _ _ _ us hl => match us, hl with | [_, _, _], _ => rfl)
  have o_backward := ok_backward (P := l.prog) (w := w) (base := bs) (TT := [t_total_weight, t_ends_in, t_all_in, t_backward, t_never, t_ranks_of_all]) (mg := mg) F_backward T h_ends_in
  have h_backward := has_mk X G d_backward.a d_backward.kp o_backward (F_backward.binds (ps := ["system", "rest", "known"]) fun _ _ _ _ _ us hl => match us, hl with | [_, _, _], _ => rfl)
  have o_never := ok_never (P := l.prog) (w := w) (base := bs) (TT := [t_total_weight, t_ends_in, t_all_in, t_backward, t_never, t_ranks_of_all]) (mg := mg) F_never T h_all_in h_rest_of
  have h_never := has_mk X G d_never.a d_never.kp o_never (F_never.binds (ps := ["system", "allowed", "targets"]) fun _ _ _ _ _ us hl => match us, hl with | [_, _, _], _ => rfl)
  have o_equations := ok_equations (P := l.prog) (w := w) (base := bs) (TT := [t_total_weight, t_ends_in, t_all_in, t_backward, t_never, t_ranks_of_all]) (mg := mg) F_equations T h_total_weight h_ratio h_minus h_plus h_times
  have h_equations := has_mk X G d_equations.a F_equations.kp o_equations (F_equations.binds (ps := ["chain", "unknown", "known", "extra"]) fun _ _ _ _ _ _ us hl => match us, hl with | [_, _, _, _], _ => rfl)
  have o_filled := ok_filled (P := l.prog) (w := w) (base := bs) (TT := [t_total_weight, t_ends_in, t_all_in, t_backward, t_never, t_ranks_of_all]) (mg := mg) F_filled T h_equations h_solve
  have h_filled := has_mk X G d_filled.a F_filled.kp o_filled (F_filled.binds (ps := ["chain", "unknown", "known", "extra"]) fun _ _ _ _ _ _ us hl => match us, hl with | [_, _, _, _], _ => rfl)
  have o_policy_chances := ok_policy_chances (P := l.prog) (w := w) (base := bs) (TT := [t_total_weight, t_ends_in, t_all_in, t_backward, t_never, t_ranks_of_all]) (mg := mg) F_policy_chances T h_restricted h_rest_of h_backward h_marks h_filled
  have h_policy_chances := has_mk X G d_policy_chances.a F_policy_chances.kp o_policy_chances (F_policy_chances.binds (ps := ["system", "policy", "allowed", "targets"]) fun _ _ _ _ _ _ us hl => match us, hl with | [_, _, _, _], _ => rfl)
  have o_better := ok_better (P := l.prog) (w := w) (base := bs) (TT := [t_total_weight, t_ends_in, t_all_in, t_backward, t_never, t_ranks_of_all]) (mg := mg) F_better T 
  have h_better := has_mk X G d_better.a F_better.kp o_better (F_better.binds (ps := ["one", "two", "most"]) fun _ _ _ _ _ _ us hl => match us, hl with | [_, _, _], _ => rfl)
  have o_no_cost := ok_no_cost (P := l.prog) (w := w) (base := bs) (TT := [t_total_weight, t_ends_in, t_all_in, t_backward, t_never, t_ranks_of_all]) (mg := mg) F_no_cost T 
  have h_no_cost := has_mk X G d_no_cost.a F_no_cost.kp o_no_cost (F_no_cost.binds (ps := ["choice"]) fun _ _ _ _ _ _ us hl => match us, hl with | [_], _ => rfl)
  have o_best_choice := ok_best_choice (P := l.prog) (w := w) (base := bs) (TT := [t_total_weight, t_ends_in, t_all_in, t_backward, t_never, t_ranks_of_all]) (mg := mg) F_best_choice T h_plus h_mean h_better h_no_cost
  have h_best_choice := has_mk X G d_best_choice.a F_best_choice.kp o_best_choice (F_best_choice.binds (ps := ["choices", "values", "numbers", "base", "most"]) fun _ _ _ _ _ _ us hl => match us, hl with | [_, _, _, _, _], _ => rfl)
  have o_bounded_chances := ok_bounded_chances (P := l.prog) (w := w) (base := bs) (TT := [t_total_weight, t_ends_in, t_all_in, t_backward, t_never, t_ranks_of_all]) (mg := mg) F_bounded_chances T h_rest_of h_best_choice h_no_cost
  have h_bounded_chances := has_mk X G d_bounded_chances.a F_bounded_chances.kp o_bounded_chances (F_bounded_chances.binds (ps := ["system", "allowed", "targets", "steps", "most"]) fun _ _ _ _ _ _ us hl => match us, hl with | [_, _, _, _, _], _ => rfl)
  have o_ranked := ok_ranked (P := l.prog) (w := w) (base := bs) (TT := [t_total_weight, t_ends_in, t_all_in, t_backward, t_never, t_ranks_of_all]) (mg := mg) F_ranked T h_ends_in
  have h_ranked := has_mk X G d_ranked.a F_ranked.kp o_ranked (F_ranked.binds (ps := ["system", "rest", "start", "fits"]) fun _ _ _ _ _ _ us hl => match us, hl with | [_, _, _, _], _ => rfl)
  have o_improved := ok_improved (P := l.prog) (w := w) (base := bs) (TT := [t_total_weight, t_ends_in, t_all_in, t_backward, t_never, t_ranks_of_all]) (mg := mg) F_improved T h_best_choice h_better h_no_cost
  have h_improved := has_mk X G d_improved.a F_improved.kp o_improved (F_improved.binds (ps := ["system", "rest", "policy", "values", "most"]) fun _ _ _ _ _ _ us hl => match us, hl with | [_, _, _, _, _], _ => rfl)
  have o_iterated := ok_iterated (P := l.prog) (w := w) (base := bs) (TT := [t_total_weight, t_ends_in, t_all_in, t_backward, t_never, t_ranks_of_all]) (mg := mg) F_iterated T h_policy_chances h_improved
  have h_iterated := has_mk X G d_iterated.a F_iterated.kp o_iterated (F_iterated.binds (ps := ["system", "allowed", "targets", "rest", "policy", "most"]) fun _ _ _ _ _ _ us hl => match us, hl with | [_, _, _, _, _, _], _ => rfl)
  have o_ranks_of_all := ok_ranks_of_all (P := l.prog) (w := w) (base := bs) (TT := [t_total_weight, t_ends_in, t_all_in, t_backward, t_never, t_ranks_of_all]) (mg := mg) F_ranks_of_all T h_ends_in
  have h_ranks_of_all := has_mk X G d_ranks_of_all.a d_ranks_of_all.kp o_ranks_of_all (F_ranks_of_all.binds (ps := ["system", "rest", "start"]) fun _ _ _ _ _ us hl => match us, hl with | [_, _, _], _ => rfl)
  have o_greatest_chances := ok_greatest_chances (P := l.prog) (w := w) (base := bs) (TT := [t_total_weight, t_ends_in, t_all_in, t_backward, t_never, t_ranks_of_all]) (mg := mg) F_greatest_chances T h_rest_of h_ranked h_marks h_iterated h_ends_in
  have h_greatest_chances := has_mk X G d_greatest_chances.a F_greatest_chances.kp o_greatest_chances (F_greatest_chances.binds (ps := ["system", "allowed", "targets"]) fun _ _ _ _ _ _ us hl => match us, hl with | [_, _, _], _ => rfl)
  have o_least_chances := ok_least_chances (P := l.prog) (w := w) (base := bs) (TT := [t_total_weight, t_ends_in, t_all_in, t_backward, t_never, t_ranks_of_all]) (mg := mg) F_least_chances T h_rest_of h_never h_all_in h_iterated h_ranks_of_all
  have h_least_chances := has_mk X G d_least_chances.a F_least_chances.kp o_least_chances (F_least_chances.binds (ps := ["system", "allowed", "targets"]) fun _ _ _ _ _ _ us hl => match us, hl with | [_, _, _], _ => rfl)
  have o_best_chances := ok_best_chances (P := l.prog) (w := w) (base := bs) (TT := [t_total_weight, t_ends_in, t_all_in, t_backward, t_never, t_ranks_of_all]) (mg := mg) F_best_chances T h_greatest_chances h_least_chances
  have h_best_chances := has_mk X G d_best_chances.a F_best_chances.kp o_best_chances (F_best_chances.binds (ps := ["system", "allowed", "targets", "most"]) fun _ _ _ _ _ _ us hl => match us, hl with | [_, _, _, _], _ => rfl)
  have o__law_tape := ok__law_tape (P := l.prog) (w := w) (base := bs) (TT := [t_total_weight, t_ends_in, t_all_in, t_backward, t_never, t_ranks_of_all]) (mg := mg) F__law_tape T 
  have h__law_tape := has_mk X G d__law_tape.a F__law_tape.kp o__law_tape (F__law_tape.binds (ps := ["_law_script"]) fun _ _ _ _ _ _ us hl => match us, hl with | [_], _ => rfl)
  have o__law_draw := ok__law_draw (P := l.prog) (w := w) (base := bs) (TT := [t_total_weight, t_ends_in, t_all_in, t_backward, t_never, t_ranks_of_all]) (mg := mg) F__law_draw T 
  have h__law_draw := has_mk X G d__law_draw.a F__law_draw.kp o__law_draw (F__law_draw.binds (ps := ["_law_tape_here", "_law_at", "_law_many"]) fun _ _ _ _ _ _ us hl => match us, hl with | [_, _, _], _ => rfl)
  have o__law_take := ok__law_take (P := l.prog) (w := w) (base := bs) (TT := [t_total_weight, t_ends_in, t_all_in, t_backward, t_never, t_ranks_of_all]) (mg := mg) F__law_take T h__law_draw
  have h__law_take := has_mk X G d__law_take.a F__law_take.kp o__law_take (F__law_take.binds (ps := ["_law_state", "_law_many"]) fun _ _ _ _ _ _ us hl => match us, hl with | [_, _], _ => rfl)
  have o__law_ratio := ok__law_ratio (P := l.prog) (w := w) (base := bs) (TT := [t_total_weight, t_ends_in, t_all_in, t_backward, t_never, t_ranks_of_all]) (mg := mg) F__law_ratio T 
  have h__law_ratio := has_mk X G d__law_ratio.a F__law_ratio.kp o__law_ratio (F__law_ratio.binds (ps := ["_law_n", "_law_d"]) fun _ _ _ _ _ _ us hl => match us, hl with | [_, _], _ => rfl)
  have o__law_plus := ok__law_plus (P := l.prog) (w := w) (base := bs) (TT := [t_total_weight, t_ends_in, t_all_in, t_backward, t_never, t_ranks_of_all]) (mg := mg) F__law_plus T h__law_ratio
  have h__law_plus := has_mk X G d__law_plus.a F__law_plus.kp o__law_plus (F__law_plus.binds (ps := ["_law_a", "_law_b"]) fun _ _ _ _ _ _ us hl => match us, hl with | [_, _], _ => rfl)
  have o__law_times := ok__law_times (P := l.prog) (w := w) (base := bs) (TT := [t_total_weight, t_ends_in, t_all_in, t_backward, t_never, t_ranks_of_all]) (mg := mg) F__law_times T h__law_ratio
  have h__law_times := has_mk X G d__law_times.a F__law_times.kp o__law_times (F__law_times.binds (ps := ["_law_a", "_law_b"]) fun _ _ _ _ _ _ us hl => match us, hl with | [_, _], _ => rfl)
  have o__law_ends := ok__law_ends (P := l.prog) (w := w) (base := bs) (TT := [t_total_weight, t_ends_in, t_all_in, t_backward, t_never, t_ranks_of_all]) (mg := mg) F__law_ends T h__law_take
  have h__law_ends := has_mk X G d__law_ends.a F__law_ends.kp o__law_ends (F__law_ends.binds (ps := ["_law_state", "_law_many"]) fun _ _ _ _ _ _ us hl => match us, hl with | [_, _], _ => rfl)
  have o__law_choices := ok__law_choices (P := l.prog) (w := w) (base := bs) (TT := [t_total_weight, t_ends_in, t_all_in, t_backward, t_never, t_ranks_of_all]) (mg := mg) F__law_choices T h__law_take h__law_ends
  have h__law_choices := has_mk X G d__law_choices.a F__law_choices.kp o__law_choices (F__law_choices.binds (ps := ["_law_state", "_law_many", "_law_most"]) fun _ _ _ _ _ _ us hl => match us, hl with | [_, _, _], _ => rfl)
  have o__law_system := ok__law_system (P := l.prog) (w := w) (base := bs) (TT := [t_total_weight, t_ends_in, t_all_in, t_backward, t_never, t_ranks_of_all]) (mg := mg) F__law_system T h__law_take h__law_choices
  have h__law_system := has_mk X G d__law_system.a F__law_system.kp o__law_system (F__law_system.binds (ps := ["_law_state", "_law_most"]) fun _ _ _ _ _ _ us hl => match us, hl with | [_, _], _ => rfl)
  have o__law_some := ok__law_some (P := l.prog) (w := w) (base := bs) (TT := [t_total_weight, t_ends_in, t_all_in, t_backward, t_never, t_ranks_of_all]) (mg := mg) F__law_some T h__law_take
  have h__law_some := has_mk X G d__law_some.a F__law_some.kp o__law_some (F__law_some.binds (ps := ["_law_state", "_law_many", "_law_share"]) fun _ _ _ _ _ _ us hl => match us, hl with | [_, _, _], _ => rfl)
  have o__law_mean := ok__law_mean (P := l.prog) (w := w) (base := bs) (TT := [t_total_weight, t_ends_in, t_all_in, t_backward, t_never, t_ranks_of_all]) (mg := mg) F__law_mean T h__law_plus h__law_times h__law_ratio
  have h__law_mean := has_mk X G d__law_mean.a F__law_mean.kp o__law_mean (F__law_mean.binds (ps := ["_law_ends_here", "_law_values"]) fun _ _ _ _ _ _ us hl => match us, hl with | [_, _], _ => rfl)
  have o__law_less := ok__law_less (P := l.prog) (w := w) (base := bs) (TT := [t_total_weight, t_ends_in, t_all_in, t_backward, t_never, t_ranks_of_all]) (mg := mg) F__law_less T 
  have h__law_less := has_mk X G d__law_less.a F__law_less.kp o__law_less (F__law_less.binds (ps := ["_law_one", "_law_other"]) fun _ _ _ _ _ _ us hl => match us, hl with | [_, _], _ => rfl)
  have o__law_drawn_policy := ok__law_drawn_policy (P := l.prog) (w := w) (base := bs) (TT := [t_total_weight, t_ends_in, t_all_in, t_backward, t_never, t_ranks_of_all]) (mg := mg) F__law_drawn_policy T h__law_take
  have h__law_drawn_policy := has_mk X G d__law_drawn_policy.a F__law_drawn_policy.kp o__law_drawn_policy (F__law_drawn_policy.binds (ps := ["_law_state", "_law_system_here"]) fun _ _ _ _ _ _ us hl => match us, hl with | [_, _], _ => rfl)
  have o__law_followed := ok__law_followed (P := l.prog) (w := w) (base := bs) (TT := [t_total_weight, t_ends_in, t_all_in, t_backward, t_never, t_ranks_of_all]) (mg := mg) F__law_followed T h__law_mean
  have h__law_followed := has_mk X G d__law_followed.a F__law_followed.kp o__law_followed (F__law_followed.binds (ps := ["_law_system_here", "_law_rest", "_law_targets", "_law_policies"]) fun _ _ _ _ _ _ us hl => match us, hl with | [_, _, _, _], _ => rfl)
  have o__law_none_less := ok__law_none_less (P := l.prog) (w := w) (base := bs) (TT := [t_total_weight, t_ends_in, t_all_in, t_backward, t_never, t_ranks_of_all]) (mg := mg) F__law_none_less T h__law_less
  have h__law_none_less := has_mk X G d__law_none_less.a F__law_none_less.kp o__law_none_less (F__law_none_less.binds (ps := ["_law_one", "_law_other"]) fun _ _ _ _ _ _ us hl => match us, hl with | [_, _], _ => rfl)
  have o_law := ok_law (P := l.prog) (w := w) (base := bs) (TT := [t_total_weight, t_ends_in, t_all_in, t_backward, t_never, t_ranks_of_all]) (mg := mg) F_law T h__law_tape h__law_system h__law_take h__law_some h_best_chances h_bounded_chances h__law_none_less h__law_followed h__law_drawn_policy
  exact o_law
end BO

open PySem PySem.W PyProof.Rows in
set_option maxRecDepth 100000 in
set_option maxHeartbeats 0 in
theorem PySem.Challenge.cw_bestodds_k21_whole_steps_come_closer_holds : PySem.Challenge.rw_bestodds_k21_whole_steps_come_closer.Holds := by
  w_on; o_law; k_head; (case hw => w_witness2)
  k_fill
  refine BO.walk_BO (k := 10) (x := "_law_script") rfl rfl ⟨rfl, by decide, by decide⟩ (fun w h Y => PySem.W.kIn_of Y) ?F
  case F =>
    intro w mg fa h KX G hmg TBS
    refine' BO.all_BO KX G hmg TBS (by decide +kernel) (by decide +kernel) (by decide +kernel) (by decide +kernel) (by decide +kernel) (by decide +kernel) ?z_len ?z_int ?z_abs ?z_list ?z_tuple ?z_range ?z_enumerate ?z_sum ?z_any ?z_all ?z_gcd ?z_ZERO ?l_ZERO ?z_ONE ?l_ONE (BO.defK ?a_ratio ?l_ratio ?c_ratio ?k_ratio) (BO.defK ?a_plus ?l_plus ?c_plus ?k_plus) (BO.defK ?a_minus ?l_minus ?c_minus ?k_minus) (BO.defK ?a_times ?l_times ?c_times ?k_times) (BO.defK ?a_over ?l_over ?c_over ?k_over) (BO.defK ?a_pivot_of ?l_pivot_of ?c_pivot_of ?k_pivot_of) (BO.defK ?a_cleared ?l_cleared ?c_cleared ?k_cleared) (BO.defK ?a_solve ?l_solve ?c_solve ?k_solve) (BO.defC ?a_total_weight ?l_total_weight ?c_total_weight ?k_total_weight ?q_total_weight ?p_total_weight ?h_total_weight ?n_total_weight) (BO.defK ?a_mean ?l_mean ?c_mean ?k_mean) (BO.defC ?a_ends_in ?l_ends_in ?c_ends_in ?k_ends_in ?q_ends_in ?p_ends_in ?h_ends_in ?n_ends_in) (BO.defC ?a_all_in ?l_all_in ?c_all_in ?k_all_in ?q_all_in ?p_all_in ?h_all_in ?n_all_in) (BO.defK ?a_marks ?l_marks ?c_marks ?k_marks) (BO.defK ?a_restricted ?l_restricted ?c_restricted ?k_restricted) (BO.defK ?a_rest_of ?l_rest_of ?c_rest_of ?k_rest_of) (BO.defC ?a_backward ?l_backward ?c_backward ?k_backward ?q_backward ?p_backward ?h_backward ?n_backward) (BO.defC ?a_never ?l_never ?c_never ?k_never ?q_never ?p_never ?h_never ?n_never) (BO.defK ?a_equations ?l_equations ?c_equations ?k_equations) (BO.defK ?a_filled ?l_filled ?c_filled ?k_filled) (BO.defK ?a_policy_chances ?l_policy_chances ?c_policy_chances ?k_policy_chances) (BO.defK ?a_better ?l_better ?c_better ?k_better) (BO.defK ?a_no_cost ?l_no_cost ?c_no_cost ?k_no_cost) (BO.defK ?a_best_choice ?l_best_choice ?c_best_choice ?k_best_choice) (BO.defK ?a_bounded_chances ?l_bounded_chances ?c_bounded_chances ?k_bounded_chances) (BO.defK ?a_ranked ?l_ranked ?c_ranked ?k_ranked) (BO.defK ?a_improved ?l_improved ?c_improved ?k_improved) (BO.defK ?a_iterated ?l_iterated ?c_iterated ?k_iterated) (BO.defC ?a_ranks_of_all ?l_ranks_of_all ?c_ranks_of_all ?k_ranks_of_all ?q_ranks_of_all ?p_ranks_of_all ?h_ranks_of_all ?n_ranks_of_all) (BO.defK ?a_greatest_chances ?l_greatest_chances ?c_greatest_chances ?k_greatest_chances) (BO.defK ?a_least_chances ?l_least_chances ?c_least_chances ?k_least_chances) (BO.defK ?a_best_chances ?l_best_chances ?c_best_chances ?k_best_chances) (BO.defK ?a__law_tape ?l__law_tape ?c__law_tape ?k__law_tape) (BO.defK ?a__law_draw ?l__law_draw ?c__law_draw ?k__law_draw) (BO.defK ?a__law_take ?l__law_take ?c__law_take ?k__law_take) (BO.defK ?a__law_ratio ?l__law_ratio ?c__law_ratio ?k__law_ratio) (BO.defK ?a__law_plus ?l__law_plus ?c__law_plus ?k__law_plus) (BO.defK ?a__law_times ?l__law_times ?c__law_times ?k__law_times) (BO.defK ?a__law_ends ?l__law_ends ?c__law_ends ?k__law_ends) (BO.defK ?a__law_choices ?l__law_choices ?c__law_choices ?k__law_choices) (BO.defK ?a__law_system ?l__law_system ?c__law_system ?k__law_system) (BO.defK ?a__law_some ?l__law_some ?c__law_some ?k__law_some) (BO.defK ?a__law_mean ?l__law_mean ?c__law_mean ?k__law_mean) (BO.defK ?a__law_less ?l__law_less ?c__law_less ?k__law_less) (BO.defK ?a__law_drawn_policy ?l__law_drawn_policy ?c__law_drawn_policy ?k__law_drawn_policy) (BO.defK ?a__law_followed ?l__law_followed ?c__law_followed ?k__law_followed) (BO.defK ?a__law_none_less ?l__law_none_less ?c__law_none_less ?k__law_none_less) (BO.defK ?a_law ?l_law ?c_law ?k_law)
    (case z_len => k_is)
    (case z_int => k_is)
    (case z_abs => k_is)
    (case z_list => k_is)
    (case z_tuple => k_is)
    (case z_range => k_is)
    (case z_enumerate => k_is)
    (case z_sum => k_is)
    (case z_any => k_is)
    (case z_all => k_is)
    (case z_gcd => k_is)
    (case z_ZERO => k_is)
    (case l_ZERO => k_is)
    (case z_ONE => k_is)
    (case l_ONE => k_is)
    (case a_ratio => k_is)
    (case l_ratio => k_is)
    (case c_ratio => k_is)
    (case k_ratio => k_is)
    (case a_plus => k_is)
    (case l_plus => k_is)
    (case c_plus => k_is)
    (case k_plus => k_is)
    (case a_minus => k_is)
    (case l_minus => k_is)
    (case c_minus => k_is)
    (case k_minus => k_is)
    (case a_times => k_is)
    (case l_times => k_is)
    (case c_times => k_is)
    (case k_times => k_is)
    (case a_over => k_is)
    (case l_over => k_is)
    (case c_over => k_is)
    (case k_over => k_is)
    (case a_pivot_of => k_is)
    (case l_pivot_of => k_is)
    (case c_pivot_of => k_is)
    (case k_pivot_of => k_is)
    (case a_cleared => k_is)
    (case l_cleared => k_is)
    (case c_cleared => k_is)
    (case k_cleared => k_is)
    (case a_solve => k_is)
    (case l_solve => k_is)
    (case c_solve => k_is)
    (case k_solve => k_is)
    (case a_total_weight => k_is)
    (case l_total_weight => k_is)
    (case c_total_weight => k_is)
    (case k_total_weight => k_is)
    (case q_total_weight => k_is)
    (case p_total_weight => rfl)
    (case h_total_weight => rfl)
    (case n_total_weight => rfl)
    (case a_mean => k_is)
    (case l_mean => k_is)
    (case c_mean => k_is)
    (case k_mean => k_is)
    (case a_ends_in => k_is)
    (case l_ends_in => k_is)
    (case c_ends_in => k_is)
    (case k_ends_in => k_is)
    (case q_ends_in => k_is)
    (case p_ends_in => rfl)
    (case h_ends_in => rfl)
    (case n_ends_in => rfl)
    (case a_all_in => k_is)
    (case l_all_in => k_is)
    (case c_all_in => k_is)
    (case k_all_in => k_is)
    (case q_all_in => k_is)
    (case p_all_in => rfl)
    (case h_all_in => rfl)
    (case n_all_in => rfl)
    (case a_marks => k_is)
    (case l_marks => k_is)
    (case c_marks => k_is)
    (case k_marks => k_is)
    (case a_restricted => k_is)
    (case l_restricted => k_is)
    (case c_restricted => k_is)
    (case k_restricted => k_is)
    (case a_rest_of => k_is)
    (case l_rest_of => k_is)
    (case c_rest_of => k_is)
    (case k_rest_of => k_is)
    (case a_backward => k_is)
    (case l_backward => k_is)
    (case c_backward => k_is)
    (case k_backward => k_is)
    (case q_backward => k_is)
    (case p_backward => rfl)
    (case h_backward => rfl)
    (case n_backward => rfl)
    (case a_never => k_is)
    (case l_never => k_is)
    (case c_never => k_is)
    (case k_never => k_is)
    (case q_never => k_is)
    (case p_never => rfl)
    (case h_never => rfl)
    (case n_never => rfl)
    (case a_equations => k_is)
    (case l_equations => k_is)
    (case c_equations => k_is)
    (case k_equations => k_is)
    (case a_filled => k_is)
    (case l_filled => k_is)
    (case c_filled => k_is)
    (case k_filled => k_is)
    (case a_policy_chances => k_is)
    (case l_policy_chances => k_is)
    (case c_policy_chances => k_is)
    (case k_policy_chances => k_is)
    (case a_better => k_is)
    (case l_better => k_is)
    (case c_better => k_is)
    (case k_better => k_is)
    (case a_no_cost => k_is)
    (case l_no_cost => k_is)
    (case c_no_cost => k_is)
    (case k_no_cost => k_is)
    (case a_best_choice => k_is)
    (case l_best_choice => k_is)
    (case c_best_choice => k_is)
    (case k_best_choice => k_is)
    (case a_bounded_chances => k_is)
    (case l_bounded_chances => k_is)
    (case c_bounded_chances => k_is)
    (case k_bounded_chances => k_is)
    (case a_ranked => k_is)
    (case l_ranked => k_is)
    (case c_ranked => k_is)
    (case k_ranked => k_is)
    (case a_improved => k_is)
    (case l_improved => k_is)
    (case c_improved => k_is)
    (case k_improved => k_is)
    (case a_iterated => k_is)
    (case l_iterated => k_is)
    (case c_iterated => k_is)
    (case k_iterated => k_is)
    (case a_ranks_of_all => k_is)
    (case l_ranks_of_all => k_is)
    (case c_ranks_of_all => k_is)
    (case k_ranks_of_all => k_is)
    (case q_ranks_of_all => k_is)
    (case p_ranks_of_all => rfl)
    (case h_ranks_of_all => rfl)
    (case n_ranks_of_all => rfl)
    (case a_greatest_chances => k_is)
    (case l_greatest_chances => k_is)
    (case c_greatest_chances => k_is)
    (case k_greatest_chances => k_is)
    (case a_least_chances => k_is)
    (case l_least_chances => k_is)
    (case c_least_chances => k_is)
    (case k_least_chances => k_is)
    (case a_best_chances => k_is)
    (case l_best_chances => k_is)
    (case c_best_chances => k_is)
    (case k_best_chances => k_is)
    (case a__law_tape => k_is)
    (case l__law_tape => k_is)
    (case c__law_tape => k_is)
    (case k__law_tape => k_is)
    (case a__law_draw => k_is)
    (case l__law_draw => k_is)
    (case c__law_draw => k_is)
    (case k__law_draw => k_is)
    (case a__law_take => k_is)
    (case l__law_take => k_is)
    (case c__law_take => k_is)
    (case k__law_take => k_is)
    (case a__law_ratio => k_is)
    (case l__law_ratio => k_is)
    (case c__law_ratio => k_is)
    (case k__law_ratio => k_is)
    (case a__law_plus => k_is)
    (case l__law_plus => k_is)
    (case c__law_plus => k_is)
    (case k__law_plus => k_is)
    (case a__law_times => k_is)
    (case l__law_times => k_is)
    (case c__law_times => k_is)
    (case k__law_times => k_is)
    (case a__law_ends => k_is)
    (case l__law_ends => k_is)
    (case c__law_ends => k_is)
    (case k__law_ends => k_is)
    (case a__law_choices => k_is)
    (case l__law_choices => k_is)
    (case c__law_choices => k_is)
    (case k__law_choices => k_is)
    (case a__law_system => k_is)
    (case l__law_system => k_is)
    (case c__law_system => k_is)
    (case k__law_system => k_is)
    (case a__law_some => k_is)
    (case l__law_some => k_is)
    (case c__law_some => k_is)
    (case k__law_some => k_is)
    (case a__law_mean => k_is)
    (case l__law_mean => k_is)
    (case c__law_mean => k_is)
    (case k__law_mean => k_is)
    (case a__law_less => k_is)
    (case l__law_less => k_is)
    (case c__law_less => k_is)
    (case k__law_less => k_is)
    (case a__law_drawn_policy => k_is)
    (case l__law_drawn_policy => k_is)
    (case c__law_drawn_policy => k_is)
    (case k__law_drawn_policy => k_is)
    (case a__law_followed => k_is)
    (case l__law_followed => k_is)
    (case c__law_followed => k_is)
    (case k__law_followed => k_is)
    (case a__law_none_less => k_is)
    (case l__law_none_less => k_is)
    (case c__law_none_less => k_is)
    (case k__law_none_less => k_is)
    (case a_law => k_is)
    (case l_law => k_is)
    (case c_law => k_is)
    (case k_law => k_is)
