import PyProof.Rows.All
import Wide.All
import OpenK.AllK
import Wide.FinOn
import HandS.ForMost
import HandS.SetFor
import HandS.Strs
import HandS.Wide
import HandS.WideBits
import HandS.Deep
import HandS.IsInst
import HandS.TupAny
import HandS.Evl
import HandS.Flow
import HandS.More
import HandS.SortInts
import HandS.Style
import HandS.Conv
import HandS.TryOnly
import HandS.WordsExc
import HandS.ExcInit
import HandS.ExcField
import HandS.ExcIs
import HandS.TryMany
import HandS.ExcOwn
import HandS.DictComp
import KE.KExcIs
import PyProof.EqKinds
import KE.KExcLine
import PySem.Challenge.RW_soleseat_k50_planes_told
set_option Elab.async false
set_option linter.all false
set_option maxRecDepth 100000
set_option maxHeartbeats 8000000
/-! Zset: set(list of ints) as a value, and sorted of it. -/
namespace Z
open PySem PySem.Spec PySem.Calls L2
open PyProof.Rows hiding St
def Fresh (H : Hp) (p : Addr) : Prop := H p = none
section
variable {P : Program} {w : World} {A : Around} {E : Value → Shared → Prop} {s : Shared}
abbrev mS (w : World) : Obj := { cls := .type "set", dict := none, data := .set #[] 0 (.fresh 0 0 (!w.params.followText "set-order")) }
abbrev hS1 (w : World) (s : Shared) : Heap := s.heap.push (mS w)
theorem set_of_list {l : Addr} {zs : Array Value} (ns : List Int) {Q : Value → Shared → Prop} (quiet : A.handled = none) (isl : s.heap.IsList l zs) (allI : IntsAre zs.toList ns) (few : ns.length + 1 < scanBound)
    (fin : ∀ (h2 : Heap) (tk c : Nat), SetR w h2 s.heap.objs.size (fun j => decide (j ∈ ns)) c → c ≤ ns.length →
      (∀ b o, s.heap.get? b = some o → h2.get? b = some o) → Q (.ref s.heap.objs.size) { s with heap := h2, toks := tk }) : wpAny (model P w) A (call (.type "set") [.ref l]) Q E s := by
  have hn : zs.size = ns.length := by
    have e := IntsAre.length allI
    rwa [Array.length_toList] at e
  obtain ⟨c, tl, hmro⟩ := F.called_set.mro
  have hmade := F.called_set.made
  have hsub := F.called_set.sub
  refine wpAny_call (codeAny_of_tree ?_)
  show wpAny _ _ (callAny (.type "set") _) _ _ _
  refine wpAny_pure ⟨Code.quiet_builtin _ (by decide +kernel), codeAny_builtin F.entry_type_call ?_⟩
  rw [Around.under_plain (weight_type_call_type "set" [.ref l] []) rfl]
  have a1 := F.called_set.notType
  have a2 := F.called_set.canCreate
  have a3 := F.typeCall_set_1 (.ref l)
  repeat (any_goals (first | assumption | wp_step))
  refine codeAny_mono (code_set_led1 (.ref l) (E := E) (Q₁ := fun ob s1 => ob = .ref s.heap.objs.size ∧ s1 = { s with heap := hS1 w s }) ⟨rfl, rfl⟩) fun r s1 hr => ?_
  cases r with
  | error e => exact hr
  | ok fl => cases fl with
    | ret ob =>
      obtain ⟨rfl, rfl⟩ := hr
      have g0 : (hS1 w s).get? s.heap.objs.size = some (mS w) := Heap.get?_push_size _ rfl
      have g1 : Shared.TypeIs { s with heap := hS1 w s } (.ref s.heap.objs.size) "set" := ⟨_, g0, rfl⟩
      have a4 := F.called_set.init.lookup
      have a5 := F.called_set.init.bind (.ref s.heap.objs.size)
      repeat (any_goals (first | assumption | wp_step))
      refine codeAny_mono (codeAny_call_builtin (R := wants (fun v s2 => v = .none ∧ ∃ h2 tk c, s2 = { s with heap := h2, toks := tk } ∧
        SetR w h2 s.heap.objs.size (fun j => decide (j ∈ ns)) c ∧ c ≤ ns.length ∧ ∀ b o, s.heap.get? b = some o → h2.get? b = some o) E)
        F.called_set.init.plain F.entry_set_init (check_set_init_1 g1 ?_)) fun r2 s2 hr2 => ?_
      · obtain ⟨ol, e1, e2, nl, e4⟩ := isl
        obtain ⟨oc, od, oda, osl⟩ := ol
        simp only at e2 e4
        subst e2; subst e4
        have g2 := Heap.get?_push_of_some (h := s.heap) (mS w) e1
        have u1 := F.sub_list_set
        have u2 := F.sub_list_frozenset
        have u3 : (Value.type "list" == Value.type "dict") = false := by decide
        have isl1 : (hS1 w s).IsList l zs := ⟨_, g2, rfl, nl, rfl⟩
        unfold Builtin.«set.__init__» noKeywords Builtin.Frozenset.updateFrom
        generalize hPI : pyIter = PI
        wp_walk
        subst hPI
        refine wpAny_pyIter_list isl1 ?_
        refine wpAny_bind (wpAny_runValue ?_)
        have l0 : l < s.heap.objs.size := Heap.lt_size e1
        have q3 : A.in1.in1.in1.handled = none := by simp [quiet]
        have z1 : (hS1 w s).objs.size = s.heap.objs.size + 1 := Heap.size_push ..
        have lI : l ≠ (hS1 w s).objs.size := by
          rw [z1]
          exact Nat.ne_of_lt (Nat.lt_succ_of_lt l0)
        have sf : s.heap.objs.size ∉ [(hS1 w s).objs.size, l] := fun z => by
          rw [z1] at z
          rcases List.mem_cons.mp z with z | z
          · exact Nat.ne_of_lt (Nat.lt_succ_self _) z
          · exact Nat.ne_of_gt l0 (List.mem_singleton.mp z)
        have vals : ∀ (i : Nat) (v : Value), zs[i]? = some v → ∃ k t, ns[i]? = some k ∧ v = .int k t := fun i v hv => by
          have hi : i < ns.length := hn ▸ (Array.getElem?_eq_some_iff.mp hv).1
          obtain ⟨t, e⟩ := IntsAre.int_at allI i v (by rw [Array.getElem?_toList]; exact hv)
          refine ⟨ns[i], t, List.getElem?_eq_getElem hi, e.trans ?_⟩
          rw [List.getD_eq_getElem?_getD, List.getElem?_eq_getElem hi]
          rfl
        refine set_update_ints ((Walks.list q3 _ l lI zs).toS) s.heap.objs.size sf ns hn few vals (zs.size - 0) 0 _ (by omega) (Nat.zero_le _)
          ⟨⟨_, Heap.get?_push_size _ rfl, rfl, rfl⟩, isl1.push _⟩ ⟨0, Nat.le_refl 0, setR_new_at (Heap.get?_push_of_some _ g0)⟩ fun s3 c3 mv hc3 hR => ?_
        obtain ⟨h3, g3, d3, t3, o3⟩ := s3
        obtain rfl : g3 = s.gens := mv.gens
        obtain rfl : d3 = s.drawn := mv.drawn
        obtain rfl : o3 = s.os := mv.os
        show wpAny _ _ _ _ _ _
        refine wpAny_pure ?_
        show wpAny _ _ (ret Value.none) _ _ _
        rw [hn] at hc3
        refine wpAny_pure ⟨rfl, h3, t3, c3, rfl, hR, hc3, fun b o e => ?_⟩
        have b0 : b < s.heap.objs.size := Heap.lt_size e
        refine mv.heap b o (fun z => ?_) (Heap.get?_push_of_some _ (Heap.get?_push_of_some _ e))
        rcases List.mem_cons.mp z with z | z
        · exact Nat.ne_of_lt b0 z
        · have z := List.mem_singleton.mp z
          rw [z1] at z
          exact Nat.ne_of_lt (Nat.lt_succ_of_lt b0) z
      · cases r2 with
        | error e => exact hr2
        | ok f2 => cases f2 with
          | ret v =>
            obtain ⟨rfl, h3, tk, c3, rfl, hR, hc3, hk⟩ := hr2
            repeat (any_goals (first | assumption | wp_step))
            exact fin _ _ _ hR hc3 hk
          | _ => exact hr2.elim
    | _ => exact hr.elim
end
section
variable {X : Cx}
/-- set(l), l a list or a tuple of ints -/
def zSet (K : PySem.W.Frag) (w : World) : List V → Hp → VK → Prop := fun xs H Q => ∃ (l : Addr) (ns : List Int), xs = [V.ref l] ∧ (SqL K H l (ns.map V.int) ∨ SqT K H l (ns.map V.int)) ∧ ns.length ≤ 1000 ∧
  ∀ (p : Addr) (c : Nat), c ≤ ns.length → Fresh H p → Q (.ref p) (upd H p (SetO w p (fun j => decide (j ∈ ns)) c))
theorem cr_zSet (quiet : X.calm = true) : CallR X (.type "set") (zSet X.K X.w) := by
  intro pins s σ H xs us Q I r h
  obtain ⟨l, ns, rfl, hl, few, q⟩ := h
  rw [Vals.ref1 r]
  have bnd : ns.length + 1 < scanBound := by
    unfold scanBound
    omega
  have new : H s.heap.objs.size = none := I.hok.fresh (Nat.le_refl _)
  rcases hl with hl | hl
  · obtain ⟨its, rv, pl, _⟩ := I.list hl
    exact set_of_list ns (I.ok.hd quiet) pl.isList (by simpa using ints_of_vals rv) bnd fun h2 tk c R hc k =>
      ⟨.ref _, _, I.laid (t' := tk) k (Nat.le_refl _) (setO_new R), rfl, q _ c hc new⟩
  · obtain ⟨its, rv, pl, _⟩ := I.tuple hl
    exact call_set_tupI ns (I.ok.hd quiet) pl (by simpa using ints_of_vals rv) bnd fun h2 tk c R hc k =>
      ⟨.ref _, _, I.laid (t' := tk) k (Nat.le_refl _) (setO_new R), rfl, q _ c hc new⟩
end
end Z

/-! Zp: joined operators (the kind is found as the walk goes), one lemma a step, tactics that walk. -/
namespace Z
open PySem PySem.Spec L2
open PyProof.Rows hiding St

/-! ### heaps -/
structure Gr (M : Addr → Prop) (F H F' H' : Hp) : Prop where
  ff : Same F F'
  fh : Same F' H'
  hh : ∀ b o, ¬ M b → H b = some o → H' b = some o
  nw : ∀ b o, H b = some o → F b = none → F' b = none
abbrev M0 : Addr → Prop := fun _ => False
abbrev M1 (p : Addr) : Addr → Prop := fun b => b = p
section
variable {M M' : Addr → Prop} {F H F' H' F'' H'' : Hp} {p q a b : Addr} {o u : HO} {K : PySem.W.Frag} {xs : List V}
theorem Gr.refl (h : Same F H) : Gr M F H F H := ⟨Same.refl _, h, fun _ _ _ e => e, fun _ _ _ e => e⟩
theorem Gr.trans (g : Gr M F H F' H') (k : Gr M F' H' F'' H'') (hM : ∀ b, M b → ∃ o, H b = some o) (hM' : ∀ b, M b → F b = none) (hk : ∀ b, M b → ∃ o, H' b = some o) : Gr M F H F'' H'' :=
  ⟨g.ff.trans k.ff, k.fh, fun b o n e => k.hh b o n (g.hh b o n e), fun b o e f => by
    have f' := g.nw b o e f
    by_cases hb : M b
    · obtain ⟨o', e'⟩ := hk b hb
      exact k.nw b o' e' f'
    · exact k.nw b o (g.hh b o hb e) f'⟩
theorem Gr.trans0 (g : Gr M0 F H F' H') (k : Gr M F' H' F'' H'') : Gr M F H F'' H'' :=
  ⟨g.ff.trans k.ff, k.fh, fun b o n e => k.hh b o n (g.hh b o (fun z => z) e), fun b o e f => k.nw b o (g.hh b o (fun z => z) e) (g.nw b o e f)⟩
theorem Gr.tr0 (g : Gr M F H F' H') (k : Gr M0 F' H' F'' H'') (hk : ∀ b, M b → ∃ o, H' b = some o) : Gr M F H F'' H'' :=
  ⟨g.ff.trans k.ff, k.fh, fun b o n e => k.hh b o (fun z => z) (g.hh b o n e), fun b o e f => by
    have f' := g.nw b o e f
    by_cases hb : M b
    · obtain ⟨o', e'⟩ := hk b hb
      exact k.nw b o' e' f'
    · exact k.nw b o (g.hh b o hb e) f'⟩
theorem Gr.tr1 (g : Gr (M1 p) F H F' H') (k : Gr (M1 p) F' H' F'' H'') (hp : H' p = some o) : Gr (M1 p) F H F'' H'' :=
  ⟨g.ff.trans k.ff, k.fh, fun b o n e => k.hh b o n (g.hh b o n e), fun b o' e f => by
    have f' := g.nw b o' e f
    by_cases hb : b = p
    · subst hb
      exact k.nw b o hp f'
    · exact k.nw b o' (g.hh b o' hb e) f'⟩
theorem Gr.up (g : Gr M0 F H F' H') : Gr M F H F' H' := ⟨g.ff, g.fh, fun b o _ e => g.hh b o (fun z => z) e, g.nw⟩
theorem same_new (h : Same F H) (hp : Fresh H p) : Same F (upd H p o) := fun b u e => by
  rw [upd_ne (ne_of_none (h b u e) hp)]
  exact h b u e
theorem same_mut (h : Same F H) (hp : F p = none) : Same F (upd H p o) := fun b u e => by
  rw [upd_ne (ne_of_none e hp)]
  exact h b u e
/-- a new object, not frozen -/
theorem Gr.new (h : Same F H) (hp : Fresh H p) : Gr M F H F (upd H p o) := ⟨Same.refl _, same_new h hp, fun b u _ e => by
  rw [upd_ne (ne_of_none e hp)]
  exact e, fun _ _ _ e => e⟩
/-- a new object, frozen at once -/
theorem Gr.newF (h : Same F H) (hp : Fresh H p) : Gr M F H (upd F p o) (upd H p o) :=
  ⟨fun b u e => by
    rw [upd_ne (ne_of_none (h b u e) hp)]
    exact e, fun b u e => by
    by_cases hb : b = p
    · subst hb
      rw [upd_same] at e ⊢
      exact e
    · rw [upd_ne hb] at e ⊢
      exact h b u e, fun b u _ e => by
    rw [upd_ne (ne_of_none e hp)]
    exact e, fun b u e f => by
    rw [upd_ne (ne_of_none e hp)]
    exact f⟩
/-- a change -/
theorem Gr.mut (h : Same F H) (hp : F p = none) (hM : M p) : Gr M F H F (upd H p o) := ⟨Same.refl _, same_mut h hp, fun b u n e => by
  rw [upd_ne (fun z => n (by rw [z]; exact hM))]
  exact e, fun _ _ _ e => e⟩
/-- an object that came since is frozen from now on -/
theorem Gr.frz (g : Gr M F H F' H') (hn : H p = none) (hp : H' p = some o) (hf : F' p = none) : Gr M F H (upd F' p o) H' :=
  ⟨fun b u e => by
    have e' := g.ff b u e
    rw [upd_ne (ne_of_none e' hf)]
    exact e', fun b u e => by
    by_cases hb : b = p
    · subst hb
      rw [upd_same] at e
      rw [hp]
      exact e
    · rw [upd_ne hb] at e
      exact g.fh b u e, g.hh, fun b u e f => by
    rw [upd_ne (ne_of_none e hn)]
    exact g.nw b u e f⟩
theorem Gr.put (g : Gr M F H F' H') (hf : F' p = none) (hM : M p) : Gr M F H F' (upd H' p o) := ⟨g.ff, same_mut g.fh hf, fun b u n e => by
  rw [upd_ne (fun z => n (by rw [z]; exact hM))]
  exact g.hh b u n e, g.nw⟩
theorem Gr.put1 (g : Gr (M1 p) F H F' H') (hf : F' p = none) : Gr (M1 p) F H F' (upd H' p o) := g.put hf rfl
theorem Gr.add (g : Gr M F H F' H') (hn : Fresh H' p) : Gr M F H F' (upd H' p o) := ⟨g.ff, same_new g.fh hn, fun b u n e => by
  have e' := g.hh b u n e
  rw [upd_ne (ne_of_none e' hn)]
  exact e', g.nw⟩
theorem Gr.addF (g : Gr M F H F' H') (hn : Fresh H' p) (hm : ¬ M p) : Gr M F H (upd F' p o) (upd H' p o) := by
  have k := Gr.newF (M := M) (o := o) g.fh hn
  refine ⟨g.ff.trans k.ff, k.fh, fun b u n e => k.hh b u n (g.hh b u n e), fun b u e f => ?_⟩
  have f' := g.nw b u e f
  by_cases hb : b = p
  · subst hb
    rw [Fresh, g.hh b u hm e] at hn
    cases hn
  · rw [upd_ne hb]
    exact f'
theorem Gr.same (g : Gr M0 F H F' H') : Same H H' := fun b o e => g.hh b o (fun z => z) e
/-- a change of what came since -/
theorem Gr.own (g : Gr M F H F' H') (hf : F' p = none) (hn : H p = none) : Gr M F H F' (upd H' p o) := ⟨g.ff, same_mut g.fh hf, fun b u n e => by
  rw [upd_ne (ne_of_none e hn)]
  exact g.hh b u n e, g.nw⟩
theorem Gr.nof (g : Gr M F H F' H') (h : F p = none) (h2 : H p = some o) : F' p = none := g.nw p o h2 h
theorem Gr.fresh (g : Gr M F H F' H') (hn : Fresh H' p) (hM : ∀ b, M b → ∃ o, H' b = some o) : Fresh H p := by
  unfold Fresh at *
  cases e : H p with
  | none => rfl
  | some u =>
    by_cases hb : M p
    · obtain ⟨o', e'⟩ := hM p hb
      rw [hn] at e'
      cases e'
    · rw [g.hh p u hb e] at hn
      cases hn
theorem Gr.fr1 (g : Gr (M1 p) F H F' H') (hp : H' p = some o) (hn : Fresh H' q) : Fresh H q := g.fresh hn fun b hb => ⟨o, by rw [show b = p from hb]; exact hp⟩
theorem Gr.fr0 (g : Gr M0 F H F' H') (hn : Fresh H' q) : Fresh H q := g.fresh hn fun b hb => hb.elim
theorem fresh_ne (hn : Fresh H q) (hp : H p = some o) : q ≠ p := fun e => by
  subst e
  rw [Fresh, hp] at hn
  cases hn
theorem ne_fresh (hn : Fresh H q) (hp : H p = some o) : p ≠ q := (fresh_ne hn hp).symm
theorem fresh_upd (hn : Fresh (upd H p o) q) : Fresh H q ∧ q ≠ p := by
  by_cases e : q = p
  · subst e
    rw [Fresh, upd_same] at hn
    cases hn
  · rw [Fresh, upd_ne e] at hn
    exact ⟨hn, e⟩
theorem fresh_F (h : Same F H) (hn : Fresh H p) : F p = none := by
  cases e : F p with
  | none => rfl
  | some u =>
    rw [Fresh, h p u e] at hn
    cases hn
/-- behind a part that changed p alone, p new since the beginning -/
theorem Gr.drop (g : Gr (M1 p) F H F' H') (hn : H p = none) : Gr M F H F' H' := ⟨g.ff, g.fh, fun b o _ e => g.hh b o (ne_of_none e hn) e, g.nw⟩
theorem Same.seqT (e : Same H H') (h : SqT K H a xs) : SqT K H' a xs := by
  rcases h with (h | ⟨o, h⟩) | h
  · exact .inl (.inl (e _ _ h))
  · exact .inl (.inr ⟨o, e _ _ h⟩)
  · exact .inr h
mutual
theorem Dp.mono (e : Same H H') : ∀ (d : PyData) (v : V), Dp K H v d → Dp K H' v d
  | .none, _, h => by cases h; exact .non
  | .bool _, _, h => by cases h; exact .bl _
  | .int _, _, h => by cases h; exact .int _
  | .str _, _, h => by cases h; exact .str _
  | .list ds, _, h => by
    cases h with
    | lst h1 h2 => exact .lst (e.seq h1) (DpAll.mono e ds _ h2)
  | .tuple ds, _, h => by
    cases h with
    | tup h1 h2 => exact .tup (Same.seqT e h1) (DpAll.mono e ds _ h2)
  | .dict _, _, h => by cases h
theorem DpAll.mono (e : Same H H') : ∀ (ds : List PyData) (vs : List V), DpAll K H vs ds → DpAll K H' vs ds
  | [], _, h => by cases h; exact .nil
  | d :: ds, _, h => by
    cases h with
    | cons h1 h2 => exact .cons (Dp.mono e d _ h1) (DpAll.mono e ds _ h2)
end
end

/-! ### operators of any kind -/
section
variable {X : Cx} {f : Value → Value → Sem Value} {r r' : R2}
def orR (r r' : R2) : R2 := fun x y H Q => r x y H Q ∨ r' x y H Q
theorem op_or2 (h : OpR X f r) (h' : OpR X f r') : OpR X f (orR r r') := fun pins s σ H x y v u Q I rx ry q => q.elim (h pins s σ H x y v u Q I rx ry) (h' pins s σ H x y v u Q I rx ry)
theorem ix_or2 (h : IxR X r) (h' : IxR X r') : IxR X (orR r r') := fun a b pins s σ H x y v u Q I rx ry q => q.elim (h a b pins s σ H x y v u Q I rx ry) (h' a b pins s σ H x y v u Q I rx ry)
def orC (r r' : List V → Hp → VK → Prop) : List V → Hp → VK → Prop := fun xs H Q => r xs H Q ∨ r' xs H Q
theorem cr_or2 {f : Value} {r r' : List V → Hp → VK → Prop} (h : CallR X f r) (h' : CallR X f r') : CallR X f (orC r r') := fun pins s σ H xs us Q I rx q => q.elim (h pins s σ H xs us Q I rx) (h' pins s σ H xs us Q I rx)

def zAddI : R2 := rI0 fun i j => .int (i + j)
def zAddS : R2 := fun x y H Q => ∃ i j, x = .str i ∧ y = .str j ∧ i.length + j.length ≤ sizeLine ∧ Q (.str (i ++ j)) H
def zAdd (K : PySem.W.Frag) : R2 := orR zAddI (orR zAddS (orR rCat (rCatA K)))
theorem op_zAdd : OpR X (binaryOp .Add) (zAdd X.K) := op_or2 op_add (op_or2 op_add_str (op_or2 op_cat op_catA))
def zSub : R2 := rI0 fun i j => .int (i - j)
theorem op_zSub : OpR X (binaryOp .Sub) zSub := op_sub
def zMulI : R2 := rI CMul fun i j => .int (i * j)
def zMulW : R2 := rI CMulW fun i j => .int (i * j)
def zMul : R2 := orR zMulI (orR zMulW rRep)
theorem op_zMul : OpR X (binaryOp .Mult) zMul := op_or2 op_mul (op_or2 op_mulW op_rep)
def zMod : R2 := rI (fun _ j => 0 < j) fun i j => .int (i % j)
theorem op_zMod : OpR X (binaryOp .Mod) zMod := op_mod
def zDivS : R2 := rI CDiv fun i j => .int (i / j)
def zDivW : R2 := rI CDivW fun i j => .int (i / j)
def zDiv : R2 := orR zDivS zDivW
theorem op_zDiv : OpR X (binaryOp .FloorDiv) zDiv := op_or2 op_fdiv op_fdivW
def zPow : R2 := rI CPow fun i j => .int (i ^ j.toNat)
theorem op_zPow : OpR X (binaryOp .Pow) zPow := op_pow
def zShl : R2 := rI CPow fun i j => .int (i * 2 ^ j.toNat)
theorem op_zShl : OpR X (binaryOp .LShift) zShl := op_shl
def zShr : R2 := rI (fun _ j => 0 ≤ j) fun i j => .int (i / 2 ^ j.toNat)
theorem op_zShr : OpR X (binaryOp .RShift) zShr := op_shr
def zAnd : R2 := rI0 fun i j => .int (Builtin.bitAnd i j)
theorem op_zAnd : OpR X (binaryOp .BitAnd) zAnd := op_and
def zOr : R2 := rI0 fun i j => .int (Builtin.bitOr i j)
theorem op_zOr : OpR X (binaryOp .BitOr) zOr := op_or
def zEq (K : PySem.W.Frag) : R2 := orR rEq (rEqD K)
theorem op_zEq (hu : X.A.units + 64 < cLine) : OpR X (compareOp .Eq) (zEq X.K) := op_or2 op_eq (op_eqD hu)
def zNe (K : PySem.W.Frag) : R2 := orR rNe (rNeD K)
theorem op_zNe (hu : X.A.units + 64 < cLine) : OpR X (compareOp .NotEq) (zNe X.K) := op_or2 op_ne (op_neD hu)
def zLtI : R2 := rI0 fun i j => .bl (decide (i < j))
def zLt (K : PySem.W.Frag) : R2 := orR zLtI (rLtT K)
theorem op_zLt (hu : X.A.units < cLine) : OpR X (compareOp .Lt) (zLt X.K) := op_or2 op_lt (op_ltT hu)
def zLe : R2 := rI0 fun i j => .bl (decide (i ≤ j))
theorem op_zLe : OpR X (compareOp .LtE) zLe := op_le
def zGt : R2 := rI0 fun i j => .bl (decide (j < i))
theorem op_zGt : OpR X (compareOp .Gt) zGt := op_gt
def zGe : R2 := rI0 fun i j => .bl (decide (j ≤ i))
theorem op_zGe : OpR X (compareOp .GtE) zGe := op_ge
def zIn (K : PySem.W.Frag) : R2 := orR (rIn K false) (orR (rInD K) fun x y H Q => ∃ i j, x = .str i ∧ y = .str j ∧ Q (.bl (!(Builtin.Str.occurrences j i 0 j.length 1).isEmpty)) H)
theorem op_zIn (hu : X.A.units + 65 < cLine) : OpR X (compareOp .In) (zIn X.K) := op_or2 op_in_seq (op_or2 (op_inD hu) op_in_str)
def zNotIn (K : PySem.W.Frag) : R2 := orR (rIn K true) (orR (rNotInD K) fun x y H Q => ∃ i j, x = .str i ∧ y = .str j ∧ Q (.bl (!(!(Builtin.Str.occurrences j i 0 j.length 1).isEmpty))) H)
theorem op_zNotIn (hu : X.A.units + 65 < cLine) : OpR X (compareOp .NotIn) (zNotIn X.K) := op_or2 op_notIn_seq (op_or2 (op_notInD hu) op_notin_str)
def zIsN : R2 := fun x y H Q => y = .non ∧ Q (.bl (decide (x = .non))) H
theorem op_zIsN : OpR X (compareOp .Is) zIsN := op_isN
def zNotN : R2 := fun x y H Q => y = .non ∧ Q (.bl (!decide (x = .non))) H
theorem op_zNotN : OpR X (compareOp .IsNot) zNotN := op_notN
def zLen (K : PySem.W.Frag) : List V → Hp → VK → Prop := fun xs H Q => ∃ x n, xs = [x] ∧ LenV K x H n ∧ Q (.int n) H
theorem cr_zLen : CallR X (.builtin "len") (zLen X.K) := call_len
def zList (K : PySem.W.Frag) : List V → Hp → VK → Prop := fun xs H Q => ∃ p ys, xs = [.ref p] ∧ (SqL K H p ys ∨ SqT K H p ys) ∧ ∀ l, H l = none → Q (.ref l) (upd H l (.lst ys))
theorem cr_zList : CallR X (.type "list") (zList X.K) := call_list_of
def zTuple (K : PySem.W.Frag) : List V → Hp → VK → Prop := fun xs H Q => ∃ p ys, xs = [.ref p] ∧ ((SqL K H p ys ∧ ∀ l, H l = none → Q (.ref l) (upd H l (.tup ys))) ∨ (SqT K H p ys ∧ Q (.ref p) H))
theorem cr_zTuple : CallR X (.type "tuple") (zTuple X.K) := call_tuple_of
theorem _root_.L2.Room.units65 {k : Nat} {A : Around} (r : Room k A) : A.units + 65 < cLine := by
  have := r.un
  omega
def zInt1 : List V → Hp → VK → Prop := fun xs H Q => (∃ i, xs = [.int i] ∧ Q (.int i) H) ∨ ∃ k, xs = [.bl k] ∧ Q (.int (if k then 1 else 0)) H
def zAbs : List V → Hp → VK → Prop := fun xs H Q => ∃ i, xs = [.int i] ∧ Q (.int (if i < 0 then -i else i)) H
def zMax2 : List V → Hp → VK → Prop := fun xs H Q => ∃ i j, xs = [.int i, .int j] ∧ Q (.int (if j > i then j else i)) H
def zMin2 : List V → Hp → VK → Prop := fun xs H Q => ∃ i j, xs = [.int i, .int j] ∧ Q (.int (if j < i then j else i)) H
def zSl (K : PySem.W.Frag) : V → Option Int → Option Int → Hp → VK → Prop := fun x lo hi H Q => rSlL K x lo hi H Q ∨ rSlA K x lo hi H Q
theorem sl_z : SlR X (zSl X.K) := SlR.or sl_list sl_tupA
def zTru (K : PySem.W.Frag) (ta : TE) : TT := fun σ H Q => ta σ H fun x H' => ∃ k, TruV K x H' k ∧ Q k H'
end

/-! ### one lemma a step -/
section
variable {K : PySem.W.Frag} {σ : St} {H : Hp} {D : Ends} {t u : TS} {ta tb tc te : TE} {c c' : TT} {v w x y z : V} {Q : VK} {QB : Bool → Hp → Prop} {QA : List V → Hp → Prop} {i j : Nat} {r r' : R2} {g : TG} {p q a b : Addr} {xs ys : List V} {tA tR : TA} {m n : Int} {k : Bool}
theorem s_seq (h : t { D with nx := u D } σ H) : tSeq t u D σ H := h
theorem s_asgN (h : te σ H fun v H1 => D.nx (σ.set i (some v)) H1) : tAsg te (gName i) D σ H := h
theorem s_asgS (h : te σ H fun v H1 => ta σ H1 fun o H1 => tb σ H1 fun i H2 => rSetL o i v H2 fun H3 => D.nx σ H3) : tAsg te (gSub ta tb rSetL) D σ H := h
theorem s_asgT {n : Nat} {ts : TGs} (h : te σ H fun v H1 => gTup K n ts v σ H1 D.nx) : tAsg te (gTup K n ts) D σ H := h
theorem s_drop (h : te σ H fun _ H1 => D.nx σ H1) : tDrop te D σ H := h
theorem s_ret (h : te σ H fun v H1 => D.rt v H1) : tRet te D σ H := h
theorem s_retN (h : D.rt .non H) : tRetN D σ H := h
theorem s_ifS (h : c σ H fun b H1 => if b = true then t D σ H1 else u D σ H1) : tIfS c t u D σ H := h
theorem s_next (h : D.nx σ H) : tNext D σ H := h
theorem s_break (h : D.bk σ H) : tBreak D σ H := h
theorem s_cont (h : D.ct σ H) : tCont D σ H := h
theorem s_aug {ti : TIp} (h1 : σ[i]? = some (some x)) (h : te σ H fun y H1 => ti x y H1 fun z H2 => D.nx (σ.set i (some z)) H2) : tAug i te ti D σ H := ⟨x, h1, h⟩
theorem e_var (h1 : σ[i]? = some (some v)) (h : Q v H) : tVar i σ H Q := ⟨v, h1, h⟩
theorem e_c (h : Q v H) : tC v σ H Q := h
theorem e_op (h : ta σ H fun x H1 => tb σ H1 fun y H2 => r x y H2 Q) : tOp r ta tb σ H Q := h
theorem e_un {r : V → Hp → VK → Prop} (h : ta σ H fun x H1 => r x H1 Q) : tUn r ta σ H Q := h
theorem e_chain (h : ta σ H fun x H1 => tb σ H1 fun y H2 => r x y H2 fun z H3 => ∃ k, z = .bl k ∧ (if k = true then tc σ H3 fun w' H4 => r' y w' H4 Q else Q (.bl false) H3)) : tChain r r' ta tb tc σ H Q := h
theorem e_cb {r : List V → Hp → VK → Prop} (h : tA σ H fun vs H1 => r vs H1 Q) : tCB r tA σ H Q := h
theorem e_call {sp : Sp} {E : XK} (h : tA σ H fun vs H1 => sp (vs ++ []) H1 Q E) : tCall sp [] E tA σ H Q := h
theorem a_nil (h : QA [] H) : tNil σ H QA := h
theorem a_cons (h : ta σ H fun x H1 => tR σ H1 fun xs H2 => QA (x :: xs) H2) : tCons ta tR σ H QA := h
theorem e_if (h : c σ H fun b H1 => if b = true then ta σ H1 Q else tb σ H1 Q) : tIf c ta tb σ H Q := h
theorem e_andV (h : ta σ H fun x H1 => ∃ c, x = .bl c ∧ if c = true then tb σ H1 Q else Q (.bl false) H1) : tAndV ta tb σ H Q := h
theorem e_orV (h : ta σ H fun x H1 => ∃ c, x = .bl c ∧ if c = true then Q (.bl true) H1 else tb σ H1 Q) : tOrV ta tb σ H Q := h
theorem e_notV (h : ta σ H fun x H1 => ∃ c, x = .bl c ∧ Q (.bl (!c)) H1) : tNotV ta σ H Q := h
theorem c_test (h : ta σ H fun x H1 => ∃ k, x = .bl k ∧ QB k H1) : tTest ta σ H QB := h
theorem c_B (h : ta σ H fun x H1 => ∃ k, x = .bl k ∧ QB k H1) : tB ta σ H QB := h
theorem c_and (h : c σ H fun b H1 => if b = true then c' σ H1 QB else QB false H1) : tAnd c c' σ H QB := h
theorem c_or (h : c σ H fun b H1 => if b = true then QB true H1 else c' σ H1 QB) : tOr c c' σ H QB := h
theorem c_not (h : c σ H fun b H1 => QB (!b) H1) : tNot c σ H QB := h
theorem c_tru (h : ta σ H fun x H' => ∃ k, TruV K x H' k ∧ QB k H') : zTru K ta σ H QB := h
theorem bl_ (h : QB k H) : ∃ k', V.bl k = .bl k' ∧ QB k' H := ⟨k, rfl, h⟩
theorem if_dec {p A B : Prop} {_inst : Decidable p} (h1 : p → A) (h2 : ¬ p → B) : if decide p = true then A else B := by
  by_cases h : p
  · rw [decide_eq_true h]
    exact iteT (h1 h)
  · rw [decide_eq_false h]
    exact iteF (h2 h)
theorem if_ndec {p A B : Prop} {_inst : Decidable p} (h1 : ¬ p → A) (h2 : p → B) : if (!decide p) = true then A else B := by
  by_cases h : p
  · rw [decide_eq_true h]
    exact iteF (h2 h)
  · rw [decide_eq_false h]
    exact iteT (h1 h)
theorem if_t {p A B : Prop} {_inst : Decidable p} (h : p) (h1 : A) : if decide p = true then A else B := if_dec (fun _ => h1) fun z => absurd h z
theorem if_f {p A B : Prop} {_inst : Decidable p} (h : ¬ p) (h1 : B) : if decide p = true then A else B := if_dec (fun z => absurd z h) fun _ => h1
theorem if_nt {p A B : Prop} {_inst : Decidable p} (h : ¬ p) (h1 : A) : if (!decide p) = true then A else B := if_ndec (fun _ => h1) fun z => absurd z h
theorem if_nf {p A B : Prop} {_inst : Decidable p} (h : p) (h1 : B) : if (!decide p) = true then A else B := if_ndec (fun z => absurd h z) fun _ => h1
theorem ref_ne {a : Addr} : ¬ (V.ref a = V.non) := fun h => by cases h
theorem int_ne {i : Int} : ¬ (V.int i = V.non) := fun h => by cases h
theorem str_ne {z : Str} : ¬ (V.str z = V.non) := fun h => by cases h
theorem if_b {b : Bool} {A B : Prop} (h1 : b = true → A) (h2 : b = false → B) : if b = true then A else B := by
  cases b with
  | true => exact iteT (h1 rfl)
  | false => exact iteF (h2 rfl)
theorem if_nb {b : Bool} {A B : Prop} (h1 : b = false → A) (h2 : b = true → B) : if (!b) = true then A else B := by
  cases b with
  | true => exact iteF (h2 rfl)
  | false => exact iteT (h1 rfl)
theorem iteNT {A B : Prop} (h : B) : if (!true) = true then A else B := iteF h
theorem iteNF {A B : Prop} (h : A) : if (!false) = true then A else B := iteT h
theorem o_isNr {a : Addr} {H : Hp} {Q : VK} (h : Q (.bl false) H) : zIsN (.ref a) .non H Q := ⟨rfl, h⟩
theorem o_isNi {i : Int} {H : Hp} {Q : VK} (h : Q (.bl false) H) : zIsN (.int i) .non H Q := ⟨rfl, h⟩
theorem o_isNs {i : Str} {H : Hp} {Q : VK} (h : Q (.bl false) H) : zIsN (.str i) .non H Q := ⟨rfl, h⟩
theorem o_isNn {H : Hp} {Q : VK} (h : Q (.bl true) H) : zIsN .non .non H Q := ⟨rfl, h⟩
theorem o_notNr {a : Addr} {H : Hp} {Q : VK} (h : Q (.bl true) H) : zNotN (.ref a) .non H Q := ⟨rfl, h⟩
theorem o_notNi {i : Int} {H : Hp} {Q : VK} (h : Q (.bl true) H) : zNotN (.int i) .non H Q := ⟨rfl, h⟩
theorem o_notNs {i : Str} {H : Hp} {Q : VK} (h : Q (.bl true) H) : zNotN (.str i) .non H Q := ⟨rfl, h⟩
theorem o_notNn {H : Hp} {Q : VK} (h : Q (.bl false) H) : zNotN .non .non H Q := ⟨rfl, h⟩
theorem t_bl {K : PySem.W.Frag} {b : Bool} {H : Hp} {QB : Bool → Hp → Prop} (h : QB b H) : ∃ k, TruV K (.bl b) H k ∧ QB k H := ⟨b, rfl, h⟩
theorem t_int {K : PySem.W.Frag} {i : Int} {H : Hp} {QB : Bool → Hp → Prop} (h : QB (i != 0) H) : ∃ k, TruV K (.int i) H k ∧ QB k H := ⟨_, rfl, h⟩
theorem t_lst {K : PySem.W.Frag} {a : Addr} {xs : List V} {H : Hp} {QB : Bool → Hp → Prop} (hs : SqL K H a xs) (h : QB (!xs.isEmpty) H) : ∃ k, TruV K (.ref a) H k ∧ QB k H := ⟨_, .inl ⟨xs, hs, rfl⟩, h⟩
theorem bl_if {k : Bool} {P : Bool → Prop} (h : P k) : ∃ k', V.bl k = .bl k' ∧ P k' := ⟨k, rfl, h⟩
theorem e_tup (h : tA σ H fun xs H1 => xs.length ≤ sizeLine ∧ ∀ p, H1 p = none → Q (.ref p) (upd H1 p (.tup xs))) : tTup tA σ H Q := h
theorem e_lst (h : tA σ H fun xs H1 => xs.length ≤ sizeLine ∧ ∀ p, H1 p = none → Q (.ref p) (upd H1 p (.lst xs))) : tLst tA σ H Q := h
theorem g_tup {n : Nat} {ts : TGs} {QS : St → Hp → Prop} (h : SqT K H a xs) (hn : xs.length = n) (k : ts xs σ H QS) : gTup K n ts (.ref a) σ H QS := ⟨a, xs, rfl, h, hn, k⟩
theorem g_name {QS : St → Hp → Prop} (h : QS (σ.set i (some v)) H) : gName i v σ H QS := h
theorem g_cons {ts : TGs} {QS : St → Hp → Prop} (h : g v σ H fun σ' H' => ts xs σ' H' QS) : gCons g ts (v :: xs) σ H QS := ⟨v, xs, rfl, h⟩
theorem g_nil {QS : St → Hp → Prop} (h : QS σ H) : gNil [] σ H QS := ⟨rfl, h⟩
-- operators by values
theorem o_add (h : Q (.int (m + n)) H) : zAdd K (.int m) (.int n) H Q := .inl ⟨m, n, rfl, rfl, h⟩
theorem o_addS {m n : Str} (hl : m.length + n.length ≤ sizeLine) (h : Q (.str (m ++ n)) H) : zAdd K (.str m) (.str n) H Q := .inr (.inl ⟨m, n, rfl, rfl, hl, h⟩)
theorem o_addL (ha : H a = some (.lst xs)) (hb : H b = some (.lst ys)) (hl : xs.length + ys.length ≤ sizeLine) (h : ∀ p, Fresh H p → Q (.ref p) (upd H p (.lst (xs ++ ys)))) : zAdd K (.ref a) (.ref b) H Q := .inr (.inr (.inl ⟨a, b, xs, ys, rfl, rfl, ha, hb, hl, h⟩))
theorem o_addT (ha : SqT K H a xs) (hb : SqT K H b ys) (hl : xs.length + ys.length ≤ sizeLine) (h1 : xs = [] → Q (.ref b) H) (h2 : xs ≠ [] → ys = [] → Q (.ref a) H) (h : xs ≠ [] → ys ≠ [] → ∀ p, Fresh H p → Q (.ref p) (upd H p (.tup (xs ++ ys)))) :
    zAdd K (.ref a) (.ref b) H Q := .inr (.inr (.inr ⟨a, b, xs, ys, rfl, rfl, ha, hb, hl, h1, h2, h⟩))
theorem o_sub (h : Q (.int (m - n)) H) : zSub (.int m) (.int n) H Q := ⟨m, n, rfl, rfl, h⟩
theorem o_mul (hc : CMul m n) (h : Q (.int (m * n)) H) : zMul (.int m) (.int n) H Q := .inl ⟨m, n, rfl, rfl, hc, h⟩
theorem o_mulW (hc : CMulW m n) (h : Q (.int (m * n)) H) : zMul (.int m) (.int n) H Q := .inr (.inl ⟨m, n, rfl, rfl, hc, h⟩)
theorem o_rep (ha : H a = some (.lst xs)) (h1 : -(2 ^ 63) ≤ n) (h2 : n < 2 ^ 63) (hl : xs.length * n.toNat ≤ sizeLine) (h : rRep (.ref a) (.int n) H Q) : zMul (.ref a) (.int n) H Q := .inr (.inr h)
theorem o_mod (hc : 0 < n) (h : Q (.int (m % n)) H) : zMod (.int m) (.int n) H Q := ⟨m, n, rfl, rfl, hc, h⟩
theorem o_div (hc : 0 < n) (hn : n < 1073741824) (h : Q (.int (m / n)) H) : zDiv (.int m) (.int n) H Q := .inl ⟨m, n, rfl, rfl, ⟨hc, hn⟩, h⟩
theorem o_divW (hc : CDivW m n) (h : Q (.int (m / n)) H) : zDiv (.int m) (.int n) H Q := .inr ⟨m, n, rfl, rfl, hc, h⟩
theorem o_pow (hc : CPow m n) (h : Q (.int (m ^ n.toNat)) H) : zPow (.int m) (.int n) H Q := ⟨m, n, rfl, rfl, hc, h⟩
theorem o_lt (h : Q (.bl (decide (m < n))) H) : zLt K (.int m) (.int n) H Q := .inl ⟨m, n, rfl, rfl, h⟩
theorem o_ltT {ms ns : List Int} (ha : SqT K H a (ms.map V.int)) (hb : SqT K H b (ns.map V.int)) (h : Q (.bl (HT.lexLt ms ns)) H) : zLt K (.ref a) (.ref b) H Q := .inr ⟨a, b, ms, ns, rfl, rfl, ha, hb, h⟩
theorem o_le (h : Q (.bl (decide (m ≤ n))) H) : zLe (.int m) (.int n) H Q := ⟨m, n, rfl, rfl, h⟩
theorem o_gt (h : Q (.bl (decide (n < m))) H) : zGt (.int m) (.int n) H Q := ⟨m, n, rfl, rfl, h⟩
theorem o_ge (h : Q (.bl (decide (n ≤ m))) H) : zGe (.int m) (.int n) H Q := ⟨m, n, rfl, rfl, h⟩
theorem o_eq (hs : scal x y = true) (h : Q (.bl (decide (x = y))) H) : zEq K x y H Q := .inl ⟨hs, h⟩
theorem o_ne (hs : scal x y = true) (h : Q (.bl (!decide (x = y))) H) : zNe K x y H Q := .inl ⟨hs, h⟩
theorem o_eqI (h : Q (.bl (decide (m = n))) H) : zEq K (.int m) (.int n) H Q := .inl ⟨rfl, (decide_eq_decide.mpr ⟨fun e => V.int.inj e, fun e => by rw [e]⟩ : decide (V.int m = V.int n) = decide (m = n)) ▸ h⟩
theorem o_neI (h : Q (.bl (!decide (m = n))) H) : zNe K (.int m) (.int n) H Q := .inl ⟨rfl, (decide_eq_decide.mpr ⟨fun e => V.int.inj e, fun e => by rw [e]⟩ : decide (V.int m = V.int n) = decide (m = n)) ▸ h⟩
theorem o_eqD {d e : PyData} (hx : Dp K H x d) (hy : Dp K H y e) (sd : SeqAt.shaped d = true) (se : SeqAt.shaped e = true) (h : Q (.bl (PyData.eqv d e)) H) : zEq K x y H Q := .inr ⟨d, e, hx, hy, sd, se, h⟩
theorem o_neD {d e : PyData} (hx : Dp K H x d) (hy : Dp K H y e) (sd : SeqAt.shaped d = true) (se : SeqAt.shaped e = true) (h : Q (.bl (!PyData.eqv d e)) H) : zNe K x y H Q := .inr ⟨d, e, hx, hy, sd, se, h⟩
theorem o_isN (h : Q (.bl (decide (x = .non))) H) : zIsN x .non H Q := ⟨rfl, h⟩
theorem o_notN (h : Q (.bl (!decide (x = .non))) H) : zNotN x .non H Q := ⟨rfl, h⟩
theorem o_neg (h : Q (.int (-m)) H) : rU (fun i => .int (-i)) (.int m) H Q := ⟨m, rfl, h⟩
theorem o_ixL (hl : SqL K H a xs) (hi : atI xs m = some v) (h : Q v H) : rIx K (.ref a) (.int m) H Q := .inl ⟨a, xs, m, v, rfl, rfl, hl, hi, h⟩
theorem o_ixT (hl : SqT K H a xs) (hi : atI xs m = some v) (h : Q v H) : rIx K (.ref a) (.int m) H Q := .inr (.inl ⟨a, xs, m, v, rfl, rfl, hl, hi, h⟩)
theorem o_setL (hl : H a = some (.lst xs)) (hi : ixN xs.length m = some j) {QH : Hp → Prop} (h : QH (upd H a (.lst (xs.set j v)))) : rSetL (.ref a) (.int m) v H QH := ⟨a, xs, m, j, rfl, rfl, hl, hi, h⟩
theorem o_lenL (hl : SqL K H a xs) (h : Q (.int xs.length) H) : zLen K [.ref a] H Q := ⟨_, _, rfl, .inl ⟨xs, hl, rfl⟩, h⟩
theorem o_lenT (hl : SqT K H a xs) (h : Q (.int xs.length) H) : zLen K [.ref a] H Q := ⟨_, _, rfl, .inr ⟨xs, hl, rfl⟩, h⟩
theorem o_lenS {m : Str} (hl : m.length ≤ sizeLine) (h : Q (.int m.length) H) : zLen K [.str m] H Q := ⟨_, _, rfl, ⟨hl, rfl⟩, h⟩
theorem o_listL (hl : SqL K H a xs) (h : ∀ p, Fresh H p → Q (.ref p) (upd H p (.lst xs))) : zList K [.ref a] H Q := ⟨a, xs, rfl, .inl hl, h⟩
theorem o_listT (hl : SqT K H a xs) (h : ∀ p, Fresh H p → Q (.ref p) (upd H p (.lst xs))) : zList K [.ref a] H Q := ⟨a, xs, rfl, .inr hl, h⟩
theorem o_tupleL (hl : SqL K H a xs) (h : ∀ p, Fresh H p → Q (.ref p) (upd H p (.tup xs))) : zTuple K [.ref a] H Q := ⟨a, xs, rfl, .inl ⟨hl, h⟩⟩
theorem o_tupleT (hl : SqT K H a xs) (h : Q (.ref a) H) : zTuple K [.ref a] H Q := ⟨a, xs, rfl, .inr ⟨hl, h⟩⟩
theorem o_sum {ns : List Int} (hl : SqL K H a (ns.map V.int)) (h : Q (.int ns.sum) H) : rSum K [.ref a] H Q := ⟨a, ns, rfl, hl, h⟩
theorem o_ipI {f : Int → Int → Int} (h : Q (.int (f m n)) H) : ipI f (.int m) (.int n) H Q := ⟨m, n, rfl, rfl, h⟩
theorem m_app (hl : H a = some (.lst xs)) (hz : xs.length < sizeLine) (h : Q .non (upd H a (.lst (xs ++ [v])))) : rAppend (.ref a) [v] H Q := ⟨a, xs, v, rfl, rfl, hl, hz, h⟩
theorem e_bm {T : String} {r : V → List V → Hp → VK → Prop} (h : ta σ H fun x H1 => tyV K T x H1 ∧ tA σ H1 fun xs H2 => r x xs H2 Q) : tBM K T r ta tA σ H Q := h
theorem e_bm0 {T : String} {r : V → List V → Hp → VK → Prop} (h : ta σ H fun x H1 => tyV K T x H1 ∧ r x [] H1 Q) : tBM0 K T r ta σ H Q := h
theorem ty_list (hl : SqL K H a xs) : tyV K "list" (.ref a) H := .inl ⟨rfl, xs, hl⟩
-- loops
def LpW (J : It) (g : TG) (t : TS) (D : Ends) (σ : St) (H : Hp) : Prop := ∃ W : Nat → Nat → St → Hp → Prop, (∃ m, W 0 m σ H) ∧ ∀ i m σ' H', W i m σ' H' →
  (J.stop i H' ∧ D.nx σ' H') ∨ (J.go i H' ∧ ∃ N : St → Hp → Prop, (∀ σ2 H2, N σ2 H2 → ∃ m', m' < m ∧ W (i + 1) m' σ2 H2) ∧ ∀ x H2, J.yld i H' x H2 → g x σ' H2 fun σ3 H3 => t { D with nx := N, ct := N, bk := D.nx } σ3 H3)
def LpL (K : PySem.W.Frag) (g : TG) (t : TS) (D : Ends) (σ : St) (x : V) (H : Hp) : Prop := ∃ a, x = .ref a ∧ (∃ xs, SqL K H a xs) ∧ LpW (Itl K a) g t D σ H
def LpT (K : PySem.W.Frag) (g : TG) (t : TS) (D : Ends) (σ : St) (x : V) (H : Hp) : Prop := ∃ a, x = .ref a ∧ (∃ xs, SqT K H a xs) ∧ LpW (Itt K a) g t D σ H
def LpR1 (g : TG) (t : TS) (D : Ends) (σ : St) (x : V) (H : Hp) : Prop := ∃ j : Int, [x] = [V.int j] ∧ -(2 ^ 62) ≤ j ∧ j < 2 ^ 62 ∧ LpW (Itr 0 j.toNat) g t D σ H
def LpR2 (g : TG) (t : TS) (D : Ends) (σ : St) (x y : V) (H : Hp) : Prop := ∃ i j : Int, [x, y] = [V.int i, V.int j] ∧ (-(2 ^ 62) ≤ i ∧ i < 2 ^ 62 ∧ -(2 ^ 62) ≤ j ∧ j < 2 ^ 62) ∧ LpW (Itr i (j - i).toNat) g t D σ H
def LpE (K : PySem.W.Frag) (g : TG) (t : TS) (D : Ends) (σ : St) (x : V) (H : Hp) : Prop := ∃ a xs, [x] = [V.ref a] ∧ SqL K H a xs ∧ LpW (Ite K a) g t D σ H
theorem s_forL (h : ta σ H fun x H1 => LpL K g t D σ x H1) : tFor (iList K ta) g t D σ H := h
theorem s_forT (h : ta σ H fun x H1 => LpT K g t D σ x H1) : tFor (iTup K ta) g t D σ H := h
theorem s_forR1 (h : ta σ H fun x H1 => LpR1 g t D σ x H1) : tFor (iRng1 (tCons ta tNil)) g t D σ H := h
theorem s_forR2 (h : ta σ H fun x H1 => tb σ H1 fun y H2 => LpR2 g t D σ x y H2) : tFor (iRng2 (tCons ta (tCons tb tNil))) g t D σ H := h
theorem s_forE (h : ta σ H fun x H1 => LpE K g t D σ x H1) : tFor (iEnum K (tCons ta tNil)) g t D σ H := h
theorem lp_list (hs : SqL K H a xs) (Pv : Nat → St → Hp → Prop) (h0 : Pv 0 σ H) (hl : ∀ i σ' H', i ≤ xs.length → Pv i σ' H' → SqL K H' a xs)
    (hb : ∀ i x σ' H', xs[i]? = some x → Pv i σ' H' → g x σ' H' fun σ2 H2 => t { D with nx := Pv (i + 1), ct := Pv (i + 1), bk := D.nx } σ2 H2) (hd : ∀ σ' H', Pv xs.length σ' H' → D.nx σ' H') : LpL K g t D σ (.ref a) H :=
  ⟨a, rfl, ⟨xs, hs⟩, for_list Pv h0 hl hb hd⟩
theorem lp_tup (hs : SqT K H a xs) (Pv : Nat → St → Hp → Prop) (h0 : Pv 0 σ H) (hl : ∀ i σ' H', i ≤ xs.length → Pv i σ' H' → SqT K H' a xs)
    (hb : ∀ i x σ' H', xs[i]? = some x → Pv i σ' H' → g x σ' H' fun σ2 H2 => t { D with nx := Pv (i + 1), ct := Pv (i + 1), bk := D.nx } σ2 H2) (hd : ∀ σ' H', Pv xs.length σ' H' → D.nx σ' H') : LpT K g t D σ (.ref a) H :=
  ⟨a, rfl, ⟨xs, hs⟩, for_tup Pv h0 hl hb hd⟩
theorem lp_range1 (hr : -(2 ^ 62) ≤ n ∧ n < 2 ^ 62) (Pv : Nat → St → Hp → Prop) (h0 : Pv 0 σ H)
    (hb : ∀ (i : Nat) σ' H', (i : Int) < n → Pv i σ' H' → g (.int (i : Int)) σ' H' fun σ2 H2 => t { D with nx := Pv (i + 1), ct := Pv (i + 1), bk := D.nx } σ2 H2) (hd : ∀ σ' H', Pv n.toNat σ' H' → D.nx σ' H') : LpR1 g t D σ (.int n) H :=
  ⟨n, rfl, hr.1, hr.2, for_range (lo := 0) Pv h0 (fun i σ' H' hi p => by
    have e : (0 : Int) + (i : Int) = (i : Int) := Int.zero_add _
    rw [e]
    exact hb i σ' H' (by omega) p) hd⟩
theorem lp_range2 (hr : -(2 ^ 62) ≤ m ∧ m < 2 ^ 62 ∧ -(2 ^ 62) ≤ n ∧ n < 2 ^ 62) (Pv : Nat → St → Hp → Prop) (h0 : Pv 0 σ H)
    (hb : ∀ (i : Nat) σ' H', m + (i : Int) < n → Pv i σ' H' → g (.int (m + i)) σ' H' fun σ2 H2 => t { D with nx := Pv (i + 1), ct := Pv (i + 1), bk := D.nx } σ2 H2) (hd : ∀ σ' H', Pv (n - m).toNat σ' H' → D.nx σ' H') : LpR2 g t D σ (.int m) (.int n) H :=
  ⟨m, n, rfl, hr, for_range Pv h0 (fun i σ' H' hi p => hb i σ' H' (by
    have h : i < (n - m).toNat := hi
    omega) p) hd⟩
theorem lp_enum (hs : SqL K H a xs) (Pv : Nat → St → Hp → Prop) (h0 : Pv 0 σ H) (hl : ∀ i σ' H', i ≤ xs.length → Pv i σ' H' → SqL K H' a xs)
    (hb : ∀ i x σ' H' q, xs[i]? = some x → Pv i σ' H' → Fresh H' q → g (.ref q) σ' (upd H' q (.tup [.int (i : Int), x])) fun σ2 H2 => t { D with nx := Pv (i + 1), ct := Pv (i + 1), bk := D.nx } σ2 H2)
    (hd : ∀ σ' H', Pv xs.length σ' H' → D.nx σ' H') : LpE K g t D σ (.ref a) H := by
  refine ⟨a, xs, rfl, hs, fun i m σ' H' => m = xs.length - i ∧ i ≤ xs.length ∧ Pv i σ' H', ⟨xs.length, by simp, Nat.zero_le _, h0⟩, ?_⟩
  rintro i m σ' H' ⟨rfl, hi, pv⟩
  have sq := hl i σ' H' hi pv
  by_cases c : i < xs.length
  · refine .inr ⟨⟨xs, xs[i], sq, List.getElem?_eq_getElem c⟩, Pv (i + 1), fun σ2 H2 p2 => ⟨xs.length - (i + 1), by omega, rfl, c, p2⟩, fun x H2 y => ?_⟩
    obtain ⟨q, z, rfl, nq, rfl, f⟩ := y
    exact hb i z σ' H' q (f xs sq) pv nq
  · have e : i = xs.length := by omega
    subst e
    exact .inl ⟨⟨xs, sq, Nat.le_refl _⟩, hd σ' H' pv⟩
end

end Z

/-! Zd: plain data (no truth, no dict): == is equality; tuples of ints. -/
namespace Z
open PySem PySem.Spec L2
open PyProof.Rows hiding St
mutual
def nob : PyData → Bool
  | .none | .int _ | .str _ => true
  | .bool _ | .dict _ => false
  | .list xs | .tuple xs => nobAll xs
def nobAll : List PyData → Bool
  | [] => true
  | x :: xs => nob x && nobAll xs
end
structure Pl (n : Nat) (d : PyData) : Prop where
  lay : d.canLay0 = true
  dep : d.depth ≤ n
  nob : nob d = true
theorem all_iff {f : PyData → Bool} {g : List PyData → Bool} (h0 : g [] = true) (h1 : ∀ x xs, g (x :: xs) = (f x && g xs)) : ∀ xs, (∀ x ∈ xs, f x = true) → g xs = true
  | [], _ => h0
  | x :: xs, h => by
    rw [h1, h x List.mem_cons_self, all_iff h0 h1 xs fun y hy => h y (List.mem_cons_of_mem _ hy)]
    rfl
theorem depthAll_le {n : Nat} : ∀ xs : List PyData, (∀ x ∈ xs, x.depth ≤ n) → PyData.depthAll xs ≤ n
  | [], _ => Nat.zero_le _
  | x :: xs, h => by
    show max x.depth (PyData.depthAll xs) ≤ n
    have a := h x List.mem_cons_self
    have b := depthAll_le xs fun y hy => h y (List.mem_cons_of_mem _ hy)
    omega
theorem pl_none {n : Nat} : Pl n .none := ⟨rfl, Nat.zero_le _, rfl⟩
theorem pl_int {n : Nat} {i : Int} : Pl n (.int i) := ⟨rfl, Nat.zero_le _, rfl⟩
theorem pl_str {n : Nat} {x : Str} (h : PyData.canLay0 (.str x) = true := by decide +kernel) : Pl n (.str x) := ⟨h, Nat.zero_le _, rfl⟩
theorem pl_tup {n : Nat} {ds : List PyData} (h : ∀ d ∈ ds, Pl n d) : Pl (n + 1) (.tuple ds) :=
  ⟨all_iff (f := PyData.canLay0) (g := PyData.canLayAll0) rfl (fun _ _ => rfl) ds fun d hd => (h d hd).lay, Nat.succ_le_succ (depthAll_le ds fun d hd => (h d hd).dep), all_iff (f := nob) (g := nobAll) rfl (fun _ _ => rfl) ds fun d hd => (h d hd).nob⟩
theorem pl_lst {n : Nat} {ds : List PyData} (h : ∀ d ∈ ds, Pl n d) : Pl (n + 1) (.list ds) :=
  ⟨all_iff (f := PyData.canLay0) (g := PyData.canLayAll0) rfl (fun _ _ => rfl) ds fun d hd => (h d hd).lay, Nat.succ_le_succ (depthAll_le ds fun d hd => (h d hd).dep), all_iff (f := nob) (g := nobAll) rfl (fun _ _ => rfl) ds fun d hd => (h d hd).nob⟩
theorem Pl.shaped {n : Nat} {d : PyData} (h : Pl n d) (hn : n ≤ 64) : SeqAt.shaped d = true := by
  unfold SeqAt.shaped
  rw [h.lay, Bool.true_and]
  exact decide_eq_true (Nat.le_trans h.dep hn)
mutual
theorem eqv_iff : ∀ d e : PyData, nob d = true → nob e = true → (PyData.eqv d e = true ↔ d = e)
  | .none, e, _, he => by cases e <;> simp_all [PyData.eqv, nob]
  | .bool _, _, hd, _ => by cases hd
  | .int i, e, _, he => by cases e <;> simp_all [PyData.eqv, nob]
  | .str x, e, _, he => by cases e <;> simp_all [PyData.eqv, nob]
  | .list xs, e, hd, he => by
    cases e with
    | list ys =>
      have h := eqvAll_iff xs ys hd he
      show PyData.eqvAll xs ys = true ↔ _
      rw [h]
      exact ⟨fun z => by rw [z], fun z => by cases z; rfl⟩
    | bool _ => cases he
    | dict _ => cases he
    | none => simp [PyData.eqv]
    | int _ => simp [PyData.eqv]
    | str _ => simp [PyData.eqv]
    | tuple _ => simp [PyData.eqv]
  | .tuple xs, e, hd, he => by
    cases e with
    | tuple ys =>
      have h := eqvAll_iff xs ys hd he
      show PyData.eqvAll xs ys = true ↔ _
      rw [h]
      exact ⟨fun z => by rw [z], fun z => by cases z; rfl⟩
    | bool _ => cases he
    | dict _ => cases he
    | none => simp [PyData.eqv]
    | int _ => simp [PyData.eqv]
    | str _ => simp [PyData.eqv]
    | list _ => simp [PyData.eqv]
  | .dict _, _, hd, _ => by cases hd
theorem eqvAll_iff : ∀ xs ys : List PyData, nobAll xs = true → nobAll ys = true → (PyData.eqvAll xs ys = true ↔ xs = ys)
  | [], [], _, _ => by simp [PyData.eqvAll]
  | [], _ :: _, _, _ => by simp [PyData.eqvAll]
  | _ :: _, [], _, _ => by simp [PyData.eqvAll]
  | x :: xs, y :: ys, h1, h2 => by
    have a := Bool.and_eq_true_iff.mp (show (nob x && nobAll xs) = true from h1)
    have b := Bool.and_eq_true_iff.mp (show (nob y && nobAll ys) = true from h2)
    show (PyData.eqv x y && PyData.eqvAll xs ys) = true ↔ _
    rw [Bool.and_eq_true_iff, eqv_iff x y a.1 b.1, eqvAll_iff xs ys a.2 b.2, List.cons.injEq]
end
theorem Pl.eqv {n m : Nat} {d e : PyData} (a : Pl n d) (b : Pl m e) {p : Prop} [Decidable p] (h : d = e ↔ p) : PyData.eqv d e = decide p := by
  have q := (eqv_iff d e a.nob b.nob).trans h
  by_cases hp : p
  · rw [decide_eq_true hp]
    exact q.mpr hp
  · rw [decide_eq_false hp]
    exact Bool.eq_false_iff.mpr fun z => hp (q.mp z)
theorem Pl.refl {n : Nat} {d : PyData} (a : Pl n d) : PyData.eqv d d = true := (eqv_iff d d a.nob a.nob).mpr rfl

/-! ### tuples of ints -/
abbrev dI (ns : List Int) : PyData := .tuple (ns.map .int)
abbrev dLI (dss : List (List Int)) : PyData := .list (dss.map dI)
theorem pl_dI {ns : List Int} : Pl 1 (dI ns) := pl_tup fun d hd => by
  obtain ⟨i, _, rfl⟩ := List.mem_map.mp hd
  exact pl_int
theorem pl_dLI {dss : List (List Int)} : Pl 2 (dLI dss) := pl_lst fun d hd => by
  obtain ⟨i, _, rfl⟩ := List.mem_map.mp hd
  exact pl_dI
theorem map_int_inj : ∀ {a b : List Int}, a.map PyData.int = b.map PyData.int → a = b
  | [], [], _ => rfl
  | [], _ :: _, h => by cases h
  | _ :: _, [], h => by cases h
  | x :: a, y :: b, h => by
    rw [List.map_cons, List.map_cons, List.cons.injEq] at h
    rw [PyData.int.inj h.1, map_int_inj h.2]
theorem dI_inj {a b : List Int} : dI a = dI b ↔ a = b := ⟨fun h => map_int_inj (PyData.tuple.inj h), fun h => by rw [h]⟩
theorem map_V_inj : ∀ {a b : List Int}, a.map V.int = b.map V.int → a = b
  | [], [], _ => rfl
  | [], _ :: _, h => by cases h
  | _ :: _, [], h => by cases h
  | x :: a, y :: b, h => by
    rw [List.map_cons, List.map_cons, List.cons.injEq] at h
    rw [V.int.inj h.1, map_V_inj h.2]
section
variable {K : PySem.W.Frag} {H H' F : Hp}
theorem dpAll_ints : ∀ ns : List Int, DpAll K H (ns.map V.int) (ns.map PyData.int)
  | [] => .nil
  | n :: ns => .cons (.int n) (dpAll_ints ns)
/-- v is a tuple of the ints ns -/
def TI (H : Hp) (v : V) (ns : List Int) : Prop := ∃ t, v = .ref t ∧ H t = some (.tup (ns.map V.int))
theorem TI.mono (e : Same H H') {v : V} {ns : List Int} (h : TI H v ns) : TI H' v ns := by
  obtain ⟨t, rfl, h⟩ := h
  exact ⟨t, rfl, e _ _ h⟩
theorem TI.dp {v : V} {ns : List Int} (h : TI H v ns) : Dp K H v (dI ns) := by
  obtain ⟨t, rfl, h⟩ := h
  exact .tup (SqT.of h) (dpAll_ints ns)
abbrev TIs (H : Hp) : List V → List (List Int) → Prop := Paired (TI H)
theorem TIs.mono (e : Same H H') {vs : List V} {nss : List (List Int)} (h : TIs H vs nss) : TIs H' vs nss := Paired.mono (fun _ _ => TI.mono e) h
theorem TIs.dp : ∀ {vs : List V} {nss : List (List Int)}, TIs H vs nss → DpAll K H vs (nss.map dI)
  | _, _, .nil => .nil
  | _, _, .cons h t => .cons h.dp (TIs.dp t)
theorem TIs.get : ∀ {vs : List V} {nss : List (List Int)} {i : Nat} {v : V}, TIs H vs nss → vs[i]? = some v → ∃ ns, nss[i]? = some ns ∧ TI H v ns
  | _, _, 0, _, .cons h _, e => by
    rw [List.getElem?_cons_zero] at e
    cases e
    exact ⟨_, rfl, h⟩
  | _, _, i + 1, _, .cons _ t, e => by
    rw [List.getElem?_cons_succ] at e ⊢
    exact TIs.get t e
theorem TIs.app {vs ws : List V} {nss mss : List (List Int)} (h : TIs H vs nss) (k : TIs H ws mss) : TIs H (vs ++ ws) (nss ++ mss) := by
  induction h with
  | nil => exact k
  | cons a _ ih => exact .cons a ih
theorem TIs.take : ∀ {vs : List V} {nss : List (List Int)} (n : Nat), TIs H vs nss → TIs H (vs.take n) (nss.take n)
  | _, _, 0, _ => .nil
  | _, _, _ + 1, .nil => .nil
  | _, _, n + 1, .cons h t => .cons h (TIs.take n t)
theorem TIs.drop : ∀ {vs : List V} {nss : List (List Int)} (n : Nat), TIs H vs nss → TIs H (vs.drop n) (nss.drop n)
  | _, _, 0, h => h
  | _, _, _ + 1, .nil => .nil
  | _, _, n + 1, .cons _ t => TIs.drop n t
theorem TIs.set {v : V} {ns : List Int} (h : TI H v ns) : ∀ {vs : List V} {nss : List (List Int)} (i : Nat), TIs H vs nss → TIs H (vs.set i v) (nss.set i ns)
  | _, _, _, .nil => .nil
  | _, _, 0, .cons _ t => .cons h t
  | _, _, i + 1, .cons a t => .cons a (TIs.set h i t)
theorem TIs.erase : ∀ {vs : List V} {nss : List (List Int)} (i : Nat), TIs H vs nss → TIs H (vs.eraseIdx i) (nss.eraseIdx i)
  | _, _, _, .nil => .nil
  | _, _, 0, .cons _ t => t
  | _, _, i + 1, .cons a t => .cons a (TIs.erase i t)
theorem any_dI {ns : List Int} : ∀ dss : List (List Int), ((dss.map dI).any fun z => PyData.eqv z (dI ns)) = decide (ns ∈ dss)
  | [] => by simp
  | d :: dss => by
    rw [List.map_cons, List.any_cons, any_dI dss, pl_dI.eqv pl_dI (p := ns = d) (dI_inj.trans ⟨Eq.symm, Eq.symm⟩)]
    rw [show decide (ns ∈ d :: dss) = decide (ns = d ∨ ns ∈ dss) from decide_eq_decide.mpr List.mem_cons, Bool.decide_or]
end
end Z

/-! Zq: steps: pairs, dicts, slices, comprehensions, sorted, isinstance. -/
namespace Z
open PySem PySem.Spec L2
open PyProof.Rows hiding St
section
variable {X : Cx}
def rInsert : V → List V → Hp → VK → Prop := fun x vs H Q => ∃ (l : Addr) (xs : List V) (i : Int) (y : V), x = .ref l ∧ vs = [.int i, y] ∧ H l = some (.lst xs) ∧ xs.length < sizeLine ∧ 0 ≤ i ∧ i < 2 ^ 63 ∧
  Q .non (upd H l (.lst (xs.take i.toNat ++ [y] ++ xs.drop i.toNat)))
theorem mt_zInsert : MtR X "list.insert" rInsert := mt_insert
def zSorted (K : PySem.W.Frag) (w : World) : List V → Hp → VK → Prop := orC (rSortedSet w) (rSortedI K)
theorem cr_zSorted (hc : X.calm = true) : CallR X (.builtin "sorted") (zSorted X.K X.w) := cr_or2 (cr_sortedSet hc) cr_sortedI
end
section
variable {K : PySem.W.Frag} {w0 : World} {σ : St} {H : Hp} {D : Ends} {t u : TS} {ta tb tc te tl : TE} {to' tl' th' : TO} {c c' : TT} {v w x y z : V} {Q : VK} {QH : Hp → Prop} {QS : St → Hp → Prop} {QB : Bool → Hp → Prop} {QO : Option Int → Hp → Prop} {i j : Nat} {g : TG} {p q a b l : Addr} {xs ys : List V} {tA : TA} {m n : Int} {vs : List Nat} {ns : List Int}
theorem s_par (h : ta σ H fun x H1 => tb σ H1 fun y H2 => ∃ v w, [x, y] = [v, w] ∧ D.nx ((σ.set i (some v)).set j (some w)) H2) : tPar i j (tCons ta (tCons tb tNil)) D σ H := h
theorem par_ {P : V → V → Prop} (h : P x y) : ∃ v w, [x, y] = [v, w] ∧ P v w := ⟨x, y, rfl, h⟩
theorem s_dput (h : tc σ H fun v H1 => ta σ H1 fun x H2 => tb σ H2 fun y H3 => ∃ a H4, x = .ref a ∧ DPut H3 a y v H4 ∧ D.nx σ H4) : sDPut ta tb tc D σ H := h
theorem dput_T {ks : List Key} {kvs : List (List Key × V)} (ha : H a = some (.dT kvs)) (hb : H b = some (.tup (ks.map kV))) (hl : kvs.length < sizeLine) (h : QH (upd H a (.dT (putK kvs ks v)))) :
    ∃ a' H4, V.ref a = .ref a' ∧ DPut H a' (.ref b) v H4 ∧ QH H4 := ⟨a, _, rfl, DPut.t ha hb hl, h⟩
theorem e_din (h : ta σ H fun y H1 => tb σ H1 fun x H2 => ∃ a o, x = .ref a ∧ DGet H2 a y o ∧ Q (.bl o.isSome) H2) : tDIn ta tb σ H Q := h
theorem din_T {ks : List Key} {kvs : List (List Key × V)} {P : Option V → Prop} (ha : H a = some (.dT kvs)) (hb : H b = some (.tup (ks.map kV))) (h : P (valV kvs ks)) : ∃ a' o, V.ref a = .ref a' ∧ DGet H a' (.ref b) o ∧ P o :=
  ⟨a, _, rfl, DGet.t ha hb, h⟩
theorem e_dnewT (h : ∀ p, Fresh H p → Q (.ref p) (upd H p (.dT []))) : tDNewT σ H Q := h
theorem e_dnewK (h : ∀ p, Fresh H p → Q (.ref p) (upd H p (.dK []))) : tDNewK σ H Q := h
theorem kv_ints (ns : List Int) : (ns.map (Sum.inl : Int → Key)).map kV = ns.map V.int := by
  rw [List.map_map]
  rfl
theorem e_sl {r : V → Option Int → Option Int → Hp → VK → Prop} (h : te σ H fun x H1 => tl' σ H1 fun l H2 => th' σ H2 fun u H3 => r x l u H3 Q) : tSl r te tl' th' σ H Q := h
theorem p_none (h : QO none H) : tNoPart σ H QO := h
theorem p_some (h : te σ H fun x H1 => ∃ i, x = .int i ∧ QO (some i) H1) : tPart te σ H QO := h
theorem p_int {P : Int → Prop} (h : P m) : ∃ i, V.int m = .int i ∧ P i := ⟨m, rfl, h⟩
theorem sl_L {lo hi : Option Int} (hs : SqL K H a xs) (h : ∀ p, Fresh H p → Q (.ref p) (upd H p (.lst (cutV xs lo hi)))) : zSl K (.ref a) lo hi H Q := .inl ⟨a, xs, rfl, hs, h⟩
theorem sl_T {lo hi : Option Int} (hs : SqT K H a xs) (h1 : HT.sIx xs.length 0 lo = 0 ∧ HT.sIx xs.length xs.length hi = xs.length → Q (.ref a) H)
    (h2 : ¬ (HT.sIx xs.length 0 lo = 0 ∧ HT.sIx xs.length xs.length hi = xs.length) → ∀ p, Fresh H p → Q (.ref p) (upd H p (.tup (cutV xs lo hi)))) : zSl K (.ref a) lo hi H Q := .inr ⟨a, xs, rfl, hs, h1, h2⟩
/-- a slice of a tuple, the same or a new one: what is known of it -/
theorem sl_Tk {lo hi : Option Int} (hs : SqT K H a xs) (h : ∀ p H', Same H H' → (H' = H ∨ Fresh H p ∧ H' = upd H p (.tup (cutV xs lo hi))) → SqT K H' p (cutV xs lo hi) → Q (.ref p) H') : zSl K (.ref a) lo hi H Q :=
  sl_T hs (fun ⟨e1, e2⟩ => h a H (Same.refl H) (.inl rfl) (by
    have e : cutV xs lo hi = xs := by
      unfold cutV
      rw [e1, e2, List.drop_zero, Nat.sub_zero, List.take_length]
    rw [e]
    exact hs)) fun _ p np => h p _ (fun b o e => by
      rw [upd_ne (ne_of_none e np)]
      exact e) (.inr ⟨np, rfl⟩) (SqT.of upd_same)
theorem cut_lo (xs : List V) (k : Nat) : cutV xs none (some (k : Int)) = xs.take k := by
  unfold cutV
  rw [HT.sIx_none, HT.sIx_nat, List.drop_zero, Nat.sub_zero]
  rcases Nat.le_total k xs.length with h | h
  · rw [Nat.min_eq_left h]
  · rw [Nat.min_eq_right h, List.take_length, List.take_of_length_le h]
theorem cut_hi (xs : List V) (k : Nat) : cutV xs (some (k : Int)) none = xs.drop k := by
  unfold cutV
  rw [HT.sIx_none, HT.sIx_nat]
  rcases Nat.le_total k xs.length with h | h
  · rw [Nat.min_eq_left h, List.take_of_length_le (by rw [List.length_drop]; omega)]
  · rw [Nat.min_eq_right h, List.drop_eq_nil_of_le (Nat.le_refl _), List.drop_eq_nil_of_le h]
    simp
-- comprehensions
def LcW (J : It) (g : TG) (tt : TT) (te : TE) (vs : List Nat) (σ : St) (H : Hp) (Q : VK) : Prop := ∀ D, H D = none → ∃ W : Nat → Nat → Hp → Prop, (∃ m, W 0 m (upd H D (.lst []))) ∧ ∀ i m H', W i m H' →
  (J.stop i H' ∧ Q (.ref D) H') ∨ (J.go i H' ∧ ∃ Nx : Hp → Prop, (∀ H2, Nx H2 → ∃ m', m' < m ∧ W (i + 1) m' H2) ∧ ∀ x H2, J.yld i H' x H2 → g x (wipe σ vs) H2 fun σ2 H3 => wipe σ2 vs = wipe σ vs ∧ tt σ2 H3 fun b H4 =>
    if b = true then te σ2 H4 fun y H5 => ∃ acc, H5 D = some (.lst acc) ∧ acc.length < sizeLine ∧ Nx (upd H5 D (.lst (acc ++ [y]))) else Nx H4)
def LcL (K : PySem.W.Frag) (g : TG) (tt : TT) (te : TE) (vs : List Nat) (σ : St) (x : V) (H : Hp) (Q : VK) : Prop := ∃ a, x = .ref a ∧ (∃ xs, SqL K H a xs) ∧ LcW (Itl K a) g tt te vs σ H Q
def LcT (K : PySem.W.Frag) (g : TG) (tt : TT) (te : TE) (vs : List Nat) (σ : St) (x : V) (H : Hp) (Q : VK) : Prop := ∃ a, x = .ref a ∧ (∃ xs, SqT K H a xs) ∧ LcW (Itt K a) g tt te vs σ H Q
def LcR1 (g : TG) (tt : TT) (te : TE) (vs : List Nat) (σ : St) (x : V) (H : Hp) (Q : VK) : Prop := ∃ j : Int, [x] = [V.int j] ∧ -(2 ^ 62) ≤ j ∧ j < 2 ^ 62 ∧ LcW (Itr 0 j.toNat) g tt te vs σ H Q
def LcR2 (g : TG) (tt : TT) (te : TE) (vs : List Nat) (σ : St) (x y : V) (H : Hp) (Q : VK) : Prop := ∃ i j : Int, [x, y] = [V.int i, V.int j] ∧ (-(2 ^ 62) ≤ i ∧ i < 2 ^ 62 ∧ -(2 ^ 62) ≤ j ∧ j < 2 ^ 62) ∧ LcW (Itr i (j - i).toNat) g tt te vs σ H Q
theorem e_lcL (h : tl σ H fun x H1 => LcL K g c te vs σ x H1 Q) : tLc (iList K tl) g c te vs σ H Q := h
theorem e_lcT (h : tl σ H fun x H1 => LcT K g c te vs σ x H1 Q) : tLc (iTup K tl) g c te vs σ H Q := h
theorem e_lcR1 (h : tl σ H fun x H1 => LcR1 g c te vs σ x H1 Q) : tLc (iRng1 (tCons tl tNil)) g c te vs σ H Q := h
theorem e_lcR2 (h : tl σ H fun x H1 => tb σ H1 fun y H2 => LcR2 g c te vs σ x y H2 Q) : tLc (iRng2 (tCons tl (tCons tb tNil))) g c te vs σ H Q := h
theorem c_yes (h : QB true H) : tYes σ H QB := h
theorem lc_L (hs : SqL K H a xs) (Pv : Addr → Nat → Hp → Prop) (h0 : ∀ D, Fresh H D → Pv D 0 (upd H D (.lst []))) (hl : ∀ D i H', i ≤ xs.length → Pv D i H' → SqL K H' a xs)
    (hb : ∀ D i x H', Fresh H D → xs[i]? = some x → Pv D i H' → g x (wipe σ vs) H' fun σ2 H3 => wipe σ2 vs = wipe σ vs ∧ c σ2 H3 fun b H4 =>
      if b = true then te σ2 H4 fun y H5 => ∃ acc, H5 D = some (.lst acc) ∧ acc.length < sizeLine ∧ Pv D (i + 1) (upd H5 D (.lst (acc ++ [y]))) else Pv D (i + 1) H4)
    (hd : ∀ D H', Fresh H D → Pv D xs.length H' → Q (.ref D) H') : LcL K g c te vs σ (.ref a) H Q := ⟨a, rfl, ⟨xs, hs⟩, fun D nD => lc_list (Pv D) (h0 D nD) (hl D) (fun i x H' => hb D i x H' nD) (fun H' => hd D H' nD)⟩
theorem lc_T (hs : SqT K H a xs) (Pv : Addr → Nat → Hp → Prop) (h0 : ∀ D, Fresh H D → Pv D 0 (upd H D (.lst []))) (hl : ∀ D i H', i ≤ xs.length → Pv D i H' → SqT K H' a xs)
    (hb : ∀ D i x H', Fresh H D → xs[i]? = some x → Pv D i H' → g x (wipe σ vs) H' fun σ2 H3 => wipe σ2 vs = wipe σ vs ∧ c σ2 H3 fun b H4 =>
      if b = true then te σ2 H4 fun y H5 => ∃ acc, H5 D = some (.lst acc) ∧ acc.length < sizeLine ∧ Pv D (i + 1) (upd H5 D (.lst (acc ++ [y]))) else Pv D (i + 1) H4)
    (hd : ∀ D H', Fresh H D → Pv D xs.length H' → Q (.ref D) H') : LcT K g c te vs σ (.ref a) H Q := ⟨a, rfl, ⟨xs, hs⟩, fun D nD => lc_tup (Pv D) (h0 D nD) (hl D) (fun i x H' => hb D i x H' nD) (fun H' => hd D H' nD)⟩
theorem lc_R1 (hr : -(2 ^ 62) ≤ n ∧ n < 2 ^ 62) (Pv : Addr → Nat → Hp → Prop) (h0 : ∀ D, Fresh H D → Pv D 0 (upd H D (.lst [])))
    (hb : ∀ D (i : Nat) H', Fresh H D → (i : Int) < n → Pv D i H' → g (.int (i : Int)) (wipe σ vs) H' fun σ2 H3 => wipe σ2 vs = wipe σ vs ∧ c σ2 H3 fun b H4 =>
      if b = true then te σ2 H4 fun y H5 => ∃ acc, H5 D = some (.lst acc) ∧ acc.length < sizeLine ∧ Pv D (i + 1) (upd H5 D (.lst (acc ++ [y]))) else Pv D (i + 1) H4)
    (hd : ∀ D H', Fresh H D → Pv D n.toNat H' → Q (.ref D) H') : LcR1 g c te vs σ (.int n) H Q := ⟨n, rfl, hr.1, hr.2, fun D nD => lc_range (lo := 0) (Pv D) (h0 D nD) (fun i H' hi p => by
    have e : (0 : Int) + (i : Int) = (i : Int) := Int.zero_add _
    rw [e]
    exact hb D i H' nD (by omega) p) (fun H' => hd D H' nD)⟩
theorem lc_R2 (hr : -(2 ^ 62) ≤ m ∧ m < 2 ^ 62 ∧ -(2 ^ 62) ≤ n ∧ n < 2 ^ 62) (Pv : Addr → Nat → Hp → Prop) (h0 : ∀ D, Fresh H D → Pv D 0 (upd H D (.lst [])))
    (hb : ∀ D (i : Nat) H', Fresh H D → m + (i : Int) < n → Pv D i H' → g (.int (m + i)) (wipe σ vs) H' fun σ2 H3 => wipe σ2 vs = wipe σ vs ∧ c σ2 H3 fun b H4 =>
      if b = true then te σ2 H4 fun y H5 => ∃ acc, H5 D = some (.lst acc) ∧ acc.length < sizeLine ∧ Pv D (i + 1) (upd H5 D (.lst (acc ++ [y]))) else Pv D (i + 1) H4)
    (hd : ∀ D H', Fresh H D → Pv D (n - m).toNat H' → Q (.ref D) H') : LcR2 g c te vs σ (.int m) (.int n) H Q := ⟨m, n, rfl, hr, fun D nD => lc_range (Pv D) (h0 D nD) (fun i H' hi p => hb D i H' nD (by omega) p) (fun H' => hd D H' nD)⟩
theorem w_split {σ2 : St} {R : Prop} (h1 : wipe σ2 vs = wipe σ vs) (h2 : R) : wipe σ2 vs = wipe σ vs ∧ R := ⟨h1, h2⟩
-- built-in methods of lists
theorem m_ext {zs : List V} (hl : H a = some (.lst xs)) (hb : H b = some (.lst zs)) (hz : xs.length + zs.length ≤ sizeLine) (h : Q .non (upd H a (.lst (xs ++ zs)))) : rExtend (.ref a) [.ref b] H Q := ⟨a, b, xs, zs, rfl, rfl, hl, hb, hz, h⟩
theorem m_popN (hl : H a = some (.lst xs)) {k : Nat} (hk : xs[k]? = some y) (hz : xs.length ≤ sizeLine) (h : Q y (upd H a (.lst (xs.eraseIdx k)))) : rPopAt (.ref a) [.int (k : Int)] H Q := by
  have e := (List.getElem?_eq_some_iff.mp hk).1
  refine ⟨a, xs, (k : Int), k, y, rfl, rfl, hl, by omega, by rw [sizeLine_eq] at hz; omega, (ixN_seq (Evl.ixN_nat e)).1, hk, h⟩
theorem m_pop (hl : H a = some (.lst xs)) (hk : xs[xs.length - 1]? = some y) (h : Q y (upd H a (.lst xs.dropLast))) : rPop (.ref a) [] H Q := ⟨a, xs, y, rfl, rfl, hl, hk, h⟩
theorem m_ins {k : Nat} (hl : H a = some (.lst xs)) (hz : xs.length < sizeLine) (hk : (k : Int) < 2 ^ 63) (h : Q .non (upd H a (.lst (xs.take k ++ [y] ++ xs.drop k)))) : rInsert (.ref a) [.int (k : Int), y] H Q :=
  ⟨a, xs, (k : Int), y, rfl, rfl, hl, hz, by omega, hk, h⟩
-- sorted, set
theorem o_setL' (hs : SqL K H a (ns.map V.int)) (hl : ns.length ≤ 1000) (h : ∀ p c, c ≤ ns.length → Fresh H p → Q (.ref p) (upd H p (SetO w0 p (fun j => decide (j ∈ ns)) c))) : zSet K w0 [.ref a] H Q := ⟨a, ns, rfl, .inl hs, hl, h⟩
theorem o_setT' (hs : SqT K H a (ns.map V.int)) (hl : ns.length ≤ 1000) (h : ∀ p c, c ≤ ns.length → Fresh H p → Q (.ref p) (upd H p (SetO w0 p (fun j => decide (j ∈ ns)) c))) : zSet K w0 [.ref a] H Q := ⟨a, ns, rfl, .inr hs, hl, h⟩
theorem o_sortSet {S : Int → Bool} {k : Nat} (hs : H a = some (SetO w0 a S k)) (hk : k < 64) (h : ∀ (ns : List Int) (p : Addr), ns.Pairwise (· < ·) → (∀ k : Int, k ∈ ns ↔ S k = true) → ns.length = k → Fresh H p → Q (.ref p) (upd H p (.lst (ns.map V.int)))) :
    zSorted K w0 [.ref a] H Q := .inl ⟨a, S, k, rfl, hs, hk, h⟩
theorem o_sortI (hs : SqL K H a (ns.map V.int)) (h : ∀ (ns' : List Int) (p : Addr), ns'.Perm ns → ns'.Pairwise (· ≤ ·) → Fresh H p → Q (.ref p) (upd H p (.lst (ns'.map V.int)))) : zSorted K w0 [.ref a] H Q := .inr ⟨a, ns, rfl, hs, h⟩
-- isinstance
theorem ty_L (h : SqL K H a xs) : TyX K H (.ref a) (.type "list") := by
  rcases h with (h | ⟨o, h⟩) | ⟨o, its, k, e, c, _⟩
  · exact .base (.lst h)
  · exact .base (.frz h)
  · exact .kList e c
theorem ty_T (h : SqT K H a xs) : TyX K H (.ref a) (.type "tuple") := by
  rcases h with (h | ⟨o, h⟩) | ⟨o, its, k, e, c, _⟩
  · exact .base (.tup h)
  · exact .fTuple h
  · exact .kTuple e c
theorem isi {A B : String} {r : Bool} (ht : TyX K H x (.type A)) (hk : kitB A B = some r) (h : Q (.bl r) H) : rIsi K [x, .ty B] H Q := ⟨x, .ty B, .type A, .type B, r, rfl, .ty B, ht, kit_ty hk, h⟩
theorem i_int_int (h : Q (.bl true) H) : rIsi K [.int m, .ty "int"] H Q := isi (.base (.int m)) (by decide +kernel) h
theorem i_int_bool (h : Q (.bl false) H) : rIsi K [.int m, .ty "bool"] H Q := isi (.base (.int m)) (by decide +kernel) h
theorem i_int_str (h : Q (.bl false) H) : rIsi K [.int m, .ty "str"] H Q := isi (.base (.int m)) (by decide +kernel) h
theorem i_int_tuple (h : Q (.bl false) H) : rIsi K [.int m, .ty "tuple"] H Q := isi (.base (.int m)) (by decide +kernel) h
theorem i_int_list (h : Q (.bl false) H) : rIsi K [.int m, .ty "list"] H Q := isi (.base (.int m)) (by decide +kernel) h
theorem i_bl_int {k : Bool} (h : Q (.bl true) H) : rIsi K [.bl k, .ty "int"] H Q := isi (.base (.bl k)) (by decide +kernel) h
theorem i_bl_bool {k : Bool} (h : Q (.bl true) H) : rIsi K [.bl k, .ty "bool"] H Q := isi (.base (.bl k)) (by decide +kernel) h
theorem i_bl_str {k : Bool} (h : Q (.bl false) H) : rIsi K [.bl k, .ty "str"] H Q := isi (.base (.bl k)) (by decide +kernel) h
theorem i_bl_tuple {k : Bool} (h : Q (.bl false) H) : rIsi K [.bl k, .ty "tuple"] H Q := isi (.base (.bl k)) (by decide +kernel) h
theorem i_bl_list {k : Bool} (h : Q (.bl false) H) : rIsi K [.bl k, .ty "list"] H Q := isi (.base (.bl k)) (by decide +kernel) h
theorem i_str_int {k : Str} (h : Q (.bl false) H) : rIsi K [.str k, .ty "int"] H Q := isi (.base (.str k)) (by decide +kernel) h
theorem i_str_bool {k : Str} (h : Q (.bl false) H) : rIsi K [.str k, .ty "bool"] H Q := isi (.base (.str k)) (by decide +kernel) h
theorem i_str_str {k : Str} (h : Q (.bl true) H) : rIsi K [.str k, .ty "str"] H Q := isi (.base (.str k)) (by decide +kernel) h
theorem i_str_tuple {k : Str} (h : Q (.bl false) H) : rIsi K [.str k, .ty "tuple"] H Q := isi (.base (.str k)) (by decide +kernel) h
theorem i_str_list {k : Str} (h : Q (.bl false) H) : rIsi K [.str k, .ty "list"] H Q := isi (.base (.str k)) (by decide +kernel) h
theorem i_non_int (h : Q (.bl false) H) : rIsi K [.non, .ty "int"] H Q := isi (.base .non) (by decide +kernel) h
theorem i_non_bool (h : Q (.bl false) H) : rIsi K [.non, .ty "bool"] H Q := isi (.base .non) (by decide +kernel) h
theorem i_non_str (h : Q (.bl false) H) : rIsi K [.non, .ty "str"] H Q := isi (.base .non) (by decide +kernel) h
theorem i_non_tuple (h : Q (.bl false) H) : rIsi K [.non, .ty "tuple"] H Q := isi (.base .non) (by decide +kernel) h
theorem i_non_list (h : Q (.bl false) H) : rIsi K [.non, .ty "list"] H Q := isi (.base .non) (by decide +kernel) h
theorem i_T_int (hs : SqT K H a xs) (h : Q (.bl false) H) : rIsi K [.ref a, .ty "int"] H Q := isi (ty_T hs) (by decide +kernel) h
theorem i_T_bool (hs : SqT K H a xs) (h : Q (.bl false) H) : rIsi K [.ref a, .ty "bool"] H Q := isi (ty_T hs) (by decide +kernel) h
theorem i_T_str (hs : SqT K H a xs) (h : Q (.bl false) H) : rIsi K [.ref a, .ty "str"] H Q := isi (ty_T hs) (by decide +kernel) h
theorem i_T_tuple (hs : SqT K H a xs) (h : Q (.bl true) H) : rIsi K [.ref a, .ty "tuple"] H Q := isi (ty_T hs) (by decide +kernel) h
theorem i_T_list (hs : SqT K H a xs) (h : Q (.bl false) H) : rIsi K [.ref a, .ty "list"] H Q := isi (ty_T hs) (by decide +kernel) h
theorem i_L_int (hs : SqL K H a xs) (h : Q (.bl false) H) : rIsi K [.ref a, .ty "int"] H Q := isi (ty_L hs) (by decide +kernel) h
theorem i_L_bool (hs : SqL K H a xs) (h : Q (.bl false) H) : rIsi K [.ref a, .ty "bool"] H Q := isi (ty_L hs) (by decide +kernel) h
theorem i_L_str (hs : SqL K H a xs) (h : Q (.bl false) H) : rIsi K [.ref a, .ty "str"] H Q := isi (ty_L hs) (by decide +kernel) h
theorem i_L_tuple (hs : SqL K H a xs) (h : Q (.bl false) H) : rIsi K [.ref a, .ty "tuple"] H Q := isi (ty_L hs) (by decide +kernel) h
theorem i_L_list (hs : SqL K H a xs) (h : Q (.bl true) H) : rIsi K [.ref a, .ty "list"] H Q := isi (ty_L hs) (by decide +kernel) h
-- deep == and in
theorem o_inD {d : PyData} {ds : List PyData} (hx : Dp K H x d) (hy : Dp K H y (.list ds)) (sd : SeqAt.shaped d = true) (se : SeqAt.shaped (.list ds) = true) (h : Q (.bl (ds.any fun z => PyData.eqv z d)) H) : zIn K x y H Q := .inr (.inl ⟨d, ds, hx, hy, sd, se, h⟩)
theorem o_notInD {d : PyData} {ds : List PyData} (hx : Dp K H x d) (hy : Dp K H y (.list ds)) (sd : SeqAt.shaped d = true) (se : SeqAt.shaped (.list ds) = true) (h : Q (.bl (!ds.any fun z => PyData.eqv z d)) H) : zNotIn K x y H Q := .inr (.inl ⟨d, ds, hx, hy, sd, se, h⟩)
theorem eqV_int (m n : Int) : eqV (.int m) (.int n) = decide (m = n) := by
  unfold eqV
  first | rfl | (simp [BEq.beq]) | simp
theorem inV_ints : ∀ (m : Int) (ns : List Int), inV (.int m) (ns.map V.int) = decide (m ∈ ns)
  | m, [] => by simp [inV]
  | m, n :: ns => by
    have ih := inV_ints m ns
    unfold inV at ih ⊢
    rw [List.map_cons, List.any_cons, ih, eqV_int, show decide (m ∈ n :: ns) = decide (m = n ∨ m ∈ ns) from decide_eq_decide.mpr List.mem_cons, Bool.decide_or]
    congr 1
    exact decide_eq_decide.mpr ⟨Eq.symm, Eq.symm⟩
theorem flat_ints : ∀ ns : List Int, (ns.map V.int).all flatV = true
  | [] => rfl
  | n :: ns => by
    rw [List.map_cons, List.all_cons, flat_ints ns]
    rfl
theorem o_inI (hs : SqL K H a (ns.map V.int) ∨ SqT K H a (ns.map V.int)) (h : Q (.bl (decide (m ∈ ns))) H) : zIn K (.int m) (.ref a) H Q := .inl ⟨a, _, rfl, hs, rfl, flat_ints ns, by
  rw [inV_ints, if_neg Bool.false_ne_true]
  exact h⟩
theorem o_notInI (hs : SqL K H a (ns.map V.int) ∨ SqT K H a (ns.map V.int)) (h : Q (.bl (!decide (m ∈ ns))) H) : zNotIn K (.int m) (.ref a) H Q := .inl ⟨a, _, rfl, hs, rfl, flat_ints ns, by
  rw [inV_ints, if_pos rfl]
  exact h⟩
theorem e_notT (h : ta σ H fun x H1 => ∃ k, TruV K x H1 k ∧ Q (.bl (!k)) H1) : tNotT K ta σ H Q := h
theorem g_sub {to ti : TE} {ts : TSet} (h : to σ H fun o H1 => ti σ H1 fun i H2 => ts o i v H2 fun H3 => QS σ H3) : gSub to ti ts v σ H QS := h
theorem o_setN (hl : H a = some (.lst xs)) {k : Nat} (hk : k < xs.length) (h : QH (upd H a (.lst (xs.set k v)))) : rSetL (.ref a) (.int (k : Int)) v H QH := o_setL hl (Evl.ixN_nat hk) h
theorem z_int1 (h : Q (.int m) H) : zInt1 [.int m] H Q := .inl ⟨m, rfl, h⟩
theorem z_int1b {k : Bool} (h : Q (.int (if k then 1 else 0)) H) : zInt1 [.bl k] H Q := .inr ⟨k, rfl, h⟩
theorem z_abs (h : Q (.int (if m < 0 then -m else m)) H) : zAbs [.int m] H Q := ⟨m, rfl, h⟩
theorem z_max2 (h : Q (.int (if n > m then n else m)) H) : zMax2 [.int m, .int n] H Q := ⟨m, n, rfl, h⟩
theorem z_min2 (h : Q (.int (if n < m then n else m)) H) : zMin2 [.int m, .int n] H Q := ⟨m, n, rfl, h⟩
end
abbrev dL (ns : List Int) : PyData := .list (ns.map .int)
theorem pl_dL {ns : List Int} : Pl 1 (dL ns) := pl_lst fun d hd => by
  obtain ⟨i, _, rfl⟩ := List.mem_map.mp hd
  exact pl_int
theorem dL_inj {a b : List Int} : dL a = dL b ↔ a = b := ⟨fun h => map_int_inj (PyData.list.inj h), fun h => by rw [h]⟩
section
variable {K : PySem.W.Frag} {H : Hp} {a b : Addr} {ns ms : List Int} {Q : VK}
theorem o_neIL (ha : SqL K H a (ns.map V.int)) (hb : SqL K H b (ms.map V.int)) (h : Q (.bl (!decide (ns = ms))) H) : zNe K (.ref a) (.ref b) H Q :=
  o_neD (.lst ha (dpAll_ints ns)) (.lst hb (dpAll_ints ms)) (pl_dL.shaped (by decide)) (pl_dL.shaped (by decide)) (by rw [pl_dL.eqv pl_dL dL_inj]; exact h)
theorem o_eqIL (ha : SqL K H a (ns.map V.int)) (hb : SqL K H b (ms.map V.int)) (h : Q (.bl (decide (ns = ms))) H) : zEq K (.ref a) (.ref b) H Q :=
  o_eqD (.lst ha (dpAll_ints ns)) (.lst hb (dpAll_ints ms)) (pl_dL.shaped (by decide)) (pl_dL.shaped (by decide)) (by rw [pl_dL.eqv pl_dL dL_inj]; exact h)
theorem o_neIT (ha : SqT K H a (ns.map V.int)) (hb : SqT K H b (ms.map V.int)) (h : Q (.bl (!decide (ns = ms))) H) : zNe K (.ref a) (.ref b) H Q :=
  o_neD (.tup ha (dpAll_ints ns)) (.tup hb (dpAll_ints ms)) (pl_dI.shaped (by decide)) (pl_dI.shaped (by decide)) (by rw [pl_dI.eqv pl_dI dI_inj]; exact h)
theorem o_eqIT (ha : SqT K H a (ns.map V.int)) (hb : SqT K H b (ms.map V.int)) (h : Q (.bl (decide (ns = ms))) H) : zEq K (.ref a) (.ref b) H Q :=
  o_eqD (.tup ha (dpAll_ints ns)) (.tup hb (dpAll_ints ms)) (pl_dI.shaped (by decide)) (pl_dI.shaped (by decide)) (by rw [pl_dI.eqv pl_dI dI_inj]; exact h)
end
theorem divW70 {m n : Int} (h : 0 < n) (h2 : n ≤ 10 ^ 70) : CDivW m n := wide_div (b := 240) h (by
  have : n.toNat ≤ 10 ^ 70 := by omega
  have e : n.natAbs = n.toNat := by omega
  rw [e]
  exact Nat.lt_of_le_of_lt this (by decide)) (by decide) (by decide)
theorem o_div70 {m n : Int} {H : Hp} {Q : VK} (h : 0 < n) (h2 : n ≤ 10 ^ 70) (k : Q (.int (m / n)) H) : zDiv (.int m) (.int n) H Q := o_divW (divW70 h h2) k
theorem o_new {n : Nat} {H : Hp} {P : Addr → Prop} (h1 : n ≤ sizeLine) (h2 : ∀ p, Fresh H p → P p) : n ≤ sizeLine ∧ ∀ p, H p = none → P p := ⟨h1, h2⟩
theorem s_cut {t u : TS} {D : Ends} {σ : St} {H : Hp} (Mid : St → Hp → Prop) (h1 : t { D with nx := Mid } σ H) (h2 : ∀ σ' H', Mid σ' H' → u D σ' H') : Evl.tCut t u D σ H := ⟨Mid, h1, h2⟩
/-! ### tuples that are known: new since H, or frozen -/
structure Tk (F H H' : Hp) (p : Addr) (xs : List V) : Prop where
  at' : H' p = some (.tup xs)
  own : H p = none ∨ F p = some (.tup xs)
section
variable {K : PySem.W.Frag} {F H F1 H1 H2 : Hp} {a b p r : Addr} {o : HO} {xs ys : List V} {Q : VK}
theorem Tk.keep (h : Tk F H H1 p xs) (k : ∀ q o, H1 q = some o → H2 q = some o) : Tk F H H2 p xs := ⟨k _ _ h.at', h.own⟩
theorem Tk.gr (h : Tk F H H1 p xs) (g : Gr (M1 r) F1 H1 F1 H2) (n : p ≠ r) : Tk F H H2 p xs := ⟨g.hh _ _ n h.at', h.own⟩
theorem Tk.old (hF : Same F H1) (h : F p = some (.tup xs)) : Tk F H H1 p xs := ⟨hF _ _ h, .inr h⟩
theorem Tk.new (g : Gr (M1 r) F H F1 H1) (hr : H1 r = some o) (hn : Fresh H1 p) : Tk F H (upd H1 p (.tup xs)) p xs := ⟨upd_same, .inl (g.fr1 hr hn)⟩
theorem up_keep (hn : Fresh H1 p) : ∀ q u, H1 q = some u → (upd H1 p o) q = some u := fun q u e => (upd_ne (ne_of_none e hn)).trans e
theorem add_tk (g : Gr (M1 r) F H F1 H1) (hr : H1 r = some o) (ha : Tk F H H1 a xs) (hb : Tk F H H1 b ys) (hl : xs.length + ys.length ≤ sizeLine)
    (k : ∀ p H2, Gr (M1 r) F H F1 H2 → (∀ q o, H1 q = some o → H2 q = some o) → Tk F H H2 p (xs ++ ys) → Q (.ref p) H2) : zAdd K (.ref a) (.ref b) H1 Q :=
  o_addT (SqT.of ha.at') (SqT.of hb.at') hl (fun e => k _ _ g (fun _ _ h => h) (by rw [e]; exact hb)) (fun _ e => k _ _ g (fun _ _ h => h) (by rw [e, List.append_nil]; exact ha))
    fun _ _ p hn => k p _ (g.add hn) (up_keep hn) (.new g hr hn)
theorem sl_tk {lo hi : Option Int} (g : Gr (M1 r) F H F1 H1) (hr : H1 r = some o) (ha : Tk F H H1 a xs)
    (k : ∀ p H2, Gr (M1 r) F H F1 H2 → (∀ q o, H1 q = some o → H2 q = some o) → Tk F H H2 p (cutV xs lo hi) → Q (.ref p) H2) : zSl K (.ref a) lo hi H1 Q :=
  sl_T (SqT.of ha.at') (fun ⟨e1, e2⟩ => k _ _ g (fun _ _ h => h) (by
    have e : cutV xs lo hi = xs := by
      unfold cutV
      rw [e1, e2, List.drop_zero, Nat.sub_zero, List.take_length]
    rw [e]
    exact ha)) fun _ p hn => k p _ (g.add hn) (up_keep hn) (.new g hr hn)
/-- frozen from now on -/
theorem Gr.hold {M : Addr → Prop} (g : Gr M F H F1 H1) (h : Tk F H H1 p xs) : Gr M F H (upd F1 p (.tup xs)) H1 := by
  refine ⟨fun b u e => ?_, fun b u e => ?_, g.hh, fun b u e f => ?_⟩
  · by_cases hb : b = p
    · subst hb
      have e1 := g.fh _ _ (g.ff _ _ e)
      rw [h.at'] at e1
      rw [upd_same]
      exact e1
    · rw [upd_ne hb]
      exact g.ff _ _ e
  · by_cases hb : b = p
    · subst hb
      rw [upd_same] at e
      rw [h.at']
      exact e
    · rw [upd_ne hb] at e
      exact g.fh _ _ e
  · by_cases hb : b = p
    · subst hb
      rcases h.own with z | z
      · rw [z] at e
        cases e
      · rw [z] at f
        cases f
    · rw [upd_ne hb]
      exact g.nw _ _ e f
end
/-! ### [1 for x in .. if test], the test changing nothing -/
section
variable {K : PySem.W.Frag} {σ : St} {H : Hp} {a : Addr} {xs : List V} {vs : List Nat} {j : Nat} {tt : TT} {p : Nat → Bool} {Q : VK} {n : Int}
def ones (c : Nat) : HO := .lst ((List.replicate c (1 : Int)).map V.int)
def OnesAt (p : Nat → Bool) (H : Hp) (D : Addr) (i : Nat) (H' : Hp) : Prop := ∃ c, c ≤ i ∧ (c = 0 ↔ ∀ k, k < i → p k = false) ∧ H' = upd H D (ones c)
theorem ones_turn {D : Addr} {i : Nat} {σ1 : St} {H' : Hp} (hD : Fresh H D) (hi : i < 100000) (h : OnesAt p H D i H') (ht : ∀ H2 (QB : Bool → Hp → Prop), Same H H2 → QB (p i) H2 → tt σ1 H2 QB) :
    tt σ1 H' fun b H4 => if b = true then tC (.int 1) σ1 H4 fun y H5 => ∃ acc, H5 D = some (.lst acc) ∧ acc.length < sizeLine ∧ OnesAt p H D (i + 1) (upd H5 D (.lst (acc ++ [y]))) else OnesAt p H D (i + 1) H4 := by
  obtain ⟨c, hc, e, rfl⟩ := h
  refine ht _ _ (fun b o e => (upd_ne (ne_of_none e hD)).trans e) ?_
  cases hp : p i with
  | true =>
    refine iteT ⟨_, upd_same, ?_, c + 1, by omega, ⟨fun z => by omega, fun z => ?_⟩, ?_⟩
    · rw [List.length_map, List.length_replicate, sizeLine_eq]
      omega
    · rw [z i (Nat.lt_succ_self i)] at hp
      cases hp
    · rw [upd_upd]
      unfold ones
      rw [List.replicate_succ', List.map_append]
      rfl
  | false =>
    refine iteF ⟨c, by omega, e.trans ⟨fun z k hk => ?_, fun z k hk => z k (by omega)⟩, rfl⟩
    by_cases hk' : k = i
    · rw [hk']
      exact hp
    · exact z k (by omega)
theorem ones_start {D : Addr} : OnesAt p H D 0 (upd H D (.lst [])) := ⟨0, Nat.le_refl _, ⟨fun _ k hk => absurd hk (Nat.not_lt_zero _), fun _ => rfl⟩, rfl⟩
theorem lcT_ones (p : Nat → Bool) (hs : SqT K H a xs) (hz : xs.length ≤ 10000) (ht : ∀ i x H2 (QB : Bool → Hp → Prop), xs[i]? = some x → Same H H2 → QB (p i) H2 → tt ((wipe σ vs).set j (some x)) H2 QB)
    (k : ∀ D c, Fresh H D → (c = 0 ↔ ∀ i, i < xs.length → p i = false) → Q (.ref D) (upd H D (ones c))) (hw : ∀ x, wipe ((wipe σ vs).set j (some x)) vs = wipe σ vs := by intro _; rfl) : LcT K (gName j) tt (tC (.int 1)) vs σ (.ref a) H Q :=
  lc_T hs (fun D i H' => OnesAt p H D i H' ∧ Fresh H D) (fun D hD => ⟨ones_start, hD⟩) (fun D i H' _ ⟨⟨c, _, _, e⟩, hD⟩ => by
    rw [e]
    exact Same.seqT (fun b o e => (upd_ne (ne_of_none e hD)).trans e) hs) (fun D i x H' hD hx h => ⟨hw x, by
      have hi := (List.getElem?_eq_some_iff.mp hx).1
      have := ones_turn (tt := tt) (σ1 := (wipe σ vs).set j (some x)) hD (by omega) h.1 (fun H2 QB hs q => ht i x H2 QB hx hs q)
      simpa only [hD, and_true] using this⟩) fun D H' hD ⟨⟨c, _, e, eH⟩, _⟩ => by
    rw [eH]
    exact k D c hD e
theorem lcL_ones (p : Nat → Bool) (hs : SqL K H a xs) (hz : xs.length ≤ 10000) (ht : ∀ i x H2 (QB : Bool → Hp → Prop), xs[i]? = some x → Same H H2 → QB (p i) H2 → tt ((wipe σ vs).set j (some x)) H2 QB)
    (k : ∀ D c, Fresh H D → (c = 0 ↔ ∀ i, i < xs.length → p i = false) → Q (.ref D) (upd H D (ones c))) (hw : ∀ x, wipe ((wipe σ vs).set j (some x)) vs = wipe σ vs := by intro _; rfl) : LcL K (gName j) tt (tC (.int 1)) vs σ (.ref a) H Q :=
  lc_L hs (fun D i H' => OnesAt p H D i H' ∧ Fresh H D) (fun D hD => ⟨ones_start, hD⟩) (fun D i H' _ ⟨⟨c, _, _, e⟩, hD⟩ => by
    rw [e]
    exact Same.seq (fun b o e => (upd_ne (ne_of_none e hD)).trans e) hs) (fun D i x H' hD hx h => ⟨hw x, by
      have hi := (List.getElem?_eq_some_iff.mp hx).1
      have := ones_turn (tt := tt) (σ1 := (wipe σ vs).set j (some x)) hD (by omega) h.1 (fun H2 QB hs q => ht i x H2 QB hx hs q)
      simpa only [hD, and_true] using this⟩) fun D H' hD ⟨⟨c, _, e, eH⟩, _⟩ => by
    rw [eH]
    exact k D c hD e
theorem lcR_ones (p : Nat → Bool) (hz : -(2 ^ 62) ≤ n ∧ n ≤ 10000) (ht : ∀ (i : Nat) H2 (QB : Bool → Hp → Prop), (i : Int) < n → Same H H2 → QB (p i) H2 → tt ((wipe σ vs).set j (some (.int (i : Int)))) H2 QB)
    (k : ∀ D c, Fresh H D → (c = 0 ↔ ∀ i : Nat, (i : Int) < n → p i = false) → Q (.ref D) (upd H D (ones c))) (hw : ∀ x, wipe ((wipe σ vs).set j (some x)) vs = wipe σ vs := by intro _; rfl) : LcR1 (gName j) tt (tC (.int 1)) vs σ (.int n) H Q :=
  lc_R1 (by omega) (fun D i H' => OnesAt p H D i H') (fun D hD => ones_start) (fun D i H' hD hi h => ⟨hw _, ones_turn (tt := tt) hD (by omega) h (fun H2 QB hs q => ht i H2 QB hi hs q)⟩) fun D H' hD ⟨c, _, e, eH⟩ => by
    rw [eH]
    exact k D c hD (e.trans ⟨fun z i hi => z i (by omega), fun z i hi => z i (by omega)⟩)
theorem o_neOnes {b : Addr} {c : Nat} (ha : H a = some (ones c)) (hb : H b = some (.lst [])) (h : Q (.bl (!decide (c = 0))) H) : zNe K (.ref a) (.ref b) H Q :=
  o_neIL (ns := List.replicate c 1) (ms := []) (SqL.of ha) (SqL.of hb) (by
    have : decide (List.replicate c (1 : Int) = []) = decide (c = 0) := decide_eq_decide.mpr ⟨fun z => by simpa using congrArg List.length z, fun z => by rw [z]; rfl⟩
    rw [this]
    exact h)
theorem o_eqOnes {b : Addr} {c : Nat} (ha : H a = some (ones c)) (hb : H b = some (.lst [])) (h : Q (.bl (decide (c = 0))) H) : zEq K (.ref a) (.ref b) H Q :=
  o_eqIL (ns := List.replicate c 1) (ms := []) (SqL.of ha) (SqL.of hb) (by
    have : decide (List.replicate c (1 : Int) = []) = decide (c = 0) := decide_eq_decide.mpr ⟨fun z => by simpa using congrArg List.length z, fun z => by rw [z]; rfl⟩
    rw [this]
    exact h)
end
/-! ### the law -/
def spLaw (K : PySem.W.Frag) : Sp := fun vs H Q _ => ∃ (a : Addr) (ns : List Int), vs = [.ref a] ∧ ns.length ≤ 63 ∧ SqL K H a (ns.map V.int) ∧ ∀ H', Q (.bl true) H'
theorem spLaw_in {K : PySem.W.Frag} {H : Hp} {a : Addr} {ns : List Int} {E : XK} (hl : ns.length ≤ 63) (hS : SqL K H a (ns.map V.int)) : spLaw K [.ref a] H (fun v _ => v = .bl true) E := ⟨a, ns, rfl, hl, hS, fun _ => rfl⟩
theorem atI_ints {ns : List Int} {j : Nat} {x : Int} (h : ns[j]? = some x) : atI (ns.map V.int) (j : Int) = some (.int x) := atI_nat (by rw [List.getElem?_map, h]; rfl)
end Z

/-! Zr: more steps. -/
namespace Z
open PySem PySem.Spec L2
open PyProof.Rows hiding St
theorem Pl.up {n m : Nat} {d : PyData} (h : Pl n d) (hn : n ≤ m := by omega) : Pl m d := ⟨h.lay, Nat.le_trans h.dep hn, h.nob⟩
section
variable {K : PySem.W.Frag} {σ : St} {H : Hp} {te : TE} {Q : VK} {a : Addr} {xs : List V} {ns : List Int} {vs : List Nat} {j : Nat} {tt : TT} {m n : Int}
theorem e_revL (h : te σ H fun x H1 => ∃ a xs, x = .ref a ∧ SqL K H1 a xs ∧ ∀ p, H1 p = none → Q (.ref p) (upd H1 p (.lst xs.reverse))) : tRevL K te σ H Q := h
theorem rev_V {k : Nat} (h1 : σ[k]? = some (some (.ref a))) (hs : SqL K H a xs) (h : ∀ p, Fresh H p → Q (.ref p) (upd H p (.lst xs.reverse))) : tRevL K (tVar k) σ H Q := ⟨_, h1, a, xs, rfl, hs, h⟩
theorem o_min (hs : SqL K H a (ns.map V.int)) (h0 : m ∈ ns) (h1 : ∀ y ∈ ns, m ≤ y) (h : Q (.int m) H) : rMin K [.ref a] H Q := ⟨a, ns, rfl, hs, List.length_pos_of_mem h0, fun m' a1 a2 => by
  have e : m' = m := Int.le_antisymm (a2 m h0) (h1 m' a1)
  rw [e]
  exact h⟩
theorem o_max (hs : SqL K H a (ns.map V.int)) (h0 : m ∈ ns) (h1 : ∀ y ∈ ns, y ≤ m) (h : Q (.int m) H) : rMax K [.ref a] H Q := ⟨a, ns, rfl, hs, List.length_pos_of_mem h0, fun m' a1 a2 => by
  have e : m' = m := Int.le_antisymm (h1 m' a1) (a2 m h0)
  rw [e]
  exact h⟩
theorem atI_z {x : V} (h : xs[0]? = some x) : atI xs 0 = some x := atI_nat (j := 0) h
theorem atI_zi {x : Int} (h : ns[0]? = some x) : atI (ns.map V.int) 0 = some (.int x) := atI_z (by rw [List.getElem?_map, h]; rfl)
theorem o_eqS {x y : Str} (h : Q (.bl (decide (x = y))) H) : zEq K (.str x) (.str y) H Q := .inl ⟨rfl, (decide_eq_decide.mpr ⟨fun e => V.str.inj e, fun e => by rw [e]⟩ : decide (V.str x = V.str y) = decide (x = y)) ▸ h⟩
theorem o_neS {x y : Str} (h : Q (.bl (!decide (x = y))) H) : zNe K (.str x) (.str y) H Q := .inl ⟨rfl, (decide_eq_decide.mpr ⟨fun e => V.str.inj e, fun e => by rw [e]⟩ : decide (V.str x = V.str y) = decide (x = y)) ▸ h⟩
theorem o_neB {x y : Bool} (h : Q (.bl (!decide (x = y))) H) : zNe K (.bl x) (.bl y) H Q := .inl ⟨rfl, (decide_eq_decide.mpr ⟨fun e => V.bl.inj e, fun e => by rw [e]⟩ : decide (V.bl x = V.bl y) = decide (x = y)) ▸ h⟩
theorem o_eqB {x y : Bool} (h : Q (.bl (decide (x = y))) H) : zEq K (.bl x) (.bl y) H Q := .inl ⟨rfl, (decide_eq_decide.mpr ⟨fun e => V.bl.inj e, fun e => by rw [e]⟩ : decide (V.bl x = V.bl y) = decide (x = y)) ▸ h⟩
theorem o_isT {x : Bool} (h : Q (.bl x) H) : rIsB (.bl x) (.bl true) H Q := ⟨x, true, rfl, rfl, by simpa using h⟩
theorem o_isF {x : Bool} (h : Q (.bl (!x)) H) : rIsB (.bl x) (.bl false) H Q := ⟨x, false, rfl, rfl, by cases x <;> simpa using h⟩
def zDm : List V → Hp → VK → Prop := fun xs H Q => ∃ i j, xs = [.int i, .int j] ∧ CDivP i j ∧ ∀ p, H p = none → Q (.ref p) (upd H p (.tup [.int (i / j), .int (i % j)]))
theorem o_divmod (h0 : 0 < n) (hm : m.natAbs < 2 ^ 240) (h : ∀ p, Fresh H p → Q (.ref p) (upd H p (.tup [.int (m / n), .int (m % n)]))) : zDm [.int m, .int n] H Q := ⟨m, n, rfl, divp_ok h0 (by
  have := PyProof.Rows.intBits_le hm
  omega), h⟩
theorem e_tupRg1 {ta : TE} (h : ta σ H fun x H1 => ∃ n, x = .int n ∧ RgOk 0 n ∧ ∀ q, H1 q = none → Q (.ref q) (upd H1 q (.tup (rgV 0 n)))) : tTupRg (tRg1 ta) σ H Q := h
theorem e_tupRg2 {ta tb : TE} (h : ta σ H fun x H1 => tb σ H1 fun y H2 => ∃ i j, x = .int i ∧ y = .int j ∧ RgOk i j ∧ ∀ q, H2 q = none → Q (.ref q) (upd H2 q (.tup (rgV i j)))) : tTupRg (tRg2 ta tb) σ H Q := h
theorem e_lstRg1 {ta : TE} (h : ta σ H fun x H1 => ∃ n, x = .int n ∧ RgOk 0 n ∧ ∀ q, H1 q = none → Q (.ref q) (upd H1 q (.lst (rgV 0 n)))) : tLstRg (tRg1 ta) σ H Q := h
theorem e_lstRg2 {ta tb : TE} (h : ta σ H fun x H1 => tb σ H1 fun y H2 => ∃ i j, x = .int i ∧ y = .int j ∧ RgOk i j ∧ ∀ q, H2 q = none → Q (.ref q) (upd H2 q (.lst (rgV i j)))) : tLstRg (tRg2 ta tb) σ H Q := h
theorem rg1_ {P : Int → Hp → Addr → Prop} (h0 : RgOk 0 n) (h : ∀ q, Fresh H q → P n (upd H q (.tup (rgV 0 n))) q) : ∃ n', V.int n = .int n' ∧ RgOk 0 n' ∧ ∀ q, H q = none → P n' (upd H q (.tup (rgV 0 n'))) q := ⟨n, rfl, h0, h⟩
theorem s_while {c : TT} {t : TS} {D : Ends} (W : Nat → St → Hp → Prop) (m0 : Nat) (h0 : W m0 σ H) (hs : ∀ m σ' H', W m σ' H' → c σ' H' fun b H1 => if b = true then ∃ N : St → Hp → Prop, (∀ σ2 H2, N σ2 H2 → ∃ m', m' < m ∧ W m' σ2 H2) ∧ t { D with nx := N, ct := N, bk := D.nx } σ' H1 else D.nx σ' H1) :
    tWhile c t D σ H := ⟨W, ⟨m0, h0⟩, hs⟩
theorem w_turn {t : TS} {D : Ends} {W : Nat → St → Hp → Prop} {k : Nat} (h : t { D with nx := fun σ2 H2 => ∃ m', m' < k ∧ W m' σ2 H2, ct := fun σ2 H2 => ∃ m', m' < k ∧ W m' σ2 H2, bk := D.nx } σ H) : ∃ N : St → Hp → Prop, (∀ σ2 H2, N σ2 H2 → ∃ m', m' < k ∧ W m' σ2 H2) ∧ t { D with nx := N, ct := N, bk := D.nx } σ H :=
  ⟨_, fun _ _ h => h, h⟩
/-! ### [f x for x in xs if p x], test and element changing nothing -/
def FilAt (p : V → Bool) (f : V → V) (xs : List V) (H : Hp) (D : Addr) (i : Nat) (H' : Hp) : Prop := H' = upd H D (.lst (((xs.take i).filter p).map f))
theorem fil_turn {p : V → Bool} {f : V → V} {D : Addr} {i : Nat} {σ1 : St} {H' : Hp} {x : V} (hD : Fresh H D) (hx : xs[i]? = some x) (hi : xs.length ≤ 10000) (h : FilAt p f xs H D i H') (ht : ∀ H2 (QB : Bool → Hp → Prop), Same H H2 → QB (p x) H2 → tt σ1 H2 QB)
    (he : ∀ H2 (Q : VK), Same H H2 → p x = true → Q (f x) H2 → te σ1 H2 Q) :
    tt σ1 H' fun b H4 => if b = true then te σ1 H4 fun y H5 => ∃ acc, H5 D = some (.lst acc) ∧ acc.length < sizeLine ∧ FilAt p f xs H D (i + 1) (upd H5 D (.lst (acc ++ [y]))) else FilAt p f xs H D (i + 1) H4 := by
  subst h
  have il := (List.getElem?_eq_some_iff.mp hx).1
  have sm : ∀ o, Same H (upd H D o) := fun o b u e => (upd_ne (ne_of_none e hD)).trans e
  have tk : xs.take (i + 1) = xs.take i ++ [x] := by
    rw [List.take_add_one, hx]
    rfl
  refine ht _ _ (sm _) ?_
  cases hp : p x with
  | true =>
    refine iteT (he _ _ (sm _) hp ⟨_, upd_same, ?_, ?_⟩)
    · rw [List.length_map, sizeLine_eq]
      have := List.length_filter_le p (xs.take i)
      rw [List.length_take] at this
      omega
    · show upd (upd H D _) D _ = _
      rw [upd_upd, tk, List.filter_append, List.map_append, List.filter_cons_of_pos hp]
      rfl
  | false =>
    refine iteF ?_
    show upd H D _ = _
    rw [tk, List.filter_append, List.filter_cons_of_neg (by rw [hp]; exact Bool.false_ne_true), List.filter_nil, List.append_nil]
theorem lcT_fil (p : V → Bool) (f : V → V) (hs : SqT K H a xs) (hz : xs.length ≤ 10000) (ht : ∀ x ∈ xs, ∀ H2 (QB : Bool → Hp → Prop), Same H H2 → QB (p x) H2 → tt ((wipe σ vs).set j (some x)) H2 QB)
    (he : ∀ x ∈ xs, ∀ H2 (Q : VK), Same H H2 → p x = true → Q (f x) H2 → te ((wipe σ vs).set j (some x)) H2 Q)
    (k : ∀ D, Fresh H D → Q (.ref D) (upd H D (.lst ((xs.filter p).map f)))) (hw : ∀ x, wipe ((wipe σ vs).set j (some x)) vs = wipe σ vs := by intro _; rfl) : LcT K (gName j) tt te vs σ (.ref a) H Q :=
  lc_T hs (fun D i H' => FilAt p f xs H D i H' ∧ Fresh H D) (fun D hD => ⟨rfl, hD⟩) (fun D i H' _ ⟨e, hD⟩ => by
    rw [e]
    exact Same.seqT (fun b o e => (upd_ne (ne_of_none e hD)).trans e) hs) (fun D i x H' hD hx h => ⟨hw x, by
      have hm := List.mem_of_getElem? hx
      have := fil_turn (tt := tt) (te := te) (σ1 := (wipe σ vs).set j (some x)) hD hx hz h.1 (fun H2 QB hs q => ht x hm H2 QB hs q) (fun H2 Q hs hp q => he x hm H2 Q hs hp q)
      simpa only [hD, and_true] using this⟩) fun D H' hD ⟨e, _⟩ => by
    rw [e, List.take_length]
    exact k D hD
theorem lcL_fil (p : V → Bool) (f : V → V) (hs : SqL K H a xs) (hz : xs.length ≤ 10000) (ht : ∀ x ∈ xs, ∀ H2 (QB : Bool → Hp → Prop), Same H H2 → QB (p x) H2 → tt ((wipe σ vs).set j (some x)) H2 QB)
    (he : ∀ x ∈ xs, ∀ H2 (Q : VK), Same H H2 → p x = true → Q (f x) H2 → te ((wipe σ vs).set j (some x)) H2 Q)
    (k : ∀ D, Fresh H D → Q (.ref D) (upd H D (.lst ((xs.filter p).map f)))) (hw : ∀ x, wipe ((wipe σ vs).set j (some x)) vs = wipe σ vs := by intro _; rfl) : LcL K (gName j) tt te vs σ (.ref a) H Q :=
  lc_L hs (fun D i H' => FilAt p f xs H D i H' ∧ Fresh H D) (fun D hD => ⟨rfl, hD⟩) (fun D i H' _ ⟨e, hD⟩ => by
    rw [e]
    exact Same.seq (fun b o e => (upd_ne (ne_of_none e hD)).trans e) hs) (fun D i x H' hD hx h => ⟨hw x, by
      have hm := List.mem_of_getElem? hx
      have := fil_turn (tt := tt) (te := te) (σ1 := (wipe σ vs).set j (some x)) hD hx hz h.1 (fun H2 QB hs q => ht x hm H2 QB hs q) (fun H2 Q hs hp q => he x hm H2 Q hs hp q)
      simpa only [hD, and_true] using this⟩) fun D H' hD ⟨e, _⟩ => by
    rw [e, List.take_length]
    exact k D hD
/-- ints through a test, to values -/
def onI (p : Int → Bool) : V → Bool
  | .int z => p z
  | _ => false
def mapI (f : Int → V) : V → V
  | .int z => f z
  | v => v
theorem fil_ints (p : Int → Bool) (f : Int → V) : ∀ ns : List Int, ((ns.map V.int).filter (onI p)).map (mapI f) = (ns.filter p).map f
  | [] => rfl
  | n :: ns => by
    have ih := fil_ints p f ns
    rw [List.map_cons, List.filter_cons, List.filter_cons]
    show ((if onI p (.int n) = true then _ else _) : List V).map _ = _
    show ((if p n = true then _ else _) : List V).map _ = _
    cases hp : p n with
    | true => rw [if_pos rfl, if_pos rfl, List.map_cons, List.map_cons, ih]; rfl
    | false => rw [if_neg Bool.false_ne_true, if_neg Bool.false_ne_true, ih]
theorem lcT_int (p : Int → Bool) (f : Int → V) (hs : SqT K H a (ns.map V.int)) (hz : ns.length ≤ 10000) (ht : ∀ x ∈ ns, ∀ H2 (QB : Bool → Hp → Prop), Same H H2 → QB (p x) H2 → tt ((wipe σ vs).set j (some (.int x))) H2 QB)
    (he : ∀ x ∈ ns, ∀ H2 (Q : VK), Same H H2 → p x = true → Q (f x) H2 → te ((wipe σ vs).set j (some (.int x))) H2 Q)
    (k : ∀ D, Fresh H D → Q (.ref D) (upd H D (.lst ((ns.filter p).map f)))) (hw : ∀ x, wipe ((wipe σ vs).set j (some x)) vs = wipe σ vs := by intro _; rfl) : LcT K (gName j) tt te vs σ (.ref a) H Q :=
  lcT_fil (onI p) (mapI f) hs (by rw [List.length_map]; exact hz) (fun x hx H2 QB hs q => by
    obtain ⟨z, hz, rfl⟩ := List.mem_map.mp hx
    exact ht z hz H2 QB hs q) (fun x hx H2 Q hs hp q => by
    obtain ⟨z, hz, rfl⟩ := List.mem_map.mp hx
    exact he z hz H2 Q hs hp q) (fun D hD => by
    rw [fil_ints]
    exact k D hD) hw
theorem lcL_int (p : Int → Bool) (f : Int → V) (hs : SqL K H a (ns.map V.int)) (hz : ns.length ≤ 10000) (ht : ∀ x ∈ ns, ∀ H2 (QB : Bool → Hp → Prop), Same H H2 → QB (p x) H2 → tt ((wipe σ vs).set j (some (.int x))) H2 QB)
    (he : ∀ x ∈ ns, ∀ H2 (Q : VK), Same H H2 → p x = true → Q (f x) H2 → te ((wipe σ vs).set j (some (.int x))) H2 Q)
    (k : ∀ D, Fresh H D → Q (.ref D) (upd H D (.lst ((ns.filter p).map f)))) (hw : ∀ x, wipe ((wipe σ vs).set j (some x)) vs = wipe σ vs := by intro _; rfl) : LcL K (gName j) tt te vs σ (.ref a) H Q :=
  lcL_fil (onI p) (mapI f) hs (by rw [List.length_map]; exact hz) (fun x hx H2 QB hs q => by
    obtain ⟨z, hz, rfl⟩ := List.mem_map.mp hx
    exact ht z hz H2 QB hs q) (fun x hx H2 Q hs hp q => by
    obtain ⟨z, hz, rfl⟩ := List.mem_map.mp hx
    exact he z hz H2 Q hs hp q) (fun D hD => by
    rw [fil_ints]
    exact k D hD) hw
/-! ### the same, test and element making new things -/
def GrowAt (l : List V) (H : Hp) (D : Addr) (H' : Hp) : Prop := Same H H' ∧ H' D = some (.lst l)
theorem grow_turn {b : Bool} {y : V} {l l' : List V} {D : Addr} {σ1 : St} {H' : Hp} (hD : Fresh H D) (hz : l.length < sizeLine) (h : GrowAt l H D H') (hl : l' = if b = true then l ++ [y] else l) (ht : ∀ H2 (QB : Bool → Hp → Prop), Same H H2 → (∀ H3, Same H2 H3 → QB b H3) → tt σ1 H2 QB)
    (he : ∀ H2 (Q : VK), Same H H2 → b = true → (∀ H3, Same H2 H3 → Q y H3) → te σ1 H2 Q) :
    tt σ1 H' fun b H4 => if b = true then te σ1 H4 fun y H5 => ∃ acc, H5 D = some (.lst acc) ∧ acc.length < sizeLine ∧ GrowAt l' H D (upd H5 D (.lst (acc ++ [y]))) else GrowAt l' H D H4 := by
  refine ht _ _ h.1 fun H3 s3 => ?_
  have S3 := h.1.trans s3
  cases b with
  | true =>
    rw [if_pos rfl] at hl
    refine iteT (he _ _ S3 rfl fun H4 s4 => ⟨l, s4 _ _ (s3 _ _ h.2), hz, fun a o e => ?_, ?_⟩)
    · rw [upd_ne (ne_of_none e hD)]
      exact s4 _ _ (S3 _ _ e)
    · rw [upd_same, hl]
  | false =>
    rw [if_neg Bool.false_ne_true] at hl
    refine iteF ⟨S3, ?_⟩
    rw [hl]
    exact s3 _ _ h.2
theorem fil_take {p : V → Bool} {f : V → V} {x : V} {i : Nat} (hx : xs[i]? = some x) : ((xs.take (i + 1)).filter p).map f = if p x = true then ((xs.take i).filter p).map f ++ [f x] else ((xs.take i).filter p).map f := by
  have tk : xs.take (i + 1) = xs.take i ++ [x] := by
    rw [List.take_add_one, hx]
    rfl
  rw [tk, List.filter_append, List.map_append]
  by_cases h : p x = true
  · rw [if_pos h, List.filter_cons_of_pos h]
    rfl
  · rw [if_neg h, List.filter_cons_of_neg h, List.filter_nil, List.map_nil, List.append_nil]
theorem fil_short {p : V → Bool} {f : V → V} {i : Nat} (hz : xs.length ≤ 10000) : (((xs.take i).filter p).map f).length < sizeLine := by
  have := List.length_filter_le p (xs.take i)
  rw [List.length_take] at this
  rw [List.length_map, sizeLine_eq]
  omega
theorem lcT_grow (p : V → Bool) (f : V → V) (hs : SqT K H a xs) (hz : xs.length ≤ 10000) (ht : ∀ x ∈ xs, ∀ H2 (QB : Bool → Hp → Prop), Same H H2 → (∀ H3, Same H2 H3 → QB (p x) H3) → tt ((wipe σ vs).set j (some x)) H2 QB)
    (he : ∀ x ∈ xs, ∀ H2 (Q : VK), Same H H2 → p x = true → (∀ H3, Same H2 H3 → Q (f x) H3) → te ((wipe σ vs).set j (some x)) H2 Q)
    (k : ∀ D H', Fresh H D → Same H H' → H' D = some (.lst ((xs.filter p).map f)) → Q (.ref D) H') (hw : ∀ x, wipe ((wipe σ vs).set j (some x)) vs = wipe σ vs := by intro _; rfl) : LcT K (gName j) tt te vs σ (.ref a) H Q :=
  lc_T hs (fun D i H' => GrowAt (((xs.take i).filter p).map f) H D H') (fun D hD => ⟨fun b u e => (upd_ne (ne_of_none e hD)).trans e, upd_same⟩) (fun D i H' _ h => Same.seqT h.1 hs) (fun D i x H' hD hx h => ⟨hw x, by
    have hm := List.mem_of_getElem? hx
    exact grow_turn (b := p x) (y := f x) hD (fil_short hz) h (fil_take hx) (fun H2 QB hs q => ht x hm H2 QB hs q) (fun H2 Q hs hp q => he x hm H2 Q hs hp q)⟩) fun D H' hD h => by
    rw [List.take_length] at h
    exact k D H' hD h.1 h.2
theorem lcL_grow (p : V → Bool) (f : V → V) (hs : SqL K H a xs) (hz : xs.length ≤ 10000) (ht : ∀ x ∈ xs, ∀ H2 (QB : Bool → Hp → Prop), Same H H2 → (∀ H3, Same H2 H3 → QB (p x) H3) → tt ((wipe σ vs).set j (some x)) H2 QB)
    (he : ∀ x ∈ xs, ∀ H2 (Q : VK), Same H H2 → p x = true → (∀ H3, Same H2 H3 → Q (f x) H3) → te ((wipe σ vs).set j (some x)) H2 Q)
    (k : ∀ D H', Fresh H D → Same H H' → H' D = some (.lst ((xs.filter p).map f)) → Q (.ref D) H') (hw : ∀ x, wipe ((wipe σ vs).set j (some x)) vs = wipe σ vs := by intro _; rfl) : LcL K (gName j) tt te vs σ (.ref a) H Q :=
  lc_L hs (fun D i H' => GrowAt (((xs.take i).filter p).map f) H D H') (fun D hD => ⟨fun b u e => (upd_ne (ne_of_none e hD)).trans e, upd_same⟩) (fun D i H' _ h => Same.seq h.1 hs) (fun D i x H' hD hx h => ⟨hw x, by
    have hm := List.mem_of_getElem? hx
    exact grow_turn (b := p x) (y := f x) hD (fil_short hz) h (fil_take hx) (fun H2 QB hs q => ht x hm H2 QB hs q) (fun H2 Q hs hp q => he x hm H2 Q hs hp q)⟩) fun D H' hD h => by
    rw [List.take_length] at h
    exact k D H' hD h.1 h.2
theorem lcT_igrow (p : Int → Bool) (f : Int → V) (hs : SqT K H a (ns.map V.int)) (hz : ns.length ≤ 10000) (ht : ∀ x ∈ ns, ∀ H2 (QB : Bool → Hp → Prop), Same H H2 → (∀ H3, Same H2 H3 → QB (p x) H3) → tt ((wipe σ vs).set j (some (.int x))) H2 QB)
    (he : ∀ x ∈ ns, ∀ H2 (Q : VK), Same H H2 → p x = true → (∀ H3, Same H2 H3 → Q (f x) H3) → te ((wipe σ vs).set j (some (.int x))) H2 Q)
    (k : ∀ D H', Fresh H D → Same H H' → H' D = some (.lst ((ns.filter p).map f)) → Q (.ref D) H') (hw : ∀ x, wipe ((wipe σ vs).set j (some x)) vs = wipe σ vs := by intro _; rfl) : LcT K (gName j) tt te vs σ (.ref a) H Q :=
  lcT_grow (onI p) (mapI f) hs (by rw [List.length_map]; exact hz) (fun x hx H2 QB hs q => by
    obtain ⟨z, hz, rfl⟩ := List.mem_map.mp hx
    exact ht z hz H2 QB hs q) (fun x hx H2 Q hs hp q => by
    obtain ⟨z, hz, rfl⟩ := List.mem_map.mp hx
    exact he z hz H2 Q hs hp q) (fun D H' hD hS e => by
    rw [fil_ints] at e
    exact k D H' hD hS e) hw
theorem lcR_grow (p : Nat → Bool) (f : Nat → V) (hz : -(2 ^ 62) ≤ n ∧ n ≤ 10000) (ht : ∀ i : Nat, (i : Int) < n → ∀ H2 (QB : Bool → Hp → Prop), Same H H2 → (∀ H3, Same H2 H3 → QB (p i) H3) → tt ((wipe σ vs).set j (some (.int (i : Int)))) H2 QB)
    (he : ∀ i : Nat, (i : Int) < n → ∀ H2 (Q : VK), Same H H2 → p i = true → (∀ H3, Same H2 H3 → Q (f i) H3) → te ((wipe σ vs).set j (some (.int (i : Int)))) H2 Q)
    (k : ∀ D H', Fresh H D → Same H H' → H' D = some (.lst (((List.range n.toNat).filter p).map f)) → Q (.ref D) H') (hw : ∀ x, wipe ((wipe σ vs).set j (some x)) vs = wipe σ vs := by intro _; rfl) : LcR1 (gName j) tt te vs σ (.int n) H Q :=
  lc_R1 (by omega) (fun D i H' => GrowAt (((List.range i).filter p).map f) H D H') (fun D hD => ⟨fun b u e => (upd_ne (ne_of_none e hD)).trans e, upd_same⟩) (fun D i H' hD hi h => ⟨hw _, by
    refine grow_turn (b := p i) (y := f i) hD ?_ h ?_ (fun H2 QB hs q => ht i hi H2 QB hs q) (fun H2 Q hs hp q => he i hi H2 Q hs hp q)
    · have := List.length_filter_le p (List.range i)
      rw [List.length_range] at this
      rw [List.length_map, sizeLine_eq]
      omega
    · rw [List.range_succ, List.filter_append, List.map_append]
      by_cases h : p i = true
      · rw [if_pos h, List.filter_cons_of_pos h]
        rfl
      · rw [if_neg h, List.filter_cons_of_neg h, List.filter_nil, List.map_nil, List.append_nil]⟩) fun D H' hD h => k D H' hD h.1 h.2
end
end Z

/-! Zb: bits: numbers as sets of seats. -/
namespace Z
open PySem PySem.Spec L2
open PyProof.Rows hiding St
section
variable {X : Cx}
theorem ip_or : PIp X .BitOr (ipI fun i j => Builtin.bitOr i j) := by
  intro pins s σ H x y v u Q I r1 r2 h
  obtain ⟨i, j, e1, e2, q⟩ := h
  subst e1; subst e2
  obtain ⟨t, rfl⟩ := r1
  obtain ⟨t', rfl⟩ := r2
  exact ior_int ⟨.int _, _, I.tok _, ⟨_, rfl⟩, q⟩
end
/-! ### the words over Nat -/
theorem and_nat (a b : Nat) : Builtin.bitAnd (a : Int) (b : Int) = ((a &&& b : Nat) : Int) := bitAnd_pp (Int.natCast_nonneg a) (Int.natCast_nonneg b)
theorem not_not (x : Int) : Builtin.bitNot (Builtin.bitNot x) = x := by
  unfold Builtin.bitNot
  omega
theorem or_nat (a b : Nat) : Builtin.bitOr (a : Int) (b : Int) = ((a ||| b : Nat) : Int) := by
  have h : ∀ n : Nat, ¬ 0 ≤ Builtin.bitNot (n : Int) := fun n => by
    unfold Builtin.bitNot
    omega
  show Builtin.bitNot (Builtin.bitAnd (Builtin.bitNot a) (Builtin.bitNot b)) = _
  rw [bitAnd_nn (h a) (h b), not_not, not_not, not_not]
  rfl
theorem shl_one (k : Nat) : (1 : Int) * 2 ^ ((k : Int)).toNat = ((2 ^ k : Nat) : Int) := by
  rw [Int.toNat_natCast, Int.one_mul, Int.natCast_pow]
  rfl
theorem shr_nat (a k : Nat) : (a : Int) / 2 ^ ((k : Int)).toNat = ((a >>> k : Nat) : Int) := by
  rw [Int.toNat_natCast, Nat.shiftRight_eq_div_pow, Int.natCast_ediv, Int.natCast_pow]
  rfl
theorem bits_nat (a : Nat) : Builtin.Int.intBits (a : Int) = if a = 0 then 0 else a.log2 + 1 := by
  unfold Builtin.Int.intBits
  by_cases h : a = 0
  · subst h
    rfl
  · rw [if_neg h, if_neg (by simpa using h), Int.natAbs_natCast]
/-- the least bit -/
theorem low_nat (a : Nat) (h : 0 < a) : Builtin.bitAnd (a : Int) (-(a : Int)) = ((a - (a &&& (a - 1)) : Nat) : Int) := by
  have e : Builtin.bitNot (-(a : Int)) = ((a - 1 : Nat) : Int) := by
    unfold Builtin.bitNot
    omega
  rw [bitAnd_pn (by omega) (by omega), e, Int.toNat_natCast, Int.toNat_natCast]
  have : a &&& (a - 1) ≤ a := Nat.and_le_left
  omega
/-! ### sets of seats as numbers -/
def bitsN : List Int → Nat
  | [] => 0
  | d :: r => 2 ^ d.toNat ||| bitsN r
theorem bitsN_app : ∀ a b : List Int, bitsN (a ++ b) = bitsN a ||| bitsN b
  | [], b => (Nat.zero_or _).symm
  | d :: a, b => by
    rw [List.cons_append, bitsN, bitsN, bitsN_app a b, Nat.or_assoc]
theorem bitsN_test : ∀ {l : List Int}, (∀ d ∈ l, 0 ≤ d) → ∀ i : Nat, (bitsN l).testBit i = decide ((i : Int) ∈ l)
  | [], _, i => by
    rw [bitsN, Nat.zero_testBit]
    simp
  | d :: r, h, i => by
    rw [bitsN, Nat.testBit_or, bitsN_test (fun x hx => h x (List.mem_cons_of_mem _ hx)), Nat.testBit_two_pow]
    have h0 := h d List.mem_cons_self
    rw [show decide ((i : Int) ∈ d :: r) = decide ((i : Int) = d ∨ (i : Int) ∈ r) from decide_eq_decide.mpr List.mem_cons, Bool.decide_or]
    congr 1
    exact decide_eq_decide.mpr ⟨fun e => by omega, fun e => by omega⟩
theorem bitsN_lt {m : Nat} : ∀ {l : List Int}, (∀ d ∈ l, 0 ≤ d ∧ d < m) → bitsN l < 2 ^ m
  | [], _ => Nat.two_pow_pos m
  | d :: r, h => by
    have h0 := h d List.mem_cons_self
    rw [bitsN]
    exact Nat.or_lt_two_pow (Nat.pow_lt_pow_right (by decide) (by omega)) (bitsN_lt fun x hx => h x (List.mem_cons_of_mem _ hx))
theorem pw_ext : ∀ {a b : List Int}, a.Pairwise (· < ·) → b.Pairwise (· < ·) → (∀ x, x ∈ a ↔ x ∈ b) → a = b
  | [], [], _, _, _ => rfl
  | [], y :: b, _, _, h => absurd ((h y).mpr List.mem_cons_self) List.not_mem_nil
  | x :: a, [], _, _, h => absurd ((h x).mp List.mem_cons_self) List.not_mem_nil
  | x :: a, y :: b, ha, hb, h => by
    have ha' := List.pairwise_cons.mp ha
    have hb' := List.pairwise_cons.mp hb
    have e : x = y := by
      rcases List.mem_cons.mp ((h x).mp List.mem_cons_self) with e | hx
      · exact e
      rcases List.mem_cons.mp ((h y).mpr List.mem_cons_self) with e | hy
      · exact e.symm
      have := ha'.1 y hy
      have := hb'.1 x hx
      omega
    subst e
    rw [pw_ext ha'.2 hb'.2 fun z => ⟨fun hz => by
      rcases List.mem_cons.mp ((h z).mp (List.mem_cons_of_mem _ hz)) with e | hz'
      · have := ha'.1 z hz
        omega
      · exact hz', fun hz => by
      rcases List.mem_cons.mp ((h z).mpr (List.mem_cons_of_mem _ hz)) with e | hz'
      · have := hb'.1 z hz
        omega
      · exact hz'⟩]
/-- the seats of a number -/
def seatsN (n : Nat) : List Int := ((List.range (Builtin.Int.intBits (n : Int))).filter fun i => n.testBit i).map fun (i : Nat) => (i : Int)
theorem seatsN_mem (n : Nat) (x : Int) : x ∈ seatsN n ↔ 0 ≤ x ∧ n.testBit x.toNat = true := by
  unfold seatsN
  rw [List.mem_map]
  constructor
  · rintro ⟨i, hi, rfl⟩
    have := (List.mem_filter.mp hi).2
    exact ⟨by omega, by rw [Int.toNat_natCast]; exact this⟩
  · rintro ⟨h0, h1⟩
    refine ⟨x.toNat, List.mem_filter.mpr ⟨List.mem_range.mpr ?_, h1⟩, by omega⟩
    rw [bits_nat]
    split
    · rename_i e
      rw [e, Nat.zero_testBit] at h1
      cases h1
    · have := Nat.ge_two_pow_of_testBit h1
      rcases Nat.lt_or_ge x.toNat (n.log2 + 1) with hl | hl
      · exact hl
      · have a : n < 2 ^ (n.log2 + 1) := Nat.lt_log2_self
        have b : 2 ^ (n.log2 + 1) ≤ 2 ^ x.toNat := Nat.pow_le_pow_right (by decide) hl
        omega
theorem seatsN_up (n : Nat) : (seatsN n).Pairwise (· < ·) := by
  unfold seatsN
  rw [List.pairwise_map]
  exact (List.pairwise_lt_range.filter _).imp fun h => by omega
theorem seats_bits {l : List Int} (up : l.Pairwise (· < ·)) (h : ∀ d ∈ l, 0 ≤ d) : seatsN (bitsN l) = l := pw_ext (seatsN_up _) up fun x => by
  rw [seatsN_mem]
  constructor
  · rintro ⟨h0, h1⟩
    rw [bitsN_test h] at h1
    have := of_decide_eq_true h1
    rw [Int.toNat_of_nonneg h0] at this
    exact this
  · intro hx
    refine ⟨h x hx, ?_⟩
    rw [bitsN_test h, Int.toNat_of_nonneg (h x hx)]
    exact decide_eq_true hx
theorem bitsN_and {a b : List Int} (ha : ∀ d ∈ a, 0 ≤ d) (hb : ∀ d ∈ b, 0 ≤ d) (i : Nat) : (bitsN a &&& bitsN b).testBit i = decide ((i : Int) ∈ a ∧ (i : Int) ∈ b) := by
  rw [Nat.testBit_and, bitsN_test ha, bitsN_test hb, Bool.decide_and]
theorem bitsN_inj {a b : List Int} (ua : a.Pairwise (· < ·)) (ub : b.Pairwise (· < ·)) (ha : ∀ d ∈ a, 0 ≤ d) (hb : ∀ d ∈ b, 0 ≤ d) : bitsN a = bitsN b ↔ a = b :=
  ⟨fun e => by rw [← seats_bits ua ha, e, seats_bits ub hb], fun e => by rw [e]⟩
/-- other & one == other -/
theorem bitsN_sub {a b : List Int} (ha : ∀ d ∈ a, 0 ≤ d) (hb : ∀ d ∈ b, 0 ≤ d) : bitsN a &&& bitsN b = bitsN a ↔ ∀ x ∈ a, x ∈ b := by
  constructor
  · intro e x hx
    have h0 := ha x hx
    have q : (bitsN a &&& bitsN b).testBit x.toNat = (bitsN a).testBit x.toNat := by rw [e]
    rw [bitsN_and ha hb, bitsN_test ha, Int.toNat_of_nonneg h0] at q
    have : decide (x ∈ a) = true := decide_eq_true hx
    rw [this] at q
    exact (of_decide_eq_true q).2
  · intro h
    refine Nat.eq_of_testBit_eq fun i => ?_
    rw [bitsN_and ha hb, bitsN_test ha]
    exact decide_eq_decide.mpr ⟨fun z => z.1, fun z => ⟨z, h _ z⟩⟩
theorem bitsN_apart {a b : List Int} (ha : ∀ d ∈ a, 0 ≤ d) (hb : ∀ d ∈ b, 0 ≤ d) : bitsN a &&& bitsN b = 0 ↔ ∀ x ∈ a, x ∉ b := by
  constructor
  · intro e x hx hx'
    have h0 := ha x hx
    have q : (bitsN a &&& bitsN b).testBit x.toNat = false := by rw [e, Nat.zero_testBit]
    rw [bitsN_and ha hb, Int.toNat_of_nonneg h0] at q
    exact of_decide_eq_false q ⟨hx, hx'⟩
  · intro h
    refine Nat.eq_of_testBit_eq fun i => ?_
    rw [bitsN_and ha hb, Nat.zero_testBit]
    exact decide_eq_false fun z => h _ z.1 z.2
/-- n & -n is the power of the least bit -/
theorem low_bit {n i : Nat} (hi : n.testBit i = true) (hl : ∀ j, j < i → n.testBit j = false) : n - (n &&& (n - 1)) = 2 ^ i := by
  obtain ⟨q, hq⟩ : ∃ q, n = q * 2 ^ (i + 1) + 2 ^ i := by
    refine ⟨n / 2 ^ (i + 1), ?_⟩
    have e : n % 2 ^ (i + 1) = 2 ^ i := by
      refine Nat.eq_of_testBit_eq fun j => ?_
      rw [Nat.testBit_mod_two_pow, Nat.testBit_two_pow]
      by_cases h : j = i
      · subst h
        simp [hi]
      · by_cases h2 : j < i
        · rw [hl j h2]
          simp [Ne.symm h]
        · simp [Ne.symm h]
          omega
    have := Nat.div_add_mod n (2 ^ (i + 1))
    rw [e, Nat.mul_comm] at this
    exact this.symm
  have p : 0 < 2 ^ i := Nat.two_pow_pos i
  have e2 : n - 1 = q * 2 ^ (i + 1) + (2 ^ i - 1) := by omega
  have e3 : n &&& (n - 1) = q * 2 ^ (i + 1) := by
    refine Nat.eq_of_testBit_eq fun j => ?_
    rw [Nat.testBit_and, e2, hq, Nat.mul_comm q, Nat.testBit_two_pow_mul_add _ (by rw [Nat.pow_succ]; omega), Nat.testBit_two_pow_mul_add _ (by rw [Nat.pow_succ]; omega), Nat.testBit_two_pow_mul]
    by_cases h : j < i + 1
    · rw [if_pos h, if_pos h, Nat.testBit_two_pow, Nat.testBit_two_pow_sub_one]
      have : decide (j ≥ i + 1) = false := decide_eq_false (by omega)
      rw [this, Bool.false_and, Bool.and_eq_false_iff]
      by_cases h2 : i = j
      · exact .inr (decide_eq_false (by omega))
      · exact .inl (decide_eq_false h2)
    · rw [if_neg h, if_neg h, Bool.and_self]
      have : decide (j ≥ i + 1) = true := decide_eq_true (by omega)
      rw [this, Bool.true_and]
  rw [e3, hq]
  omega
theorem bits_pow (i : Nat) : Builtin.Int.intBits ((2 ^ i : Nat) : Int) = i + 1 := by
  rw [bits_nat, if_neg (Nat.ne_of_gt (Nat.two_pow_pos i)), Nat.log2_two_pow]
/-! ### steps -/
section
variable {K : PySem.W.Frag} {σ : St} {H : Hp} {Q : VK} {QB : Bool → Hp → Prop} {ta : TE} {x : V} {a b k : Nat} {m : Int}
theorem o_shl1 (hk : k ≤ 1000) (h : Q (.int ((2 ^ k : Nat) : Int)) H) : zShl (.int 1) (.int (k : Int)) H Q := ⟨1, (k : Int), rfl, rfl, by
  refine ⟨by omega, ?_, ?_⟩ <;> first | decide | omega, by dsimp only; rw [shl_one]; exact h⟩
theorem o_shr (h : Q (.int ((a >>> k : Nat) : Int)) H) : zShr (.int (a : Int)) (.int (k : Int)) H Q := ⟨(a : Int), (k : Int), rfl, rfl, by omega, by dsimp only; rw [shr_nat]; exact h⟩
theorem o_and (h : Q (.int ((a &&& b : Nat) : Int)) H) : zAnd (.int (a : Int)) (.int (b : Int)) H Q := ⟨(a : Int), (b : Int), rfl, rfl, by dsimp only; rw [and_nat]; exact h⟩
theorem o_or (h : Q (.int ((a ||| b : Nat) : Int)) H) : zOr (.int (a : Int)) (.int (b : Int)) H Q := ⟨(a : Int), (b : Int), rfl, rfl, by dsimp only; rw [or_nat]; exact h⟩
theorem o_and1 (h : Q (.int ((a % 2 : Nat) : Int)) H) : zAnd (.int (a : Int)) (.int 1) H Q := ⟨(a : Int), 1, rfl, rfl, by
  dsimp only
  rw [show (1 : Int) = ((1 : Nat) : Int) from rfl, and_nat, Nat.and_one_is_mod]
  exact h⟩
theorem o_low (ha : 0 < a) (h : Q (.int ((a - (a &&& (a - 1)) : Nat) : Int)) H) : zAnd (.int (a : Int)) (.int (-(a : Int))) H Q := ⟨(a : Int), -(a : Int), rfl, rfl, by dsimp only; rw [low_nat a ha]; exact h⟩
theorem o_ipOr (h : Q (.int ((a ||| b : Nat) : Int)) H) : ipI (fun i j => Builtin.bitOr i j) (.int (a : Int)) (.int (b : Int)) H Q := ⟨(a : Int), (b : Int), rfl, rfl, by dsimp only; rw [or_nat]; exact h⟩
theorem g_lst {n : Nat} {ts : TGs} {c : Addr} {xs : List V} {QS : St → Hp → Prop} (h : SqL K H c xs) (hn : xs.length = n) (k : ts xs σ H QS) : gLst K n ts (.ref c) σ H QS := ⟨c, xs, rfl, h, hn, k⟩
theorem dLI_inj {a b : List (List Int)} : dLI a = dLI b ↔ a = b := by
  refine ⟨fun h => ?_, fun h => by rw [h]⟩
  have : ∀ {a b : List (List Int)}, a.map dI = b.map dI → a = b := fun {a} => by
    induction a with
    | nil => intro b h; cases b with
      | nil => rfl
      | cons _ _ => cases h
    | cons x a ih => intro b h; cases b with
      | nil => cases h
      | cons y b =>
        rw [List.map_cons, List.map_cons, List.cons.injEq] at h
        rw [dI_inj.mp h.1, ih h.2]
  exact this (PyData.list.inj h)
/-- lists of tuples of ints -/
theorem o_neLI {c d : Addr} {us ws : List V} {as bs : List (List Int)} (ha : SqL K H c us) (hb : SqL K H d ws) (ta : TIs H us as) (tb : TIs H ws bs) (h : Q (.bl (!decide (as = bs))) H) : zNe K (.ref c) (.ref d) H Q :=
  o_neD (.lst ha ta.dp) (.lst hb tb.dp) (pl_dLI.shaped (by decide)) (pl_dLI.shaped (by decide)) (by rw [pl_dLI.eqv pl_dLI dLI_inj]; exact h)
theorem o_eqLI {c d : Addr} {us ws : List V} {as bs : List (List Int)} (ha : SqL K H c us) (hb : SqL K H d ws) (ta : TIs H us as) (tb : TIs H ws bs) (h : Q (.bl (decide (as = bs))) H) : zEq K (.ref c) (.ref d) H Q :=
  o_eqD (.lst ha ta.dp) (.lst hb tb.dp) (pl_dLI.shaped (by decide)) (pl_dLI.shaped (by decide)) (by rw [pl_dLI.eqv pl_dLI dLI_inj]; exact h)
theorem s_asgU {n : Nat} {ts : TGs} {D : Ends} {te : TE} (h : te σ H fun v H1 => gLst K n ts v σ H1 D.nx) : tAsg te (gLst K n ts) D σ H := h
theorem e_bits (h : ta σ H fun x H1 => ∃ i, x = .int i ∧ Q (.int (Builtin.Int.intBits i : Nat)) H1) : tBits ta σ H Q := h
theorem bits_ {P : V → Prop} (h : P (.int (Builtin.Int.intBits m : Nat))) : ∃ i, V.int m = .int i ∧ P (.int (Builtin.Int.intBits i : Nat)) := ⟨m, rfl, h⟩
theorem t_bit (h : QB (a.testBit k) H) : ∃ q, TruV K (.int ((a >>> k % 2 : Nat) : Int)) H q ∧ QB q H := by
  refine t_int ?_
  have e : ((((a >>> k) % 2 : Nat) : Int) != 0) = a.testBit k := by
    rw [Nat.testBit_eq_decide_div_mod_eq, Nat.shiftRight_eq_div_pow]
    rcases Nat.mod_two_eq_zero_or_one (a / 2 ^ k) with z | z
    · rw [z]
      rfl
    · rw [z]
      rfl
  have e2 : ((((a >>> k % 2 : Nat)) : Int) != 0) = a.testBit k := e
  rw [e2]
  exact h
end
/-! ### what a part made, frozen -/
theorem gr_of_same {F H H' : Hp} {D : Addr} (hF : Same F H) (s : Same H H') (hD : Fresh H D) : ∃ F', Gr M0 F H F' H' ∧ F' D = none ∧ ∀ b o, H b = none → b ≠ D → H' b = some o → F' b = some o := by
  refine ⟨fun b => if ((H b).isNone && decide (b ≠ D)) = true then H' b else F b, ⟨fun b u e => ?_, fun b u e => ?_, fun b o _ e => s b o e, fun b o e f => ?_⟩, ?_, fun b o e1 e2 e3 => ?_⟩
  · rw [hF b u e, if_neg (by simp)]
    exact e
  · split at e
    · exact e
    · exact s b u (hF b u e)
  · show (if _ then _ else _) = _
    rw [e, if_neg (by simp)]
    exact f
  · show (if _ then _ else _) = _
    rw [if_neg (by simp)]
    exact fresh_F hF hD
  · show (if _ then _ else _) = _
    rw [e1, if_pos (by simp [e2])]
    exact e3
section
variable {K : PySem.W.Frag} {σ : St} {H : Hp} {tl te : TE} {c : TT} {Q : VK} {i j : Nat} {g : TG} {a : Addr} {xs : List V} {vs : List Nat} {ns : List Int}
def LcE (K : PySem.W.Frag) (g : TG) (tt : TT) (te : TE) (vs : List Nat) (σ : St) (x : V) (H : Hp) (Q : VK) : Prop := ∃ a xs, [x] = [V.ref a] ∧ SqL K H a xs ∧ LcW (Ite K a) g tt te vs σ H Q
theorem e_lcE (h : tl σ H fun x H1 => LcE K g c te vs σ x H1 Q) : tLc (iEnum K (tCons tl tNil)) g c te vs σ H Q := h
theorem lc_E (hs : SqL K H a xs) (Pv : Addr → Nat → Hp → Prop) (h0 : ∀ D, Fresh H D → Pv D 0 (upd H D (.lst []))) (hl : ∀ D i H', i ≤ xs.length → Pv D i H' → SqL K H' a xs)
    (hb : ∀ D i x H' q, Fresh H D → xs[i]? = some x → Pv D i H' → Fresh H' q → g (.ref q) (wipe σ vs) (upd H' q (.tup [.int (i : Int), x])) fun σ2 H3 => wipe σ2 vs = wipe σ vs ∧ c σ2 H3 fun b H4 =>
      if b = true then te σ2 H4 fun y H5 => ∃ acc, H5 D = some (.lst acc) ∧ acc.length < sizeLine ∧ Pv D (i + 1) (upd H5 D (.lst (acc ++ [y]))) else Pv D (i + 1) H4)
    (hd : ∀ D H', Fresh H D → Pv D xs.length H' → Q (.ref D) H') : LcE K g c te vs σ (.ref a) H Q := by
  refine ⟨a, xs, rfl, hs, fun D nD => ⟨fun i m H' => m = xs.length - i ∧ i ≤ xs.length ∧ Pv D i H', ⟨xs.length, by simp, Nat.zero_le _, h0 D nD⟩, ?_⟩⟩
  rintro i m H' ⟨rfl, hi, pv⟩
  have sq := hl D i H' hi pv
  by_cases cc : i < xs.length
  · refine .inr ⟨⟨xs, xs[i], sq, List.getElem?_eq_getElem cc⟩, Pv D (i + 1), fun H2 p2 => ⟨xs.length - (i + 1), by omega, rfl, cc, p2⟩, fun x H2 y => ?_⟩
    obtain ⟨q, z, rfl, nq, rfl, f⟩ := y
    exact hb D i z H' q nD (f xs sq) pv nq
  · have e : i = xs.length := by omega
    subst e
    exact .inl ⟨⟨xs, sq, Nat.le_refl _⟩, hd D H' nD pv⟩
/-- what the turns of a comprehension have made -/
def RelAt (R : Nat → V → Hp → Prop) (H : Hp) (D : Addr) (i : Nat) (H' : Hp) : Prop := Same H H' ∧ ∃ ys, H' D = some (.lst ys) ∧ ys.length = i ∧ ∀ j y, ys[j]? = some y → R j y H' ∧ y ≠ .ref D
/-- what a relation of made values must bear -/
structure Stab (R : Nat → V → Hp → Prop) : Prop where
  mono : ∀ i y H1 H2, Same H1 H2 → R i y H1 → R i y H2
  put : ∀ i y H1 D acc acc', H1 D = some (.lst acc) → y ≠ .ref D → R i y H1 → R i y (upd H1 D (.lst acc'))
theorem rel_turn {R : Nat → V → Hp → Prop} (S : Stab R) {D : Addr} {n : Nat} {H' H2 : Hp} {te : TE} {σ1 : St} (nD : Fresh H D) (hz : n ≤ 10000) (h : RelAt R H D n H') (s2 : Same H' H2)
    (he : ∀ (Q : VK), (∀ y H3, Same H2 H3 → (∀ b, y = .ref b → Fresh H2 b ∨ ∃ o, H b = some o) → R n y H3 → Q y H3) → te σ1 H2 Q) :
    te σ1 H2 fun y H5 => ∃ acc, H5 D = some (.lst acc) ∧ acc.length < sizeLine ∧ RelAt R H D (n + 1) (upd H5 D (.lst (acc ++ [y]))) := by
  obtain ⟨sH, ys, eD, ly, hy⟩ := h
  refine he _ fun y H3 s3 fr r => ?_
  have eD3 := s3 _ _ (s2 _ _ eD)
  have ny : y ≠ .ref D := fun e => by
    rcases fr D e with f | ⟨o, f⟩
    · rw [Fresh, s2 _ _ eD] at f
      cases f
    · rw [Fresh, f] at nD
      cases nD
  refine ⟨ys, eD3, by rw [sizeLine_eq]; omega, fun b o e => ?_, ys ++ [y], upd_same, by rw [List.length_append, ly]; rfl, fun j z ez => ?_⟩
  · rw [upd_ne (ne_of_none e nD)]
    exact s3 _ _ (s2 _ _ (sH _ _ e))
  · rcases Nat.lt_or_ge j ys.length with l | l
    · rw [List.getElem?_append_left l] at ez
      have q := hy j z ez
      exact ⟨S.put _ _ _ _ _ _ eD3 q.2 (S.mono _ _ _ _ (s2.trans s3) q.1), q.2⟩
    · rw [List.getElem?_append_right l] at ez
      have l0 : j - ys.length = 0 := by
        have := (List.getElem?_eq_some_iff.mp ez).1
        simp only [List.length_singleton] at this
        omega
      rw [l0, List.getElem?_cons_zero] at ez
      obtain rfl : y = z := Option.some.inj ez
      rw [show j = n by omega]
      exact ⟨S.put _ _ _ _ _ _ eD3 ny r, ny⟩
theorem rel_start {R : Nat → V → Hp → Prop} {D : Addr} (nD : Fresh H D) : RelAt R H D 0 (upd H D (.lst [])) := ⟨fun b o e => (upd_ne (ne_of_none e nD)).trans e, [], upd_same, rfl, fun j y h => by cases h⟩
theorem lcL_rel (R : Nat → V → Hp → Prop) (S : Stab R) (hs : SqL K H a xs) (hz : xs.length ≤ 10000)
    (he : ∀ i x, xs[i]? = some x → ∀ H2 (Q : VK), Same H H2 → (∀ y H3, Same H2 H3 → (∀ b, y = .ref b → Fresh H2 b ∨ ∃ o, H b = some o) → R i y H3 → Q y H3) → te ((wipe σ vs).set j (some x)) H2 Q)
    (k : ∀ D H' ys, Fresh H D → Same H H' → H' D = some (.lst ys) → ys.length = xs.length → (∀ i y, ys[i]? = some y → R i y H') → Q (.ref D) H') (hw : ∀ x, wipe ((wipe σ vs).set j (some x)) vs = wipe σ vs := by intro _; rfl) : LcL K (gName j) tYes te vs σ (.ref a) H Q :=
  lc_L hs (fun D i H' => RelAt R H D i H') (fun D nD => rel_start nD) (fun D i H' _ h => Same.seq h.1 hs) (fun D i x H' nD hx h => ⟨hw x, c_yes (iteT (rel_turn S nD (by have := (List.getElem?_eq_some_iff.mp hx).1; omega) h (Same.refl _) fun Q q => he i x hx H' Q h.1 q))⟩)
    fun D H' nD ⟨sH, ys, eD, ly, hy⟩ => k D H' ys nD sH eD ly fun i y e => (hy i y e).1
theorem lcT_rel (R : Nat → V → Hp → Prop) (S : Stab R) (hs : SqT K H a xs) (hz : xs.length ≤ 10000)
    (he : ∀ i x, xs[i]? = some x → ∀ H2 (Q : VK), Same H H2 → (∀ y H3, Same H2 H3 → (∀ b, y = .ref b → Fresh H2 b ∨ ∃ o, H b = some o) → R i y H3 → Q y H3) → te ((wipe σ vs).set j (some x)) H2 Q)
    (k : ∀ D H' ys, Fresh H D → Same H H' → H' D = some (.lst ys) → ys.length = xs.length → (∀ i y, ys[i]? = some y → R i y H') → Q (.ref D) H') (hw : ∀ x, wipe ((wipe σ vs).set j (some x)) vs = wipe σ vs := by intro _; rfl) : LcT K (gName j) tYes te vs σ (.ref a) H Q :=
  lc_T hs (fun D i H' => RelAt R H D i H') (fun D nD => rel_start nD) (fun D i H' _ h => Same.seqT h.1 hs) (fun D i x H' nD hx h => ⟨hw x, c_yes (iteT (rel_turn S nD (by have := (List.getElem?_eq_some_iff.mp hx).1; omega) h (Same.refl _) fun Q q => he i x hx H' Q h.1 q))⟩)
    fun D H' nD ⟨sH, ys, eD, ly, hy⟩ => k D H' ys nD sH eD ly fun i y e => (hy i y e).1
theorem lcR_rel {n : Int} (R : Nat → V → Hp → Prop) (S : Stab R) (hn : -(2 ^ 62) ≤ n ∧ n ≤ 10000)
    (he : ∀ i : Nat, (i : Int) < n → ∀ H2 (Q : VK), Same H H2 → (∀ y H3, Same H2 H3 → (∀ b, y = .ref b → Fresh H2 b ∨ ∃ o, H b = some o) → R i y H3 → Q y H3) → te ((wipe σ vs).set j (some (.int (i : Int)))) H2 Q)
    (k : ∀ D H' ys, Fresh H D → Same H H' → H' D = some (.lst ys) → ys.length = n.toNat → (∀ i y, ys[i]? = some y → R i y H') → Q (.ref D) H') (hw : ∀ x, wipe ((wipe σ vs).set j (some x)) vs = wipe σ vs := by intro _; rfl) : LcR1 (gName j) tYes te vs σ (.int n) H Q :=
  lc_R1 (by omega) (fun D i H' => RelAt R H D i H') (fun D nD => rel_start nD) (fun D i H' nD hi h => ⟨hw _, c_yes (iteT (rel_turn S nD (by omega) h (Same.refl _) fun Q q => he i hi H' Q h.1 q))⟩)
    fun D H' nD ⟨sH, ys, eD, ly, hy⟩ => k D H' ys nD sH eD ly fun i y e => (hy i y e).1
theorem lcE_rel (R : Nat → V → Hp → Prop) (S : Stab R) (hs : SqL K H a xs) (hz : xs.length ≤ 10000)
    (he : ∀ n x, xs[n]? = some x → ∀ H2 (Q : VK), Same H H2 → (∀ y H3, Same H2 H3 → (∀ b, y = .ref b → Fresh H2 b ∨ ∃ o, H b = some o) → R n y H3 → Q y H3) → te (((wipe σ vs).set i (some (.int (n : Int)))).set j (some x)) H2 Q)
    (k : ∀ D H' ys, Fresh H D → Same H H' → H' D = some (.lst ys) → ys.length = xs.length → (∀ i y, ys[i]? = some y → R i y H') → Q (.ref D) H')
    (hw : ∀ x y, wipe (((wipe σ vs).set i (some x)).set j (some y)) vs = wipe σ vs := by intro _ _; rfl) : LcE K (gTup K 2 (gCons (gName i) (gCons (gName j) gNil))) tYes te vs σ (.ref a) H Q :=
  lc_E hs (fun D i H' => RelAt R H D i H') (fun D nD => rel_start nD) (fun D i H' _ h => Same.seq h.1 hs) (fun D n x H' q nD hx h nq => by
    have s2 : Same H' (upd H' q (.tup [.int (n : Int), x])) := fun b o e => (upd_ne (ne_of_none e nq)).trans e
    refine g_tup (SqT.of upd_same) rfl (g_cons (g_name (g_cons (g_name (g_nil ⟨hw _ _, c_yes (iteT ?_)⟩)))))
    exact rel_turn S nD (by have := (List.getElem?_eq_some_iff.mp hx).1; omega) h s2 fun Q q => he n x hx _ Q (h.1.trans s2) q)
    fun D H' nD ⟨sH, ys, eD, ly, hy⟩ => k D H' ys nD sH eD ly fun i y e => (hy i y e).1
theorem stab_val {f : Nat → V → Prop} : Stab fun i y _ => f i y := ⟨fun _ _ _ _ _ h => h, fun _ _ _ _ _ _ _ _ h => h⟩
theorem stab_TI {f : Nat → List Int → Prop} : Stab fun i y H => ∃ ns, f i ns ∧ TI H y ns := ⟨fun _ _ _ _ s ⟨ns, h, t⟩ => ⟨ns, h, t.mono s⟩, fun i y H1 D acc acc' e _ ⟨ns, h, t, e1, e2⟩ => ⟨ns, h, t, e1, by
  rw [upd_ne]
  · exact e2
  · intro z
    rw [z, e] at e2
    cases e2⟩⟩
theorem lcL_igrow (p : Int → Bool) (f : Int → V) (hs : SqL K H a (ns.map V.int)) (hz : ns.length ≤ 10000) {tt : TT} (ht : ∀ x ∈ ns, ∀ H2 (QB : Bool → Hp → Prop), Same H H2 → (∀ H3, Same H2 H3 → QB (p x) H3) → tt ((wipe σ vs).set j (some (.int x))) H2 QB)
    (he : ∀ x ∈ ns, ∀ H2 (Q : VK), Same H H2 → p x = true → (∀ H3, Same H2 H3 → Q (f x) H3) → te ((wipe σ vs).set j (some (.int x))) H2 Q)
    (k : ∀ D H', Fresh H D → Same H H' → H' D = some (.lst ((ns.filter p).map f)) → Q (.ref D) H') (hw : ∀ x, wipe ((wipe σ vs).set j (some x)) vs = wipe σ vs := by intro _; rfl) : LcL K (gName j) tt te vs σ (.ref a) H Q :=
  lcL_grow (onI p) (mapI f) hs (by rw [List.length_map]; exact hz) (fun x hx H2 QB hs q => by
    obtain ⟨z, hz, rfl⟩ := List.mem_map.mp hx
    exact ht z hz H2 QB hs q) (fun x hx H2 Q hs hp q => by
    obtain ⟨z, hz, rfl⟩ := List.mem_map.mp hx
    exact he z hz H2 Q hs hp q) (fun D H' hD hS e => by
    rw [fil_ints] at e
    exact k D H' hD hS e) hw
/-! ### filters by place, growing -/
theorem rng_step (p : Nat → Bool) (f : Nat → V) (i : Nat) : ((List.range (i + 1)).filter p).map f = if p i = true then ((List.range i).filter p).map f ++ [f i] else ((List.range i).filter p).map f := by
  rw [List.range_succ, List.filter_append, List.map_append]
  by_cases h : p i = true
  · rw [if_pos h, List.filter_cons_of_pos h]
    rfl
  · rw [if_neg h, List.filter_cons_of_neg h, List.filter_nil, List.map_nil, List.append_nil]
theorem rng_short (p : Nat → Bool) (f : Nat → V) {i : Nat} (h : i ≤ 10000) : (((List.range i).filter p).map f).length < sizeLine := by
  have := List.length_filter_le p (List.range i)
  rw [List.length_range] at this
  rw [List.length_map, sizeLine_eq]
  omega
theorem lcL_ig {tt : TT} (p : Nat → Bool) (f : Nat → V) (hs : SqL K H a xs) (hz : xs.length ≤ 10000) (ht : ∀ i x, xs[i]? = some x → ∀ H2 (QB : Bool → Hp → Prop), Same H H2 → (∀ H3, Same H2 H3 → QB (p i) H3) → tt ((wipe σ vs).set j (some x)) H2 QB)
    (he : ∀ i x, xs[i]? = some x → ∀ H2 (Q : VK), Same H H2 → p i = true → (∀ H3, Same H2 H3 → Q (f i) H3) → te ((wipe σ vs).set j (some x)) H2 Q)
    (k : ∀ D H', Fresh H D → Same H H' → H' D = some (.lst (((List.range xs.length).filter p).map f)) → Q (.ref D) H') (hw : ∀ x, wipe ((wipe σ vs).set j (some x)) vs = wipe σ vs := by intro _; rfl) : LcL K (gName j) tt te vs σ (.ref a) H Q :=
  lc_L hs (fun D i H' => GrowAt (((List.range i).filter p).map f) H D H') (fun D hD => ⟨fun b u e => (upd_ne (ne_of_none e hD)).trans e, upd_same⟩) (fun D i H' _ h => Same.seq h.1 hs) (fun D i x H' hD hx h => ⟨hw x,
    grow_turn (b := p i) (y := f i) hD (rng_short p f (by have := (List.getElem?_eq_some_iff.mp hx).1; omega)) h (rng_step p f i) (fun H2 QB hs q => ht i x hx H2 QB hs q) (fun H2 Q hs hp q => he i x hx H2 Q hs hp q)⟩) fun D H' hD h => k D H' hD h.1 h.2
theorem lcT_ig {tt : TT} (p : Nat → Bool) (f : Nat → V) (hs : SqT K H a xs) (hz : xs.length ≤ 10000) (ht : ∀ i x, xs[i]? = some x → ∀ H2 (QB : Bool → Hp → Prop), Same H H2 → (∀ H3, Same H2 H3 → QB (p i) H3) → tt ((wipe σ vs).set j (some x)) H2 QB)
    (he : ∀ i x, xs[i]? = some x → ∀ H2 (Q : VK), Same H H2 → p i = true → (∀ H3, Same H2 H3 → Q (f i) H3) → te ((wipe σ vs).set j (some x)) H2 Q)
    (k : ∀ D H', Fresh H D → Same H H' → H' D = some (.lst (((List.range xs.length).filter p).map f)) → Q (.ref D) H') (hw : ∀ x, wipe ((wipe σ vs).set j (some x)) vs = wipe σ vs := by intro _; rfl) : LcT K (gName j) tt te vs σ (.ref a) H Q :=
  lc_T hs (fun D i H' => GrowAt (((List.range i).filter p).map f) H D H') (fun D hD => ⟨fun b u e => (upd_ne (ne_of_none e hD)).trans e, upd_same⟩) (fun D i H' _ h => Same.seqT h.1 hs) (fun D i x H' hD hx h => ⟨hw x,
    grow_turn (b := p i) (y := f i) hD (rng_short p f (by have := (List.getElem?_eq_some_iff.mp hx).1; omega)) h (rng_step p f i) (fun H2 QB hs q => ht i x hx H2 QB hs q) (fun H2 Q hs hp q => he i x hx H2 Q hs hp q)⟩) fun D H' hD h => k D H' hD h.1 h.2
theorem ones_of (p : Nat → Bool) (n : Nat) : HO.lst (((List.range n).filter p).map fun _ => V.int 1) = ones ((List.range n).filter p).length ∧ (((List.range n).filter p).length = 0 ↔ ∀ i, i < n → p i = false) := by
  constructor
  · unfold ones
    congr 1
    rw [List.map_replicate]
    exact List.map_const'
  · rw [List.length_eq_zero_iff, List.filter_eq_nil_iff]
    exact ⟨fun h i hi => Bool.eq_false_iff.mpr (h i (List.mem_range.mpr hi)), fun h i hi => Bool.eq_false_iff.mp (h i (List.mem_range.mp hi))⟩
/-- [1 for x in xs if ..], the test making new things -/
theorem lcL_onesG {tt : TT} (p : Nat → Bool) (hs : SqL K H a xs) (hz : xs.length ≤ 10000) (ht : ∀ i x, xs[i]? = some x → ∀ H2 (QB : Bool → Hp → Prop), Same H H2 → (∀ H3, Same H2 H3 → QB (p i) H3) → tt ((wipe σ vs).set j (some x)) H2 QB)
    (k : ∀ D c H', Fresh H D → Same H H' → H' D = some (ones c) → (c = 0 ↔ ∀ i, i < xs.length → p i = false) → Q (.ref D) H') (hw : ∀ x, wipe ((wipe σ vs).set j (some x)) vs = wipe σ vs := by intro _; rfl) : LcL K (gName j) tt (tC (.int 1)) vs σ (.ref a) H Q :=
  lcL_ig p (fun _ => .int 1) hs hz ht (fun i x hx H2 Q s hp q => q _ (Same.refl _)) (fun D H' nD s e => k D _ H' nD s (e.trans (congrArg some (ones_of p _).1)) (ones_of p _).2) hw
theorem lcT_onesG {tt : TT} (p : Nat → Bool) (hs : SqT K H a xs) (hz : xs.length ≤ 10000) (ht : ∀ i x, xs[i]? = some x → ∀ H2 (QB : Bool → Hp → Prop), Same H H2 → (∀ H3, Same H2 H3 → QB (p i) H3) → tt ((wipe σ vs).set j (some x)) H2 QB)
    (k : ∀ D c H', Fresh H D → Same H H' → H' D = some (ones c) → (c = 0 ↔ ∀ i, i < xs.length → p i = false) → Q (.ref D) H') (hw : ∀ x, wipe ((wipe σ vs).set j (some x)) vs = wipe σ vs := by intro _; rfl) : LcT K (gName j) tt (tC (.int 1)) vs σ (.ref a) H Q :=
  lcT_ig p (fun _ => .int 1) hs hz ht (fun i x hx H2 Q s hp q => q _ (Same.refl _)) (fun D H' nD s e => k D _ H' nD s (e.trans (congrArg some (ones_of p _).1)) (ones_of p _).2) hw
/-! ### lists by place; lists of ints -/
theorem paired_of {α β : Type} {R : α → β → Prop} : ∀ {ws : List α} {ns : List β}, ws.length = ns.length → (∀ (i : Nat) (y : α), ws[i]? = some y → ∃ n, ns[i]? = some n ∧ R y n) → Paired R ws ns
  | [], [], _, _ => .nil
  | [], _ :: _, h, _ => by cases h
  | _ :: _, [], h, _ => by cases h
  | w :: ws, n :: ns, l, h => .cons (by
      obtain ⟨m, e, r⟩ := h 0 w rfl
      cases e
      exact r) (paired_of (by simpa using l) fun i y e => h (i + 1) y e)
theorem paired_get {α β : Type} {R : α → β → Prop} : ∀ {ws : List α} {ns : List β} {i : Nat} {y : α}, Paired R ws ns → ws[i]? = some y → ∃ n, ns[i]? = some n ∧ R y n
  | _, _, 0, _, .cons h _, e => by
    rw [List.getElem?_cons_zero] at e
    cases e
    exact ⟨_, rfl, h⟩
  | _, _, i + 1, _, .cons _ t, e => by
    rw [List.getElem?_cons_succ] at e ⊢
    exact paired_get t e
theorem ys_of {ys zs : List V} (l : ys.length = zs.length) (h : ∀ (i : Nat) (y : V), ys[i]? = some y → zs[i]? = some y) : ys = zs := List.ext_getElem? fun i => by
  cases e : ys[i]? with
  | some y => exact (h i y e).symm
  | none =>
    rw [List.getElem?_eq_none_iff] at e
    exact (List.getElem?_eq_none_iff.mpr (by omega)).symm
/-- v is a list of the ints ns -/
def LI (H : Hp) (v : V) (ns : List Int) : Prop := ∃ t, v = .ref t ∧ H t = some (.lst (ns.map V.int))
theorem LI.mono {H' : Hp} (e : Same H H') {v : V} {ns : List Int} (h : LI H v ns) : LI H' v ns := by
  obtain ⟨t, rfl, h⟩ := h
  exact ⟨t, rfl, e _ _ h⟩
theorem LI.dp {v : V} {ns : List Int} (h : LI H v ns) : Dp K H v (dL ns) := by
  obtain ⟨t, rfl, h⟩ := h
  exact .lst (SqL.of h) (dpAll_ints ns)
abbrev LIs (H : Hp) : List V → List (List Int) → Prop := Paired (LI H)
theorem LIs.mono {H' : Hp} (e : Same H H') {vs : List V} {nss : List (List Int)} (h : LIs H vs nss) : LIs H' vs nss := Paired.mono (fun _ _ => LI.mono e) h
theorem LIs.dp : ∀ {vs : List V} {nss : List (List Int)}, LIs H vs nss → DpAll K H vs (nss.map dL)
  | _, _, .nil => .nil
  | _, _, .cons h t => .cons h.dp (LIs.dp t)
theorem stab_LI {f : Nat → List Int → Prop} : Stab fun i y H => ∃ ns, f i ns ∧ LI H y ns := ⟨fun _ _ _ _ s ⟨ns, h, t⟩ => ⟨ns, h, t.mono s⟩, fun i y H1 D acc acc' e ny ⟨ns, h, t, e1, e2⟩ => ⟨ns, h, t, e1, by
  rw [upd_ne]
  · exact e2
  · intro z
    rw [e1, z] at ny
    exact ny rfl⟩⟩
theorem fresh_back {H' : Hp} {p : Addr} (s : Same H H') (h : Fresh H' p) : Fresh H p := by
  cases e : H p with
  | none => exact e
  | some o =>
    rw [Fresh, s _ _ e] at h
    cases h
/-- tuples stay when a list is changed -/
theorem ti_put {c : Addr} {us as : List V} {nss : List (List Int)} (h : TIs H us nss) (e : H c = some (.lst as)) {bs : List V} : TIs (upd H c (.lst bs)) us nss := Paired.mono (fun v ns h => by
  obtain ⟨t, rfl, h⟩ := h
  refine ⟨t, rfl, ?_⟩
  rw [upd_ne]
  · exact h
  · intro z
    rw [z, e] at h
    cases h) h
theorem li_put {c : Addr} {us bs : List V} {nss : List (List Int)} (h : LIs H us nss) (e : ∀ u ∈ us, u ≠ .ref c) : LIs (upd H c (.lst bs)) us nss := paired_of h.length fun i y ey => by
  obtain ⟨n, hn, t, rfl, ht⟩ := paired_get h ey
  refine ⟨n, hn, t, rfl, ?_⟩
  rw [upd_ne]
  · exact ht
  · exact fun z => e _ (List.mem_of_getElem? ey) (by rw [z])
theorem li_app {us ws : List V} {as bs : List (List Int)} (h : LIs H us as) (k : LIs H ws bs) : LIs H (us ++ ws) (as ++ bs) := by
  induction h with
  | nil => exact k
  | cons a _ ih => exact .cons a ih
theorem gr_same0 {F H' : Hp} (hF : Same F H) (s : Same H H') : Gr M0 F H F H' := ⟨Same.refl _, hF.trans s, fun b o _ e => s b o e, fun _ _ _ e => e⟩
end
end Z

/-! Zx: own exceptions: made, raised, caught, asked. -/
namespace Z
open PySem PySem.Spec L2
open PyProof.Rows hiding St
/-- a class without own __init__ over ValueError, its __init__ called by others -/
structure BaseC (K : PySem.W.Frag) (C : Addr) : Prop where
  rd : PySem.W.readsIn K C (.type "type") = true
  ga : PySem.W.specialIn K (.ref C) "__getattribute__" = some (some (.builtin "type.__getattribute__"))
  vi : PySem.W.findCls K (.ref C) (.type "type") "__init__" = some (.val (.builtin "ValueError.__init__"))
/-- what isinstance, except and the reading of fields ask of a class of errors -/
structure ErrC (K : PySem.W.Frag) (D : Addr) : Prop where
  hg : PySem.W.findIn K (.ref D) "__getattribute__" = some (some (.builtin "BaseException.__getattribute__"))
  hk : PySem.W.findIn K (.ref D) "__getattr__" = some none
  hs : PySem.W.subIn K (.ref D) (.type "BaseException") = some true
  hd : PySem.W.hasDictIn K D = true
  hc : PySem.W.isClsIn K D = true
  ha : PySem.W.findIn K (.ref D) "__class__" = some (some (.builtin "object.__class__"))
  hn : PySem.W.specialIn K (.builtin "object.__class__") "__get__" = some (some (.builtin "getset_descriptor.__get__"))
  ht : PySem.W.takesIn K (.builtin "object.__class__") = some true
  hm : PySem.W.mroIn K D (.type "object") = some true
section
variable {X : Cx} {e : Expr} {es : List Expr} {ta : TA} {te : TE} {p1 p2 pos : Pos} {x : Str} {C a : Addr} {oe : Obj} {cls : Value} {d : Option Addr} {pn : List (Addr × Obj)}
/-- B.__init__(self, ..) -/
theorem pe_cinit {pl : Sem Bool} (hg : Gl X x) (gC : X.mg x = some (.ref C)) (T : BaseC X.K C) (ha : PA X (e :: es) ta)
    (hc : eval (.Call (.Attribute (.Name x p1) "__init__" p2) (e :: es) [] pos) X.env = (do
      let ov ← eval (.Name x p1) X.env
      standAt p2.atName
      let (f, first) ← holding [ov] (getMethod ov "__init__" pl)
      callWith pos f first (backTo pos (starEach (e :: es) X.env)) (backToKw pos (keywordEach [] X.env))) := by rfl)
    (hdb : (x == ("__debug__" : Str)) = false := by decide) (he : starEach (e :: es) X.env = (false, eval e X.env) :: starEach es X.env := by rfl) (hpl : (backTo pos (starEach es X.env)).any (·.1) = false := by rfl) :
    PE X (.Call (.Attribute (.Name x p1) "__init__" p2) (e :: es) [] pos) (tVeI X.K ta) := by
  refine ⟨fun pins s σ H Q I h => ?_⟩
  refine PySem.W.methodCall_KW (ld_glob I hg gC ?_ hdb) hc
  refine PySem.W.method_cls I.kIn T.ga (PySem.W.cls_value I.kIn T.rd T.vi rfl ?_)
  show wpAny _ _ (callWith pos (Value.builtin "ValueError.__init__") [] (backTo pos (starEach (e :: es) X.env)) []) _ _ _
  refine PyProof.Rows.callWith_method1 (thn (ha.run pos pins _ σ H _ (I.tok _) h) fun us s1 ⟨vs, H1, I1, r1, a, C', ws, ev, hl, T', ea, q⟩ => ?_) he hpl
  subst ev
  cases r1 with
  | @cons _ u0 _ ur ra rw' =>
    obtain rfl : u0 = Value.ref a := ra
    have hlen : ur.length ≤ sizeLine := by
      rw [← Paired.length rw', sizeLine_eq]
      omega
    exact oinit_ok T' I1 ea hlen fun s' J => ⟨.non, H1, J, rfl, q⟩
/-- isinstance(e, c), isinstance(e, (c1, c2, ..)), e the exception that the suite holds -/
def rIsX1 (K : PySem.W.Frag) (a : Addr) (cls : Value) (d : Option Addr) : List V → Hp → VK → Prop := fun xs H Q => ∃ (D dd : Addr) (fs : List (Str × V)) (c : V) (cv : Value) (b : Bool), xs = [.ref a, c] ∧ cls = .ref D ∧ ErrC K D ∧ d = some dd ∧ H dd = some (.xd fs) ∧ ClsV c cv ∧ PySem.W.kitOne K (.ref D) cv = some b ∧ Q (.bl b) H
def rIsXT (K : PySem.W.Frag) (a : Addr) (cls : Value) (d : Option Addr) : List V → Hp → VK → Prop := fun xs H Q => ∃ (D dd : Addr) (fs : List (Str × V)) (tp : Addr) (cs : List V) (us : List Value) (b : Bool), xs = [.ref a, .ref tp] ∧ cls = .ref D ∧ ErrC K D ∧ d = some dd ∧ H dd = some (.xd fs) ∧ H tp = some (.tup cs) ∧ Paired ClsV cs us ∧ PySem.W.kitAny K (.ref D) us = some b ∧ Q (.bl b) H
theorem inst_of {pins : List (Addr × Obj)} {σ : L2.St} {H : Hp} {s : Shared} {D dd : Addr} {fs : List (Str × V)} (I : Inv (X.suite a ((a, oe) :: pn)) pins σ H s) (hz : Zc (.ref D) (some dd) oe) (hf : ∃ vs, oe.data = .fields vs) (ea : H dd = some (.xd fs)) : ∃ od, PySem.W.InstAt s.heap a oe D (some od) := by
  obtain ⟨ha, _⟩ := I.pin (a, oe) (List.mem_append_left _ List.mem_cons_self)
  obtain ⟨vs, hd⟩ := hf
  have hx : ObjOk X.prog X.w H s.heap dd (.xd fs) := I.hok dd _ ea
  obtain ⟨mA, hns, hr⟩ := hx
  obtain ⟨od, ho, hl⟩ := lookIn_ns hns
  exact ⟨od, ha, hz.1, by unfold PySem.W.notCls; rw [hd] <;> rfl, by rw [hz.2]; exact ho⟩
theorem call_isX1 (hz : Zc cls d oe) (hf : ∃ vs, oe.data = .fields vs) : CallR (X.suite a ((a, oe) :: pn)) (.builtin "isinstance") (rIsX1 X.K a cls d) := by
  intro pins s σ H xs us Q I r h
  obtain ⟨D, dd, fs, c, cv, b, rfl, rfl, C, rfl, ea, k, e, q⟩ := h
  obtain ⟨u1, u2, rfl, r1, r2⟩ := vals2 r
  obtain rfl : u1 = Value.ref a := r1
  have e2 := k.eq r2
  subst e2
  obtain ⟨od, J⟩ := inst_of I hz hf ea
  exact PySem.W.kia_one (PySem.W.kitx_exc C.hc C.hg C.hk C.hs C.ha C.hn C.ht C.hm) I.kIn J e (fun z => nomatch z) fun tk => ⟨.bl b, H, I.tok tk, rfl, q⟩
theorem call_isXT (hz : Zc cls d oe) (hf : ∃ vs, oe.data = .fields vs) : CallR (X.suite a ((a, oe) :: pn)) (.builtin "isinstance") (rIsXT X.K a cls d) := by
  intro pins s σ H xs us Q I r h
  obtain ⟨D, dd, fs, tp, cs, ws, b, rfl, rfl, C, rfl, ea, hT, k, e, q⟩ := h
  obtain ⟨u1, u2, rfl, r1, r2⟩ := vals2 r
  obtain rfl : u1 = Value.ref a := r1
  cases (show u2 = Value.ref tp from r2)
  obtain ⟨od, J⟩ := inst_of I hz hf ea
  obtain ⟨_, its, rv, o, h1, h2, n, h3⟩ := (show ObjOk X.prog X.w H s.heap tp (.tup cs) from I.hok tp _ hT)
  have e3 := ClsV.all k rv
  subst e3
  obtain ⟨oc, od', dt, sl⟩ := o
  simp only at h2 h3
  subst h2 h3
  exact PySem.W.kia_tup (PySem.W.kitx_exc C.hc C.hg C.hk C.hs C.ha C.hn C.ht C.hm) I.kIn J h1 e (fun z => nomatch z) fun tk => ⟨.bl b, H, I.tok tk, rfl, q⟩
def zIsX (K : PySem.W.Frag) (a : Addr) (cls : Value) (d : Option Addr) : List V → Hp → VK → Prop := orC (rIsX1 K a cls d) (rIsXT K a cls d)
theorem cr_zIsX (hz : Zc cls d oe) (hf : ∃ vs, oe.data = .fields vs) : CallR (X.suite a ((a, oe) :: pn)) (.builtin "isinstance") (zIsX X.K a cls d) := cr_or2 (call_isX1 hz hf) (call_isXT hz hf)
/-- e.f, e the exception that the suite holds -/
def tXfA (K : PySem.W.Frag) (a : Addr) (cls : Value) (d : Option Addr) (f : Str) (te : TE) : TE := fun σ H Q => te σ H fun x H1 => x = .ref a ∧ ∃ (C dd : Addr) (fs : List (Str × V)) (v : V), cls = .ref C ∧ ErrC K C ∧ PySem.W.findIn K (.ref C) f = some none ∧ d = some dd ∧ H1 dd = some (.xd fs) ∧ fs.lookup f = some v ∧ Q v H1
theorem pe_xfA {n : Str} (hz : Zc cls d oe) (hf : ∃ vs, oe.data = .fields vs) (he : PE (X.suite a ((a, oe) :: pn)) e te) (hb : attributeBase e n X.env (eval e X.env) = eval e X.env := by rfl) :
    PE (X.suite a ((a, oe) :: pn)) (.Attribute e n pos) (tXfA X.K a cls d n te) := by
  refine ⟨fun pins s σ H Q I h => ?_⟩
  refine attr_of hb (thn (he.run pins s σ H _ I h) fun u s1 hh => ?_)
  obtain ⟨x, H1, I1, rx, ex, C, dd, fs, v, ec, T, hno, ed, ea, l, q⟩ := hh
  subst ex
  obtain rfl : u = Value.ref a := rx
  subst ec
  subst ed
  obtain ⟨ha, _⟩ := I1.pin (a, oe) (List.mem_append_left _ List.mem_cons_self)
  obtain ⟨vs, hd⟩ := hf
  have hx : ObjOk X.prog X.w H1 s1.heap dd (.xd fs) := I1.hok dd _ ea
  obtain ⟨mA, hns, hr⟩ := hx
  obtain ⟨od, ho, hl⟩ := lookIn_ns hns
  obtain ⟨u, hu, ru⟩ := RelO.some_of (v := v) (o := mA n) (by rw [← l]; exact hr n)
  have J : PySem.W.InstAt s1.heap a oe C (some od) := ⟨ha, hz.1, by unfold PySem.W.notCls; rw [hd] <;> rfl, by rw [hz.2]; exact ho⟩
  exact HandSPX.exc_get I1.kIn J T.hg T.hk T.hs (PySem.W.findObj_own T.hd hno rfl (by rw [hl, hu])) (handed_of ru) ⟨v, H1, I1.tok _, ru, q⟩
/-- a callee that never lets anything out, whatever its kind -/
theorem passN : Passes (L2.CX X.prog X.w) X E0 := fun _ _ _ _ _ _ _ ⟨_, _, _, _, _, _, _, _, _, _, _, _, z⟩ => z.elim
end
/-! ### steps -/
def tRaise (t : L2.St → Hp → XK → Prop) (W : WX) : TS := fun _ σ H => t σ H fun cls d H' => W cls d σ H'
section
variable {K : PySem.W.Frag} {σ : L2.St} {H : Hp} {D : Ends} {ta : TA} {te to : TE} {Q : VK} {QX : XK} {sp : Sp} {a C dx : Addr} {f g : Str} {v y z : V} {W : WX} {E : L2.St → XK} {cls : Value} {d : Option Addr} {i : Nat} {ts : Addr → Value → Option Addr → TS} {c : Value} {dvs : List V}
theorem s_raise {t : L2.St → Hp → XK → Prop} (h : t σ H fun cls d H' => W cls d σ H') : tRaise t W D σ H := h
theorem e_mkO (h : ta σ H fun vs H1 => vs.length ≤ 1000 ∧ ∀ a, H1 a = none → sp (.ref a :: (vs ++ dvs)) (upd H1 a (exo a C none)) (fun v H2 => v = .non ∧ ∃ (d : Addr) (fs : List (Str × V)), H2 a = some (exo a C (some d)) ∧ H2 d = some (exd d fs) ∧ H1 d = none ∧ QX (.ref C) (some d) (upd (del H2 a) d (.xd fs))) (fun _ _ _ => False)) :
    tMkO C sp dvs ta σ H QX := h
theorem e_callS (h : ta σ H fun vs H1 => sp vs H1 Q (E σ)) : tCallS sp E ta σ H Q := h
theorem e_veI (h : ta σ H fun vs H1 => ∃ (a C : Addr) (ws : List V), vs = .ref a :: ws ∧ ws.length ≤ 1000 ∧ OexC K C ∧ H1 a = some (exo a C none) ∧ Q .non H1) : tVeI K ta σ H Q := h
theorem vei_ {vs : List V} {P : Prop} (l : vs.length ≤ 1000) (T : OexC K C) (e : H a = some (exo a C none)) (k : P) : ∃ (a' C' : Addr) (ws : List V), V.ref a :: vs = .ref a' :: ws ∧ ws.length ≤ 1000 ∧ OexC K C' ∧ H a' = some (exo a' C' none) ∧ P := ⟨a, C, vs, rfl, l, T, e, k⟩
theorem s_ost (h : te σ H fun y H1 => to σ H1 fun x H2 => ∃ a C : Addr, x = .ref a ∧ OexC K C ∧ PySem.W.findIn K (.ref C) f = some none ∧
  ((H2 a = some (exo a C none) ∧ ∀ dx, H2 dx = none → dx ≠ a → D.nx σ (upd (upd H2 dx (exd dx [(f, y)])) a (exo a C (some dx)))) ∨
    ∃ (dx : Addr) (fs : List (Str × V)), H2 a = some (exo a C (some dx)) ∧ H2 dx = some (exd dx fs) ∧ fs.length ≤ 900 ∧ D.nx σ (upd H2 dx (exd dx ((f, y) :: fs))))) : tOst K f to te D σ H := h
/-- the heap behind C(..): only the dict of the exception has come -/
theorem exo_heap1 (na : Fresh H a) (nd : (upd H a (exo a C none)) dx = none) {u : HO} : upd (del (upd (upd (upd H a (exo a C none)) dx u) a (exo a C (some dx))) a) dx (.xd [(f, y)]) = upd H dx (.xd [(f, y)]) := by
  have ne : dx ≠ a := fun z => by
    rw [z, upd_same] at nd
    cases nd
  funext b
  by_cases hb : b = dx
  · rw [hb, upd_same, upd_same]
  · rw [upd_ne hb, upd_ne hb]
    by_cases ha : b = a
    · rw [ha, del_same]
      exact na.symm
    · rw [del_ne ha, upd_ne ha, upd_ne hb, upd_ne ha]
theorem exo_heap2 (na : Fresh H a) (nd : (upd H a (exo a C none)) dx = none) {u w : HO} {fs : List (Str × V)} : upd (del (upd (upd (upd (upd H a (exo a C none)) dx u) a (exo a C (some dx))) dx w) a) dx (.xd fs) = upd H dx (.xd fs) := by
  have ne : dx ≠ a := fun z => by
    rw [z, upd_same] at nd
    cases nd
  funext b
  by_cases hb : b = dx
  · rw [hb, upd_same, upd_same]
  · rw [upd_ne hb, upd_ne hb]
    by_cases ha : b = a
    · rw [ha, del_same]
      exact na.symm
    · rw [del_ne ha, upd_ne hb, upd_ne ha, upd_ne hb, upd_ne ha]
theorem as_yes (h : PySem.W.exmOne K cls c = some true) (k : ∀ a, Fresh H a → ts a cls d { nx := fun σ' H' => D.nx (σ'.set i none) H', rt := D.rt, bk := fun σ' H' => D.bk (σ'.set i none) H', ct := fun σ' H' => D.ct (σ'.set i none) H' } (σ.set i (some (.ref a))) H) : wAs K c i ts W D cls d σ H :=
  ⟨true, h, fun _ => k, fun z => Bool.noConfusion z⟩
theorem as_no (h : PySem.W.exmOne K cls c = some false) (k : W cls d σ H) : wAs K c i ts W D cls d σ H := ⟨false, h, fun z => absurd z Bool.false_ne_true, fun _ => k⟩
theorem e_xfA (h : te σ H fun x H1 => x = .ref a ∧ ∃ (C dd : Addr) (fs : List (Str × V)) (v : V), cls = .ref C ∧ ErrC K C ∧ PySem.W.findIn K (.ref C) f = some none ∧ d = some dd ∧ H1 dd = some (.xd fs) ∧ fs.lookup f = some v ∧ Q v H1) : tXfA K a cls d f te σ H Q := h
theorem xf_ {P : V → Prop} {dd : Addr} {fs : List (Str × V)} (T : ErrC K C) (hno : PySem.W.findIn K (.ref C) f = some none) (e : H dd = some (.xd fs)) (l : fs.lookup f = some v) (k : P v) :
    V.ref a = .ref a ∧ ∃ (C' dd' : Addr) (fs' : List (Str × V)) (v' : V), Value.ref C = .ref C' ∧ ErrC K C' ∧ PySem.W.findIn K (.ref C') f = some none ∧ some dd = some dd' ∧ H dd' = some (.xd fs') ∧ fs'.lookup f = some v' ∧ P v' := ⟨rfl, C, dd, fs, v, rfl, T, hno, rfl, e, l, k⟩
theorem x_is {dd : Addr} {fs : List (Str × V)} {x : V} {u : Value} {b : Bool} (T : ErrC K C) (e : H dd = some (.xd fs)) (hc : ClsV x u) (k : PySem.W.kitOne K (.ref C) u = some b) (q : Q (.bl b) H) : zIsX K a (.ref C) (some dd) [.ref a, x] H Q := .inl ⟨C, dd, fs, x, u, b, rfl, rfl, T, rfl, e, hc, k, q⟩
theorem x_isT {dd tp : Addr} {fs : List (Str × V)} {cs : List V} {us : List Value} {b : Bool} (T : ErrC K C) (e : H dd = some (.xd fs)) (et : H tp = some (.tup cs)) (hc : Paired ClsV cs us) (k : PySem.W.kitAny K (.ref C) us = some b) (q : Q (.bl b) H) : zIsX K a (.ref C) (some dd) [.ref a, .ref tp] H Q := .inr ⟨C, dd, fs, tp, cs, us, b, rfl, rfl, T, rfl, e, et, hc, k, q⟩
end
end Z
namespace Z
open PySem PySem.Spec L2
open PyProof.Rows hiding St
/-- a class that except and isinstance name -/
structure ClsT (K : PySem.W.Frag) (C : Addr) : Prop where
  c : PySem.W.isClsIn K C = true
  t : PySem.W.typeIn K (.ref C) = some (.type "type")
  s : PySem.W.subIn K (.ref C) (.type "BaseException") = some true
theorem kitCls_own {K : PySem.W.Frag} {t : Value} {C : Addr} {b : Bool} (T : ClsT K C) (h : PySem.W.subIn K t (.ref C) = some b) : PySem.W.kitCls K t (.ref C) = some b := by
  have e2 : ((PySem.W.clsIn K C).isSome && PySem.W.typeIn K (.ref C) == some (.type "type")) = true := by
    have h2 : (PySem.W.clsIn K C).isSome = true := T.c
    rw [h2, T.t] <;> rfl
  show (if ((PySem.W.clsIn K C).isSome && PySem.W.typeIn K (.ref C) == some (.type "type")) = true then PySem.W.subIn K t (.ref C) else none) = some b
  rw [if_pos e2]
  exact h
theorem exm_own {K : PySem.W.Frag} {t : Value} {C : Addr} {b : Bool} (T : ClsT K C) (h : PySem.W.subIn K t (.ref C) = some b) : PySem.W.exmOne K t (.ref C) = some b := by
  have e1 : (PySem.W.subIn K (.ref C) (.type "BaseException") == some true) = true := by rw [T.s] <;> rfl
  show (if (PySem.W.subIn K (.ref C) (.type "BaseException") == some true) = true then PySem.W.kitCls K t (.ref C) else none) = some b
  rw [if_pos e1]
  exact kitCls_own T h
theorem kit_own {K : PySem.W.Frag} {A C : Addr} {b : Bool} (T : ClsT K C) (h : PySem.W.subIn K (.ref A) (.ref C) = some b) (hs : PySem.W.subIn K (.ref A) (.ref A) = some true) : PySem.W.kitOne K (.ref A) (.ref C) = some b := by
  unfold PySem.W.kitOne
  by_cases e : A = C
  · subst e
    rw [if_pos (by simp)]
    exact hs.symm.trans h
  · rw [if_neg (by simpa using e)]
    exact kitCls_own T h
theorem kit_bt {K : PySem.W.Frag} {A : Addr} {B : String} {b : Bool} (m : PySem.W.kitMeta B = true) (h : PySem.W.subIn K (.ref A) (.type B) = some b) : PySem.W.kitOne K (.ref A) (.type B) = some b := by
  unfold PySem.W.kitOne
  rw [if_neg (by simp)]
  show (if PySem.W.kitMeta B = true then PySem.W.subIn K (.ref A) (.type B) else none) = some b
  rw [if_pos m]
  exact h
/-! ### dict comprehensions -/
def DcW (J : It) (g : TG) (tt : TT) (tk tv : TE) (vs : List Nat) (σ : L2.St) (H1 : Hp) (Q : VK) : Prop := ∀ D, H1 D = none → ∃ W : Nat → Nat → Hp → Prop, (∃ m, W 0 m (upd H1 D (.dK []))) ∧ ∀ i m H, W i m H →
  (J.stop i H ∧ Q (.ref D) H) ∨ (J.go i H ∧ ∃ Nx : Hp → Prop, (∀ H', Nx H' → ∃ m', m' < m ∧ W (i + 1) m' H') ∧ ∀ x H', J.yld i H x H' → g x (wipe σ vs) H' fun σ2 H2 => wipe σ2 vs = wipe σ vs ∧ tt σ2 H2 fun b H3 =>
    if b = true then tk σ2 H3 fun y H4 => tv σ2 H4 fun z H5 => ∃ kvs k, y = kV k ∧ H5 D = some (.dK kvs) ∧ kvs.length < sizeLine ∧ Nx (upd H5 D (.dK (putK kvs k z))) else Nx H3)
section
variable {K : PySem.W.Frag} {σ : L2.St} {H : Hp} {tl tk tv : TE} {c : TT} {Q : VK} {g : TG} {a : Addr} {xs : List V} {vs : List Nat}
def DcL (K : PySem.W.Frag) (g : TG) (tt : TT) (tk tv : TE) (vs : List Nat) (σ : L2.St) (x : V) (H : Hp) (Q : VK) : Prop := ∃ a, x = .ref a ∧ (∃ xs, SqL K H a xs) ∧ DcW (Itl K a) g tt tk tv vs σ H Q
theorem e_dcL (h : tl σ H fun x H1 => DcL K g c tk tv vs σ x H1 Q) : tDc (iList K tl) g c tk tv vs σ H Q := h
theorem dc_L (hs : SqL K H a xs) (Pv : Addr → Nat → Hp → Prop) (h0 : ∀ D, Fresh H D → Pv D 0 (upd H D (.dK []))) (hl : ∀ D i H', i ≤ xs.length → Pv D i H' → SqL K H' a xs)
    (hb : ∀ D i x H', Fresh H D → xs[i]? = some x → Pv D i H' → g x (wipe σ vs) H' fun σ2 H3 => wipe σ2 vs = wipe σ vs ∧ c σ2 H3 fun b H4 =>
      if b = true then tk σ2 H4 fun y H5 => tv σ2 H5 fun z H6 => ∃ kvs k, y = kV k ∧ H6 D = some (.dK kvs) ∧ kvs.length < sizeLine ∧ Pv D (i + 1) (upd H6 D (.dK (putK kvs k z))) else Pv D (i + 1) H4)
    (hd : ∀ D H', Fresh H D → Pv D xs.length H' → Q (.ref D) H') : DcL K g c tk tv vs σ (.ref a) H Q := by
  refine ⟨a, rfl, ⟨xs, hs⟩, fun D nD => ⟨fun i m H' => m = xs.length - i ∧ i ≤ xs.length ∧ Pv D i H', ⟨xs.length, by simp, Nat.zero_le _, h0 D nD⟩, ?_⟩⟩
  rintro i m H' ⟨rfl, hi, pv⟩
  have sq := hl D i H' hi pv
  by_cases cc : i < xs.length
  · refine .inr ⟨⟨xs, xs[i], sq, List.getElem?_eq_getElem cc⟩, Pv D (i + 1), fun H2 p2 => ⟨xs.length - (i + 1), by omega, rfl, cc, p2⟩, fun x H2 y => ?_⟩
    obtain ⟨rfl, f⟩ := y
    exact hb D i x H2 nD (f xs sq) pv
  · have e : i = xs.length := by omega
    subst e
    exact .inl ⟨⟨xs, sq, Nat.le_refl _⟩, hd D H' nD pv⟩
theorem e_dnin {ta tb : TE} (h : ta σ H fun y H1 => tb σ H1 fun x H2 => ∃ a o, x = .ref a ∧ DGet H2 a y o ∧ Q (.bl (!o.isSome)) H2) : tDNotIn ta tb σ H Q := h
theorem dnin_K {P : Option V → Prop} {k : Int} {kvs : List (Key × V)} (ha : H a = some (.dK kvs)) (h : P (valV kvs (.inl k))) : ∃ a' o, V.ref a = .ref a' ∧ DGet H a' (.int k) o ∧ P o := ⟨a, _, rfl, DGet.k (k := .inl k) ha, h⟩
theorem o_nisF {x : Bool} (h : Q (.bl x) H) : rNotB (.bl x) (.bl false) H Q := ⟨x, false, rfl, rfl, by cases x <;> exact h⟩
theorem o_nisT {x : Bool} (h : Q (.bl (!x)) H) : rNotB (.bl x) (.bl true) H Q := ⟨x, true, rfl, rfl, by cases x <;> exact h⟩
end
theorem nodup_le : ∀ {l m : List Int}, l.Nodup → (∀ x ∈ l, x ∈ m) → l.length ≤ m.length
  | [], _, _, _ => Nat.zero_le _
  | x :: l, m, nd, h => by
    have nd' := List.nodup_cons.mp nd
    have hx := h x List.mem_cons_self
    have ih := nodup_le (m := m.erase x) nd'.2 fun y hy => (List.mem_erase_of_ne (fun e => nd'.1 (by rw [← e]; exact hy))).mpr (h y (List.mem_cons_of_mem _ hy))
    rw [List.length_erase_of_mem hx] at ih
    have := List.length_pos_of_mem hx
    rw [List.length_cons]
    omega
theorem inj_le {f : Nat → Int} {k : Nat} {m : List Int} (hi : ∀ i j, i < k → j < k → f i = f j → i = j) (h : ∀ i, i < k → f i ∈ m) : k ≤ m.length := by
  have := nodup_le (l := (List.range k).map f) (m := m) (by
    rw [List.nodup_iff_pairwise_ne, List.pairwise_map]
    refine List.Pairwise.imp_of_mem ?_ (List.nodup_range (n := k))
    intro a b ha hb ne e
    exact ne (hi a b (List.mem_range.mp ha) (List.mem_range.mp hb) e)) (fun x hx => by
    obtain ⟨i, hi, rfl⟩ := List.mem_map.mp hx
    exact h i (List.mem_range.mp hi))
  rwa [List.length_map, List.length_range] at this
def tTryAs (K : PySem.W.Frag) (c : Value) (i : Nat) (tb : WX → TS) (ts : Addr → Value → Option Addr → TS) (Wout : WX) : TS := fun D σ H => tb (wAs K c i ts Wout D) D σ H
theorem s_try {K : PySem.W.Frag} {c : Value} {i : Nat} {tb : WX → TS} {ts : Addr → Value → Option Addr → TS} {Wout : WX} {D : Ends} {σ : L2.St} {H : Hp} (h : tb (wAs K c i ts Wout D) D σ H) : tTryAs K c i tb ts Wout D σ H := h
/-- by truth: an int -/
theorem kit_any1 {K : PySem.W.Frag} {t c : Value} {r : List Value} {b : Bool} (h : PySem.W.kitOne K t c = some false) (k : PySem.W.kitAny K t r = some b) : PySem.W.kitAny K t (c :: r) = some b := by
  unfold PySem.W.kitAny
  rw [h]
  exact k
theorem kit_any0 {K : PySem.W.Frag} {t c : Value} {r : List Value} (h : PySem.W.kitOne K t c = some true) : PySem.W.kitAny K t (c :: r) = some true := by
  unfold PySem.W.kitAny
  rw [h]
end Z
namespace Z
open PySem PySem.Spec L2
open PyProof.Rows hiding St
section
variable {X : Cx}
/-- y = {k: v for .. in ..}, y a local of a def -/
theorem ps_setDc {i : Nat} {y : Str} {py : Pos} {kx vx tg iter : Expr} {ifs : List Expr} {scope : Scope} {own : List (Str × Nat)} {pos spos : Pos} {wi : L2.TI} {g : TG} {tt : TT} {tk tv : TE} (hc : X.calm = true) (hN : X.N.Nodup) (hy : X.N[i]? = some y) (hyl : X.env.scope.names.lookup y = some .local)
    (hsw : swapsWith (.DictComp kx vx [⟨tg, iter, ifs, 0⟩] scope pos) (some (.Name y py)) spos.line X.env = pure true) (hi : PI X tg iter wi) (ok : BlkOk X.N X.env.scope scope own)
    (hg : ∀ (s : Shared) (H : Hp) (C : Addr) (cl : List (Str × Addr)) (fp : List Addr), PG (X.blk s H scope (compEnvC scope cl C X.env) fp) tg g) (ht : ∀ (s : Shared) (H : Hp) (C : Addr) (cl : List (Str × Addr)) (fp : List Addr), PTs (X.blk s H scope (compEnvC scope cl C X.env) fp) ifs tt)
    (hk : ∀ (s : Shared) (H : Hp) (C : Addr) (cl : List (Str × Addr)) (fp : List Addr), PE (X.blk s H scope (compEnvC scope cl C X.env) fp) kx tk)
    (he : ∀ (s : Shared) (H : Hp) (C : Addr) (cl : List (Str × Addr)) (fp : List Addr), PE (X.blk s H scope (compEnvC scope cl C X.env) fp) vx tv) (hs : ∀ x, foldedSetIterable iter X.env x = pure x := by intro _; rfl) :
    PS X (.Assign [.Name y py] (.DictComp kx vx [⟨tg, iter, ifs, 0⟩] scope pos) spos) (tAsg (tDc wi g tt tk tv (own.map (·.2))) (gName i)) := by
  refine ⟨fun pins s σ H D I h => ?_⟩
  rw [exec_Assign_Name_used _ _ _ _ hsw]
  refine wpAny_bind (wpAny_standAt (wpAny_bind ?_))
  show wpAny _ X.A (do let _ ← comprehension (.DictComp kx vx [⟨tg, iter, ifs, 0⟩] scope pos) scope X.env (firstIterPos [⟨tg, iter, ifs, 0⟩] pos) newDict false (eval iter X.env) (some (assign (.Name y py) X.env))) _ _ s
  have h : tDc wi g tt tk tv (own.map (·.2)) σ H (fun x H1 => gName i x σ H1 D.nx) := h
  refine wpAny_bind (thn (dc_core (Qf := fun _ s' => SP X pins D .next s') hc hN I hi ok hg ht hk he hs h fun L C s' m H' I' q hn f => ?_) fun _ s' hq => wpAny_pure (wpAny_pure hq))
  show wpAny _ _ (assign (.Name y py) X.env (.ref L)) _ _ _
  refine wpAny_assign_Name (store_ok2 (v := V.ref L) I' hN hy (.inl hyl) rfl (fun s2 I2 ⟨a, sb, ha⟩ => ?_) (.inr hyl))
  obtain ⟨f0, f1, f2, f3, f4, f5⟩ := f
  have haC : C ≠ a := by
    rcases ha with z | z
    · rw [z]; exact f1
    · exact fun e => f4 y a z e.symm
  refine ⟨m, hn.sameBut sb haC, fun h3 sb3 => ?_⟩
  exact ⟨_, H', I2.turned (t' := s2.toks) (fun b o hb e => (sb3.2 b hb).trans e) f0 f1 f3 f4 f5, q⟩
theorem sw_trueD {kx vx : Expr} {gs : List Comprehension} {scope : Scope} {pos py : Pos} {y : Str} {l : Nat} {env : Env} (hk : env.scope.kind = .function) (hy : env.scope.names.lookup y = some .local) (hl : (py.line == pos.line) = true)
    (ha : (scope.names.any fun (n, k) => n == y && (k == .local || k == .cell)) = false) : swapsWith (.DictComp kx vx gs scope pos) (some (.Name y py)) l env = pure true := by
  have ky : env.kindOf y = some .local := hy
  have hb : env.blockKind = .function := by unfold Env.blockKind; rw [hk]; rfl
  unfold swapsWith
  simp only [hb, ky, ha, Expr.pos, hl]
  rfl
end
end Z

/-! Zn: a try with several clauses that name what they caught. -/
namespace Z
open PySem PySem.Spec L2
open PyProof.Rows hiding St
abbrev Cl := Value × Nat × (Addr → Value → Option Addr → TS)
/-- what the clauses wish of an exception of the body -/
def wAsN (K : PySem.W.Frag) (Wout : WX) (D : Ends) : List Cl → WX
  | [] => Wout
  | (c, i, ts) :: r => wAs K c i ts (wAsN K Wout D r) D
inductive ClsOk (X : Cx) : List ExceptHandler → List Cl → Prop
  | nil : ClsOk X [] []
  | cons {x n : Str} {i : Nat} {c : Value} {ts : Addr → Value → Option Addr → TS} {b₀ : Stmt} {suite : List Stmt} {np pos' : Pos} {hds : List ExceptHandler} {l : List Cl} (hi : X.N[i]? = some n) (hln : X.env.kindOf n = some .local) (hc : Names X x c)
      (hsu : ∀ (a : Addr) (oe : Obj) (cls : Value) (d : Option Addr) (pn : List (Addr × Obj)), Zc cls d oe → (∃ vs, oe.data = .fields vs) → PSs (X.suite a ((a, oe) :: pn)) (b₀ :: suite) (ts a cls d)) (r : ClsOk X hds l) :
      ClsOk X (.ExceptHandler (some (.Name x np)) (some n) (b₀ :: suite) pos' :: hds) ((c, i, ts) :: l)
section
variable {X : Cx} {pins : List (Addr × Obj)}
/-- the state at the clauses: an exception has come back to the frame -/
structure Back (X : Cx) (pins : List (Addr × Obj)) (a : Addr) (cls : Value) (d : Option Addr) (σ : L2.St) (H : Hp) (s : Shared) (h : Heap) : Prop where
  inv : Inv X pins σ H { s with heap := h }
  type : ∃ oe vs, h.get? a = some oe ∧ oe.data = .fields vs ∧ Zc cls d oe
  na : H a = none
  nL : a ≠ X.env.locals
  nF : a ∉ X.fs
  /-- the flight ends: the suite begins -/
  ends : ∀ {Q : Unit → Shared → Prop} {E : Value → Shared → Prop}, (∀ h' oe vs, Inv X pins σ H { s with heap := h' } → h'.get? a = some oe → oe.data = .fields vs → Zc cls d oe → Q () { s with heap := h' }) →
    wpAny (model X.prog X.w) (X.A.mark (some (.ref a))) (setFlight (.ref a) none) Q E { s with heap := h }
/-- one clause behind the other, from the state at which the exception is back -/
theorem clauses (hN : X.N.Nodup) {Wout : WX} {D : Ends} {a : Addr} {cls : Value} {d : Option Addr} {σ : L2.St} {H : Hp} {s : Shared} {h : Heap} (ok : X.Ok) (B : Back X pins a cls d σ H s h)
    (out : Wout cls d σ H → wpAny (model X.prog X.w) X.A (passOn "try.no-clause-matches" (.ref a) X.env) (SP X pins D) X.xe { s with heap := h }) {hds : List ExceptHandler} {l : List Cl} (hk : ClsOk X hds l) :
    wAsN X.K Wout D l cls d σ H → wpAny (model X.prog X.w) X.A (handleBy (.ref a) X.env hds) (SP X pins D) X.xe { s with heap := h } := by
  induction hk with
  | nil => exact fun w => wpAny_handleBy_nil (out w)
  | @cons x n i c ts b₀ suite np pos' hds l hi hln hc hsu r ih =>
    rintro ⟨b, hb, yes, no⟩
    obtain ⟨oe, vs, he, hd, hz⟩ := B.type
    have S := B.inv.suite he hd B.na B.nL B.nF
    have here := PySem.W.exm_one (M := model X.prog X.w) B.inv.kIn (fun A Q E s k q => wpAny_typeOf_ref (k _ _ he) (by rw [hz.1]; exact q)) hb
    refine wpAny_handleBy_cons (codeAny_handlers_test ?_) (fun z => by cases z)
    have named : ∀ {Q : Value → Shared → Prop} {E : Value → Shared → Prop}, Q c { s with heap := h } → wpAny (model X.prog X.w) (X.A.mark (some (.ref a))) (eval (.Name x np) X.env) Q E { s with heap := h } := fun {Q E} q => by
      obtain ⟨g, nd, m | ⟨m, v, nn⟩⟩ := hc
      · exact ld_glob (X := X.suite a ((a, oe) :: (X.pn ++ pins))) S g m q nd
      · exact ld_blt (X := X.suite a ((a, oe) :: (X.pn ++ pins))) S g m v q nn nd
    refine named (here.here ?_)
    cases b with
    | false => exact ih (no rfl)
    | true =>
      refine codeAny_handlers_suite_as (B.ends fun h4 oe4 vs4 J4 he4 hd4 hz4 => ?_)
      refine store_ok (X := X.suite a ((a, oe4) :: (X.pn ++ pins))) (v := .ref a) (J4.suite he4 hd4 B.na B.nL B.nF) hN hi (.inl hln) rfl (fun s5 S5 => ?_) (.inr hln)
      have fin : ∀ {σ6 : L2.St} {H6 : Hp} {s6 : Shared} {Q : Shared → Prop}, Inv (X.suite a ((a, oe4) :: (X.pn ++ pins))) [] σ6 H6 s6 → (∀ s7, Inv X pins (σ6.set i none) H6 s7 → Q s7) →
          wpAny (model X.prog X.w) X.A (do bindName X.env n .none; unbindBehindTheSuite X.env n pos') (fun _ s7 => Q s7) X.xe s6 := fun S6 q => gone_ok (S6.unsuite ok) hN hi hln q
      refine wpAny_mono ((hsu a oe4 cls d (X.pn ++ pins) hz4 ⟨_, hd4⟩).run [] s5 _ H _ S5 (yes rfl a B.na)) (fun f s6 hf => ?_) (fun _ _ z => False.elim z)
      match f, hf with
      | .next, ⟨σ6, H6, S6, q⟩ => exact fin S6 fun s7 J7 => ⟨_, _, J7, q⟩
      | .brk, ⟨σ6, H6, S6, q⟩ => exact fin S6 fun s7 J7 => ⟨_, _, J7, q⟩
      | .cont, ⟨σ6, H6, S6, q⟩ => exact fin S6 fun s7 J7 => ⟨_, _, J7, q⟩
      | .ret u, ⟨v6, σ6, H6, S6, r6, q⟩ => exact fin S6 fun s7 J7 => ⟨_, _, _, J7, r6, q⟩
end
section
variable {X : Cx} {body : List Stmt} {h₀ : ExceptHandler} {hds : List ExceptHandler} {l : List Cl} {pos : Pos} {tb : WX → TS} {Wout : WX}
theorem ps_try_asN (hs : X.stack = X.env :: X.outer) (hf : X.env.frame = some X.env.locals) (hN : X.N.Nodup) (tk : Takes X Wout)
    (hb : ∀ (W : WX) (pn : List (Addr × Obj)) (xe : Value → Shared → Prop), Takes (X.tr pn xe) W → PassesOwn (model X.prog X.w) X.A X.env xe → PSs (X.tr pn xe) body (tb W)) (hh : ClsOk X (h₀ :: hds) l) :
    PS X (.Try body (h₀ :: hds) [] [] pos) (fun D σ H => tb (wAsN X.K Wout D l) D σ H) := by
  refine ⟨fun pins s σ H D I h => wpAny_Try_except ?_⟩
  have ok := I.ok
  refine wpAny_mono ((hb (wAsN X.K Wout D l) (X.pn ++ pins) (fun e s₁ => wpAny (model X.prog X.w) X.A (noteFrame e X.env) (fun _ s₂ => wpAny (model X.prog X.w) X.A (setFlight e none) (fun _ s₃ =>
    wpAny (model X.prog X.w) X.A (handleBy e X.env (h₀ :: hds)) (SP X pins D) X.xe s₃) X.xe s₂) X.xe s₁) (fun u s' xx => ?_) PassesOwn.looking).run [] s σ H D (I.toTry _) h) (fun f s1 hsp => ?_) (fun e s1 he => he)
  · obtain ⟨a, B, sI, pins', σ', H', cls, d, rfl, J', nb, up, sky, na, os, ag, w⟩ := xx
    have J : Inv X pins σ' H' sI := J'.ofTry ok
    rw [hs] at sky
    show wpAny (model X.prog X.w) X.A (noteFrame (.ref a) X.env) _ _ _
    refine Sky.land Zc.steady (by rw [ok.frames, hs]) hf sky fun h3 fl3 up3 => ?_
    obtain ⟨oe3, vs3, he3, hz3, hd3⟩ := fl3.there
    have off : a ∉ frs (X.env :: X.outer) := fun hm => by
      obtain ⟨_, o', e', hnf⟩ := fl3.2.2.1.mem hm
      rw [he3] at e'
      cases e'
      exact hnf _ hd3
    refine clauses (s := s') hN ok ⟨J.landed nb fl3.1 (up.trans up3) os ag, ⟨oe3, vs3, he3, hd3, hz3⟩, na, fun z => off (List.mem_filterMap.mpr ⟨X.env, List.mem_cons_self, by rw [hf, z]⟩), fun hm => ?_, fun {Q E} k => ?_⟩ (fun hw => ?_) hh w
    · obtain ⟨e, he, q⟩ := List.mem_filterMap.mp hm
      exact off (List.mem_filterMap.mpr ⟨e, List.mem_cons_of_mem _ he, q⟩)
    · refine HandSPX.lands_againZ fl3 fun h4 fl4 up4 => ?_
      obtain ⟨oe4, vs4, he4, hz4, hd4⟩ := fl4.there
      exact k h4 oe4 vs4 (J.landed nb fl4.1 ((up.trans up3).trans up4) os ag) he4 hd4 hz4
    · obtain ⟨k1, k2, k3, oe, vs, T, oT, ts', he, hz, hd, h1, hr⟩ := id fl3
      unfold PySem.passOn
      refine wpAny_bind (wpAny_field he hd h1 ?_)
      rw [if_neg (by simp)]
      have fly : wpAny (model X.prog X.w) X.A (setFlight (.ref a) X.env.frame) (fun _ s4 => wpAny (model X.prog X.w) X.A (throw (.ref a) : Sem Flow) (SP X pins D) X.xe s4) X.xe { s' with heap := h3 } := by
        rw [hf]
        exact HandSPX.setFlight_upZ fl3 fun h4 hh4 up4 => wpAny_throw (tk _ _ ⟨a, B, sI, pins, σ', H', cls, d, rfl, J, nb, (up.trans up3).trans up4, .inr (.inr (by rw [hs]; exact hh4)), na, os, ag, hw⟩)
      first
        | exact wpAny_bind (wpAny_pure (wpAny_bind fly))
        | exact wpAny_bind fly
  · match f, hsp with
    | .next, ⟨σ', H', J', q⟩ => exact wpAny_execs_nil ⟨σ', H', J'.ofTry ok, q⟩
    | .brk, ⟨σ', H', J', q⟩ => exact ⟨σ', H', J'.ofTry ok, q⟩
    | .cont, ⟨σ', H', J', q⟩ => exact ⟨σ', H', J'.ofTry ok, q⟩
    | .ret u, ⟨v, σ', H', J', r, q⟩ => exact ⟨v, σ', H', J'.ofTry ok, r, q⟩
end
def tTryAsN (K : PySem.W.Frag) (l : List Cl) (tb : WX → TS) (Wout : WX) : TS := fun D σ H => tb (wAsN K Wout D l) D σ H
theorem s_tryN {K : PySem.W.Frag} {l : List Cl} {tb : WX → TS} {Wout : WX} {D : Ends} {σ : L2.St} {H : Hp} (h : tb (wAsN K Wout D l) D σ H) : tTryAsN K l tb Wout D σ H := h
/-! ### list.count of truths -/
def eqb (b : Bool) (v : Value) : Bool := match v with
  | .bool a => a == b
  | _ => false
theorem bools_are : ∀ {bs : List Bool} {us : List Value}, Vals (bs.map V.bl) us → us = bs.map Value.bool
  | [], _, .nil => rfl
  | b :: bs, _, .cons r h => by
    have e := bools_are h
    have e1 : _ = Value.bool b := r
    rw [e, e1]
    rfl
theorem eqb_count {b : Bool} : ∀ (bs : List Bool), (bs.map Value.bool).countP (eqb b) = bs.count b
  | [] => rfl
  | c :: bs => by
    rw [List.map_cons, List.countP_cons, List.count_cons, eqb_count bs]
    rfl
def rCntB (K : PySem.W.Frag) : V → List V → Hp → VK → Prop := fun x xs H Q => ∃ (p : Addr) (bs : List Bool) (b : Bool), x = .ref p ∧ xs = [.bl b] ∧ SqL K H p (bs.map V.bl) ∧ Q (.int (bs.count b : Nat)) H
theorem mt_lcountB {X : Cx} : MtR X "list.count" (rCntB X.K) := by
  intro pins s σ H x xs v us Q I rx rxs h
  obtain ⟨p, bs, b, rfl, rfl, hs, q⟩ := h
  cases rx
  obtain ⟨u, rfl, ru⟩ := rxs.one
  obtain rfl : u = Value.bool b := ru
  obtain ⟨its, rv, ⟨⟨cls, dd, data, sl⟩, n, ho, hc, hdn, hd⟩, hlen⟩ := I.list hs
  simp only at hc hd
  subst hc hd
  have e := bools_are rv
  refine call_meets PySem.F.slot_list_count ⟨_, ho, rfl⟩ PySem.F.entry_list_count (PySem.F.args_list_count_2 _ _)
    (SeqAt.list_countAt p its.toArray n dd sl (.bool b) (eqb b)) ⟨ho, fun y hy => ?_, ?_⟩
  · have hy' : y ∈ bs.map Value.bool := by rw [← e]; simpa using hy
    obtain ⟨c, _, rfl⟩ := List.mem_map.mp hy'
    exact PySem.SeqAt.EqAt.bool_bool c b
  · have ec : its.toArray.toList.countP (eqb b) = bs.count b := by rw [List.toList_toArray, e, eqb_count]
    refine ⟨.int (bs.count b : Nat), H, I.tok _, ⟨s.toks, ?_⟩, q⟩
    show Value.int ((its.toArray.toList.countP (eqb b) : Nat) : Int) s.toks = Value.int ((bs.count b : Nat) : Int) s.toks
    rw [ec]
theorem m_cntB {K : PySem.W.Frag} {H : Hp} {Q : VK} {a : Addr} {bs : List Bool} {b : Bool} (hs : SqL K H a (bs.map V.bl)) (h : Q (.int (bs.count b : Nat)) H) : rCntB K (.ref a) [.bl b] H Q := ⟨a, bs, b, rfl, rfl, hs, h⟩
end Z

/-! Zo: own exception classes over another built-in one than ValueError; their __init__ stores a field. -/
namespace Z
open PySem PySem.Spec L2
open PyProof.Rows hiding St
/-- what of a built-in class B and of the mro bm behind an own class serves -/
structure Over (B newId initId : String) (bmB bm : List Value) : Prop where
  base : ExcBaseFacts B newId initId bmB
  has : ∀ Y : String, bm.contains (.type Y) = bmB.contains (.type Y)
  obj : bmB.contains (.type "object") = true
  some' : bm.isEmpty = false
  pass : ∀ self : Value, refuseLoop self "__setattr__" bm = pure ()
theorem over_AE : Over "ArithmeticError" "ArithmeticError.__new__" "ArithmeticError.__init__" [.type "ArithmeticError", .type "Exception", .type "BaseException", .type "object"] [.type "ArithmeticError", .type "Exception", .type "BaseException", .type "object"] :=
  ⟨PySem.F.excBase_ArithmeticError, fun _ => rfl, by decide +kernel, rfl, PySem.F.store_ArithmeticError.passes⟩
/-- what the text must say of an own exception class over any of these -/
structure OexG (K : PySem.W.Frag) (C : Addr) : Prop where
  cls : ∃ B newId initId bmB nm q N bs bm sn sub ab col dd k0 k1 k2 k3 k5, K.lookup C = some (excClassObj nm q C N bs bm true sn sub ab col dd k0 k1 k2 k3 k5 newId) ∧ Over B newId initId bmB bm
  sa : PySem.W.findIn K (.ref C) "__setattr__" = some (some (.builtin "object.__setattr__"))
  exC : PySem.W.subIn K (.ref C) (.type "BaseException") = some true
  tyC : PySem.W.typeIn K (.ref C) = some (.type "type")
  kC : PySem.W.keepIn K (.ref C) = true
section
open Builtin Builtin.ObjectAttr PySem.W PySem.Calls
variable {prog : Program} {w : World} {A : Around} {R : Result → Shared → Prop} {hp : Heap} {g : Array GenState} {d : Drawn} {t : Nat} {os : OsState}
/-- object.__setattr__ on such an exception that has no dict as yet -/
theorem first_attr {K : PySem.W.Frag} {B newId initId : String} {bmB bm : List Value} {name : Str} {tk : Tok} {v : Value} {x C : Addr} {fv : Array Value} {cd : ClassData} (ov : Over B newId initId bmB bm)
    (kin : K.In hp) (hx : hp.get? x = some { cls := .ref C, data := .fields fv }) (hcd : clsIn K C = some cd) (hm : cd.mro = .ref C :: bm) (hh : cd.hasDict = true) (ha : findIn K (.ref C) name = some none)
    (k : ∀ h' tk' dx, (∀ b o, b ≠ x → hp.get? b = some o → h'.get? b = some o) → hp.objs.size ≤ dx → dx ≠ x → h'.get? x = some { cls := .ref C, dict := some dx, data := .fields fv } →
      h'.Ns1 dx (fun y => if y = name then some v else none) → R (.ok (.ret .none)) ⟨h', g, d, tk', os⟩) :
    codeAny (model prog w) A (.call (.builtin "object.__setattr__") ⟨[.ref x, .str name tk, v], []⟩) R ⟨hp, g, d, t, os⟩ := by
  have inst : InstAt hp x { cls := .ref C, data := .fields fv } C none := ⟨hx, rfl, rfl, trivial⟩
  have hob : cd.mro.contains (.type "object") = true := by
    rw [hm, List.contains_cons, ov.has, ov.obj, Bool.or_true]
  have apart : x ≠ hp.objs.size := Nat.ne_of_lt (Heap.lt_size hx)
  have sub : Looks (model prog w) hp (isInstance (.ref x) (.type "object")) true := inst.type.andThen (looks_mroIn kin (by unfold mroIn; rw [hcd, Option.bind_some, hob, if_neg (by rw [hm]; exact Bool.false_ne_true)]))
  refine codeAny_call_builtin F.store_object.slot.plain F.store_object.entry (@check_slot (model prog w) _ _ ⟨hp, g, d, t, os⟩ "object.__setattr__" "object" "__setattr__" (.ref x) [.str name tk, v] [] _ F.store_object.kind F.store_object.split sub (F.store_object.args (.ref x) (.str name tk) v) ?_)
  have mros : Looks (model prog w) hp (mroOf (.ref C)) cd.mro := (looks_clsIn kin hcd).andThen .now
  have taker : Looks (model prog w) hp (storeTaker? none) none := .now
  have data : Looks (model prog w) hp (classData C) cd := looks_clsIn kin hcd
  rw [osa_eq, refuse_eq]
  refine wpAny_bind (wpAny_bind (inst.type.at (wpAny_bind (mros.at ?_))))
  rw [hm, refuseLoop_ref, ov.pass]
  refine wpAny_pure (wpAny_bind (inst.type.at (wpAny_bind ((looks_findIn kin ha).at (wpAny_bind (taker.at ?_))))))
  show wpAny _ _ (storeInOwnDict (.ref x) (.ref C) (.str name tk) name v false) _ _ _
  obtain ⟨nm, bs, mro, ns, qn, hd, sn, sb, ab, col, del⟩ := cd
  dsimp only at hh
  subst hh
  unfold storeInOwnDict ownDictForStores
  repeat (first | with_reducible refine PySem.HandSPX.store_in_new ?_ ?_ | with_reducible refine wpAny_loadPart_at hx ?_ | with_reducible refine data.at ?_ | wp_step)
  · exact ⟨_, #[], _, (Heap.get?_update_ne _ _ _ _ apart.symm).trans (Heap.get?_push_at rfl rfl), rfl, fun e he => absurd he (by simp), fun _ => rfl⟩
  · intro h' tk' hn' hs
    have hx1 : (hp.push { cls := .type "dict", data := .dict #[] }).get? x = some { cls := .ref C, data := .fields fv } := Heap.get?_push_of_some _ hx
    exact k h' tk' hp.objs.size (fun b o hb ho => (hs.2 b (Nat.ne_of_lt (Heap.lt_size ho))).trans ((Heap.get?_update_ne _ _ _ _ hb).trans (Heap.get?_push_of_some _ ho))) (Nat.le_refl _) apart.symm
      ((hs.2 x apart).trans (Heap.get?_update_self _ hx1 rfl)) hn'
end
section
variable {X : Cx} {pins : List (Addr × Obj)} {σ : L2.St} {H : Hp} {s : Shared} {a C : Addr} {f : Str} {y : V} {u : Value}
/-- self.f = y, the one field of the exception -/
theorem one_field {A : Around} {Q : Unit → Shared → Prop} {E : Value → Shared → Prop} (T : OexG X.K C) (I : Inv X pins σ H s) (e : H a = some (exo a C none)) (hno : PySem.W.findIn X.K (.ref C) f = some none) (ry : RelV y u)
    (h : ∀ dx s', H dx = none → dx ≠ a → Inv X pins σ (upd (upd H dx (exd dx [(f, y)])) a (exo a C (some dx))) s' → Q () s') : wpAny (model X.prog X.w) A (setAttr (.ref a) f u) Q E s := by
  obtain ⟨B, newId, initId, bmB, nm, q, N, bs, bm, sn, sub, ab, col, dd, k0, k1, k2, k3, k5, hC, ov⟩ := T.cls
  have hcl : PySem.W.clsIn X.K C = some { name := nm, bases := bs, mro := .ref C :: bm, ns := N, qualname := q, hasDict := true, slotNames := sn, subclasses := sub, abstract := ab, collection := col, hasDel := false } := by unfold PySem.W.clsIn; rw [hC] <;> rfl
  obtain ⟨t1, ho⟩ := exo_at I.hok e
  obtain ⟨hp, g, d, t, os⟩ := s
  refine PySem.W.set_plain I.kIn (ox := { cls := .ref C, dict := none, data := .fields #[.ref t1, .none, .none, .none, .bool false, .none] }) (od := none) ⟨ho, rfl, rfl, trivial⟩ T.sa ?_
  refine first_attr ov I.kIn ho hcl rfl rfl hno (fun h' tk' dx k dn dne hx hn => ?_)
  have new : H dx = none := I.hok.fresh dn
  have old : ∀ {b : Addr} {o : Obj}, hp.get? b = some o → b ≠ dx := fun {b o} q => Nat.ne_of_lt (Nat.lt_of_lt_of_le (Heap.lt_size q) dn)
  have off : ∀ {b : Addr}, H b = none → b ≠ a := fun {b} n z => by
    rw [z, e] at n
    cases n
  have U : Un X.fs [] H (upd (upd H dx (exd dx [(f, y)])) a (exo a C (some dx))) hp h' := by
    refine ⟨fun b o q n _ _ => k b o (off n) q, fun b o q n _ _ => ⟨o.slots, k b o (off n) q⟩, fun b o q n _ => ?_, fun b o q _ => ?_, fun b xs q => ?_, fun b o v q => ?_, fun b ps q => ⟨#[], ?_⟩⟩
    · rw [upd_ne (off n), upd_ne (old q)]
      exact n
    · by_cases hb : b = a
      · exact ⟨_, by rw [hb]; exact hx⟩
      · exact ⟨o, k b o hb q⟩
    · rw [upd_ne (at_ne e q exo_tup), upd_ne (ne_of_none q new)]
      exact q
    · rw [upd_ne (at_ne e q exo_frz), upd_ne (ne_of_none q new)]
      exact q
    · rw [upd_ne (at_ne e q exo_tbl), upd_ne (ne_of_none q new), q]
      simp
  refine h dx _ new dne (I.un (t' := tk') U fun b o q => ?_)
  by_cases hb : b = a
  · subst hb
    rw [upd_same] at q
    cases q
    exact exo_ok hx
  rw [upd_ne hb] at q
  by_cases hd : b = dx
  · subst hd
    rw [upd_same] at q
    cases q
    exact exd_ok hn (relO_put (fs := []) ry fun g => True.intro)
  rw [upd_ne hd] at q
  refine (I.hok b o q).stay (fun c v hc z => k c v ?_ z) (fun c hc => ?_) fun c xs hc => ?_
  · rcases hc with hc | hc
    · rw [hc]
      exact hb
    · exact at_ne e hc exo_own
  · rw [upd_ne (at_ne e hc exo_own), upd_ne (ne_of_none hc new)]
    exact hc
  · rw [upd_ne (at_ne e hc exo_tup), upd_ne (ne_of_none hc new)]
    exact hc
end
/-- self.f = e in the __init__ of such a class -/
def tOstG (K : PySem.W.Frag) (f : Str) (to te : TE) : TS := fun D σ H => te σ H fun y H1 => to σ H1 fun x H2 => ∃ a C : Addr, x = .ref a ∧ OexG K C ∧ PySem.W.findIn K (.ref C) f = some none ∧ H2 a = some (exo a C none) ∧
  ∀ dx, H2 dx = none → dx ≠ a → D.nx σ (upd (upd H2 dx (exd dx [(f, y)])) a (exo a C (some dx)))
section
variable {X : Cx} {o e : Expr} {es : List Expr} {to te : TE} {ta : TA} {f : Str} {p p' pos : Pos}
theorem ps_ostG (ho : PE X o to) (he : PE X e te) (hs : swapsWith e (some (.Attribute o f p')) pos.line X.env = pure false := by rfl) : PS X (.Assign [.Attribute o f p'] e pos) (tOstG X.K f to te) := by
  refine ⟨fun pins s σ H D I h => plainObj_wpAny_Assign_Attribute (thn (he.run pins s σ H _ I h) fun v s1 ⟨y, H1, I1, r1, q1⟩ => thn (ho.run pins s1 σ H1 _ I1 q1) fun u s2 ⟨x, H2, I2, r2, a, C, ex, T, hno, ea, q⟩ => ?_) hs⟩
  subst ex
  obtain rfl : u = Value.ref a := r2
  exact one_field T I2 ea hno r1 fun dx s' n ne J => ⟨σ, _, J, q dx n ne⟩
theorem s_ostG {K : PySem.W.Frag} {D : Ends} {σ : L2.St} {H : Hp} (h : te σ H fun y H1 => to σ H1 fun x H2 => ∃ a C : Addr, x = .ref a ∧ OexG K C ∧ PySem.W.findIn K (.ref C) f = some none ∧ H2 a = some (exo a C none) ∧
    ∀ dx, H2 dx = none → dx ≠ a → D.nx σ (upd (upd H2 dx (exd dx [(f, y)])) a (exo a C (some dx)))) : tOstG K f to te D σ H := h
/-- C(e, ..) to be raised, C's own __init__ keeping sp -/
theorem pmk_oexG {CX : CXT} {x : Str} {C fI : Addr} {k : Nat} {fd : FuncData} {ps : List Str} {sp : Sp} {ds : List Value} {dvs : List V} (T : OexG X.K C) (iC : PySem.W.findIn X.K (.ref C) "__init__" = some (some (.ref fI))) (tI : PySem.W.typeIn X.K (.ref fI) = some (.type "function"))
    (F1 : FnOk X.prog X.w X.K X.mg X.base CX k fI fd ps sp) (hr : Room (k + 1) X.A) (hb : Binds X.K fd ps ds) (hd : Vals dvs ds) (hx : Passes CX X (fun _ _ _ => False)) (hg : Gl X x) (hm : X.mg x = some (.ref C)) (ha : PA X (e :: es) ta)
    (hdb : (x == ("__debug__" : Str)) = false := by decide) (he : starEach (e :: es) X.env = (false, eval e X.env) :: starEach es X.env := by rfl) (hpl : (backTo pos (starEach es X.env)).any (·.1) = false := by rfl) :
    PMk X (.Call (.Name x p) (e :: es) [] pos) (tMkO C sp dvs ta) := by
  intro pins s σ H Q I h
  obtain ⟨B, newId, initId, bmB, nm, q, N, bs, bm, sn, sub, ab, col, dd, k0, k1, k2, k3, k5, hC, ov⟩ := T.cls
  refine wpAny_Call_Name_kw (ld_glob I hg hm ?_ hdb)
  refine PySem.W.callWith_K (h₀ := X.base) I.ok.mod.kin T.kC (thn (ha.run pos pins s σ H _ I h) fun us s1 ⟨vs, H1, I1, r1, hz, q1⟩ => ⟨I1.kIn, ?_⟩) he hpl
  show wpAny _ _ (call (.ref C) us) _ _ _
  obtain ⟨hp, g, dr, tk, os⟩ := s1
  have up : hp.objs.size ≤ hp.objs.size + 1 := Nat.le_succ _
  have hq := q1 (hp.objs.size + 1) (I1.hok.fresh up)
  have kk : ∀ b o, hp.get? b = some o → ((hp.push (PySem.W.kdv_tup us)).push (PySem.HandSPX.excO C hp.objs.size)).get? b = some o := fun b o e => Heap.get?_push_of_some _ (Heap.get?_push_of_some _ e)
  have I2 : Inv X pins σ (upd H1 (hp.objs.size + 1) (exo (hp.objs.size + 1) C none)) ⟨(hp.push (PySem.W.kdv_tup us)).push (PySem.HandSPX.excO C hp.objs.size), g, dr, tk, os⟩ :=
    I1.laid (t' := tk) (a := hp.objs.size + 1) (o := exo (hp.objs.size + 1) C none) (h' := (hp.push (PySem.W.kdv_tup us)).push (PySem.HandSPX.excO C hp.objs.size)) kk up (exo_ok (by heap_get))
  have r2 : Vals (V.ref (hp.objs.size + 1) :: (vs ++ dvs)) (Value.ref (hp.objs.size + 1) :: (us ++ ds)) := .cons rfl (r1.append hd)
  have hl : (Value.ref (hp.objs.size + 1) :: us ++ ds).length = ps.length := by
    have e := r2.length
    rw [F1.len _ _ _ _ hq] at e
    exact e.symm
  have few : us.length ≤ sizeLine := by
    rw [← Paired.length r1, sizeLine_eq]
    omega
  refine wpAny_call (PySem.HandSPX.call_own ov.base ov.has (I1.kIn _ _ hC) (PySem.W.looks_findIn I1.kIn iC) (fun self => PySem.W.bind_fn I1.kIn self tI) few
    (codeAny_mono (F1.run _ X.stack _ _ ⟨Value.ref (hp.objs.size + 1) :: us, []⟩ (Value.ref (hp.objs.size + 1) :: (us ++ ds)) _ _ (fun _ _ _ => False) (hr.make C us []) (I2.env0.make C us []) (hb _ (Value.ref (hp.objs.size + 1) :: us) I2.kIn hl) r2 hq) fun r s' back => ?_))
  match r, back with
  | .error er, back => exact hx pins σ _ _ er s' I2 back
  | .ok (.ret u), back =>
    obtain ⟨v, H2, os2, bare2, un2, hok2, rv, ev, d, fs, ea, ed, hd1, q2⟩ := back
    subst ev
    obtain ⟨h2, g2, d2, t2, os'⟩ := s'
    exact ⟨rv, mk_end (raises_own T.exC T.tyC) I1 up kk un2 hok2 os2 bare2 ea ed hd1 q2⟩
  | .ok .next, back => exact False.elim back
  | .ok .brk, back => exact False.elim back
  | .ok .cont, back => exact False.elim back
end
end Z

open PySem PySem.Spec L2
open PyProof.Rows hiding St
local macro_rules | `(tactic| walk_at "ne") => `(tactic| first
  | with_reducible assumption
  | (refine Ne.symm ?_; with_reducible assumption)
  | exact Z.ne_fresh (by assumption) (by walk_at "at")
  | exact Z.fresh_ne (by assumption) (by walk_at "at"))
local macro_rules | `(tactic| walk_at "at") => `(tactic| first
  | with_reducible assumption
  | exact upd_same
  | exact Eq.trans (upd_ne (by walk_at "ne")) (by walk_at "at")
  | exact Z.Gr.hh (by assumption) _ _ (by first | (intro hh; exact hh) | walk_at "ne") (by walk_at "at")
  | (exact Z.Gr.fh (by assumption) _ _ (by assumption)))
local macro_rules | `(tactic| walk_at "same") => `(tactic| first
  | with_reducible assumption
  | with_reducible exact Same.refl _
  | exact Z.Gr.fh (by assumption)
  | exact Z.Gr.same (by assumption)
  | (refine Z.same_new ?_ (by assumption); walk_at "same")
  | (refine Z.same_mut ?_ (by assumption); walk_at "same"))
local macro_rules | `(tactic| walk_at "sqL") => `(tactic| first
  | with_reducible assumption
  | exact SqL.of (by walk_at "at")
  | ((refine Same.seq ?_ (by with_reducible assumption)); · walk_at "same"))
local macro_rules | `(tactic| walk_at "sqT") => `(tactic| first
  | with_reducible assumption
  | exact SqT.of (by walk_at "at")
  | ((refine Z.Same.seqT ?_ (by with_reducible assumption)); · walk_at "same"))
local macro_rules | `(tactic| walk_at "len") => `(tactic| first
  | assumption
  | omega
  | (simp only [List.length_append, List.length_cons, List.length_nil, List.length_map, List.length_set, List.length_replicate, List.length_range, sizeLine_eq]; omega)
  | (simp only [sizeLine_eq]; omega))
local macro_rules | `(tactic| walk_at "side") => `(tactic| first
  | rfl
  | assumption
  | omega
  | exact Or.inl ⟨by omega, by omega⟩
  | exact Or.inr ⟨by omega, by omega⟩
  | walk_at "len")
local macro_rules | `(tactic| walk_at "s1") => `(tactic| first
  | with_reducible apply Z.e_var rfl
  | with_reducible apply Z.e_c
  | with_reducible apply Z.e_op
  | with_reducible apply Z.s_seq
  | with_reducible apply Z.s_asgN
  | with_reducible apply Z.s_ifS
  | with_reducible apply Z.a_cons
  | with_reducible apply Z.a_nil
  | with_reducible apply Z.c_test
  | with_reducible apply Z.bl_if
  | with_reducible apply Z.o_eqI
  | with_reducible apply Z.o_neI
  | with_reducible apply Z.o_eqS
  | with_reducible apply Z.o_neS
  | with_reducible apply Z.o_neB
  | with_reducible apply Z.o_eqB
  | with_reducible apply Z.o_isT
  | with_reducible apply Z.s_aug rfl
  | with_reducible apply Z.o_ipOr
  | with_reducible apply Z.o_ipI
  | with_reducible apply Z.o_and1
  | with_reducible apply Z.o_and
  | with_reducible apply Z.o_or
  | with_reducible apply Z.o_shr
  | with_reducible apply Z.e_bits
  | with_reducible apply Z.bits_
  | with_reducible apply Z.e_lcE
  | with_reducible apply Z.e_tupRg2
  | with_reducible apply Z.e_tupRg1
  | with_reducible apply Z.e_lstRg2
  | with_reducible apply Z.e_lstRg1
  | with_reducible apply Z.o_lt
  | with_reducible apply Z.o_le
  | with_reducible apply Z.o_gt
  | with_reducible apply Z.o_ge
  | with_reducible apply Z.o_add
  | with_reducible apply Z.o_sub
  | ((with_reducible refine Z.o_pow ?_ ?_); (· exact ⟨by decide, by decide, by decide⟩); (try simp only [Int.reduceToNat, Int.reducePow]))
  | ((with_reducible refine Z.o_powW ?_ ?_ ?_); (· decide); (· decide +kernel); (try simp only [Int.reduceToNat, Int.reducePow]))
  | ((with_reducible refine Z.o_mod ?_ ?_); · walk_at "side")
  | ((with_reducible refine Z.o_div ?_ ?_ ?_); iterate 2 (· walk_at "side"))
  | ((with_reducible refine Z.o_div70 ?_ ?_ ?_); iterate 2 (· walk_at "side"))
  | ((with_reducible refine Z.o_mul ?_ ?_); · walk_at "side")
  | with_reducible apply Z.e_cb
  | ((with_reducible apply Z.o_lenL); · walk_at "sqL")
  | ((with_reducible apply Z.o_lenT); · walk_at "sqT")
  | ((with_reducible apply Z.o_ixL); (· walk_at "sqL"); (· rfl))
  | ((with_reducible apply Z.o_ixT); (· walk_at "sqT"); (· rfl))
  | ((with_reducible apply Z.o_setL); (· walk_at "at"); (· rfl))
  | ((with_reducible apply Z.o_sum); (· walk_at "sqL"))
  | with_reducible apply Z.s_ret
  | with_reducible apply Z.s_retN
  | with_reducible apply Z.s_next
  | with_reducible apply Z.s_drop
  | with_reducible apply Z.c_and
  | with_reducible apply Z.c_or
  | with_reducible apply Z.c_not
  | with_reducible apply Z.c_tru
  | with_reducible apply Z.c_B
  | with_reducible apply Z.e_un
  | with_reducible apply Z.o_neg
  | with_reducible apply Z.e_if
  | with_reducible apply Z.e_call
  | with_reducible apply Z.e_callD
  | with_reducible apply Z.e_fld
  | with_reducible apply Z.s_fld
  | with_reducible apply Z.e_meth
  | with_reducible apply Z.e_make
  | with_reducible apply Z.g_fld
  | with_reducible apply Z.e_ckw
  | with_reducible apply Z.s_asgStar
  | walk_at "fld"
  | with_reducible apply Z.e_callN
  | with_reducible apply Z.e_callNS
  | with_reducible refine Z.kw_go rfl rfl ?_
  | with_reducible apply Z.e_tup
  | with_reducible apply Z.e_lst
  | with_reducible apply Z.e_chain
  | with_reducible apply Z.s_asgS
  | with_reducible apply Z.s_asgT
  | with_reducible apply Z.s_asgU
  | with_reducible apply Z.s_forL
  | with_reducible apply Z.s_forV
  | with_reducible apply Z.e_lc2TL
  | with_reducible apply Z.s_forT
  | with_reducible apply Z.s_forR1
  | with_reducible apply Z.s_forR2
  | with_reducible apply Z.s_forE
  | with_reducible apply Z.e_lcL
  | with_reducible apply Z.e_lcT
  | with_reducible apply Z.e_lcR1
  | with_reducible apply Z.e_lcR2
  | with_reducible apply Z.c_yes
  | with_reducible apply Z.s_break
  | with_reducible apply Z.s_cont
  | with_reducible apply Z.o_isNr
  | with_reducible apply Z.o_isNi
  | with_reducible apply Z.o_isNs
  | with_reducible apply Z.o_isNn
  | with_reducible apply Z.o_notNr
  | with_reducible apply Z.o_notNi
  | with_reducible apply Z.o_notNs
  | with_reducible apply Z.o_notNn
  | with_reducible apply Z.t_bl
  | with_reducible apply Z.o_isN
  | with_reducible apply Z.o_notN
  | with_reducible apply Z.e_bm
  | with_reducible apply Z.e_bm0
  | with_reducible apply Z.g_name
  | with_reducible apply Z.g_cons
  | with_reducible apply Z.g_nil
  | with_reducible apply Z.g_sub
  | with_reducible apply Z.e_andV
  | with_reducible apply Z.e_orV
  | with_reducible apply Z.e_notV
  | with_reducible apply Z.e_notT
  | ((with_reducible apply Z.g_tup); (· walk_at "sqT"); (· rfl))
  | ((with_reducible apply Z.g_lst); (· walk_at "sqL"); (· rfl))
  | with_reducible apply Z.e_dget
  | with_reducible apply Z.e_dnin'
  | with_reducible apply Z.e_dcL
  | with_reducible apply Z.e_dnin
  | with_reducible apply Z.o_nisF
  | with_reducible apply Z.o_nisT
  | with_reducible apply Z.s_raise
  | with_reducible apply Z.e_mkO
  | with_reducible apply Z.e_callS
  | with_reducible apply Z.e_veI
  | with_reducible apply Z.s_ost
  | with_reducible apply Z.e_xfA
  | with_reducible apply Z.s_try
  | with_reducible apply Z.e_dnewT
  | with_reducible apply Z.e_dnewK
  | with_reducible apply Z.s_par
  | with_reducible apply Z.par_
  | with_reducible apply Z.s_dput
  | with_reducible apply Z.e_din
  | with_reducible apply Z.e_sl
  | with_reducible apply Z.p_none
  | with_reducible apply Z.p_some
  | with_reducible apply Z.p_int
  | with_reducible apply Z.z_int1
  | with_reducible apply Z.z_int1b
  | with_reducible apply Z.z_abs
  | with_reducible apply Z.z_max2
  | with_reducible apply Z.z_min2
  | ((with_reducible refine Z.w_split ?_ ?_); · rfl)
  | with_reducible apply Z.i_int_int
  | ((with_reducible apply Z.i_T_tuple); · walk_at "sqT")
  | ((with_reducible apply Z.i_L_tuple); · walk_at "sqL")
  | ((with_reducible apply Z.i_T_list); · walk_at "sqT")
  | ((with_reducible apply Z.i_L_list); · walk_at "sqL")
  | ((with_reducible apply Z.i_T_int); · walk_at "sqT")
  | ((with_reducible apply Z.i_L_int); · walk_at "sqL")
  | ((with_reducible apply Z.i_T_bool); · walk_at "sqT")
  | ((with_reducible apply Z.i_L_bool); · walk_at "sqL")
  | ((with_reducible apply Z.i_T_str); · walk_at "sqT")
  | ((with_reducible apply Z.i_L_str); · walk_at "sqL")
  | with_reducible apply Z.i_int_bool
  | with_reducible apply Z.i_int_str
  | with_reducible apply Z.i_int_tuple
  | with_reducible apply Z.i_int_list
  | with_reducible apply Z.i_str_str
  | with_reducible apply Z.i_str_tuple
  | with_reducible apply Z.i_str_list
  | with_reducible apply Z.i_str_int
  | with_reducible apply Z.i_str_bool
  | with_reducible apply Z.i_bl_int
  | with_reducible apply Z.i_bl_bool
  | with_reducible apply Z.i_bl_str
  | with_reducible apply Z.i_bl_tuple
  | with_reducible apply Z.i_bl_list
  | with_reducible apply Z.i_non_int
  | with_reducible apply Z.i_non_bool
  | with_reducible apply Z.i_non_str
  | with_reducible apply Z.i_non_tuple
  | with_reducible apply Z.i_non_list)
local macro_rules | `(tactic| walk_at "dec") => `(tactic| first | assumption | with_reducible rfl | omega | exact Z.ref_ne | exact Z.int_ne | exact Z.str_ne | (simp only [List.length_nil, List.length_cons]; omega) | decide)
local macro_rules | `(tactic| walk_at "s2") => `(tactic| first
  | with_reducible refine iteT ?_
  | with_reducible refine iteF ?_
  | with_reducible refine Z.iteNT ?_
  | with_reducible refine Z.iteNF ?_
  | ((with_reducible refine Z.if_t ?_ ?_); (· walk_at "dec"))
  | ((with_reducible refine Z.if_f ?_ ?_); (· walk_at "dec"))
  | ((with_reducible refine Z.if_nt ?_ ?_); (· walk_at "dec"))
  | ((with_reducible refine Z.if_nf ?_ ?_); (· walk_at "dec")))
local macro_rules | `(tactic| walk_at "rd") => `(tactic| repeat (first | walk_at "s1" | walk_at "s2"))
local macro_rules | `(tactic| walk_at "if") => `(tactic| first
  | with_reducible refine Z.if_dec (fun h => ?_) (fun h => ?_)
  | with_reducible refine Z.if_ndec (fun h => ?_) (fun h => ?_)
  | with_reducible refine Z.if_nb (fun h => ?_) (fun h => ?_)
  | with_reducible refine Z.if_b (fun h => ?_) (fun h => ?_))

namespace Y
open PySem PySem.Spec L2 Z
open PyProof.Rows hiding St
structure Ad where
  P : Program
  w : World
  SoleError : Addr
  NoSeat : Addr
  NoFamily : Addr
  TooMany : Addr
  NoSet : Addr
  NoShape : Addr
  Apart : Addr
  TooManyFallen : Addr
  NotPrime : Addr
structure Xf (K : PySem.W.Frag) (ad : Ad) : Prop where
  x_NotPrime : OexG K ad.NotPrime
  e_NotPrime : ErrC K ad.NotPrime
  n_NotPrime_number : PySem.W.findIn K (.ref ad.NotPrime) "number" = some none
  s_NotPrime_NotPrime : PySem.W.subIn K (.ref ad.NotPrime) (.ref ad.NotPrime) = some true
  s_NotPrime_SoleError : PySem.W.subIn K (.ref ad.NotPrime) (.ref ad.SoleError) = some false
  s_NotPrime_NoSeat : PySem.W.subIn K (.ref ad.NotPrime) (.ref ad.NoSeat) = some false
  s_NotPrime_NoSet : PySem.W.subIn K (.ref ad.NotPrime) (.ref ad.NoSet) = some false
  s_NotPrime_TooMany : PySem.W.subIn K (.ref ad.NotPrime) (.ref ad.TooMany) = some false
  s_NotPrime_TooManyFallen : PySem.W.subIn K (.ref ad.NotPrime) (.ref ad.TooManyFallen) = some false
  s_NotPrime_Apart : PySem.W.subIn K (.ref ad.NotPrime) (.ref ad.Apart) = some false
  s_NotPrime_NoFamily : PySem.W.subIn K (.ref ad.NotPrime) (.ref ad.NoFamily) = some false
  s_NotPrime_NoShape : PySem.W.subIn K (.ref ad.NotPrime) (.ref ad.NoShape) = some false
  s_NotPrime_ValueError : PySem.W.subIn K (.ref ad.NotPrime) (.type "ValueError") = some false
  s_NotPrime_ArithmeticError : PySem.W.subIn K (.ref ad.NotPrime) (.type "ArithmeticError") = some true
  x_NoSeat : OexC K ad.NoSeat
  e_NoSeat : ErrC K ad.NoSeat
  n_NoSeat_seat : PySem.W.findIn K (.ref ad.NoSeat) "seat" = some none
  s_NoSeat_NoSeat : PySem.W.subIn K (.ref ad.NoSeat) (.ref ad.NoSeat) = some true
  s_NoSeat_SoleError : PySem.W.subIn K (.ref ad.NoSeat) (.ref ad.SoleError) = some true
  s_NoSeat_NoSet : PySem.W.subIn K (.ref ad.NoSeat) (.ref ad.NoSet) = some false
  s_NoSeat_TooMany : PySem.W.subIn K (.ref ad.NoSeat) (.ref ad.TooMany) = some false
  s_NoSeat_TooManyFallen : PySem.W.subIn K (.ref ad.NoSeat) (.ref ad.TooManyFallen) = some false
  s_NoSeat_Apart : PySem.W.subIn K (.ref ad.NoSeat) (.ref ad.Apart) = some false
  s_NoSeat_NoFamily : PySem.W.subIn K (.ref ad.NoSeat) (.ref ad.NoFamily) = some false
  s_NoSeat_NoShape : PySem.W.subIn K (.ref ad.NoSeat) (.ref ad.NoShape) = some false
  s_NoSeat_NotPrime : PySem.W.subIn K (.ref ad.NoSeat) (.ref ad.NotPrime) = some false
  s_NoSeat_ValueError : PySem.W.subIn K (.ref ad.NoSeat) (.type "ValueError") = some true
  s_NoSeat_ArithmeticError : PySem.W.subIn K (.ref ad.NoSeat) (.type "ArithmeticError") = some false
  x_NoSet : OexC K ad.NoSet
  e_NoSet : ErrC K ad.NoSet
  n_NoSet_number : PySem.W.findIn K (.ref ad.NoSet) "number" = some none
  s_NoSet_NoSet : PySem.W.subIn K (.ref ad.NoSet) (.ref ad.NoSet) = some true
  s_NoSet_SoleError : PySem.W.subIn K (.ref ad.NoSet) (.ref ad.SoleError) = some true
  s_NoSet_NoSeat : PySem.W.subIn K (.ref ad.NoSet) (.ref ad.NoSeat) = some false
  s_NoSet_TooMany : PySem.W.subIn K (.ref ad.NoSet) (.ref ad.TooMany) = some false
  s_NoSet_TooManyFallen : PySem.W.subIn K (.ref ad.NoSet) (.ref ad.TooManyFallen) = some false
  s_NoSet_Apart : PySem.W.subIn K (.ref ad.NoSet) (.ref ad.Apart) = some false
  s_NoSet_NoFamily : PySem.W.subIn K (.ref ad.NoSet) (.ref ad.NoFamily) = some false
  s_NoSet_NoShape : PySem.W.subIn K (.ref ad.NoSet) (.ref ad.NoShape) = some false
  s_NoSet_NotPrime : PySem.W.subIn K (.ref ad.NoSet) (.ref ad.NotPrime) = some false
  s_NoSet_ValueError : PySem.W.subIn K (.ref ad.NoSet) (.type "ValueError") = some true
  s_NoSet_ArithmeticError : PySem.W.subIn K (.ref ad.NoSet) (.type "ArithmeticError") = some false
  x_TooManyFallen : OexC K ad.TooManyFallen
  e_TooManyFallen : ErrC K ad.TooManyFallen
  n_TooManyFallen_many : PySem.W.findIn K (.ref ad.TooManyFallen) "many" = some none
  s_TooManyFallen_TooManyFallen : PySem.W.subIn K (.ref ad.TooManyFallen) (.ref ad.TooManyFallen) = some true
  s_TooManyFallen_SoleError : PySem.W.subIn K (.ref ad.TooManyFallen) (.ref ad.SoleError) = some true
  s_TooManyFallen_NoSeat : PySem.W.subIn K (.ref ad.TooManyFallen) (.ref ad.NoSeat) = some false
  s_TooManyFallen_NoSet : PySem.W.subIn K (.ref ad.TooManyFallen) (.ref ad.NoSet) = some false
  s_TooManyFallen_TooMany : PySem.W.subIn K (.ref ad.TooManyFallen) (.ref ad.TooMany) = some false
  s_TooManyFallen_Apart : PySem.W.subIn K (.ref ad.TooManyFallen) (.ref ad.Apart) = some false
  s_TooManyFallen_NoFamily : PySem.W.subIn K (.ref ad.TooManyFallen) (.ref ad.NoFamily) = some false
  s_TooManyFallen_NoShape : PySem.W.subIn K (.ref ad.TooManyFallen) (.ref ad.NoShape) = some false
  s_TooManyFallen_NotPrime : PySem.W.subIn K (.ref ad.TooManyFallen) (.ref ad.NotPrime) = some false
  s_TooManyFallen_ValueError : PySem.W.subIn K (.ref ad.TooManyFallen) (.type "ValueError") = some true
  s_TooManyFallen_ArithmeticError : PySem.W.subIn K (.ref ad.TooManyFallen) (.type "ArithmeticError") = some false
  x_TooMany : OexC K ad.TooMany
  e_TooMany : ErrC K ad.TooMany
  n_TooMany_what : PySem.W.findIn K (.ref ad.TooMany) "what" = some none
  s_TooMany_TooMany : PySem.W.subIn K (.ref ad.TooMany) (.ref ad.TooMany) = some true
  s_TooMany_SoleError : PySem.W.subIn K (.ref ad.TooMany) (.ref ad.SoleError) = some true
  s_TooMany_NoSeat : PySem.W.subIn K (.ref ad.TooMany) (.ref ad.NoSeat) = some false
  s_TooMany_NoSet : PySem.W.subIn K (.ref ad.TooMany) (.ref ad.NoSet) = some false
  s_TooMany_TooManyFallen : PySem.W.subIn K (.ref ad.TooMany) (.ref ad.TooManyFallen) = some false
  s_TooMany_Apart : PySem.W.subIn K (.ref ad.TooMany) (.ref ad.Apart) = some false
  s_TooMany_NoFamily : PySem.W.subIn K (.ref ad.TooMany) (.ref ad.NoFamily) = some false
  s_TooMany_NoShape : PySem.W.subIn K (.ref ad.TooMany) (.ref ad.NoShape) = some false
  s_TooMany_NotPrime : PySem.W.subIn K (.ref ad.TooMany) (.ref ad.NotPrime) = some false
  s_TooMany_ValueError : PySem.W.subIn K (.ref ad.TooMany) (.type "ValueError") = some true
  s_TooMany_ArithmeticError : PySem.W.subIn K (.ref ad.TooMany) (.type "ArithmeticError") = some false
  c_NotPrime : ClsT K ad.NotPrime
  c_NoSeat : ClsT K ad.NoSeat
  c_NoSet : ClsT K ad.NoSet
  c_TooManyFallen : ClsT K ad.TooManyFallen
  c_TooMany : ClsT K ad.TooMany
  c_SoleError : ClsT K ad.SoleError
  c_Apart : ClsT K ad.Apart
  c_NoFamily : ClsT K ad.NoFamily
  c_NoShape : ClsT K ad.NoShape
theorem Xf.k_NotPrime_NotPrime {K : PySem.W.Frag} {ad : Ad} (X : Xf K ad) : PySem.W.kitOne K (.ref ad.NotPrime) (.ref ad.NotPrime) = some true := kit_own X.c_NotPrime X.s_NotPrime_NotPrime X.s_NotPrime_NotPrime
theorem Xf.m_NotPrime_NotPrime {K : PySem.W.Frag} {ad : Ad} (X : Xf K ad) : PySem.W.exmOne K (.ref ad.NotPrime) (.ref ad.NotPrime) = some true := exm_own X.c_NotPrime X.s_NotPrime_NotPrime
theorem Xf.k_NotPrime_SoleError {K : PySem.W.Frag} {ad : Ad} (X : Xf K ad) : PySem.W.kitOne K (.ref ad.NotPrime) (.ref ad.SoleError) = some false := kit_own X.c_SoleError X.s_NotPrime_SoleError X.s_NotPrime_NotPrime
theorem Xf.m_NotPrime_SoleError {K : PySem.W.Frag} {ad : Ad} (X : Xf K ad) : PySem.W.exmOne K (.ref ad.NotPrime) (.ref ad.SoleError) = some false := exm_own X.c_SoleError X.s_NotPrime_SoleError
theorem Xf.k_NotPrime_NoSeat {K : PySem.W.Frag} {ad : Ad} (X : Xf K ad) : PySem.W.kitOne K (.ref ad.NotPrime) (.ref ad.NoSeat) = some false := kit_own X.c_NoSeat X.s_NotPrime_NoSeat X.s_NotPrime_NotPrime
theorem Xf.m_NotPrime_NoSeat {K : PySem.W.Frag} {ad : Ad} (X : Xf K ad) : PySem.W.exmOne K (.ref ad.NotPrime) (.ref ad.NoSeat) = some false := exm_own X.c_NoSeat X.s_NotPrime_NoSeat
theorem Xf.k_NotPrime_NoSet {K : PySem.W.Frag} {ad : Ad} (X : Xf K ad) : PySem.W.kitOne K (.ref ad.NotPrime) (.ref ad.NoSet) = some false := kit_own X.c_NoSet X.s_NotPrime_NoSet X.s_NotPrime_NotPrime
theorem Xf.m_NotPrime_NoSet {K : PySem.W.Frag} {ad : Ad} (X : Xf K ad) : PySem.W.exmOne K (.ref ad.NotPrime) (.ref ad.NoSet) = some false := exm_own X.c_NoSet X.s_NotPrime_NoSet
theorem Xf.k_NotPrime_TooMany {K : PySem.W.Frag} {ad : Ad} (X : Xf K ad) : PySem.W.kitOne K (.ref ad.NotPrime) (.ref ad.TooMany) = some false := kit_own X.c_TooMany X.s_NotPrime_TooMany X.s_NotPrime_NotPrime
theorem Xf.m_NotPrime_TooMany {K : PySem.W.Frag} {ad : Ad} (X : Xf K ad) : PySem.W.exmOne K (.ref ad.NotPrime) (.ref ad.TooMany) = some false := exm_own X.c_TooMany X.s_NotPrime_TooMany
theorem Xf.k_NotPrime_TooManyFallen {K : PySem.W.Frag} {ad : Ad} (X : Xf K ad) : PySem.W.kitOne K (.ref ad.NotPrime) (.ref ad.TooManyFallen) = some false := kit_own X.c_TooManyFallen X.s_NotPrime_TooManyFallen X.s_NotPrime_NotPrime
theorem Xf.m_NotPrime_TooManyFallen {K : PySem.W.Frag} {ad : Ad} (X : Xf K ad) : PySem.W.exmOne K (.ref ad.NotPrime) (.ref ad.TooManyFallen) = some false := exm_own X.c_TooManyFallen X.s_NotPrime_TooManyFallen
theorem Xf.k_NotPrime_Apart {K : PySem.W.Frag} {ad : Ad} (X : Xf K ad) : PySem.W.kitOne K (.ref ad.NotPrime) (.ref ad.Apart) = some false := kit_own X.c_Apart X.s_NotPrime_Apart X.s_NotPrime_NotPrime
theorem Xf.m_NotPrime_Apart {K : PySem.W.Frag} {ad : Ad} (X : Xf K ad) : PySem.W.exmOne K (.ref ad.NotPrime) (.ref ad.Apart) = some false := exm_own X.c_Apart X.s_NotPrime_Apart
theorem Xf.k_NotPrime_NoFamily {K : PySem.W.Frag} {ad : Ad} (X : Xf K ad) : PySem.W.kitOne K (.ref ad.NotPrime) (.ref ad.NoFamily) = some false := kit_own X.c_NoFamily X.s_NotPrime_NoFamily X.s_NotPrime_NotPrime
theorem Xf.m_NotPrime_NoFamily {K : PySem.W.Frag} {ad : Ad} (X : Xf K ad) : PySem.W.exmOne K (.ref ad.NotPrime) (.ref ad.NoFamily) = some false := exm_own X.c_NoFamily X.s_NotPrime_NoFamily
theorem Xf.k_NotPrime_NoShape {K : PySem.W.Frag} {ad : Ad} (X : Xf K ad) : PySem.W.kitOne K (.ref ad.NotPrime) (.ref ad.NoShape) = some false := kit_own X.c_NoShape X.s_NotPrime_NoShape X.s_NotPrime_NotPrime
theorem Xf.m_NotPrime_NoShape {K : PySem.W.Frag} {ad : Ad} (X : Xf K ad) : PySem.W.exmOne K (.ref ad.NotPrime) (.ref ad.NoShape) = some false := exm_own X.c_NoShape X.s_NotPrime_NoShape
theorem Xf.k_NotPrime_ValueError {K : PySem.W.Frag} {ad : Ad} (X : Xf K ad) : PySem.W.kitOne K (.ref ad.NotPrime) (.type "ValueError") = some false := kit_bt (by decide +kernel) X.s_NotPrime_ValueError
theorem Xf.k_NotPrime_ArithmeticError {K : PySem.W.Frag} {ad : Ad} (X : Xf K ad) : PySem.W.kitOne K (.ref ad.NotPrime) (.type "ArithmeticError") = some true := kit_bt (by decide +kernel) X.s_NotPrime_ArithmeticError
theorem Xf.k_NoSeat_NoSeat {K : PySem.W.Frag} {ad : Ad} (X : Xf K ad) : PySem.W.kitOne K (.ref ad.NoSeat) (.ref ad.NoSeat) = some true := kit_own X.c_NoSeat X.s_NoSeat_NoSeat X.s_NoSeat_NoSeat
theorem Xf.m_NoSeat_NoSeat {K : PySem.W.Frag} {ad : Ad} (X : Xf K ad) : PySem.W.exmOne K (.ref ad.NoSeat) (.ref ad.NoSeat) = some true := exm_own X.c_NoSeat X.s_NoSeat_NoSeat
theorem Xf.k_NoSeat_SoleError {K : PySem.W.Frag} {ad : Ad} (X : Xf K ad) : PySem.W.kitOne K (.ref ad.NoSeat) (.ref ad.SoleError) = some true := kit_own X.c_SoleError X.s_NoSeat_SoleError X.s_NoSeat_NoSeat
theorem Xf.m_NoSeat_SoleError {K : PySem.W.Frag} {ad : Ad} (X : Xf K ad) : PySem.W.exmOne K (.ref ad.NoSeat) (.ref ad.SoleError) = some true := exm_own X.c_SoleError X.s_NoSeat_SoleError
theorem Xf.k_NoSeat_NoSet {K : PySem.W.Frag} {ad : Ad} (X : Xf K ad) : PySem.W.kitOne K (.ref ad.NoSeat) (.ref ad.NoSet) = some false := kit_own X.c_NoSet X.s_NoSeat_NoSet X.s_NoSeat_NoSeat
theorem Xf.m_NoSeat_NoSet {K : PySem.W.Frag} {ad : Ad} (X : Xf K ad) : PySem.W.exmOne K (.ref ad.NoSeat) (.ref ad.NoSet) = some false := exm_own X.c_NoSet X.s_NoSeat_NoSet
theorem Xf.k_NoSeat_TooMany {K : PySem.W.Frag} {ad : Ad} (X : Xf K ad) : PySem.W.kitOne K (.ref ad.NoSeat) (.ref ad.TooMany) = some false := kit_own X.c_TooMany X.s_NoSeat_TooMany X.s_NoSeat_NoSeat
theorem Xf.m_NoSeat_TooMany {K : PySem.W.Frag} {ad : Ad} (X : Xf K ad) : PySem.W.exmOne K (.ref ad.NoSeat) (.ref ad.TooMany) = some false := exm_own X.c_TooMany X.s_NoSeat_TooMany
theorem Xf.k_NoSeat_TooManyFallen {K : PySem.W.Frag} {ad : Ad} (X : Xf K ad) : PySem.W.kitOne K (.ref ad.NoSeat) (.ref ad.TooManyFallen) = some false := kit_own X.c_TooManyFallen X.s_NoSeat_TooManyFallen X.s_NoSeat_NoSeat
theorem Xf.m_NoSeat_TooManyFallen {K : PySem.W.Frag} {ad : Ad} (X : Xf K ad) : PySem.W.exmOne K (.ref ad.NoSeat) (.ref ad.TooManyFallen) = some false := exm_own X.c_TooManyFallen X.s_NoSeat_TooManyFallen
theorem Xf.k_NoSeat_Apart {K : PySem.W.Frag} {ad : Ad} (X : Xf K ad) : PySem.W.kitOne K (.ref ad.NoSeat) (.ref ad.Apart) = some false := kit_own X.c_Apart X.s_NoSeat_Apart X.s_NoSeat_NoSeat
theorem Xf.m_NoSeat_Apart {K : PySem.W.Frag} {ad : Ad} (X : Xf K ad) : PySem.W.exmOne K (.ref ad.NoSeat) (.ref ad.Apart) = some false := exm_own X.c_Apart X.s_NoSeat_Apart
theorem Xf.k_NoSeat_NoFamily {K : PySem.W.Frag} {ad : Ad} (X : Xf K ad) : PySem.W.kitOne K (.ref ad.NoSeat) (.ref ad.NoFamily) = some false := kit_own X.c_NoFamily X.s_NoSeat_NoFamily X.s_NoSeat_NoSeat
theorem Xf.m_NoSeat_NoFamily {K : PySem.W.Frag} {ad : Ad} (X : Xf K ad) : PySem.W.exmOne K (.ref ad.NoSeat) (.ref ad.NoFamily) = some false := exm_own X.c_NoFamily X.s_NoSeat_NoFamily
theorem Xf.k_NoSeat_NoShape {K : PySem.W.Frag} {ad : Ad} (X : Xf K ad) : PySem.W.kitOne K (.ref ad.NoSeat) (.ref ad.NoShape) = some false := kit_own X.c_NoShape X.s_NoSeat_NoShape X.s_NoSeat_NoSeat
theorem Xf.m_NoSeat_NoShape {K : PySem.W.Frag} {ad : Ad} (X : Xf K ad) : PySem.W.exmOne K (.ref ad.NoSeat) (.ref ad.NoShape) = some false := exm_own X.c_NoShape X.s_NoSeat_NoShape
theorem Xf.k_NoSeat_NotPrime {K : PySem.W.Frag} {ad : Ad} (X : Xf K ad) : PySem.W.kitOne K (.ref ad.NoSeat) (.ref ad.NotPrime) = some false := kit_own X.c_NotPrime X.s_NoSeat_NotPrime X.s_NoSeat_NoSeat
theorem Xf.m_NoSeat_NotPrime {K : PySem.W.Frag} {ad : Ad} (X : Xf K ad) : PySem.W.exmOne K (.ref ad.NoSeat) (.ref ad.NotPrime) = some false := exm_own X.c_NotPrime X.s_NoSeat_NotPrime
theorem Xf.k_NoSeat_ValueError {K : PySem.W.Frag} {ad : Ad} (X : Xf K ad) : PySem.W.kitOne K (.ref ad.NoSeat) (.type "ValueError") = some true := kit_bt (by decide +kernel) X.s_NoSeat_ValueError
theorem Xf.k_NoSeat_ArithmeticError {K : PySem.W.Frag} {ad : Ad} (X : Xf K ad) : PySem.W.kitOne K (.ref ad.NoSeat) (.type "ArithmeticError") = some false := kit_bt (by decide +kernel) X.s_NoSeat_ArithmeticError
theorem Xf.k_NoSet_NoSet {K : PySem.W.Frag} {ad : Ad} (X : Xf K ad) : PySem.W.kitOne K (.ref ad.NoSet) (.ref ad.NoSet) = some true := kit_own X.c_NoSet X.s_NoSet_NoSet X.s_NoSet_NoSet
theorem Xf.m_NoSet_NoSet {K : PySem.W.Frag} {ad : Ad} (X : Xf K ad) : PySem.W.exmOne K (.ref ad.NoSet) (.ref ad.NoSet) = some true := exm_own X.c_NoSet X.s_NoSet_NoSet
theorem Xf.k_NoSet_SoleError {K : PySem.W.Frag} {ad : Ad} (X : Xf K ad) : PySem.W.kitOne K (.ref ad.NoSet) (.ref ad.SoleError) = some true := kit_own X.c_SoleError X.s_NoSet_SoleError X.s_NoSet_NoSet
theorem Xf.m_NoSet_SoleError {K : PySem.W.Frag} {ad : Ad} (X : Xf K ad) : PySem.W.exmOne K (.ref ad.NoSet) (.ref ad.SoleError) = some true := exm_own X.c_SoleError X.s_NoSet_SoleError
theorem Xf.k_NoSet_NoSeat {K : PySem.W.Frag} {ad : Ad} (X : Xf K ad) : PySem.W.kitOne K (.ref ad.NoSet) (.ref ad.NoSeat) = some false := kit_own X.c_NoSeat X.s_NoSet_NoSeat X.s_NoSet_NoSet
theorem Xf.m_NoSet_NoSeat {K : PySem.W.Frag} {ad : Ad} (X : Xf K ad) : PySem.W.exmOne K (.ref ad.NoSet) (.ref ad.NoSeat) = some false := exm_own X.c_NoSeat X.s_NoSet_NoSeat
theorem Xf.k_NoSet_TooMany {K : PySem.W.Frag} {ad : Ad} (X : Xf K ad) : PySem.W.kitOne K (.ref ad.NoSet) (.ref ad.TooMany) = some false := kit_own X.c_TooMany X.s_NoSet_TooMany X.s_NoSet_NoSet
theorem Xf.m_NoSet_TooMany {K : PySem.W.Frag} {ad : Ad} (X : Xf K ad) : PySem.W.exmOne K (.ref ad.NoSet) (.ref ad.TooMany) = some false := exm_own X.c_TooMany X.s_NoSet_TooMany
theorem Xf.k_NoSet_TooManyFallen {K : PySem.W.Frag} {ad : Ad} (X : Xf K ad) : PySem.W.kitOne K (.ref ad.NoSet) (.ref ad.TooManyFallen) = some false := kit_own X.c_TooManyFallen X.s_NoSet_TooManyFallen X.s_NoSet_NoSet
theorem Xf.m_NoSet_TooManyFallen {K : PySem.W.Frag} {ad : Ad} (X : Xf K ad) : PySem.W.exmOne K (.ref ad.NoSet) (.ref ad.TooManyFallen) = some false := exm_own X.c_TooManyFallen X.s_NoSet_TooManyFallen
theorem Xf.k_NoSet_Apart {K : PySem.W.Frag} {ad : Ad} (X : Xf K ad) : PySem.W.kitOne K (.ref ad.NoSet) (.ref ad.Apart) = some false := kit_own X.c_Apart X.s_NoSet_Apart X.s_NoSet_NoSet
theorem Xf.m_NoSet_Apart {K : PySem.W.Frag} {ad : Ad} (X : Xf K ad) : PySem.W.exmOne K (.ref ad.NoSet) (.ref ad.Apart) = some false := exm_own X.c_Apart X.s_NoSet_Apart
theorem Xf.k_NoSet_NoFamily {K : PySem.W.Frag} {ad : Ad} (X : Xf K ad) : PySem.W.kitOne K (.ref ad.NoSet) (.ref ad.NoFamily) = some false := kit_own X.c_NoFamily X.s_NoSet_NoFamily X.s_NoSet_NoSet
theorem Xf.m_NoSet_NoFamily {K : PySem.W.Frag} {ad : Ad} (X : Xf K ad) : PySem.W.exmOne K (.ref ad.NoSet) (.ref ad.NoFamily) = some false := exm_own X.c_NoFamily X.s_NoSet_NoFamily
theorem Xf.k_NoSet_NoShape {K : PySem.W.Frag} {ad : Ad} (X : Xf K ad) : PySem.W.kitOne K (.ref ad.NoSet) (.ref ad.NoShape) = some false := kit_own X.c_NoShape X.s_NoSet_NoShape X.s_NoSet_NoSet
theorem Xf.m_NoSet_NoShape {K : PySem.W.Frag} {ad : Ad} (X : Xf K ad) : PySem.W.exmOne K (.ref ad.NoSet) (.ref ad.NoShape) = some false := exm_own X.c_NoShape X.s_NoSet_NoShape
theorem Xf.k_NoSet_NotPrime {K : PySem.W.Frag} {ad : Ad} (X : Xf K ad) : PySem.W.kitOne K (.ref ad.NoSet) (.ref ad.NotPrime) = some false := kit_own X.c_NotPrime X.s_NoSet_NotPrime X.s_NoSet_NoSet
theorem Xf.m_NoSet_NotPrime {K : PySem.W.Frag} {ad : Ad} (X : Xf K ad) : PySem.W.exmOne K (.ref ad.NoSet) (.ref ad.NotPrime) = some false := exm_own X.c_NotPrime X.s_NoSet_NotPrime
theorem Xf.k_NoSet_ValueError {K : PySem.W.Frag} {ad : Ad} (X : Xf K ad) : PySem.W.kitOne K (.ref ad.NoSet) (.type "ValueError") = some true := kit_bt (by decide +kernel) X.s_NoSet_ValueError
theorem Xf.k_NoSet_ArithmeticError {K : PySem.W.Frag} {ad : Ad} (X : Xf K ad) : PySem.W.kitOne K (.ref ad.NoSet) (.type "ArithmeticError") = some false := kit_bt (by decide +kernel) X.s_NoSet_ArithmeticError
theorem Xf.k_TooManyFallen_TooManyFallen {K : PySem.W.Frag} {ad : Ad} (X : Xf K ad) : PySem.W.kitOne K (.ref ad.TooManyFallen) (.ref ad.TooManyFallen) = some true := kit_own X.c_TooManyFallen X.s_TooManyFallen_TooManyFallen X.s_TooManyFallen_TooManyFallen
theorem Xf.m_TooManyFallen_TooManyFallen {K : PySem.W.Frag} {ad : Ad} (X : Xf K ad) : PySem.W.exmOne K (.ref ad.TooManyFallen) (.ref ad.TooManyFallen) = some true := exm_own X.c_TooManyFallen X.s_TooManyFallen_TooManyFallen
theorem Xf.k_TooManyFallen_SoleError {K : PySem.W.Frag} {ad : Ad} (X : Xf K ad) : PySem.W.kitOne K (.ref ad.TooManyFallen) (.ref ad.SoleError) = some true := kit_own X.c_SoleError X.s_TooManyFallen_SoleError X.s_TooManyFallen_TooManyFallen
theorem Xf.m_TooManyFallen_SoleError {K : PySem.W.Frag} {ad : Ad} (X : Xf K ad) : PySem.W.exmOne K (.ref ad.TooManyFallen) (.ref ad.SoleError) = some true := exm_own X.c_SoleError X.s_TooManyFallen_SoleError
theorem Xf.k_TooManyFallen_NoSeat {K : PySem.W.Frag} {ad : Ad} (X : Xf K ad) : PySem.W.kitOne K (.ref ad.TooManyFallen) (.ref ad.NoSeat) = some false := kit_own X.c_NoSeat X.s_TooManyFallen_NoSeat X.s_TooManyFallen_TooManyFallen
theorem Xf.m_TooManyFallen_NoSeat {K : PySem.W.Frag} {ad : Ad} (X : Xf K ad) : PySem.W.exmOne K (.ref ad.TooManyFallen) (.ref ad.NoSeat) = some false := exm_own X.c_NoSeat X.s_TooManyFallen_NoSeat
theorem Xf.k_TooManyFallen_NoSet {K : PySem.W.Frag} {ad : Ad} (X : Xf K ad) : PySem.W.kitOne K (.ref ad.TooManyFallen) (.ref ad.NoSet) = some false := kit_own X.c_NoSet X.s_TooManyFallen_NoSet X.s_TooManyFallen_TooManyFallen
theorem Xf.m_TooManyFallen_NoSet {K : PySem.W.Frag} {ad : Ad} (X : Xf K ad) : PySem.W.exmOne K (.ref ad.TooManyFallen) (.ref ad.NoSet) = some false := exm_own X.c_NoSet X.s_TooManyFallen_NoSet
theorem Xf.k_TooManyFallen_TooMany {K : PySem.W.Frag} {ad : Ad} (X : Xf K ad) : PySem.W.kitOne K (.ref ad.TooManyFallen) (.ref ad.TooMany) = some false := kit_own X.c_TooMany X.s_TooManyFallen_TooMany X.s_TooManyFallen_TooManyFallen
theorem Xf.m_TooManyFallen_TooMany {K : PySem.W.Frag} {ad : Ad} (X : Xf K ad) : PySem.W.exmOne K (.ref ad.TooManyFallen) (.ref ad.TooMany) = some false := exm_own X.c_TooMany X.s_TooManyFallen_TooMany
theorem Xf.k_TooManyFallen_Apart {K : PySem.W.Frag} {ad : Ad} (X : Xf K ad) : PySem.W.kitOne K (.ref ad.TooManyFallen) (.ref ad.Apart) = some false := kit_own X.c_Apart X.s_TooManyFallen_Apart X.s_TooManyFallen_TooManyFallen
theorem Xf.m_TooManyFallen_Apart {K : PySem.W.Frag} {ad : Ad} (X : Xf K ad) : PySem.W.exmOne K (.ref ad.TooManyFallen) (.ref ad.Apart) = some false := exm_own X.c_Apart X.s_TooManyFallen_Apart
theorem Xf.k_TooManyFallen_NoFamily {K : PySem.W.Frag} {ad : Ad} (X : Xf K ad) : PySem.W.kitOne K (.ref ad.TooManyFallen) (.ref ad.NoFamily) = some false := kit_own X.c_NoFamily X.s_TooManyFallen_NoFamily X.s_TooManyFallen_TooManyFallen
theorem Xf.m_TooManyFallen_NoFamily {K : PySem.W.Frag} {ad : Ad} (X : Xf K ad) : PySem.W.exmOne K (.ref ad.TooManyFallen) (.ref ad.NoFamily) = some false := exm_own X.c_NoFamily X.s_TooManyFallen_NoFamily
theorem Xf.k_TooManyFallen_NoShape {K : PySem.W.Frag} {ad : Ad} (X : Xf K ad) : PySem.W.kitOne K (.ref ad.TooManyFallen) (.ref ad.NoShape) = some false := kit_own X.c_NoShape X.s_TooManyFallen_NoShape X.s_TooManyFallen_TooManyFallen
theorem Xf.m_TooManyFallen_NoShape {K : PySem.W.Frag} {ad : Ad} (X : Xf K ad) : PySem.W.exmOne K (.ref ad.TooManyFallen) (.ref ad.NoShape) = some false := exm_own X.c_NoShape X.s_TooManyFallen_NoShape
theorem Xf.k_TooManyFallen_NotPrime {K : PySem.W.Frag} {ad : Ad} (X : Xf K ad) : PySem.W.kitOne K (.ref ad.TooManyFallen) (.ref ad.NotPrime) = some false := kit_own X.c_NotPrime X.s_TooManyFallen_NotPrime X.s_TooManyFallen_TooManyFallen
theorem Xf.m_TooManyFallen_NotPrime {K : PySem.W.Frag} {ad : Ad} (X : Xf K ad) : PySem.W.exmOne K (.ref ad.TooManyFallen) (.ref ad.NotPrime) = some false := exm_own X.c_NotPrime X.s_TooManyFallen_NotPrime
theorem Xf.k_TooManyFallen_ValueError {K : PySem.W.Frag} {ad : Ad} (X : Xf K ad) : PySem.W.kitOne K (.ref ad.TooManyFallen) (.type "ValueError") = some true := kit_bt (by decide +kernel) X.s_TooManyFallen_ValueError
theorem Xf.k_TooManyFallen_ArithmeticError {K : PySem.W.Frag} {ad : Ad} (X : Xf K ad) : PySem.W.kitOne K (.ref ad.TooManyFallen) (.type "ArithmeticError") = some false := kit_bt (by decide +kernel) X.s_TooManyFallen_ArithmeticError
theorem Xf.k_TooMany_TooMany {K : PySem.W.Frag} {ad : Ad} (X : Xf K ad) : PySem.W.kitOne K (.ref ad.TooMany) (.ref ad.TooMany) = some true := kit_own X.c_TooMany X.s_TooMany_TooMany X.s_TooMany_TooMany
theorem Xf.m_TooMany_TooMany {K : PySem.W.Frag} {ad : Ad} (X : Xf K ad) : PySem.W.exmOne K (.ref ad.TooMany) (.ref ad.TooMany) = some true := exm_own X.c_TooMany X.s_TooMany_TooMany
theorem Xf.k_TooMany_SoleError {K : PySem.W.Frag} {ad : Ad} (X : Xf K ad) : PySem.W.kitOne K (.ref ad.TooMany) (.ref ad.SoleError) = some true := kit_own X.c_SoleError X.s_TooMany_SoleError X.s_TooMany_TooMany
theorem Xf.m_TooMany_SoleError {K : PySem.W.Frag} {ad : Ad} (X : Xf K ad) : PySem.W.exmOne K (.ref ad.TooMany) (.ref ad.SoleError) = some true := exm_own X.c_SoleError X.s_TooMany_SoleError
theorem Xf.k_TooMany_NoSeat {K : PySem.W.Frag} {ad : Ad} (X : Xf K ad) : PySem.W.kitOne K (.ref ad.TooMany) (.ref ad.NoSeat) = some false := kit_own X.c_NoSeat X.s_TooMany_NoSeat X.s_TooMany_TooMany
theorem Xf.m_TooMany_NoSeat {K : PySem.W.Frag} {ad : Ad} (X : Xf K ad) : PySem.W.exmOne K (.ref ad.TooMany) (.ref ad.NoSeat) = some false := exm_own X.c_NoSeat X.s_TooMany_NoSeat
theorem Xf.k_TooMany_NoSet {K : PySem.W.Frag} {ad : Ad} (X : Xf K ad) : PySem.W.kitOne K (.ref ad.TooMany) (.ref ad.NoSet) = some false := kit_own X.c_NoSet X.s_TooMany_NoSet X.s_TooMany_TooMany
theorem Xf.m_TooMany_NoSet {K : PySem.W.Frag} {ad : Ad} (X : Xf K ad) : PySem.W.exmOne K (.ref ad.TooMany) (.ref ad.NoSet) = some false := exm_own X.c_NoSet X.s_TooMany_NoSet
theorem Xf.k_TooMany_TooManyFallen {K : PySem.W.Frag} {ad : Ad} (X : Xf K ad) : PySem.W.kitOne K (.ref ad.TooMany) (.ref ad.TooManyFallen) = some false := kit_own X.c_TooManyFallen X.s_TooMany_TooManyFallen X.s_TooMany_TooMany
theorem Xf.m_TooMany_TooManyFallen {K : PySem.W.Frag} {ad : Ad} (X : Xf K ad) : PySem.W.exmOne K (.ref ad.TooMany) (.ref ad.TooManyFallen) = some false := exm_own X.c_TooManyFallen X.s_TooMany_TooManyFallen
theorem Xf.k_TooMany_Apart {K : PySem.W.Frag} {ad : Ad} (X : Xf K ad) : PySem.W.kitOne K (.ref ad.TooMany) (.ref ad.Apart) = some false := kit_own X.c_Apart X.s_TooMany_Apart X.s_TooMany_TooMany
theorem Xf.m_TooMany_Apart {K : PySem.W.Frag} {ad : Ad} (X : Xf K ad) : PySem.W.exmOne K (.ref ad.TooMany) (.ref ad.Apart) = some false := exm_own X.c_Apart X.s_TooMany_Apart
theorem Xf.k_TooMany_NoFamily {K : PySem.W.Frag} {ad : Ad} (X : Xf K ad) : PySem.W.kitOne K (.ref ad.TooMany) (.ref ad.NoFamily) = some false := kit_own X.c_NoFamily X.s_TooMany_NoFamily X.s_TooMany_TooMany
theorem Xf.m_TooMany_NoFamily {K : PySem.W.Frag} {ad : Ad} (X : Xf K ad) : PySem.W.exmOne K (.ref ad.TooMany) (.ref ad.NoFamily) = some false := exm_own X.c_NoFamily X.s_TooMany_NoFamily
theorem Xf.k_TooMany_NoShape {K : PySem.W.Frag} {ad : Ad} (X : Xf K ad) : PySem.W.kitOne K (.ref ad.TooMany) (.ref ad.NoShape) = some false := kit_own X.c_NoShape X.s_TooMany_NoShape X.s_TooMany_TooMany
theorem Xf.m_TooMany_NoShape {K : PySem.W.Frag} {ad : Ad} (X : Xf K ad) : PySem.W.exmOne K (.ref ad.TooMany) (.ref ad.NoShape) = some false := exm_own X.c_NoShape X.s_TooMany_NoShape
theorem Xf.k_TooMany_NotPrime {K : PySem.W.Frag} {ad : Ad} (X : Xf K ad) : PySem.W.kitOne K (.ref ad.TooMany) (.ref ad.NotPrime) = some false := kit_own X.c_NotPrime X.s_TooMany_NotPrime X.s_TooMany_TooMany
theorem Xf.m_TooMany_NotPrime {K : PySem.W.Frag} {ad : Ad} (X : Xf K ad) : PySem.W.exmOne K (.ref ad.TooMany) (.ref ad.NotPrime) = some false := exm_own X.c_NotPrime X.s_TooMany_NotPrime
theorem Xf.k_TooMany_ValueError {K : PySem.W.Frag} {ad : Ad} (X : Xf K ad) : PySem.W.kitOne K (.ref ad.TooMany) (.type "ValueError") = some true := kit_bt (by decide +kernel) X.s_TooMany_ValueError
theorem Xf.k_TooMany_ArithmeticError {K : PySem.W.Frag} {ad : Ad} (X : Xf K ad) : PySem.W.kitOne K (.ref ad.TooMany) (.type "ArithmeticError") = some false := kit_bt (by decide +kernel) X.s_TooMany_ArithmeticError
inductive q_NotPrime___init__ (K : PySem.W.Frag) (ad : Ad) : V → V → Hp → VK → Prop
  | mk {a C : Addr} {v : V} {H : Hp} {Q : VK} (T : OexG K C) (n0 : PySem.W.findIn K (.ref C) "number" = some none) (e : H a = some (exo a C none)) (k : ∀ dx, H dx = none → dx ≠ a → Q .non (upd (upd H dx (exd dx [("number", v)])) a (exo a C (some dx)))) : q_NotPrime___init__ K ad (.ref a) v H Q
def sp_NotPrime___init__ (K : PySem.W.Frag) (ad : Ad) : Sp := fun vs H Q _ => match vs with | [x0, x1] => q_NotPrime___init__ K ad x0 x1 H Q | _ => False
theorem c_NotPrime___init__ {K : PySem.W.Frag} {ad : Ad} {x0 x1 : V} {H : Hp} {Q : VK} {E : XK} (h : q_NotPrime___init__ K ad x0 x1 H Q) : sp_NotPrime___init__ K ad ([x0, x1] ++ []) H Q E := h
theorem n_NotPrime___init__ {K : PySem.W.Frag} {ad : Ad} {vs : List V} {H : Hp} {Q : VK} {E : XK} (h : sp_NotPrime___init__ K ad vs H Q E) : ∃ x0 x1, vs = [x0, x1] ∧ q_NotPrime___init__ K ad x0 x1 H Q := match vs, h with | [x0, x1], h => ⟨x0, x1, rfl, h⟩
def t_NotPrime___init__ (K : PySem.W.Frag) (ad : Ad) : TS := (tOstG K "number" (tVar 0) (tVar 1))
theorem w_NotPrime___init__ {K : PySem.W.Frag} {ad : Ad} {x0 x1 : V} {H : Hp} {Q : VK} (h : q_NotPrime___init__ K ad x0 x1 H Q) : t_NotPrime___init__ K ad ⟨fun _ H' => Q .non H', Q, fun _ _ => False, fun _ _ => False⟩ [some x0, some x1] H := by
  cases h with
  | @mk a C v _ _ T n0 e k =>
    unfold t_NotPrime___init__
    walk_at "rd"
    refine s_ostG ?_
    walk_at "rd"
    refine ⟨a, C, rfl, T, n0, e, fun dx nx ne => ?_⟩
    exact k dx nx ne
theorem mk_NotPrime {K : PySem.W.Frag} {ad : Ad} (X : Xf K ad) {v : V} {H : Hp} {QX : XK} (k : ∀ d, Fresh H d → QX (.ref ad.NotPrime) (some d) (upd H d (.xd [("number", v)]))) : ([v] : List V).length ≤ 1000 ∧ ∀ a, H a = none → sp_NotPrime___init__ K ad (.ref a :: ([v] ++ [])) (upd H a (exo a ad.NotPrime none)) (fun z H2 => z = .non ∧ ∃ (d : Addr) (fs : List (Str × V)), H2 a = some (exo a ad.NotPrime (some d)) ∧ H2 d = some (exd d fs) ∧ H d = none ∧ QX (.ref ad.NotPrime) (some d) (upd (del H2 a) d (.xd fs))) (fun _ _ _ => False) :=
  ⟨by simp, fun a na => c_NotPrime___init__ (q_NotPrime___init__.mk X.x_NotPrime X.n_NotPrime_number upd_same fun dx nd ne => ⟨rfl, dx, _, upd_same, (upd_ne ne).trans upd_same, (upd_ne ne).symm.trans nd, by rw [exo_heap1 na nd]; exact k dx ((upd_ne ne).symm.trans nd)⟩)⟩
inductive q_NoSeat___init__ (K : PySem.W.Frag) (ad : Ad) : V → V → Hp → VK → Prop
  | mk {a C : Addr} {v : V} {H : Hp} {Q : VK} (T : OexC K C) (n0 : PySem.W.findIn K (.ref C) "seat" = some none) (e : H a = some (exo a C none)) (k : ∀ dx, H dx = none → dx ≠ a → Q .non (upd (upd H dx (exd dx [("seat", v)])) a (exo a C (some dx)))) : q_NoSeat___init__ K ad (.ref a) v H Q
def sp_NoSeat___init__ (K : PySem.W.Frag) (ad : Ad) : Sp := fun vs H Q _ => match vs with | [x0, x1] => q_NoSeat___init__ K ad x0 x1 H Q | _ => False
theorem c_NoSeat___init__ {K : PySem.W.Frag} {ad : Ad} {x0 x1 : V} {H : Hp} {Q : VK} {E : XK} (h : q_NoSeat___init__ K ad x0 x1 H Q) : sp_NoSeat___init__ K ad ([x0, x1] ++ []) H Q E := h
theorem n_NoSeat___init__ {K : PySem.W.Frag} {ad : Ad} {vs : List V} {H : Hp} {Q : VK} {E : XK} (h : sp_NoSeat___init__ K ad vs H Q E) : ∃ x0 x1, vs = [x0, x1] ∧ q_NoSeat___init__ K ad x0 x1 H Q := match vs, h with | [x0, x1], h => ⟨x0, x1, rfl, h⟩
def t_NoSeat___init__ (K : PySem.W.Frag) (ad : Ad) : TS := (tSeq (tDrop (tVeI K (tCons (tVar 0) (tCons (tC (.str "no seat of this hall")) tNil))))
    (tOst K "seat" (tVar 0) (tVar 1)))
theorem w_NoSeat___init__ {K : PySem.W.Frag} {ad : Ad} {x0 x1 : V} {H : Hp} {Q : VK} (h : q_NoSeat___init__ K ad x0 x1 H Q) : t_NoSeat___init__ K ad ⟨fun _ H' => Q .non H', Q, fun _ _ => False, fun _ _ => False⟩ [some x0, some x1] H := by
  cases h with
  | @mk a C v _ _ T n0 e k =>
    unfold t_NoSeat___init__
    walk_at "rd"
    refine vei_ (by decide) T e ?_
    walk_at "rd"
    refine ⟨a, C, rfl, T, n0, .inl ⟨e, fun dx nx ne => ?_⟩⟩
    exact k dx nx ne
theorem mk_NoSeat {K : PySem.W.Frag} {ad : Ad} (X : Xf K ad) {v : V} {H : Hp} {QX : XK} (k : ∀ d, Fresh H d → QX (.ref ad.NoSeat) (some d) (upd H d (.xd [("seat", v)]))) : ([v] : List V).length ≤ 1000 ∧ ∀ a, H a = none → sp_NoSeat___init__ K ad (.ref a :: ([v] ++ [])) (upd H a (exo a ad.NoSeat none)) (fun z H2 => z = .non ∧ ∃ (d : Addr) (fs : List (Str × V)), H2 a = some (exo a ad.NoSeat (some d)) ∧ H2 d = some (exd d fs) ∧ H d = none ∧ QX (.ref ad.NoSeat) (some d) (upd (del H2 a) d (.xd fs))) (fun _ _ _ => False) :=
  ⟨by simp, fun a na => c_NoSeat___init__ (q_NoSeat___init__.mk X.x_NoSeat X.n_NoSeat_seat upd_same fun dx nd ne => ⟨rfl, dx, _, upd_same, (upd_ne ne).trans upd_same, (upd_ne ne).symm.trans nd, by rw [exo_heap1 na nd]; exact k dx ((upd_ne ne).symm.trans nd)⟩)⟩
inductive q_NoSet___init__ (K : PySem.W.Frag) (ad : Ad) : V → V → Hp → VK → Prop
  | mk {a C : Addr} {v : V} {H : Hp} {Q : VK} (T : OexC K C) (n0 : PySem.W.findIn K (.ref C) "number" = some none) (e : H a = some (exo a C none)) (k : ∀ dx, H dx = none → dx ≠ a → Q .non (upd (upd H dx (exd dx [("number", v)])) a (exo a C (some dx)))) : q_NoSet___init__ K ad (.ref a) v H Q
def sp_NoSet___init__ (K : PySem.W.Frag) (ad : Ad) : Sp := fun vs H Q _ => match vs with | [x0, x1] => q_NoSet___init__ K ad x0 x1 H Q | _ => False
theorem c_NoSet___init__ {K : PySem.W.Frag} {ad : Ad} {x0 x1 : V} {H : Hp} {Q : VK} {E : XK} (h : q_NoSet___init__ K ad x0 x1 H Q) : sp_NoSet___init__ K ad ([x0, x1] ++ []) H Q E := h
theorem n_NoSet___init__ {K : PySem.W.Frag} {ad : Ad} {vs : List V} {H : Hp} {Q : VK} {E : XK} (h : sp_NoSet___init__ K ad vs H Q E) : ∃ x0 x1, vs = [x0, x1] ∧ q_NoSet___init__ K ad x0 x1 H Q := match vs, h with | [x0, x1], h => ⟨x0, x1, rfl, h⟩
def t_NoSet___init__ (K : PySem.W.Frag) (ad : Ad) : TS := (tOst K "number" (tVar 0) (tVar 1))
theorem w_NoSet___init__ {K : PySem.W.Frag} {ad : Ad} {x0 x1 : V} {H : Hp} {Q : VK} (h : q_NoSet___init__ K ad x0 x1 H Q) : t_NoSet___init__ K ad ⟨fun _ H' => Q .non H', Q, fun _ _ => False, fun _ _ => False⟩ [some x0, some x1] H := by
  cases h with
  | @mk a C v _ _ T n0 e k =>
    unfold t_NoSet___init__
    walk_at "rd"
    refine ⟨a, C, rfl, T, n0, .inl ⟨e, fun dx nx ne => ?_⟩⟩
    exact k dx nx ne
theorem mk_NoSet {K : PySem.W.Frag} {ad : Ad} (X : Xf K ad) {v : V} {H : Hp} {QX : XK} (k : ∀ d, Fresh H d → QX (.ref ad.NoSet) (some d) (upd H d (.xd [("number", v)]))) : ([v] : List V).length ≤ 1000 ∧ ∀ a, H a = none → sp_NoSet___init__ K ad (.ref a :: ([v] ++ [])) (upd H a (exo a ad.NoSet none)) (fun z H2 => z = .non ∧ ∃ (d : Addr) (fs : List (Str × V)), H2 a = some (exo a ad.NoSet (some d)) ∧ H2 d = some (exd d fs) ∧ H d = none ∧ QX (.ref ad.NoSet) (some d) (upd (del H2 a) d (.xd fs))) (fun _ _ _ => False) :=
  ⟨by simp, fun a na => c_NoSet___init__ (q_NoSet___init__.mk X.x_NoSet X.n_NoSet_number upd_same fun dx nd ne => ⟨rfl, dx, _, upd_same, (upd_ne ne).trans upd_same, (upd_ne ne).symm.trans nd, by rw [exo_heap1 na nd]; exact k dx ((upd_ne ne).symm.trans nd)⟩)⟩
inductive q_TooManyFallen___init__ (K : PySem.W.Frag) (ad : Ad) : V → V → Hp → VK → Prop
  | mk {a C : Addr} {v : V} {H : Hp} {Q : VK} (T : OexC K C) (n0 : PySem.W.findIn K (.ref C) "many" = some none) (e : H a = some (exo a C none)) (k : ∀ dx, H dx = none → dx ≠ a → Q .non (upd (upd H dx (exd dx [("many", v)])) a (exo a C (some dx)))) : q_TooManyFallen___init__ K ad (.ref a) v H Q
def sp_TooManyFallen___init__ (K : PySem.W.Frag) (ad : Ad) : Sp := fun vs H Q _ => match vs with | [x0, x1] => q_TooManyFallen___init__ K ad x0 x1 H Q | _ => False
theorem c_TooManyFallen___init__ {K : PySem.W.Frag} {ad : Ad} {x0 x1 : V} {H : Hp} {Q : VK} {E : XK} (h : q_TooManyFallen___init__ K ad x0 x1 H Q) : sp_TooManyFallen___init__ K ad ([x0, x1] ++ []) H Q E := h
theorem n_TooManyFallen___init__ {K : PySem.W.Frag} {ad : Ad} {vs : List V} {H : Hp} {Q : VK} {E : XK} (h : sp_TooManyFallen___init__ K ad vs H Q E) : ∃ x0 x1, vs = [x0, x1] ∧ q_TooManyFallen___init__ K ad x0 x1 H Q := match vs, h with | [x0, x1], h => ⟨x0, x1, rfl, h⟩
def t_TooManyFallen___init__ (K : PySem.W.Frag) (ad : Ad) : TS := (tOst K "many" (tVar 0) (tVar 1))
theorem w_TooManyFallen___init__ {K : PySem.W.Frag} {ad : Ad} {x0 x1 : V} {H : Hp} {Q : VK} (h : q_TooManyFallen___init__ K ad x0 x1 H Q) : t_TooManyFallen___init__ K ad ⟨fun _ H' => Q .non H', Q, fun _ _ => False, fun _ _ => False⟩ [some x0, some x1] H := by
  cases h with
  | @mk a C v _ _ T n0 e k =>
    unfold t_TooManyFallen___init__
    walk_at "rd"
    refine ⟨a, C, rfl, T, n0, .inl ⟨e, fun dx nx ne => ?_⟩⟩
    exact k dx nx ne
theorem mk_TooManyFallen {K : PySem.W.Frag} {ad : Ad} (X : Xf K ad) {v : V} {H : Hp} {QX : XK} (k : ∀ d, Fresh H d → QX (.ref ad.TooManyFallen) (some d) (upd H d (.xd [("many", v)]))) : ([v] : List V).length ≤ 1000 ∧ ∀ a, H a = none → sp_TooManyFallen___init__ K ad (.ref a :: ([v] ++ [])) (upd H a (exo a ad.TooManyFallen none)) (fun z H2 => z = .non ∧ ∃ (d : Addr) (fs : List (Str × V)), H2 a = some (exo a ad.TooManyFallen (some d)) ∧ H2 d = some (exd d fs) ∧ H d = none ∧ QX (.ref ad.TooManyFallen) (some d) (upd (del H2 a) d (.xd fs))) (fun _ _ _ => False) :=
  ⟨by simp, fun a na => c_TooManyFallen___init__ (q_TooManyFallen___init__.mk X.x_TooManyFallen X.n_TooManyFallen_many upd_same fun dx nd ne => ⟨rfl, dx, _, upd_same, (upd_ne ne).trans upd_same, (upd_ne ne).symm.trans nd, by rw [exo_heap1 na nd]; exact k dx ((upd_ne ne).symm.trans nd)⟩)⟩
inductive q_TooMany___init__ (K : PySem.W.Frag) (ad : Ad) : V → V → Hp → VK → Prop
  | mk {a C : Addr} {v : V} {H : Hp} {Q : VK} (T : OexC K C) (n0 : PySem.W.findIn K (.ref C) "what" = some none) (e : H a = some (exo a C none)) (k : ∀ dx, H dx = none → dx ≠ a → Q .non (upd (upd H dx (exd dx [("what", v)])) a (exo a C (some dx)))) : q_TooMany___init__ K ad (.ref a) v H Q
def sp_TooMany___init__ (K : PySem.W.Frag) (ad : Ad) : Sp := fun vs H Q _ => match vs with | [x0, x1] => q_TooMany___init__ K ad x0 x1 H Q | _ => False
theorem c_TooMany___init__ {K : PySem.W.Frag} {ad : Ad} {x0 x1 : V} {H : Hp} {Q : VK} {E : XK} (h : q_TooMany___init__ K ad x0 x1 H Q) : sp_TooMany___init__ K ad ([x0, x1] ++ []) H Q E := h
theorem n_TooMany___init__ {K : PySem.W.Frag} {ad : Ad} {vs : List V} {H : Hp} {Q : VK} {E : XK} (h : sp_TooMany___init__ K ad vs H Q E) : ∃ x0 x1, vs = [x0, x1] ∧ q_TooMany___init__ K ad x0 x1 H Q := match vs, h with | [x0, x1], h => ⟨x0, x1, rfl, h⟩
def t_TooMany___init__ (K : PySem.W.Frag) (ad : Ad) : TS := (tOst K "what" (tVar 0) (tVar 1))
theorem w_TooMany___init__ {K : PySem.W.Frag} {ad : Ad} {x0 x1 : V} {H : Hp} {Q : VK} (h : q_TooMany___init__ K ad x0 x1 H Q) : t_TooMany___init__ K ad ⟨fun _ H' => Q .non H', Q, fun _ _ => False, fun _ _ => False⟩ [some x0, some x1] H := by
  cases h with
  | @mk a C v _ _ T n0 e k =>
    unfold t_TooMany___init__
    walk_at "rd"
    refine ⟨a, C, rfl, T, n0, .inl ⟨e, fun dx nx ne => ?_⟩⟩
    exact k dx nx ne
theorem mk_TooMany {K : PySem.W.Frag} {ad : Ad} (X : Xf K ad) {v : V} {H : Hp} {QX : XK} (k : ∀ d, Fresh H d → QX (.ref ad.TooMany) (some d) (upd H d (.xd [("what", v)]))) : ([v] : List V).length ≤ 1000 ∧ ∀ a, H a = none → sp_TooMany___init__ K ad (.ref a :: ([v] ++ [])) (upd H a (exo a ad.TooMany none)) (fun z H2 => z = .non ∧ ∃ (d : Addr) (fs : List (Str × V)), H2 a = some (exo a ad.TooMany (some d)) ∧ H2 d = some (exd d fs) ∧ H d = none ∧ QX (.ref ad.TooMany) (some d) (upd (del H2 a) d (.xd fs))) (fun _ _ _ => False) :=
  ⟨by simp, fun a na => c_TooMany___init__ (q_TooMany___init__.mk X.x_TooMany X.n_TooMany_what upd_same fun dx nd ne => ⟨rfl, dx, _, upd_same, (upd_ne ne).trans upd_same, (upd_ne ne).symm.trans nd, by rw [exo_heap1 na nd]; exact k dx ((upd_ne ne).symm.trans nd)⟩)⟩

/-! ### planes: the plain law -/
structure Pr (p : Int) : Prop where
  lo : 2 ≤ p
  hi : p ≤ 9973
  pr : ∀ d : Int, 1 < d → d < p → ¬ d ∣ p
theorem dvd_em {p : Int} (a : Int) : p ∣ a - a % p := ⟨a / p, by have := Int.emod_add_mul_ediv a p; omega⟩
theorem em_uniq {p a y : Int} (h0 : 0 ≤ y) (h1 : y < p) (h : p ∣ a - y) : a % p = y := by
  obtain ⟨k, hk⟩ := h
  rw [show a = y + p * k by omega, Int.add_mul_emod_self_left]
  exact Int.emod_eq_of_lt h0 h1
theorem em_zero {p a : Int} : a % p = 0 ↔ p ∣ a := ⟨Int.dvd_of_emod_eq_zero, Int.emod_eq_zero_of_dvd⟩
theorem small_zero {p a : Int} (h : p ∣ a) (h1 : -p < a) (h2 : a < p) : a = 0 := by
  obtain ⟨k, rfl⟩ := h
  have hp : 0 < p := by omega
  have k1 : k < 1 := by
    apply Int.lt_of_mul_lt_mul_left (a := p) _ (by omega)
    omega
  have k2 : -1 < k := by
    apply Int.lt_of_mul_lt_mul_left (a := p) _ (by omega)
    omega
  have : k = 0 := by omega
  rw [this, Int.mul_zero]
theorem Pr.dvd_mul {p a b : Int} (h : Pr p) (hd : p ∣ a * b) : p ∣ a ∨ p ∣ b := by
  by_cases ha : p ∣ a
  · exact .inl ha
  · right
    have lo := h.lo
    have g1 : (Int.gcd p a : Int) ∣ p := Int.gcd_dvd_left p a
    have g2 : (Int.gcd p a : Int) ∣ a := Int.gcd_dvd_right p a
    have gp : 0 < Int.gcd p a := Int.gcd_pos_of_ne_zero_left a (by omega)
    have gle := Int.le_of_dvd (by omega) g1
    have g : Int.gcd p a = 1 := by
      by_cases e1 : Int.gcd p a = 1
      · exact e1
      · exfalso
        by_cases e2 : (Int.gcd p a : Int) = p
        · rw [e2] at g2
          exact ha g2
        · exact h.pr _ (by omega) (by omega) g1
    have c : Nat.Coprime p.natAbs a.natAbs := g
    have := Int.natAbs_dvd_natAbs.mpr hd
    rw [Int.natAbs_mul] at this
    exact Int.natAbs_dvd_natAbs.mp (c.dvd_of_dvd_mul_left this)
def lineOf (p n : Int) : Int × Int :=
  if n = p * p + p then (p + 1, 0) else if p * p ≤ n then (n - p * p, 0) else if (n % p - n / p * (n / p)) % p = 0 then (p, n / p) else (n / p, (n % p - n / p * (n / p)) % p)
def numberOf (p sl sh : Int) : Int :=
  if p < sl then p * p + p else if sl = p then sh * p + sh * sh % p else if sh = 0 then p * p + sl else sl * p + (sl * sl + sh) % p
def Ln (p : Int) (l : Int × Int) : Prop := (l.1 = p + 1 ∧ l.2 = 0) ∨ (0 ≤ l.1 ∧ l.1 ≤ p ∧ 0 ≤ l.2 ∧ l.2 < p)
def onL (p s : Int) (l : Int × Int) : Bool :=
  if p * p ≤ s then decide (l.1 = s - p * p) || decide (p < l.1) else if l.1 = p then decide (s / p = l.2) else decide (l.1 < p) && decide ((l.1 * (s / p) + l.2 - s % p) % p = 0)
def on (p s n : Int) : Bool := onL p s (lineOf p n)
/-- a seat (or number) below p * p -/
theorem split {p s : Int} (hp : 2 ≤ p) (h0 : 0 ≤ s) (h1 : s < p * p) : ∃ x y, s = x * p + y ∧ 0 ≤ x ∧ x < p ∧ 0 ≤ y ∧ y < p ∧ s / p = x ∧ s % p = y := by
  refine ⟨s / p, s % p, ?_, Int.ediv_nonneg h0 (by omega), ?_, Int.emod_nonneg _ (by omega), Int.emod_lt_of_pos _ (by omega), rfl, rfl⟩
  · have := Int.emod_add_mul_ediv s p
    have e : s / p * p = p * (s / p) := Int.mul_comm _ _
    omega
  · exact Int.ediv_lt_of_lt_mul (by omega) h1
theorem lineOf_ok {p n : Int} (hp : 2 ≤ p) (h0 : 0 ≤ n) (h1 : n < p * p + p + 1) : Ln p (lineOf p n) := by
  unfold lineOf
  split
  · exact .inl ⟨rfl, rfl⟩
  · split
    · exact .inr ⟨by dsimp only; omega, by dsimp only; omega, by dsimp only; omega, by dsimp only; omega⟩
    · obtain ⟨x, y, e, x0, x1, y0, y1, ex, ey⟩ := split hp h0 (by omega)
      rw [ex, ey]
      split
      · exact .inr ⟨by dsimp only; omega, by dsimp only; omega, x0, x1⟩
      · exact .inr ⟨x0, by dsimp only; omega, Int.emod_nonneg _ (by omega), Int.emod_lt_of_pos _ (by omega)⟩
theorem number_line {p n : Int} (hp : 2 ≤ p) (h0 : 0 ≤ n) (h1 : n < p * p + p + 1) : numberOf p (lineOf p n).1 (lineOf p n).2 = n := by
  unfold lineOf numberOf
  split
  · rw [if_pos (by dsimp only; omega)]
    omega
  · split
    · rw [if_neg (by dsimp only; omega), if_neg (by dsimp only; omega), if_pos rfl]
      omega
    · obtain ⟨x, y, e, x0, x1, y0, y1, ex, ey⟩ := split hp h0 (by omega)
      rw [ex, ey]
      split
      · rename_i hs
        rw [if_neg (by dsimp only; omega), if_pos rfl]
        have : x * x % p = y := em_uniq y0 y1 (by
          obtain ⟨k, hk⟩ := em_zero.mp hs
          exact ⟨-k, by rw [Int.mul_neg]; omega⟩)
        dsimp only
        omega
      · rename_i hs
        dsimp only
        rw [if_neg (by omega), if_neg (by omega)]
        have : (x * x + (y - x * x) % p) % p = y := em_uniq y0 y1 (by
          obtain ⟨k, hk⟩ := dvd_em (p := p) (y - x * x)
          exact ⟨-k, by rw [Int.mul_neg]; omega⟩)
        omega
theorem line_inj {p m n : Int} (hp : 2 ≤ p) (m0 : 0 ≤ m) (m1 : m < p * p + p + 1) (n0 : 0 ≤ n) (n1 : n < p * p + p + 1) (h : lineOf p m = lineOf p n) : m = n := by
  rw [← number_line hp m0 m1, ← number_line hp n0 n1, h]
theorem on_inf {p k : Int} {l : Int × Int} (k0 : 0 ≤ k) : onL p (p * p + k) l = true ↔ l.1 = k ∨ p < l.1 := by
  unfold onL
  rw [if_pos (by omega), Bool.or_eq_true, decide_eq_true_iff, decide_eq_true_iff]
  constructor <;> (rintro (h | h) <;> omega)
theorem on_fin {p x y : Int} {l : Int × Int} (hl : Ln p l) (x0 : 0 ≤ x) (x1 : x < p) (y0 : 0 ≤ y) (y1 : y < p) : onL p (x * p + y) l = true ↔ (l.1 = p ∧ x = l.2) ∨ (l.1 < p ∧ p ∣ l.1 * x + l.2 - y) := by
  have hlt : x * p + y < p * p := by
    have : x * p ≤ (p - 1) * p := Int.mul_le_mul_of_nonneg_right (by omega) (by omega)
    have e : (p - 1) * p = p * p - p := by grind
    omega
  obtain ⟨q1, q2⟩ : (x * p + y) / p = x ∧ (x * p + y) % p = y := (Int.ediv_emod_unique (by omega)).mpr ⟨by have := Int.mul_comm x p; omega, y0, y1⟩
  unfold onL
  rw [if_neg (by omega), q1, q2]
  split
  · rename_i h
    rw [decide_eq_true_iff]
    constructor
    · exact fun e => .inl ⟨h, e⟩
    · rintro (⟨_, e⟩ | ⟨e, _⟩)
      · exact e
      · omega
  · rename_i h
    rw [Bool.and_eq_true, decide_eq_true_iff, decide_eq_true_iff, em_zero]
    constructor
    · exact fun e => .inr e
    · rintro (⟨e, _⟩ | e)
      · exact absurd e h
      · exact e
/-- a seat: far, or near -/
theorem seat_cases {p s : Int} (hp : 2 ≤ p) (h0 : 0 ≤ s) (h1 : s < p * p + p + 1) : (∃ k, s = p * p + k ∧ 0 ≤ k ∧ k ≤ p) ∨ (∃ x y, s = x * p + y ∧ 0 ≤ x ∧ x < p ∧ 0 ≤ y ∧ y < p ∧ s < p * p) := by
  by_cases h : p * p ≤ s
  · exact .inl ⟨s - p * p, by omega, by omega, by omega⟩
  · obtain ⟨x, y, e, x0, x1, y0, y1, _⟩ := split hp h0 (by omega)
    exact .inr ⟨x, y, e, x0, x1, y0, y1, by omega⟩
theorem ln_ext {l m : Int × Int} (h1 : l.1 = m.1) (h2 : l.2 = m.2) : l = m := Prod.ext h1 h2
/-- two lines meet once -/
theorem meet_once {p s t : Int} {l m : Int × Int} (P : Pr p) (hl : Ln p l) (hm : Ln p m) (ne : l ≠ m) (s0 : 0 ≤ s) (s1 : s < p * p + p + 1) (t0 : 0 ≤ t) (t1 : t < p * p + p + 1)
    (sl : onL p s l = true) (sm : onL p s m = true) (tl : onL p t l = true) (tm : onL p t m = true) : s = t := by
  have hp := P.lo
  -- two near seats
  have nn : ∀ x y u v : Int, 0 ≤ x → x < p → 0 ≤ y → y < p → 0 ≤ u → u < p → 0 ≤ v → v < p → onL p (x * p + y) l = true → onL p (x * p + y) m = true → onL p (u * p + v) l = true → onL p (u * p + v) m = true → x = u ∧ y = v := by
    intro x y u v x0 x1 y0 y1 u0 u1 v0 v1 a b c d
    rw [on_fin hl x0 x1 y0 y1] at a
    rw [on_fin hm x0 x1 y0 y1] at b
    rw [on_fin hl u0 u1 v0 v1] at c
    rw [on_fin hm u0 u1 v0 v1] at d
    have same : x = u → x = u ∧ y = v := fun e => by
      subst e
      refine ⟨rfl, ?_⟩
      have fin : ∀ k : Int × Int, p ∣ k.1 * x + k.2 - y → p ∣ k.1 * x + k.2 - v → y = v := fun k h1 h2 => by
        have := Int.dvd_sub h1 h2
        have := small_zero (a := v - y) (by rw [show v - y = k.1 * x + k.2 - y - (k.1 * x + k.2 - v) by omega]; exact this) (by omega) (by omega)
        omega
      rcases a with ⟨a1, a2⟩ | ⟨a1, a2⟩
      · rcases b with ⟨b1, b2⟩ | ⟨b1, b2⟩
        · exact absurd (ln_ext (by omega) (by omega)) ne
        · rcases d with ⟨d1, _⟩ | ⟨_, d2⟩
          · omega
          · exact fin m b2 d2
      · rcases c with ⟨c1, _⟩ | ⟨_, c2⟩
        · omega
        · exact fin l a2 c2
    rcases a with ⟨a1, a2⟩ | ⟨a1, a2⟩
    · rcases c with ⟨_, c2⟩ | ⟨c1, _⟩
      · exact same (by omega)
      · omega
    · rcases b with ⟨b1, b2⟩ | ⟨b1, b2⟩
      · rcases d with ⟨_, d2⟩ | ⟨d1, _⟩
        · exact same (by omega)
        · omega
      · rcases c with ⟨c1, _⟩ | ⟨_, c2⟩
        · omega
        rcases d with ⟨d1, _⟩ | ⟨_, d2⟩
        · omega
        have h : p ∣ (l.1 - m.1) * (x - u) := by
          have := Int.dvd_sub (Int.dvd_sub a2 b2) (Int.dvd_sub c2 d2)
          rw [show (l.1 - m.1) * (x - u) = l.1 * x + l.2 - y - (m.1 * x + m.2 - y) - (l.1 * u + l.2 - v - (m.1 * u + m.2 - v)) by grind]
          exact this
        rcases hl with hl | hl
        · omega
        rcases hm with hm | hm
        · omega
        rcases P.dvd_mul h with h | h
        · have e := small_zero h (by omega) (by omega)
          have e' : l.1 = m.1 := by omega
          have := Int.dvd_sub a2 b2
          rw [e', show m.1 * x + l.2 - y - (m.1 * x + m.2 - y) = l.2 - m.2 by omega] at this
          have := small_zero this (by omega) (by omega)
          exact absurd (ln_ext e' (by omega)) ne
        · exact same (by have := small_zero h (by omega) (by omega); omega)
  have fn : ∀ k x y : Int, 0 ≤ k → k ≤ p → 0 ≤ x → x < p → 0 ≤ y → y < p → onL p (p * p + k) l = true → onL p (p * p + k) m = true → onL p (x * p + y) l = true → onL p (x * p + y) m = true → False := by
    intro k x y k0 k1 x0 x1 y0 y1 a b c d
    rw [on_inf k0] at a b
    rw [on_fin hl x0 x1 y0 y1] at c
    rw [on_fin hm x0 x1 y0 y1] at d
    have e : l.1 = m.1 := by
      rcases c with ⟨c1, _⟩ | ⟨c1, _⟩ <;> rcases d with ⟨d1, _⟩ | ⟨d1, _⟩ <;> omega
    refine ne (ln_ext e ?_)
    rcases c with ⟨c1, c2⟩ | ⟨c1, c2⟩
    · rcases d with ⟨d1, d2⟩ | ⟨d1, d2⟩ <;> omega
    · rcases d with ⟨d1, d2⟩ | ⟨d1, d2⟩
      · omega
      have := Int.dvd_sub c2 d2
      rw [e, show m.1 * x + l.2 - y - (m.1 * x + m.2 - y) = l.2 - m.2 by omega] at this
      rcases hl with hl | hl
      · omega
      rcases hm with hm | hm
      · omega
      have := small_zero this (by omega) (by omega)
      omega
  rcases seat_cases hp s0 s1 with ⟨k, rfl, k0, k1⟩ | ⟨x, y, rfl, x0, x1, y0, y1, _⟩
  · rcases seat_cases hp t0 t1 with ⟨j, rfl, j0, j1⟩ | ⟨u, v, rfl, u0, u1, v0, v1, _⟩
    · rw [on_inf k0] at sl sm
      rw [on_inf j0] at tl tm
      by_cases e : l.1 = m.1
      · by_cases e2 : p < l.1
        · rcases hl with hl | hl
          · rcases hm with hm | hm
            · exact absurd (ln_ext e (by omega)) ne
            · omega
          · omega
        · omega
      · rcases hl with hl | hl <;> rcases hm with hm | hm <;> omega
    · exact (fn k u v k0 k1 u0 u1 v0 v1 sl sm tl tm).elim
  · rcases seat_cases hp t0 t1 with ⟨j, rfl, j0, j1⟩ | ⟨u, v, rfl, u0, u1, v0, v1, _⟩
    · exact (fn j x y j0 j1 x0 x1 y0 y1 tl tm sl sm).elim
    · obtain ⟨rfl, rfl⟩ := nn x y u v x0 x1 y0 y1 u0 u1 v0 v1 sl sm tl tm
      rfl
/-- what shared answers -/
def sharedOf (p : Int) (inv : Int) (l m : Int × Int) : Int :=
  if l.1 = m.1 ∨ p < m.1 then p * p + l.1 else if p < l.1 then p * p + m.1 else if l.1 = p then l.2 * p + (m.1 * l.2 + m.2) % p
  else if m.1 < p then ((m.2 - l.2) * inv % p) * p + (l.1 * ((m.2 - l.2) * inv % p) + l.2) % p else m.2 * p + (l.1 * m.2 + l.2) % p
theorem fin_range {p x y : Int} (x0 : 0 ≤ x) (x1 : x < p) (y0 : 0 ≤ y) (y1 : y < p) : 0 ≤ x * p + y ∧ x * p + y < p * p + p + 1 := by
  have a : 0 ≤ x * p := Int.mul_nonneg x0 (by omega)
  have : x * p ≤ (p - 1) * p := Int.mul_le_mul_of_nonneg_right (by omega) (by omega)
  have e : (p - 1) * p = p * p - p := by grind
  omega
/-- the seat over x on a line -/
theorem on_at {p x : Int} {l : Int × Int} (hl : Ln p l) (h : l.1 < p) (x0 : 0 ≤ x) (x1 : x < p) (y0 : 0 ≤ (l.1 * x + l.2) % p) (y1 : (l.1 * x + l.2) % p < p) : onL p (x * p + (l.1 * x + l.2) % p) l = true :=
  (on_fin hl x0 x1 y0 y1).mpr (.inr ⟨h, dvd_em _⟩)
theorem shared_ok {p inv : Int} {l m : Int × Int} (P : Pr p) (hl : Ln p l) (hm : Ln p m) (ne : l ≠ m) (hi : l.1 < p → m.1 < p → l.1 ≠ m.1 → p ∣ (l.1 - m.1) * inv - 1) :
    (0 ≤ sharedOf p inv l m ∧ sharedOf p inv l m < p * p + p + 1) ∧ onL p (sharedOf p inv l m) l = true ∧ onL p (sharedOf p inv l m) m = true := by
  have hp := P.lo
  have em0 : ∀ a : Int, 0 ≤ a % p := fun a => Int.emod_nonneg _ (by omega)
  have em1 : ∀ a : Int, a % p < p := fun a => Int.emod_lt_of_pos _ (by omega)
  have far : ∀ k : Int, 0 ≤ k → k ≤ p → 0 ≤ p * p + k ∧ p * p + k < p * p + p + 1 := fun k a b => by
    have : 0 ≤ p * p := Int.mul_nonneg (by omega) (by omega)
    omega
  unfold sharedOf
  split
  · rename_i h
    have k0 : 0 ≤ l.1 ∧ l.1 ≤ p := by
      rcases hl with hl | hl
      · rcases hm with hm | hm
        · exact absurd (ln_ext (by omega) (by omega)) ne
        · omega
      · omega
    refine ⟨far _ k0.1 k0.2, (on_inf k0.1).mpr (.inl rfl), (on_inf k0.1).mpr ?_⟩
    omega
  · split
    · rename_i h1 h2
      have k0 : 0 ≤ m.1 ∧ m.1 ≤ p := by
        rcases hm with hm | hm <;> omega
      exact ⟨far _ k0.1 k0.2, (on_inf k0.1).mpr (.inr h2), (on_inf k0.1).mpr (.inl rfl)⟩
    · rename_i h1 h2
      have hl' : 0 ≤ l.1 ∧ l.1 ≤ p ∧ 0 ≤ l.2 ∧ l.2 < p := by
        rcases hl with hl | hl
        · omega
        · exact hl
      have hm' : 0 ≤ m.1 ∧ m.1 ≤ p ∧ 0 ≤ m.2 ∧ m.2 < p := by
        rcases hm with hm | hm
        · omega
        · exact hm
      split
      · rename_i h3
        refine ⟨fin_range hl'.2.2.1 hl'.2.2.2 (em0 _) (em1 _), (on_fin hl hl'.2.2.1 hl'.2.2.2 (em0 _) (em1 _)).mpr (.inl ⟨h3, rfl⟩), on_at hm (by omega) hl'.2.2.1 hl'.2.2.2 (em0 _) (em1 _)⟩
      · rename_i h3
        split
        · rename_i h4
          refine ⟨fin_range (em0 _) (em1 _) (em0 _) (em1 _), on_at hl (by omega) (em0 _) (em1 _) (em0 _) (em1 _), (on_fin hm (em0 _) (em1 _) (em0 _) (em1 _)).mpr (.inr ⟨h4, ?_⟩)⟩
          obtain ⟨i, hi⟩ := hi (by omega) h4 (by omega)
          obtain ⟨a, ha⟩ := dvd_em (p := p) ((m.2 - l.2) * inv)
          generalize (m.2 - l.2) * inv % p = x at ha
          obtain ⟨b, hb⟩ := dvd_em (p := p) (l.1 * x + l.2)
          generalize (l.1 * x + l.2) % p = y at hb
          generalize l.1 = l1 at *
          generalize l.2 = l2 at *
          generalize m.1 = m1 at *
          generalize m.2 = m2 at *
          refine ⟨(l1 - m1) * a - (m2 - l2) * i + b, ?_⟩
          have e1 : y = l1 * x + l2 - p * b := by omega
          have e2 : x = (m2 - l2) * inv - p * a := by omega
          have e3 : (l1 - m1) * inv = 1 + p * i := by omega
          grind
        · rename_i h4
          have e : m.1 = p := by omega
          exact ⟨fin_range hm'.2.2.1 hm'.2.2.2 (em0 _) (em1 _), on_at hl (by omega) hm'.2.2.1 hm'.2.2.2 (em0 _) (em1 _), (on_fin hm hm'.2.2.1 hm'.2.2.2 (em0 _) (em1 _)).mpr (.inl ⟨e, rfl⟩)⟩
/-- the seats of a line -/
def setOf (p : Int) (l : Int × Int) : List Int :=
  if p < l.1 then (List.range (p + 1).toNat).map fun i : Nat => p * p + (i : Int)
  else if l.1 = p then ((List.range p.toNat).map fun i : Nat => l.2 * p + (i : Int)) ++ [p * p + p]
  else ((List.range p.toNat).map fun i : Nat => (i : Int) * p + (l.1 * (i : Int) + l.2) % p) ++ [p * p + l.1]
theorem setOf_ok {p : Int} {l : Int × Int} (hp : 2 ≤ p) (hl : Ln p l) : ∀ s ∈ setOf p l, (0 ≤ s ∧ s < p * p + p + 1) ∧ onL p s l = true := by
  have em0 : ∀ a : Int, 0 ≤ a % p := fun a => Int.emod_nonneg _ (by omega)
  have em1 : ∀ a : Int, a % p < p := fun a => Int.emod_lt_of_pos _ (by omega)
  have pp : 0 ≤ p * p := Int.mul_nonneg (by omega) (by omega)
  intro s hs
  unfold setOf at hs
  split at hs
  · rename_i h
    obtain ⟨i, hi, rfl⟩ := List.mem_map.mp hs
    have := List.mem_range.mp hi
    exact ⟨by omega, (on_inf (by omega)).mpr (.inr h)⟩
  · rename_i h
    have hl' : 0 ≤ l.1 ∧ l.1 ≤ p ∧ 0 ≤ l.2 ∧ l.2 < p := by
      rcases hl with hl | hl
      · omega
      · exact hl
    split at hs
    · rename_i h3
      rcases List.mem_append.mp hs with hs | hs
      · obtain ⟨i, hi, rfl⟩ := List.mem_map.mp hs
        have := List.mem_range.mp hi
        exact ⟨fin_range hl'.2.2.1 hl'.2.2.2 (by omega) (by omega), (on_fin hl hl'.2.2.1 hl'.2.2.2 (by omega) (by omega)).mpr (.inl ⟨h3, rfl⟩)⟩
      · rw [List.mem_singleton.mp hs]
        exact ⟨by omega, (on_inf (by omega)).mpr (.inl h3)⟩
    · rename_i h3
      rcases List.mem_append.mp hs with hs | hs
      · obtain ⟨i, hi, rfl⟩ := List.mem_map.mp hs
        have := List.mem_range.mp hi
        exact ⟨fin_range (by omega) (by omega) (em0 _) (em1 _), on_at hl (by omega) (by omega) (by omega) (em0 _) (em1 _)⟩
      · rw [List.mem_singleton.mp hs]
        exact ⟨by omega, (on_inf (by omega)).mpr (.inl rfl)⟩
theorem setOf_all {p s : Int} {l : Int × Int} (hp : 2 ≤ p) (hl : Ln p l) (s0 : 0 ≤ s) (s1 : s < p * p + p + 1) (h : onL p s l = true) : s ∈ setOf p l := by
  unfold setOf
  rcases seat_cases hp s0 s1 with ⟨k, rfl, k0, k1⟩ | ⟨x, y, rfl, x0, x1, y0, y1, _⟩
  · rw [on_inf k0] at h
    split
    · exact List.mem_map.mpr ⟨k.toNat, List.mem_range.mpr (by omega), by omega⟩
    · have e : l.1 = k := by omega
      split
      · exact List.mem_append.mpr (.inr (List.mem_singleton.mpr (by omega)))
      · exact List.mem_append.mpr (.inr (List.mem_singleton.mpr (by omega)))
  · rw [on_fin hl x0 x1 y0 y1] at h
    rcases h with ⟨h1, h2⟩ | ⟨h1, h2⟩
    · rw [if_neg (by omega), if_pos h1]
      exact List.mem_append.mpr (.inl (List.mem_map.mpr ⟨y.toNat, List.mem_range.mpr (by omega), by rw [h2, show ((y.toNat : Nat) : Int) = y by omega]⟩))
    · rw [if_neg (by omega), if_neg (by omega)]
      exact List.mem_append.mpr (.inl (List.mem_map.mpr ⟨x.toNat, List.mem_range.mpr (by omega), by rw [show ((x.toNat : Nat) : Int) = x by omega, em_uniq y0 y1 h2]⟩))
theorem setOf_nodup {p : Int} {l : Int × Int} (hp : 2 ≤ p) (hl : Ln p l) : (setOf p l).Pairwise (· < ·) := by
  have em0 : ∀ a : Int, 0 ≤ a % p := fun a => Int.emod_nonneg _ (by omega)
  have em1 : ∀ a : Int, a % p < p := fun a => Int.emod_lt_of_pos _ (by omega)
  have lt : ∀ {x y : Int}, 0 ≤ x → x < p → 0 ≤ y → y < p → x * p + y < p * p := fun {x y} x0 x1 y0 y1 => by
    have : x * p ≤ (p - 1) * p := Int.mul_le_mul_of_nonneg_right (by omega) (by omega)
    have e : (p - 1) * p = p * p - p := by grind
    omega
  have lst : ∀ {n : Nat} {f : Nat → Int}, (∀ i j, i < j → j < n → f i < f j) → ((List.range n).map f).Pairwise (· < ·) := fun {n f} h => by
    rw [List.pairwise_map]
    exact List.pairwise_lt_range.imp_of_mem fun {a b} _ hb hab => h a b hab (List.mem_range.mp hb)
  unfold setOf
  split
  · exact lst fun i j h _ => by omega
  · rename_i h
    have hl' : 0 ≤ l.1 ∧ l.1 ≤ p ∧ 0 ≤ l.2 ∧ l.2 < p := by
      rcases hl with hl | hl
      · omega
      · exact hl
    split
    · refine List.pairwise_append.mpr ⟨lst fun i j h _ => by omega, by simp, fun x hx y hy => ?_⟩
      obtain ⟨i, hi, rfl⟩ := List.mem_map.mp hx
      have := List.mem_range.mp hi
      rw [List.mem_singleton.mp hy]
      have := lt hl'.2.2.1 hl'.2.2.2 (y := (i : Int)) (by omega) (by omega)
      omega
    · refine List.pairwise_append.mpr ⟨lst fun i j h hj => ?_, by simp, fun x hx y hy => ?_⟩
      · have a1 := em1 (l.1 * (i : Int) + l.2)
        have a2 := em0 (l.1 * (j : Int) + l.2)
        have : ((i : Int) + 1) * p ≤ (j : Int) * p := Int.mul_le_mul_of_nonneg_right (by omega) (by omega)
        have e : ((i : Int) + 1) * p = (i : Int) * p + p := by grind
        omega
      · obtain ⟨i, hi, rfl⟩ := List.mem_map.mp hx
        have := List.mem_range.mp hi
        rw [List.mem_singleton.mp hy]
        have := lt (x := (i : Int)) (by omega) (by omega) (em0 (l.1 * (i : Int) + l.2)) (em1 _)
        omega

def tst (n : Nat) : Bool := (List.range 98).all fun i => !(decide ((i + 2) * (i + 2) ≤ n) && decide (n % (i + 2) = 0))
def scan : Nat → Nat → Nat → Bool
  | 0, _, _ => true
  | f + 1, n, d => if tst n then scan f (n + 1) 0 else decide (d < 40) && scan f (n + 1) (d + 1)
theorem scan_ok : ∀ (f n d : Nat), scan f n d = true → d ≤ 40 → ∀ s, n ≤ s + d → s + 41 ≤ n + f → ∃ k, k ≤ 40 ∧ tst (s + k) = true
  | 0, n, d, _, hd, s, h1, h2 => by omega
  | f + 1, n, d, h, hd, s, h1, h2 => by
    unfold scan at h
    by_cases ht : tst n = true
    · rw [if_pos ht] at h
      by_cases hs : s ≤ n
      · exact ⟨n - s, by omega, by rw [show s + (n - s) = n by omega]; exact ht⟩
      · exact scan_ok f (n + 1) 0 h (by omega) s (by omega) (by omega)
    · rw [if_neg ht, Bool.and_eq_true, decide_eq_true_iff] at h
      exact scan_ok f (n + 1) (d + 1) h.2 (by omega) s (by omega) (by omega)
theorem scan_all : scan 10015 2 0 = true := by decide +kernel
theorem tst_top : tst 9973 = true := by decide +kernel
theorem next_prime {s : Nat} (h0 : 2 ≤ s) (h1 : s ≤ 9973) : ∃ k, k ≤ 40 ∧ tst (s + k) = true := scan_ok 10015 2 0 scan_all (by omega) s (by omega) (by omega)
theorem tst_pr {n : Nat} (h0 : 2 ≤ n) (h1 : n ≤ 9973) (h : tst n = true) : Pr (n : Int) := by
  refine ⟨by omega, by omega, fun d d1 d2 hd => ?_⟩
  obtain ⟨e, he⟩ := hd
  have hall := List.all_eq_true.mp h
  have no : ∀ a b : Int, (n : Int) = a * b → 1 < a → a ≤ b → False := fun a b e a1 ab => by
    have l1 : a * a ≤ a * b := Int.mul_le_mul_of_nonneg_left ab (by omega)
    have a9 : a ≤ 99 := by
      apply Int.not_lt.mp
      intro z
      have : 100 * 100 ≤ a * a := Int.mul_le_mul (by omega) (by omega) (by omega) (by omega)
      omega
    obtain ⟨i, hi⟩ : ∃ i : Nat, a = ((i + 2 : Nat) : Int) := ⟨(a - 2).toNat, by omega⟩
    have := hall i (List.mem_range.mpr (by omega))
    have q1 : (i + 2) * (i + 2) ≤ n := by
      have : (((i + 2) * (i + 2) : Nat) : Int) ≤ (n : Int) := by
        rw [Int.natCast_mul, ← hi]
        omega
      omega
    have q2 : n % (i + 2) = 0 := by
      have : ((i + 2 : Nat) : Int) ∣ (n : Int) := ⟨b, by rw [← hi]; exact e⟩
      exact Nat.mod_eq_zero_of_dvd (Int.natCast_dvd_natCast.mp this)
    rw [decide_eq_true q1, decide_eq_true q2] at this
    cases this
  have e1 : 1 < e := by
    apply Int.not_le.mp
    intro z
    have : d * e ≤ d * 1 := Int.mul_le_mul_of_nonneg_left z (by omega)
    omega
  rcases Int.le_total d e with h | h
  · exact no d e he d1 h
  · exact no e d (by rw [Int.mul_comm]; exact he) e1 h

/-! ### what is refused of planes: plain -/
inductive Fault
  | prime (p : Int)
  | seat (z : Int)
  | set (z : Int)
  | many
def Fault.cls (ad : Ad) : Fault → Value
  | .prime _ => .ref ad.NotPrime
  | .seat _ => .ref ad.NoSeat
  | .set _ => .ref ad.NoSet
  | .many => .ref ad.TooMany
def Fault.fs : Fault → List (Str × V)
  | .prime p => [("number", .int p)]
  | .seat z => [("seat", .int z)]
  | .set z => [("number", .int z)]
  | .many => [("what", .str "seats")]
def ExF (ad : Ad) (E : XK) (H : Hp) (f : Fault) : Prop := ∀ H' d, Same H H' → Fresh H' d → E (f.cls ad) (some d) (upd H' d (.xd f.fs))
theorem ExF.mono {ad : Ad} {E : XK} {H H' : Hp} {f : Fault} (h : ExF ad E H f) (s : Same H H') : ExF ad E H' f := fun H2 d s2 n => h H2 d (s.trans s2) n
theorem ExF.here {ad : Ad} {E : XK} {H : Hp} {f : Fault} (h : ExF ad E H f) : ∀ d, Fresh H d → E (f.cls ad) (some d) (upd H d (.xd f.fs)) := fun d n => h H d (Same.refl H) n
def tstI (p : Int) : Bool := decide (2 ≤ p) && decide (p ≤ 9973) && tst p.toNat
theorem tstI_pr {p : Int} (h : tstI p = true) : Pr p := by
  unfold tstI at h
  rw [Bool.and_eq_true, Bool.and_eq_true, decide_eq_true_iff, decide_eq_true_iff] at h
  have := tst_pr (n := p.toNat) (by omega) (by omega) h.2
  rwa [Int.toNat_of_nonneg (by omega)] at this
theorem not_tst {n : Nat} (h : tst n = false) : ∃ i : Nat, 2 ≤ i ∧ i * i ≤ n ∧ n % i = 0 ∧ i < 100 := by
  unfold tst at h
  rw [List.all_eq_false] at h
  obtain ⟨i, hi, hc⟩ := h
  have := List.mem_range.mp hi
  have hc : (decide ((i + 2) * (i + 2) ≤ n) && decide (n % (i + 2) = 0)) = true := by
    revert hc
    cases (decide ((i + 2) * (i + 2) ≤ n) && decide (n % (i + 2) = 0)) <;> simp
  rw [Bool.and_eq_true, decide_eq_true_iff, decide_eq_true_iff] at hc
  exact ⟨i + 2, by omega, hc.1, hc.2, by omega⟩
theorem part_of {p : Int} (lo : 2 ≤ p) (hi : p ≤ 9973) (h : tstI p = false) : ∃ d : Int, 2 ≤ d ∧ d * d ≤ p ∧ p % d = 0 := by
  unfold tstI at h
  rw [decide_eq_true lo, decide_eq_true hi, Bool.true_and, Bool.true_and] at h
  obtain ⟨i, h2, hs, hm, _⟩ := not_tst h
  refine ⟨(i : Int), by omega, ?_, ?_⟩
  · have : ((i * i : Nat) : Int) ≤ ((p.toNat : Nat) : Int) := by omega
    rw [Int.natCast_mul] at this
    omega
  · have : ((p.toNat % i : Nat) : Int) = 0 := by rw [hm]; rfl
    rw [Int.natCast_emod, Int.toNat_of_nonneg (by omega)] at this
    exact this
theorem pr_tstI {p : Int} (P : Pr p) : tstI p = true := by
  cases h : tstI p with
  | true => rfl
  | false =>
    obtain ⟨d, d2, ds, dm⟩ := part_of P.lo P.hi h
    have : 2 * d ≤ d * d := Int.mul_le_mul_of_nonneg_right d2 (by omega)
    exact absurd (Int.dvd_of_emod_eq_zero dm) (P.pr d (by omega) (by omega))
def off (p z : Int) : Bool := decide (z < 0) || decide (p * p + p + 1 ≤ z)
theorem off_no {p z : Int} (h : off p z = false) : 0 ≤ z ∧ z < p * p + p + 1 := by
  unfold off at h
  rw [Bool.or_eq_false_iff, decide_eq_false_iff_not, decide_eq_false_iff_not] at h
  omega
theorem off_yes {p z : Int} (h : off p z = true) : z < 0 ∨ p * p + p + 1 ≤ z := by
  unfold off at h
  rw [Bool.or_eq_true, decide_eq_true_iff, decide_eq_true_iff] at h
  exact h
def faultL (w : Int → Fault) (p : Int) (ns : List Int) : Option Fault := if tstI p = true then (ns.find? (off p)).map w else some (.prime p)
def fOr : Option Fault → Option Fault → Option Fault
  | some f, _ => some f
  | none, g => g
theorem faultL_none {w : Int → Fault} {p : Int} {ns : List Int} (h : faultL w p ns = none) : Pr p ∧ ∀ n ∈ ns, 0 ≤ n ∧ n < p * p + p + 1 := by
  unfold faultL at h
  by_cases hp : tstI p = true
  · rw [if_pos hp, Option.map_eq_none_iff, List.find?_eq_none] at h
    exact ⟨tstI_pr hp, fun n hn => off_no (Bool.eq_false_iff.mpr (h n hn))⟩
  · rw [if_neg hp] at h
    cases h
theorem faultL_some {w : Int → Fault} {p : Int} {ns : List Int} {f : Fault} (h : faultL w p ns = some f) : (tstI p = false ∧ f = .prime p) ∨ (Pr p ∧ ∃ ms z rs, ns = ms ++ z :: rs ∧ (∀ n ∈ ms, 0 ≤ n ∧ n < p * p + p + 1) ∧ (z < 0 ∨ p * p + p + 1 ≤ z) ∧ f = w z) := by
  unfold faultL at h
  by_cases hp : tstI p = true
  · rw [if_pos hp, Option.map_eq_some_iff] at h
    obtain ⟨z, hz, rfl⟩ := h
    obtain ⟨oz, ms, rs, e, hm⟩ := List.find?_eq_some_iff_append.mp hz
    exact .inr ⟨tstI_pr hp, ms, z, rs, e, fun n hn => off_no (by have := hm n hn; revert this; cases off p n <;> simp), off_yes oz, rfl⟩
  · rw [if_neg hp] at h
    exact .inl ⟨Bool.eq_false_iff.mpr hp, (Option.some.inj h).symm⟩
theorem faultL_ok {w : Int → Fault} {p : Int} {ns : List Int} (P : Pr p) (h : ∀ n ∈ ns, 0 ≤ n ∧ n < p * p + p + 1) : faultL w p ns = none := by
  cases e : faultL w p ns with
  | none => rfl
  | some f =>
    rcases faultL_some e with ⟨z, _⟩ | ⟨_, ms, z, rs, e2, _, hz, _⟩
    · rw [pr_tstI P] at z
      cases z
    · have := h z (by rw [e2]; exact List.mem_append_right _ List.mem_cons_self)
      omega

inductive q_seats_of (K : PySem.W.Frag) (ad : Ad) : V → Hp → VK → XK → Prop
  | mk {p : Int} {H : Hp} {Q : VK} {E : XK} (P : Pr p) (k : Q (.int (p * p + p + 1)) H) : q_seats_of K ad (.int p) H Q E
  | bad {p : Int} {H : Hp} {Q : VK} {E : XK} (X : Xf K ad) (np : tstI p = false) (k : ExF ad E H (.prime p)) : q_seats_of K ad (.int p) H Q E
def sp_seats_of (K : PySem.W.Frag) (ad : Ad) : Sp := fun vs H Q E => match vs with | [x0] => q_seats_of K ad x0 H Q E | _ => False
theorem c_seats_of {K : PySem.W.Frag} {ad : Ad} {x0 : V} {H : Hp} {Q : VK} {E : XK} (h : q_seats_of K ad x0 H Q E) : sp_seats_of K ad ([x0] ++ []) H Q E := h
theorem d_seats_of {K : PySem.W.Frag} {ad : Ad} {x0 : V} {H : Hp} {Q : VK} {E : XK} (h : q_seats_of K ad x0 H Q E) : sp_seats_of K ad [x0] H Q E := h
theorem n_seats_of {K : PySem.W.Frag} {ad : Ad} {vs : List V} {H : Hp} {Q : VK} {E : XK} (h : sp_seats_of K ad vs H Q E) : ∃ x0, vs = [x0] ∧ q_seats_of K ad x0 H Q E := match vs, h with | [x0], h => ⟨x0, rfl, h⟩
def t_seats_of (K : PySem.W.Frag) (ad : Ad) (E : XK) : TS := (tSeq (tIfS (tOr (tTest (tOp (zLt K) (tVar 0) (tC (.int 2)))) (tTest (tOp zGt (tVar 0) (tC (.int 9973))))) (tRaise (tMkO ad.NotPrime (sp_NotPrime___init__ K ad) [] (tCons (tVar 0) tNil)) (fun cls d _ H => E cls d H)) tNext)
    (tSeq (tAsg (tC (.int 2)) (gName 1))
    (tSeq (tWhile (tTest (tOp zLe (tOp zMul (tVar 1) (tVar 1)) (tVar 0))) (tSeq (tIfS (tTest (tOp (zEq K) (tOp zMod (tVar 0) (tVar 1)) (tC (.int 0)))) (tRaise (tMkO ad.NotPrime (sp_NotPrime___init__ K ad) [] (tCons (tVar 0) tNil)) (fun cls d _ H => E cls d H)) tNext)
    (tAug 1 (tC (.int 1)) (ipI fun i j => i + j))))
    (tRet (tOp (zAdd K) (tOp (zAdd K) (tOp zMul (tVar 0) (tVar 0)) (tVar 0)) (tC (.int 1)))))))
theorem w_seats_of {K : PySem.W.Frag} {ad : Ad} {x0 : V} {H : Hp} {Q : VK} {E : XK} (h : q_seats_of K ad x0 H Q E) : t_seats_of K ad E ⟨fun _ H' => Q .non H', Q, fun _ _ => False, fun _ _ => False⟩ [some x0, none] H := by
  cases h with
  | @bad p _ _ _ X np k =>
    have k : ∀ d, Fresh H d → E (.ref ad.NotPrime) (some d) (upd H d (.xd [("number", .int p)])) := k.here
    unfold t_seats_of
    walk_at "rd"
    by_cases lo : p < 2
    · walk_at "rd"
      exact mk_NotPrime X k
    have lo : 2 ≤ p := by omega
    walk_at "rd"
    by_cases hi : p > 9973
    · walk_at "rd"
      exact mk_NotPrime X k
    have hi : p ≤ 9973 := by omega
    obtain ⟨d, d2, ds, dm⟩ := part_of lo hi np
    walk_at "rd"
    refine s_while (fun m σ' H' => H' = H ∧ ∃ part : Int, σ' = [some (.int p), some (.int part)] ∧ 2 ≤ part ∧ part ≤ d ∧ m = (p - part).toNat) (p - 2).toNat ⟨rfl, 2, rfl, by omega, by omega, rfl⟩ ?_
    rintro m σ' H' ⟨rfl, part, rfl, h2, hp, rfl⟩
    have pd : part * part ≤ d * d := Int.mul_le_mul hp hp (by omega) (by omega)
    have dd : 2 * d ≤ d * d := Int.mul_le_mul_of_nonneg_right d2 (by omega)
    walk_at "rd"
    refine w_turn ?_
    walk_at "rd"
    walk_at "if"
    · walk_at "rd"
      exact mk_NotPrime X k
    · rename_i nz
      have : part ≠ d := fun z => nz (by rw [z]; exact dm)
      walk_at "rd"
      exact ⟨_, by omega, rfl, part + 1, rfl, by omega, by omega, rfl⟩
  | @mk p _ _ _ P k =>
    have lo := P.lo
    have hi := P.hi
    unfold t_seats_of
    walk_at "rd"
    refine s_while (fun m σ' H' => H' = H ∧ ∃ part : Int, σ' = [some (.int p), some (.int part)] ∧ 2 ≤ part ∧ part ≤ p ∧ m = (p - part).toNat) (p - 2).toNat ⟨rfl, 2, rfl, by omega, by omega, rfl⟩ ?_
    rintro m σ' H' ⟨rfl, part, rfl, h2, hp, rfl⟩
    walk_at "rd"
    walk_at "if"
    · rename_i hlt
      have : part < p := by
        have : 2 * part ≤ part * part := Int.mul_le_mul_of_nonneg_right h2 (by omega)
        omega
      have nd : ¬ (p % part = 0) := fun z => P.pr part (by omega) this (Int.dvd_of_emod_eq_zero z)
      refine w_turn ?_
      walk_at "rd"
      exact ⟨_, by omega, rfl, part + 1, rfl, by omega, by omega, rfl⟩
    · walk_at "rd"
      exact k
inductive q_seats_looked (K : PySem.W.Frag) (ad : Ad) : V → V → Hp → VK → XK → Prop
  | mk {p : Int} {a : Addr} {ns : List Int} {H : Hp} {Q : VK} {E : XK} (P : Pr p) (hs : SqL K H a (ns.map V.int)) (h : ∀ n ∈ ns, 0 ≤ n ∧ n < p * p + p + 1) (k : Q .non H) : q_seats_looked K ad (.int p) (.ref a) H Q E
  | badz {p z : Int} {a : Addr} {ns ms rs : List Int} {H : Hp} {Q : VK} {E : XK} (X : Xf K ad) (P : Pr p) (e : ns = ms ++ z :: rs) (hs : SqL K H a (ns.map V.int)) (h : ∀ n ∈ ms, 0 ≤ n ∧ n < p * p + p + 1) (hz : z < 0 ∨ p * p + p + 1 ≤ z)
      (k : ∀ d, Fresh H d → E (.ref ad.NoSeat) (some d) (upd H d (.xd [("seat", .int z)]))) : q_seats_looked K ad (.int p) (.ref a) H Q E
  | np {p : Int} {a : Addr} {H : Hp} {Q : VK} {E : XK} (X : Xf K ad) (h : tstI p = false) (k : ExF ad E H (.prime p)) : q_seats_looked K ad (.int p) (.ref a) H Q E
def sp_seats_looked (K : PySem.W.Frag) (ad : Ad) : Sp := fun vs H Q E => match vs with | [x0, x1] => q_seats_looked K ad x0 x1 H Q E | _ => False
theorem c_seats_looked {K : PySem.W.Frag} {ad : Ad} {x0 x1 : V} {H : Hp} {Q : VK} {E : XK} (h : q_seats_looked K ad x0 x1 H Q E) : sp_seats_looked K ad ([x0, x1] ++ []) H Q E := h
theorem d_seats_looked {K : PySem.W.Frag} {ad : Ad} {x0 x1 : V} {H : Hp} {Q : VK} {E : XK} (h : q_seats_looked K ad x0 x1 H Q E) : sp_seats_looked K ad [x0, x1] H Q E := h
theorem n_seats_looked {K : PySem.W.Frag} {ad : Ad} {vs : List V} {H : Hp} {Q : VK} {E : XK} (h : sp_seats_looked K ad vs H Q E) : ∃ x0 x1, vs = [x0, x1] ∧ q_seats_looked K ad x0 x1 H Q E := match vs, h with | [x0, x1], h => ⟨x0, x1, rfl, h⟩
def t_seats_looked (K : PySem.W.Frag) (ad : Ad) (E : XK) : TS := (tSeq (tAsg (tCallS (sp_seats_of K ad) (WE (fun cls d _ H => E cls d H)) (tCons (tVar 0) tNil)) (gName 2))
    (tFor (iList K (tVar 1)) (gName 3)
    (tIfS (tOr (tTest (tOp (zLt K) (tVar 3) (tC (.int 0)))) (tTest (tOp zGe (tVar 3) (tVar 2)))) (tRaise (tMkO ad.NoSeat (sp_NoSeat___init__ K ad) [] (tCons (tVar 3) tNil)) (fun cls d _ H => E cls d H)) tNext)))
theorem w_seats_looked {K : PySem.W.Frag} {ad : Ad} {x0 x1 : V} {H : Hp} {Q : VK} {E : XK} (h : q_seats_looked K ad x0 x1 H Q E) : t_seats_looked K ad E ⟨fun _ H' => Q .non H', Q, fun _ _ => False, fun _ _ => False⟩ [some x0, some x1, none, none] H := by
  cases h with
  | @mk p a ns _ _ _ P hs h k =>
    unfold t_seats_looked
    walk_at "rd"
    apply d_seats_of
    refine q_seats_of.mk P ?_
    walk_at "rd"
    refine lp_list hs (fun i σ' H' => H' = H ∧ ∃ y3, σ' = [some (.int p), some (.ref a), some (.int (p * p + p + 1)), y3]) ⟨rfl, _, rfl⟩ (fun i σ' H' _ h => by rw [h.1]; exact hs) ?_ ?_
    · rintro i x σ' H' hx ⟨rfl, y3, rfl⟩
      rw [List.getElem?_map] at hx
      obtain ⟨z, hz, rfl⟩ := Option.map_eq_some_iff.mp hx
      have := h z (List.mem_of_getElem? hz)
      walk_at "rd"
      exact ⟨rfl, _, rfl⟩
    · rintro σ' H' ⟨rfl, y3, rfl⟩
      walk_at "rd"
      exact k
  | @badz p z a ns ms rs _ _ _ X P e hs h hz k =>
    unfold t_seats_looked
    walk_at "rd"
    apply d_seats_of
    refine q_seats_of.mk P ?_
    walk_at "rd"
    refine lp_list hs (fun i σ' H' => H' = H ∧ i ≤ ms.length ∧ ∃ y3, σ' = [some (.int p), some (.ref a), some (.int (p * p + p + 1)), y3]) ⟨rfl, Nat.zero_le _, _, rfl⟩ (fun i σ' H' _ h => by rw [h.1]; exact hs) ?_ ?_
    · rintro i x σ' H' hx ⟨rfl, il, y3, rfl⟩
      rw [List.getElem?_map] at hx
      obtain ⟨y, hy, rfl⟩ := Option.map_eq_some_iff.mp hx
      rw [e] at hy
      rcases Nat.lt_or_ge i ms.length with hlt | hge
      · rw [List.getElem?_append_left hlt] at hy
        have := h y (List.mem_of_getElem? hy)
        walk_at "rd"
        exact ⟨rfl, hlt, _, rfl⟩
      · have ei : i = ms.length := by omega
        rw [List.getElem?_append_right hge, ei, Nat.sub_self, List.getElem?_cons_zero] at hy
        obtain rfl : z = y := Option.some.inj hy
        walk_at "rd"
        by_cases h0 : z < 0
        · walk_at "rd"
          exact mk_NoSeat X k
        · have : p * p + p + 1 ≤ z := by omega
          walk_at "rd"
          exact mk_NoSeat X k
    · rintro σ' H' ⟨rfl, il, y3, rfl⟩
      rw [List.length_map, e, List.length_append, List.length_cons] at il
      omega
  | @np p a _ _ _ X h k =>
    unfold t_seats_looked
    walk_at "rd"
    apply d_seats_of
    exact q_seats_of.bad X h k
theorem seats_looked_bad {K : PySem.W.Frag} {ad : Ad} {p : Int} {a : Addr} {ns : List Int} {H : Hp} {Q : VK} {E : XK} {f : Fault} (X : Xf K ad) (hs : SqL K H a (ns.map V.int)) (e : faultL .seat p ns = some f) (k : ExF ad E H f) : q_seats_looked K ad (.int p) (.ref a) H Q E := by
  rcases faultL_some e with ⟨np, rfl⟩ | ⟨P, ms, z, rs, e2, hm, hz, rfl⟩
  · exact .np X np k
  · exact .badz X P e2 hs hm hz k.here
inductive q_sets_looked (K : PySem.W.Frag) (ad : Ad) : V → V → Hp → VK → XK → Prop
  | mk {p : Int} {a : Addr} {ns : List Int} {H : Hp} {Q : VK} {E : XK} (P : Pr p) (hs : SqL K H a (ns.map V.int)) (h : ∀ n ∈ ns, 0 ≤ n ∧ n < p * p + p + 1) (k : Q .non H) : q_sets_looked K ad (.int p) (.ref a) H Q E
  | badz {p z : Int} {a : Addr} {ns ms rs : List Int} {H : Hp} {Q : VK} {E : XK} (X : Xf K ad) (P : Pr p) (e : ns = ms ++ z :: rs) (hs : SqL K H a (ns.map V.int)) (h : ∀ n ∈ ms, 0 ≤ n ∧ n < p * p + p + 1) (hz : z < 0 ∨ p * p + p + 1 ≤ z)
      (k : ∀ d, Fresh H d → E (.ref ad.NoSet) (some d) (upd H d (.xd [("number", .int z)]))) : q_sets_looked K ad (.int p) (.ref a) H Q E
  | np {p : Int} {a : Addr} {H : Hp} {Q : VK} {E : XK} (X : Xf K ad) (h : tstI p = false) (k : ExF ad E H (.prime p)) : q_sets_looked K ad (.int p) (.ref a) H Q E
def sp_sets_looked (K : PySem.W.Frag) (ad : Ad) : Sp := fun vs H Q E => match vs with | [x0, x1] => q_sets_looked K ad x0 x1 H Q E | _ => False
theorem c_sets_looked {K : PySem.W.Frag} {ad : Ad} {x0 x1 : V} {H : Hp} {Q : VK} {E : XK} (h : q_sets_looked K ad x0 x1 H Q E) : sp_sets_looked K ad ([x0, x1] ++ []) H Q E := h
theorem d_sets_looked {K : PySem.W.Frag} {ad : Ad} {x0 x1 : V} {H : Hp} {Q : VK} {E : XK} (h : q_sets_looked K ad x0 x1 H Q E) : sp_sets_looked K ad [x0, x1] H Q E := h
theorem n_sets_looked {K : PySem.W.Frag} {ad : Ad} {vs : List V} {H : Hp} {Q : VK} {E : XK} (h : sp_sets_looked K ad vs H Q E) : ∃ x0 x1, vs = [x0, x1] ∧ q_sets_looked K ad x0 x1 H Q E := match vs, h with | [x0, x1], h => ⟨x0, x1, rfl, h⟩
def t_sets_looked (K : PySem.W.Frag) (ad : Ad) (E : XK) : TS := (tSeq (tAsg (tCallS (sp_seats_of K ad) (WE (fun cls d _ H => E cls d H)) (tCons (tVar 0) tNil)) (gName 2))
    (tFor (iList K (tVar 1)) (gName 3)
    (tIfS (tOr (tTest (tOp (zLt K) (tVar 3) (tC (.int 0)))) (tTest (tOp zGe (tVar 3) (tVar 2)))) (tRaise (tMkO ad.NoSet (sp_NoSet___init__ K ad) [] (tCons (tVar 3) tNil)) (fun cls d _ H => E cls d H)) tNext)))
theorem w_sets_looked {K : PySem.W.Frag} {ad : Ad} {x0 x1 : V} {H : Hp} {Q : VK} {E : XK} (h : q_sets_looked K ad x0 x1 H Q E) : t_sets_looked K ad E ⟨fun _ H' => Q .non H', Q, fun _ _ => False, fun _ _ => False⟩ [some x0, some x1, none, none] H := by
  cases h with
  | @mk p a ns _ _ _ P hs h k =>
    unfold t_sets_looked
    walk_at "rd"
    apply d_seats_of
    refine q_seats_of.mk P ?_
    walk_at "rd"
    refine lp_list hs (fun i σ' H' => H' = H ∧ ∃ y3, σ' = [some (.int p), some (.ref a), some (.int (p * p + p + 1)), y3]) ⟨rfl, _, rfl⟩ (fun i σ' H' _ h => by rw [h.1]; exact hs) ?_ ?_
    · rintro i x σ' H' hx ⟨rfl, y3, rfl⟩
      rw [List.getElem?_map] at hx
      obtain ⟨z, hz, rfl⟩ := Option.map_eq_some_iff.mp hx
      have := h z (List.mem_of_getElem? hz)
      walk_at "rd"
      exact ⟨rfl, _, rfl⟩
    · rintro σ' H' ⟨rfl, y3, rfl⟩
      walk_at "rd"
      exact k
  | @badz p z a ns ms rs _ _ _ X P e hs h hz k =>
    unfold t_sets_looked
    walk_at "rd"
    apply d_seats_of
    refine q_seats_of.mk P ?_
    walk_at "rd"
    refine lp_list hs (fun i σ' H' => H' = H ∧ i ≤ ms.length ∧ ∃ y3, σ' = [some (.int p), some (.ref a), some (.int (p * p + p + 1)), y3]) ⟨rfl, Nat.zero_le _, _, rfl⟩ (fun i σ' H' _ h => by rw [h.1]; exact hs) ?_ ?_
    · rintro i x σ' H' hx ⟨rfl, il, y3, rfl⟩
      rw [List.getElem?_map] at hx
      obtain ⟨y, hy, rfl⟩ := Option.map_eq_some_iff.mp hx
      rw [e] at hy
      rcases Nat.lt_or_ge i ms.length with hlt | hge
      · rw [List.getElem?_append_left hlt] at hy
        have := h y (List.mem_of_getElem? hy)
        walk_at "rd"
        exact ⟨rfl, hlt, _, rfl⟩
      · have ei : i = ms.length := by omega
        rw [List.getElem?_append_right hge, ei, Nat.sub_self, List.getElem?_cons_zero] at hy
        obtain rfl : z = y := Option.some.inj hy
        walk_at "rd"
        by_cases h0 : z < 0
        · walk_at "rd"
          exact mk_NoSet X k
        · have : p * p + p + 1 ≤ z := by omega
          walk_at "rd"
          exact mk_NoSet X k
    · rintro σ' H' ⟨rfl, il, y3, rfl⟩
      rw [List.length_map, e, List.length_append, List.length_cons] at il
      omega
  | @np p a _ _ _ X h k =>
    unfold t_sets_looked
    walk_at "rd"
    apply d_seats_of
    exact q_seats_of.bad X h k
theorem sets_looked_bad {K : PySem.W.Frag} {ad : Ad} {p : Int} {a : Addr} {ns : List Int} {H : Hp} {Q : VK} {E : XK} {f : Fault} (X : Xf K ad) (hs : SqL K H a (ns.map V.int)) (e : faultL .set p ns = some f) (k : ExF ad E H f) : q_sets_looked K ad (.int p) (.ref a) H Q E := by
  rcases faultL_some e with ⟨np, rfl⟩ | ⟨P, ms, z, rs, e2, hm, hz, rfl⟩
  · exact .np X np k
  · exact .badz X P e2 hs hm hz k.here
inductive q_line_of (K : PySem.W.Frag) (ad : Ad) : V → V → Hp → VK → Prop
  | mk {p n : Int} {H : Hp} {Q : VK} (h2 : 2 ≤ p) (h9 : p ≤ 9973) (h0 : 0 ≤ n) (h1 : n < p * p + p + 1) (k : ∀ t H', Same H H' → H' t = some (.tup [.int (lineOf p n).1, .int (lineOf p n).2]) → Q (.ref t) H') : q_line_of K ad (.int p) (.int n) H Q
def sp_line_of (K : PySem.W.Frag) (ad : Ad) : Sp := fun vs H Q _ => match vs with | [x0, x1] => q_line_of K ad x0 x1 H Q | _ => False
theorem c_line_of {K : PySem.W.Frag} {ad : Ad} {x0 x1 : V} {H : Hp} {Q : VK} {E : XK} (h : q_line_of K ad x0 x1 H Q) : sp_line_of K ad ([x0, x1] ++ []) H Q E := h
theorem n_line_of {K : PySem.W.Frag} {ad : Ad} {vs : List V} {H : Hp} {Q : VK} {E : XK} (h : sp_line_of K ad vs H Q E) : ∃ x0 x1, vs = [x0, x1] ∧ q_line_of K ad x0 x1 H Q := match vs, h with | [x0, x1], h => ⟨x0, x1, rfl, h⟩
def t_line_of (K : PySem.W.Frag) (ad : Ad) : TS := (tSeq (tIfS (tTest (tOp (zEq K) (tVar 1) (tOp (zAdd K) (tOp zMul (tVar 0) (tVar 0)) (tVar 0)))) (tRet (tTup (tCons (tOp (zAdd K) (tVar 0) (tC (.int 1))) (tCons (tC (.int 0)) tNil)))) tNext)
    (tSeq (tIfS (tTest (tOp zGe (tVar 1) (tOp zMul (tVar 0) (tVar 0)))) (tRet (tTup (tCons (tOp zSub (tVar 1) (tOp zMul (tVar 0) (tVar 0))) (tCons (tC (.int 0)) tNil)))) tNext)
    (tSeq (tAsg (tCB zDm (tCons (tVar 1) (tCons (tVar 0) tNil))) (gTup K 2 (gCons (gName 2) (gCons (gName 3) gNil))))
    (tSeq (tAsg (tOp zMod (tOp zSub (tVar 3) (tOp zMul (tVar 2) (tVar 2))) (tVar 0)) (gName 4))
    (tSeq (tIfS (tTest (tOp (zEq K) (tVar 4) (tC (.int 0)))) (tRet (tTup (tCons (tVar 0) (tCons (tVar 2) tNil)))) tNext)
    (tRet (tTup (tCons (tVar 2) (tCons (tVar 4) tNil)))))))))
theorem w_line_of {K : PySem.W.Frag} {ad : Ad} {x0 x1 : V} {H : Hp} {Q : VK} (h : q_line_of K ad x0 x1 H Q) : t_line_of K ad ⟨fun _ H' => Q .non H', Q, fun _ _ => False, fun _ _ => False⟩ [some x0, some x1, none, none, none] H := by
  cases h with
  | @mk p n _ _ h2 h9 h0 h1 k =>
    have new : ∀ (H' : Hp) (a b : Int), Same H H' → lineOf p n = (a, b) → ∀ t, Fresh H' t → Q (.ref t) (upd H' t (.tup [.int a, .int b])) := fun H' a b s e t nt => k t _ (same_new s nt) (by rw [e, upd_same])
    unfold t_line_of
    walk_at "rd"
    walk_at "if"
    · rename_i hn
      walk_at "rd"
      refine o_new (by walk_at "len") fun t nt => ?_
      walk_at "rd"
      exact new H _ _ (Same.refl H) (by rw [lineOf, if_pos hn]) t nt
    walk_at "rd"
    walk_at "if"
    · rename_i hn hn2
      walk_at "rd"
      refine o_new (by walk_at "len") fun t nt => ?_
      walk_at "rd"
      exact new H _ _ (Same.refl H) (by rw [lineOf, if_neg hn, if_pos hn2]) t nt
    rename_i hn hn2
    walk_at "rd"
    have nb : n.natAbs < 2 ^ 240 := by
      have a : p * p ≤ 9973 * 9973 := Int.mul_le_mul h9 h9 (by omega) (by omega)
      have : n.natAbs < 2 ^ 64 := by omega
      exact Nat.lt_of_lt_of_le this (Nat.pow_le_pow_right (by decide) (by decide))
    obtain ⟨x, y, e, x0, x1, y0, y1, ex, ey⟩ := split h2 h0 (by omega)
    refine o_divmod (by omega) nb fun t nt => ?_
    have s1 := same_new (o := .tup [.int (n / p), .int (n % p)]) (Same.refl H) nt
    rw [ex, ey]
    rw [ex, ey] at s1
    walk_at "rd"
    walk_at "if"
    · rename_i hz
      walk_at "rd"
      refine o_new (by walk_at "len") fun t2 n2 => ?_
      walk_at "rd"
      exact new _ _ _ s1 (by rw [lineOf, if_neg hn, if_neg hn2, ex, ey, if_pos hz]) t2 n2
    · rename_i hz
      walk_at "rd"
      refine o_new (by walk_at "len") fun t2 n2 => ?_
      walk_at "rd"
      exact new _ _ _ s1 (by rw [lineOf, if_neg hn, if_neg hn2, ex, ey, if_neg hz]) t2 n2
inductive q_lies (K : PySem.W.Frag) (ad : Ad) : V → V → V → Hp → VK → XK → Prop
  | mk {p s n : Int} {H : Hp} {Q : VK} {E : XK} (P : Pr p) (s0 : 0 ≤ s) (s1 : s < p * p + p + 1) (h0 : 0 ≤ n) (h1 : n < p * p + p + 1) (k : ∀ H', Same H H' → Q (.bl (on p s n)) H') : q_lies K ad (.int p) (.int s) (.int n) H Q E
  | bad {p s n : Int} {H : Hp} {Q : VK} {E : XK} {f : Fault} (X : Xf K ad) (e : fOr (faultL .seat p [s]) (faultL .set p [n]) = some f) (k : ExF ad E H f) : q_lies K ad (.int p) (.int s) (.int n) H Q E
def sp_lies (K : PySem.W.Frag) (ad : Ad) : Sp := fun vs H Q E => match vs with | [x0, x1, x2] => q_lies K ad x0 x1 x2 H Q E | _ => False
theorem c_lies {K : PySem.W.Frag} {ad : Ad} {x0 x1 x2 : V} {H : Hp} {Q : VK} {E : XK} (h : q_lies K ad x0 x1 x2 H Q E) : sp_lies K ad ([x0, x1, x2] ++ []) H Q E := h
theorem d_lies {K : PySem.W.Frag} {ad : Ad} {x0 x1 x2 : V} {H : Hp} {Q : VK} {E : XK} (h : q_lies K ad x0 x1 x2 H Q E) : sp_lies K ad [x0, x1, x2] H Q E := h
theorem n_lies {K : PySem.W.Frag} {ad : Ad} {vs : List V} {H : Hp} {Q : VK} {E : XK} (h : sp_lies K ad vs H Q E) : ∃ x0 x1 x2, vs = [x0, x1, x2] ∧ q_lies K ad x0 x1 x2 H Q E := match vs, h with | [x0, x1, x2], h => ⟨x0, x1, x2, rfl, h⟩
def t_lies (K : PySem.W.Frag) (ad : Ad) (E : XK) : TS := (tSeq (tDrop (tCallS (sp_seats_looked K ad) (WE (fun cls d _ H => E cls d H)) (tCons (tVar 0) (tCons (tLst (tCons (tVar 1) tNil)) tNil))))
    (tSeq (tDrop (tCallS (sp_sets_looked K ad) (WE (fun cls d _ H => E cls d H)) (tCons (tVar 0) (tCons (tLst (tCons (tVar 2) tNil)) tNil))))
    (tSeq (tAsg (tCall (sp_line_of K ad) [] E0 (tCons (tVar 0) (tCons (tVar 2) tNil))) (gTup K 2 (gCons (gName 3) (gCons (gName 4) gNil))))
    (tSeq (tIfS (tTest (tOp zGe (tVar 1) (tOp zMul (tVar 0) (tVar 0)))) (tRet (tOrV (tOp (zEq K) (tVar 3) (tOp zSub (tVar 1) (tOp zMul (tVar 0) (tVar 0)))) (tOp zGt (tVar 3) (tVar 0)))) tNext)
    (tSeq (tAsg (tCB zDm (tCons (tVar 1) (tCons (tVar 0) tNil))) (gTup K 2 (gCons (gName 5) (gCons (gName 6) gNil))))
    (tSeq (tIfS (tTest (tOp (zEq K) (tVar 3) (tVar 0))) (tRet (tOp (zEq K) (tVar 5) (tVar 4))) tNext)
    (tRet (tAndV (tOp (zLt K) (tVar 3) (tVar 0)) (tOp (zEq K) (tOp zMod (tOp zSub (tOp (zAdd K) (tOp zMul (tVar 3) (tVar 5)) (tVar 4)) (tVar 6)) (tVar 0)) (tC (.int 0)))))))))))
theorem w_lies {K : PySem.W.Frag} {ad : Ad} {x0 x1 x2 : V} {H : Hp} {Q : VK} {E : XK} (h : q_lies K ad x0 x1 x2 H Q E) : t_lies K ad E ⟨fun _ H' => Q .non H', Q, fun _ _ => False, fun _ _ => False⟩ [some x0, some x1, some x2, none, none, none, none] H := by
  cases h with
  | @bad p s n _ _ _ f X e k =>
    unfold t_lies
    walk_at "rd"
    refine o_new (by walk_at "len") fun t1 n1 => ?_
    have S1 := same_new (o := .lst [.int s]) (Same.refl H) n1
    walk_at "rd"
    apply d_seats_looked
    cases h1 : faultL .seat p [s] with
    | some f1 =>
      rw [h1] at e
      cases e
      exact seats_looked_bad (ns := [s]) X (SqL.of upd_same) h1 (k.mono S1)
    | none =>
      rw [h1] at e
      obtain ⟨P, h0⟩ := faultL_none h1
      refine q_seats_looked.mk (ns := [s]) P (SqL.of upd_same) h0 ?_
      walk_at "rd"
      refine o_new (by walk_at "len") fun t2 n2 => ?_
      have S2 := same_new (o := .lst [.int n]) S1 n2
      walk_at "rd"
      apply d_sets_looked
      exact sets_looked_bad (ns := [n]) X (SqL.of upd_same) e (k.mono S2)
  | @mk p s n _ _ _ P s0 s1 h0 h1 k =>
    have lo := P.lo
    have hi := P.hi
    have hl := lineOf_ok lo h0 h1
    unfold t_lies
    walk_at "rd"
    refine o_new (by walk_at "len") fun t1 n1 => ?_
    have S1 := same_new (o := .lst [.int s]) (Same.refl H) n1
    walk_at "rd"
    apply d_seats_looked
    refine q_seats_looked.mk (ns := [s]) P (SqL.of upd_same) (by simp; omega) ?_
    walk_at "rd"
    refine o_new (by walk_at "len") fun t2 n2 => ?_
    have S2 := same_new (o := .lst [.int n]) S1 n2
    walk_at "rd"
    apply d_sets_looked
    refine q_sets_looked.mk (ns := [n]) P (SqL.of upd_same) (by simp; omega) ?_
    walk_at "rd"
    apply c_line_of
    refine q_line_of.mk lo hi h0 h1 fun t H3 S3 e3 => ?_
    have S := S2.trans S3
    have eo : on p s n = onL p s (lineOf p n) := rfl
    generalize lineOf p n = l at *
    obtain ⟨sl, sh⟩ := l
    have slb : 0 ≤ sl ∧ sl ≤ 9974 := by
      rcases hl with hl | hl <;> (dsimp only at hl; omega)
    dsimp only at *
    walk_at "rd"
    walk_at "if"
    · rename_i hs
      have e : on p s n = (decide (sl = s - p * p) || decide (p < sl)) := by rw [eo, onL, if_pos hs]
      walk_at "rd"
      walk_at "if"
      · rename_i h
        walk_at "rd"
        have := k H3 S
        rw [e, decide_eq_true h] at this
        exact this
      · rename_i h
        walk_at "rd"
        have := k H3 S
        rw [e, decide_eq_false h] at this
        exact this
    rename_i hs
    walk_at "rd"
    have nb : s.natAbs < 2 ^ 240 := by
      have a : p * p ≤ 9973 * 9973 := Int.mul_le_mul hi hi (by omega) (by omega)
      have : s.natAbs < 2 ^ 64 := by omega
      exact Nat.lt_of_lt_of_le this (Nat.pow_le_pow_right (by decide) (by decide))
    refine o_divmod (by omega) nb fun t4 n4 => ?_
    have S4 := same_new (o := .tup [.int (s / p), .int (s % p)]) S n4
    walk_at "rd"
    walk_at "if"
    · rename_i h
      walk_at "rd"
      have := k _ S4
      rw [eo, onL, if_neg hs, if_pos h] at this
      exact this
    · rename_i h
      walk_at "rd"
      have := k _ S4
      rw [eo, onL, if_neg hs, if_neg h] at this
      walk_at "if"
      · rename_i h3
        rw [decide_eq_true h3] at this
        walk_at "rd"
        exact this
      · rename_i h3
        rw [decide_eq_false h3] at this
        walk_at "rd"
        exact this
theorem coprime_step {a b p : Int} (P : ∀ d : Int, 0 < d → d ∣ a → d ∣ b → d = 1) (ha : 0 < a) (d : Int) (hd : 0 < d) (h1 : d ∣ b % a) (h2 : d ∣ a) : d = 1 := by
  refine P d hd h2 ?_
  have := Int.dvd_add (Int.dvd_trans h2 (Int.dvd_mul_right a (b / a))) h1
  rwa [Int.mul_ediv_add_emod] at this
inductive q_inverse (K : PySem.W.Frag) (ad : Ad) : V → V → Hp → VK → Prop
  | mk {p n : Int} {H : Hp} {Q : VK} (P : Pr p) (nd : ¬ p ∣ n) (k : ∀ r H', Same H H' → 0 ≤ r → r < p → p ∣ n * r - 1 → Q (.int r) H') : q_inverse K ad (.int n) (.int p) H Q
def sp_inverse (K : PySem.W.Frag) (ad : Ad) : Sp := fun vs H Q _ => match vs with | [x0, x1] => q_inverse K ad x0 x1 H Q | _ => False
theorem c_inverse {K : PySem.W.Frag} {ad : Ad} {x0 x1 : V} {H : Hp} {Q : VK} {E : XK} (h : q_inverse K ad x0 x1 H Q) : sp_inverse K ad ([x0, x1] ++ []) H Q E := h
theorem n_inverse {K : PySem.W.Frag} {ad : Ad} {vs : List V} {H : Hp} {Q : VK} {E : XK} (h : sp_inverse K ad vs H Q E) : ∃ x0 x1, vs = [x0, x1] ∧ q_inverse K ad x0 x1 H Q := match vs, h with | [x0, x1], h => ⟨x0, x1, rfl, h⟩
def t_inverse (K : PySem.W.Frag) (ad : Ad) : TS := (tSeq (tPar 2 3 (tCons (tOp zMod (tVar 0) (tVar 1)) (tCons (tVar 1) tNil)))
    (tSeq (tAsg (tTup (tCons (tC (.int 1)) (tCons (tC (.int 0)) tNil))) (gTup K 2 (gCons (gName 4) (gCons (gName 5) gNil))))
    (tSeq (tWhile (tTest (tOp zGt (tVar 2) (tC (.int 1)))) (tSeq (tAsg (tOp zDiv (tVar 3) (tVar 2)) (gName 6))
    (tSeq (tPar 2 3 (tCons (tOp zSub (tVar 3) (tOp zMul (tVar 6) (tVar 2))) (tCons (tVar 2) tNil)))
    (tPar 4 5 (tCons (tOp zSub (tVar 5) (tOp zMul (tVar 6) (tVar 4))) (tCons (tVar 4) tNil))))))
    (tRet (tOp zMod (tVar 4) (tVar 1))))))
theorem w_inverse {K : PySem.W.Frag} {ad : Ad} {x0 x1 : V} {H : Hp} {Q : VK} (h : q_inverse K ad x0 x1 H Q) : t_inverse K ad ⟨fun _ H' => Q .non H', Q, fun _ _ => False, fun _ _ => False⟩ [some x0, some x1, none, none, none, none, none] H := by
  cases h with
  | @mk p n _ _ P nd k =>
    have lo := P.lo
    have hi := P.hi
    have em0 : 0 ≤ n % p := Int.emod_nonneg _ (by omega)
    have em1 : n % p < p := Int.emod_lt_of_pos _ (by omega)
    have nz : n % p ≠ 0 := fun z => nd (Int.dvd_of_emod_eq_zero z)
    unfold t_inverse
    walk_at "rd"
    refine o_new (by walk_at "len") fun u nu => ?_
    have S0 := same_new (o := .tup [.int 1, .int 0]) (Same.refl H) nu
    walk_at "rd"
    refine s_while (fun m σ' H' => H' = upd H u (.tup [.int 1, .int 0]) ∧ ∃ (l r f s : Int) (y6 : Option V), σ' = [some (.int n), some (.int p), some (.int l), some (.int r), some (.int f), some (.int s), y6] ∧ 0 < l ∧ l < r ∧ r ≤ p ∧ (∀ d : Int, 0 < d → d ∣ l → d ∣ r → d = 1) ∧
      p ∣ n * f - l ∧ p ∣ n * s - r ∧ m = l.toNat) (n % p).toNat ⟨rfl, _, _, _, _, _, rfl, by omega, by omega, by omega, ?_, ?_, ?_, rfl⟩ ?_
    · intro d d0 h1 h2
      by_cases e : d = 1
      · exact e
      · exfalso
        have := Int.le_of_dvd (by omega) h1
        exact P.pr d (by omega) (by omega) h2
    · obtain ⟨k, hk⟩ := dvd_em (p := p) n
      exact ⟨k, by omega⟩
    · exact ⟨-1, by omega⟩
    rintro m σ' H' ⟨rfl, l, r, f, s, y6, rfl, l0, lr, rp, cop, df, ds, rfl⟩
    walk_at "rd"
    walk_at "if"
    · rename_i h
      refine w_turn ?_
      have q0 : 0 ≤ r / l := Int.ediv_nonneg (by omega) (by omega)
      have q1 : r / l ≤ r := Int.ediv_le_self _ (by omega)
      have e := Int.mul_ediv_add_emod r l
      have ec : r / l * l = l * (r / l) := Int.mul_comm _ _
      have r0 : 0 ≤ r % l := Int.emod_nonneg _ (by omega)
      have r1 : r % l < l := Int.emod_lt_of_pos _ (by omega)
      have rn : r % l ≠ 0 := fun z => by
        have := cop l (by omega) (Int.dvd_refl l) (Int.dvd_of_emod_eq_zero z)
        omega
      walk_at "rd"
      refine ⟨_, ?_, rfl, _, _, _, _, _, rfl, ?_, ?_, ?_, ?_, ?_, ?_, rfl⟩
      · omega
      · omega
      · omega
      · omega
      · rw [show r - r / l * l = r % l by omega]
        exact coprime_step (p := p) cop l0
      · obtain ⟨a, ha⟩ := df
        obtain ⟨b, hb⟩ := ds
        exact ⟨b - r / l * a, by grind⟩
      · exact df
    · walk_at "rd"
      rename_i h
      have l1 : l = 1 := by omega
      refine k _ _ S0 (Int.emod_nonneg _ (by omega)) (Int.emod_lt_of_pos _ (by omega)) ?_
      obtain ⟨a, ha⟩ := df
      obtain ⟨b, hb⟩ := dvd_em (p := p) f
      exact ⟨a - n * b, by grind⟩
inductive q_set_of (K : PySem.W.Frag) (ad : Ad) : V → V → Hp → VK → XK → Prop
  | mk {p n : Int} {H : Hp} {Q : VK} {E : XK} (P : Pr p) (n0 : 0 ≤ n) (n1 : n < p * p + p + 1) (k : ∀ t H', Same H H' → Fresh H t → H' t = some (.tup ((setOf p (lineOf p n)).map V.int)) → Q (.ref t) H') : q_set_of K ad (.int p) (.int n) H Q E
  | bad {p n : Int} {H : Hp} {Q : VK} {E : XK} {f : Fault} (X : Xf K ad) (e : faultL .set p [n] = some f) (k : ExF ad E H f) : q_set_of K ad (.int p) (.int n) H Q E
def sp_set_of (K : PySem.W.Frag) (ad : Ad) : Sp := fun vs H Q E => match vs with | [x0, x1] => q_set_of K ad x0 x1 H Q E | _ => False
theorem c_set_of {K : PySem.W.Frag} {ad : Ad} {x0 x1 : V} {H : Hp} {Q : VK} {E : XK} (h : q_set_of K ad x0 x1 H Q E) : sp_set_of K ad ([x0, x1] ++ []) H Q E := h
theorem d_set_of {K : PySem.W.Frag} {ad : Ad} {x0 x1 : V} {H : Hp} {Q : VK} {E : XK} (h : q_set_of K ad x0 x1 H Q E) : sp_set_of K ad [x0, x1] H Q E := h
theorem n_set_of {K : PySem.W.Frag} {ad : Ad} {vs : List V} {H : Hp} {Q : VK} {E : XK} (h : sp_set_of K ad vs H Q E) : ∃ x0 x1, vs = [x0, x1] ∧ q_set_of K ad x0 x1 H Q E := match vs, h with | [x0, x1], h => ⟨x0, x1, rfl, h⟩
def t_set_of (K : PySem.W.Frag) (ad : Ad) (E : XK) : TS := (tSeq (tDrop (tCallS (sp_sets_looked K ad) (WE (fun cls d _ H => E cls d H)) (tCons (tVar 0) (tCons (tLst (tCons (tVar 1) tNil)) tNil))))
    (tSeq (tAsg (tCall (sp_line_of K ad) [] E0 (tCons (tVar 0) (tCons (tVar 1) tNil))) (gTup K 2 (gCons (gName 2) (gCons (gName 3) gNil))))
    (tSeq (tIfS (tTest (tOp zGt (tVar 2) (tVar 0))) (tRet (tTupRg (tRg2 (tOp zMul (tVar 0) (tVar 0)) (tOp (zAdd K) (tOp (zAdd K) (tOp zMul (tVar 0) (tVar 0)) (tVar 0)) (tC (.int 1)))))) tNext)
    (tSeq (tIfS (tTest (tOp (zEq K) (tVar 2) (tVar 0))) (tRet (tCB (zTuple K) (tCons (tOp (zAdd K) (tLc (iRng1 (tCons (tVar 0) tNil)) (gName 4) tYes (tOp (zAdd K) (tOp zMul (tVar 3) (tVar 0)) (tVar 4)) [4]) (tLst (tCons (tOp (zAdd K) (tOp zMul (tVar 0) (tVar 0)) (tVar 0)) tNil))) tNil))) tNext)
    (tRet (tCB (zTuple K) (tCons (tOp (zAdd K) (tLc (iRng1 (tCons (tVar 0) tNil)) (gName 5) tYes (tOp (zAdd K) (tOp zMul (tVar 5) (tVar 0)) (tOp zMod (tOp (zAdd K) (tOp zMul (tVar 2) (tVar 5)) (tVar 3)) (tVar 0))) [5]) (tLst (tCons (tOp (zAdd K) (tOp zMul (tVar 0) (tVar 0)) (tVar 2)) tNil))) tNil)))))))
theorem w_set_of {K : PySem.W.Frag} {ad : Ad} {x0 x1 : V} {H : Hp} {Q : VK} {E : XK} (h : q_set_of K ad x0 x1 H Q E) : t_set_of K ad E ⟨fun _ H' => Q .non H', Q, fun _ _ => False, fun _ _ => False⟩ [some x0, some x1, none, none, none, none] H := by
  cases h with
  | @bad p n _ _ _ f X e k =>
    unfold t_set_of
    walk_at "rd"
    refine o_new (by walk_at "len") fun t1 n1 => ?_
    have S1 := same_new (o := .lst [.int n]) (Same.refl H) n1
    walk_at "rd"
    apply d_sets_looked
    exact sets_looked_bad (ns := [n]) X (SqL.of upd_same) e (k.mono S1)
  | @mk p n _ _ _ P n0 n1 k =>
    have lo := P.lo
    have hi := P.hi
    have hl := lineOf_ok lo n0 n1
    have pb : p * p ≤ 9973 * 9973 := Int.mul_le_mul hi hi (by omega) (by omega)
    have pb0 : 0 ≤ p * p := Int.mul_nonneg (by omega) (by omega)
    unfold t_set_of
    walk_at "rd"
    refine o_new (by walk_at "len") fun t1 z1 => ?_
    have S1 := same_new (o := .lst [.int n]) (Same.refl H) z1
    walk_at "rd"
    apply d_sets_looked
    refine q_sets_looked.mk (ns := [n]) P (SqL.of upd_same) (by simp; omega) ?_
    walk_at "rd"
    apply c_line_of
    refine q_line_of.mk lo hi n0 n1 fun t H3 S3 e3 => ?_
    have S := S1.trans S3
    generalize lineOf p n = l at *
    obtain ⟨sl, sh⟩ := l
    have b1 : 0 ≤ sl ∧ sl ≤ p + 1 ∧ 0 ≤ sh ∧ sh < p := by
      rcases hl with hl | hl <;> (dsimp only at hl; omega)
    dsimp only at *
    have fr : ∀ (H' : Hp) (u : Addr), Same H H' → Fresh H' u → Fresh H u := fun H' u s f => by
      cases e : H u with
      | none => exact e
      | some o =>
        rw [Fresh, s _ _ e] at f
        cases f
    have fin : ∀ (vs : List V) (H' : Hp) (u : Addr), Same H H' → Fresh H' u → vs = (setOf p (sl, sh)).map V.int → Q (.ref u) (upd H' u (.tup vs)) := fun vs H' u S' f e => k u _ (same_new S' f) (fr H' u S' f) (by rw [upd_same, e])
    walk_at "rd"
    walk_at "if"
    · rename_i h1
      walk_at "rd"
      refine ⟨_, _, rfl, rfl, ⟨by omega, by omega, by omega, by omega, by omega⟩, fun u nu => ?_⟩
      walk_at "rd"
      refine fin _ _ u S nu ?_
      simp only [setOf]
      rw [if_pos h1, rgV, List.map_map, show p * p + p + 1 - p * p = p + 1 by omega]
      rfl
    rename_i h1
    walk_at "rd"
    walk_at "if"
    · rename_i h2
      walk_at "rd"
      refine lc_R1 (by omega) (fun D i H' => H' = upd H3 D (.lst ((List.range i).map fun j : Nat => V.int (sh * p + (j : Int))))) (fun D nD => rfl) ?_ ?_
      · rintro D i H' nD hi' rfl
        walk_at "rd"
        refine ⟨_, upd_same, by walk_at "len", ?_⟩
        rw [upd_upd, List.range_succ, List.map_append]
        rfl
      · rintro D H' nD rfl
        have S4 := same_new (o := .lst ((List.range p.toNat).map fun j : Nat => V.int (sh * p + (j : Int)))) S nD
        have eD := upd_same (H := H3) (a := D) (o := .lst ((List.range p.toNat).map fun j : Nat => V.int (sh * p + (j : Int))))
        generalize upd H3 D (.lst ((List.range p.toNat).map fun j : Nat => V.int (sh * p + (j : Int)))) = H4 at *
        walk_at "rd"
        refine o_new (by walk_at "len") fun v nv => ?_
        have S5 := same_new (o := .lst [.int (p * p + p)]) S4 nv
        refine o_addL (up_keep nv _ _ eD) upd_same (by rw [List.length_map, List.length_range, sizeLine_eq]; simp only [List.length_cons, List.length_nil]; omega) fun w nw => ?_
        have S6 := same_new (o := .lst ((List.range p.toNat).map (fun j : Nat => V.int (sh * p + (j : Int))) ++ [.int (p * p + p)])) S5 nw
        walk_at "rd"
        refine o_tupleL (SqL.of upd_same) fun u nu => ?_
        walk_at "rd"
        refine fin _ _ u S6 nu ?_
        simp only [setOf]
        rw [if_neg h1, if_pos h2, List.map_append, List.map_map]
        rfl
    rename_i h2
    walk_at "rd"
    refine lc_R1 (by omega) (fun D i H' => H' = upd H3 D (.lst ((List.range i).map fun j : Nat => V.int ((j : Int) * p + (sl * (j : Int) + sh) % p)))) (fun D nD => rfl) ?_ ?_
    · rintro D i H' nD hi' rfl
      walk_at "rd"
      refine ⟨_, upd_same, by walk_at "len", ?_⟩
      rw [upd_upd, List.range_succ, List.map_append]
      rfl
    · rintro D H' nD rfl
      have S4 := same_new (o := .lst ((List.range p.toNat).map fun j : Nat => V.int ((j : Int) * p + (sl * (j : Int) + sh) % p))) S nD
      have eD := upd_same (H := H3) (a := D) (o := .lst ((List.range p.toNat).map fun j : Nat => V.int ((j : Int) * p + (sl * (j : Int) + sh) % p)))
      generalize upd H3 D (.lst ((List.range p.toNat).map fun j : Nat => V.int ((j : Int) * p + (sl * (j : Int) + sh) % p))) = H4 at *
      walk_at "rd"
      refine o_new (by walk_at "len") fun v nv => ?_
      have S5 := same_new (o := .lst [.int (p * p + sl)]) S4 nv
      refine o_addL (up_keep nv _ _ eD) upd_same (by rw [List.length_map, List.length_range, sizeLine_eq]; simp only [List.length_cons, List.length_nil]; omega) fun w nw => ?_
      have S6 := same_new (o := .lst ((List.range p.toNat).map (fun j : Nat => V.int ((j : Int) * p + (sl * (j : Int) + sh) % p)) ++ [.int (p * p + sl)])) S5 nw
      walk_at "rd"
      refine o_tupleL (SqL.of upd_same) fun u nu => ?_
      walk_at "rd"
      refine fin _ _ u S6 nu ?_
      simp only [setOf]
      rw [if_neg h1, if_neg h2, List.map_append, List.map_map]
      rfl
inductive q_shared (K : PySem.W.Frag) (ad : Ad) : V → V → V → Hp → VK → XK → Prop
  | mk {p m n : Int} {H : Hp} {Q : VK} {E : XK} (P : Pr p) (m0 : 0 ≤ m) (m1 : m < p * p + p + 1) (n0 : 0 ≤ n) (n1 : n < p * p + p + 1) (ne : m ≠ n) (k : ∀ s H', Same H H' → 0 ≤ s → s < p * p + p + 1 → on p s m = true → on p s n = true → Q (.int s) H') : q_shared K ad (.int p) (.int m) (.int n) H Q E
  | bad {p m n : Int} {H : Hp} {Q : VK} {E : XK} {f : Fault} (X : Xf K ad) (e : fOr (faultL .set p [m, n]) (if m = n then some (.set n) else none) = some f) (k : ExF ad E H f) : q_shared K ad (.int p) (.int m) (.int n) H Q E
def sp_shared (K : PySem.W.Frag) (ad : Ad) : Sp := fun vs H Q E => match vs with | [x0, x1, x2] => q_shared K ad x0 x1 x2 H Q E | _ => False
theorem c_shared {K : PySem.W.Frag} {ad : Ad} {x0 x1 x2 : V} {H : Hp} {Q : VK} {E : XK} (h : q_shared K ad x0 x1 x2 H Q E) : sp_shared K ad ([x0, x1, x2] ++ []) H Q E := h
theorem d_shared {K : PySem.W.Frag} {ad : Ad} {x0 x1 x2 : V} {H : Hp} {Q : VK} {E : XK} (h : q_shared K ad x0 x1 x2 H Q E) : sp_shared K ad [x0, x1, x2] H Q E := h
theorem n_shared {K : PySem.W.Frag} {ad : Ad} {vs : List V} {H : Hp} {Q : VK} {E : XK} (h : sp_shared K ad vs H Q E) : ∃ x0 x1 x2, vs = [x0, x1, x2] ∧ q_shared K ad x0 x1 x2 H Q E := match vs, h with | [x0, x1, x2], h => ⟨x0, x1, x2, rfl, h⟩
def t_shared (K : PySem.W.Frag) (ad : Ad) (E : XK) : TS := (tSeq (tDrop (tCallS (sp_sets_looked K ad) (WE (fun cls d _ H => E cls d H)) (tCons (tVar 0) (tCons (tLst (tCons (tVar 1) (tCons (tVar 2) tNil))) tNil))))
    (tSeq (tIfS (tTest (tOp (zEq K) (tVar 1) (tVar 2))) (tRaise (tMkO ad.NoSet (sp_NoSet___init__ K ad) [] (tCons (tVar 2) tNil)) (fun cls d _ H => E cls d H)) tNext)
    (tSeq (tAsg (tCall (sp_line_of K ad) [] E0 (tCons (tVar 0) (tCons (tVar 1) tNil))) (gTup K 2 (gCons (gName 3) (gCons (gName 4) gNil))))
    (tSeq (tAsg (tCall (sp_line_of K ad) [] E0 (tCons (tVar 0) (tCons (tVar 2) tNil))) (gTup K 2 (gCons (gName 5) (gCons (gName 6) gNil))))
    (tSeq (tIfS (tOr (tTest (tOp (zEq K) (tVar 3) (tVar 5))) (tTest (tOp zGt (tVar 5) (tVar 0)))) (tRet (tOp (zAdd K) (tOp zMul (tVar 0) (tVar 0)) (tVar 3))) tNext)
    (tSeq (tIfS (tTest (tOp zGt (tVar 3) (tVar 0))) (tRet (tOp (zAdd K) (tOp zMul (tVar 0) (tVar 0)) (tVar 5))) tNext)
    (tSeq (tIfS (tTest (tOp (zEq K) (tVar 3) (tVar 0))) (tRet (tOp (zAdd K) (tOp zMul (tVar 4) (tVar 0)) (tOp zMod (tOp (zAdd K) (tOp zMul (tVar 5) (tVar 4)) (tVar 6)) (tVar 0)))) tNext)
    (tSeq (tAsg (tVar 6) (gName 7))
    (tSeq (tIfS (tTest (tOp (zLt K) (tVar 5) (tVar 0))) (tAsg (tOp zMod (tOp zMul (tOp zSub (tVar 6) (tVar 4)) (tCall (sp_inverse K ad) [] E0 (tCons (tOp zSub (tVar 3) (tVar 5)) (tCons (tVar 0) tNil)))) (tVar 0)) (gName 7)) tNext)
    (tRet (tOp (zAdd K) (tOp zMul (tVar 7) (tVar 0)) (tOp zMod (tOp (zAdd K) (tOp zMul (tVar 3) (tVar 7)) (tVar 4)) (tVar 0)))))))))))))
theorem w_shared {K : PySem.W.Frag} {ad : Ad} {x0 x1 x2 : V} {H : Hp} {Q : VK} {E : XK} (h : q_shared K ad x0 x1 x2 H Q E) : t_shared K ad E ⟨fun _ H' => Q .non H', Q, fun _ _ => False, fun _ _ => False⟩ [some x0, some x1, some x2, none, none, none, none, none] H := by
  cases h with
  | @bad p m n _ _ _ f X e k =>
    unfold t_shared
    walk_at "rd"
    refine o_new (by walk_at "len") fun t1 n1 => ?_
    have S1 := same_new (o := .lst [.int m, .int n]) (Same.refl H) n1
    have el := upd_same (H := H) (a := t1) (o := .lst [.int m, .int n])
    generalize upd H t1 (.lst [.int m, .int n]) = H1 at *
    walk_at "rd"
    apply d_sets_looked
    cases h1 : faultL .set p [m, n] with
    | some f1 =>
      rw [h1] at e
      cases e
      exact sets_looked_bad (ns := [m, n]) X (SqL.of el) h1 (k.mono S1)
    | none =>
      rw [h1] at e
      obtain ⟨P, h0⟩ := faultL_none h1
      refine q_sets_looked.mk (ns := [m, n]) P (SqL.of el) h0 ?_
      by_cases q : m = n
      · subst q
        have e : (if m = m then some (Fault.set m) else none) = some f := e
        rw [if_pos rfl] at e
        cases e
        walk_at "rd"
        exact mk_NoSet X (k.mono S1).here
      · have e : (if m = n then some (Fault.set n) else none) = some f := e
        rw [if_neg q] at e
        cases e
  | @mk p m n _ _ _ P m0 m1 n0 n1 ne k =>
    have lo := P.lo
    have hi := P.hi
    have hl := lineOf_ok lo m0 m1
    have hm := lineOf_ok lo n0 n1
    have nl : lineOf p m ≠ lineOf p n := fun e => ne (line_inj lo m0 m1 n0 n1 e)
    have fin : ∀ (inv s : Int) (H' : Hp), Same H H' → s = sharedOf p inv (lineOf p m) (lineOf p n) → ((lineOf p m).1 < p → (lineOf p n).1 < p → (lineOf p m).1 ≠ (lineOf p n).1 → p ∣ ((lineOf p m).1 - (lineOf p n).1) * inv - 1) → Q (.int s) H' := fun inv s H' S e hi => by
      obtain ⟨⟨a, b⟩, c, d⟩ := shared_ok P hl hm nl hi
      rw [← e] at a b c d
      exact k s H' S a b c d
    unfold t_shared
    walk_at "rd"
    refine o_new (by walk_at "len") fun t1 z1 => ?_
    have S1 := same_new (o := .lst [.int m, .int n]) (Same.refl H) z1
    walk_at "rd"
    apply d_sets_looked
    refine q_sets_looked.mk (ns := [m, n]) P (SqL.of upd_same) (by simp; omega) ?_
    walk_at "rd"
    apply c_line_of
    refine q_line_of.mk lo hi m0 m1 fun t H3 S3 e3 => ?_
    walk_at "rd"
    apply c_line_of
    refine q_line_of.mk lo hi n0 n1 fun t' H4 S4 e4 => ?_
    have S := (S1.trans S3).trans S4
    generalize lineOf p m = l at *
    generalize lineOf p n = r at *
    obtain ⟨sl, sh⟩ := l
    obtain ⟨tn, st⟩ := r
    have b1 : 0 ≤ sl ∧ sl ≤ p + 1 ∧ 0 ≤ sh ∧ sh < p := by
      rcases hl with hl | hl <;> (dsimp only at hl; omega)
    have b2 : 0 ≤ tn ∧ tn ≤ p + 1 ∧ 0 ≤ st ∧ st < p := by
      rcases hm with hm | hm <;> (dsimp only at hm; omega)
    dsimp only at *
    have out : ∀ (a b : Int) (H' : Hp), (sl = tn ∨ p < tn) → Same H H' → Q (.int (p * p + sl)) H' := fun _ _ H' h S' => fin 0 _ _ S' (by simp only [sharedOf]; rw [if_pos h]) (fun h1 h2 h3 => by omega)
    walk_at "rd"
    walk_at "if"
    · rename_i h
      walk_at "rd"
      exact out 0 0 _ (.inl h) S
    rename_i h1
    walk_at "rd"
    walk_at "if"
    · rename_i h
      walk_at "rd"
      exact out 0 0 _ (.inr h) S
    rename_i h2
    have n12 : ¬ (sl = tn ∨ p < tn) := fun z => z.elim h1 h2
    walk_at "rd"
    walk_at "if"
    · rename_i h3
      walk_at "rd"
      exact fin 0 _ _ S (by simp only [sharedOf]; rw [if_neg n12, if_pos h3]) (fun h1 h2 h3 => by omega)
    rename_i h3
    walk_at "rd"
    walk_at "if"
    · rename_i h4
      walk_at "rd"
      exact fin 0 _ _ S (by simp only [sharedOf]; rw [if_neg n12, if_neg h3, if_pos h4]) (fun h1 h2 h3 => by omega)
    rename_i h4
    walk_at "rd"
    walk_at "if"
    · rename_i h5
      walk_at "rd"
      apply c_inverse
      refine q_inverse.mk P (fun z => ?_) fun inv HI SI i0 i1 hi => ?_
      · have := small_zero z (by omega) (by omega)
        omega
      walk_at "rd"
      exact fin inv _ _ (S.trans SI) (by simp only [sharedOf]; rw [if_neg n12, if_neg h3, if_neg h4, if_pos h5]) (fun h1 h2 h3 => hi)
    · rename_i h5
      walk_at "rd"
      exact fin 0 _ _ S (by simp only [sharedOf]; rw [if_neg n12, if_neg h3, if_neg h4, if_neg h5]) (fun h1 h2 h3 => by omega)
theorem near_divmod {p x y : Int} (x0 : 0 ≤ x) (x1 : x < p) (y0 : 0 ≤ y) (y1 : y < p) : x * p + y < p * p ∧ 0 ≤ x * p + y ∧ (x * p + y) / p = x ∧ (x * p + y) % p = y := by
  have a : 0 ≤ x * p := Int.mul_nonneg x0 (by omega)
  have : x * p ≤ (p - 1) * p := Int.mul_le_mul_of_nonneg_right (by omega) (by omega)
  have e : (p - 1) * p = p * p - p := by grind
  obtain ⟨q1, q2⟩ : (x * p + y) / p = x ∧ (x * p + y) % p = y := (Int.ediv_emod_unique (by omega)).mpr ⟨by have := Int.mul_comm x p; omega, y0, y1⟩
  exact ⟨by omega, by omega, q1, q2⟩
theorem number_ok {p sl sh : Int} (hp : 2 ≤ p) (hl : Ln p (sl, sh)) : (0 ≤ numberOf p sl sh ∧ numberOf p sl sh < p * p + p + 1) ∧ lineOf p (numberOf p sl sh) = (sl, sh) := by
  have pp : 0 ≤ p * p := Int.mul_nonneg (by omega) (by omega)
  have em0 : ∀ a : Int, 0 ≤ a % p := fun a => Int.emod_nonneg _ (by omega)
  have em1 : ∀ a : Int, a % p < p := fun a => Int.emod_lt_of_pos _ (by omega)
  have hl : (sl = p + 1 ∧ sh = 0) ∨ (0 ≤ sl ∧ sl ≤ p ∧ 0 ≤ sh ∧ sh < p) := hl
  unfold numberOf
  split
  · rcases hl with ⟨h1, h2⟩ | hl
    · refine ⟨by omega, ?_⟩
      rw [lineOf, if_pos rfl, h1, h2]
    · omega
  rename_i h1
  have hl' : 0 ≤ sl ∧ sl ≤ p ∧ 0 ≤ sh ∧ sh < p := by
    rcases hl with hl | hl
    · omega
    · exact hl
  split
  · rename_i h2
    obtain ⟨a, b, c, d⟩ := near_divmod hl'.2.2.1 hl'.2.2.2 (em0 (sh * sh)) (em1 (sh * sh))
    refine ⟨by omega, ?_⟩
    rw [lineOf, if_neg (by omega), if_neg (by omega), c, d, if_pos (em_zero.mpr (by
      obtain ⟨k, hk⟩ := dvd_em (p := p) (sh * sh)
      exact ⟨-k, by rw [Int.mul_neg]; omega⟩)), h2]
  rename_i h2
  split
  · rename_i h3
    refine ⟨by omega, ?_⟩
    rw [lineOf, if_neg (by omega), if_pos (by omega), h3]
    exact Prod.ext (by dsimp only; omega) rfl
  rename_i h3
  obtain ⟨a, b, c, d⟩ := near_divmod hl'.1 (by omega) (em0 (sl * sl + sh)) (em1 (sl * sl + sh))
  refine ⟨by omega, ?_⟩
  have e : ((sl * sl + sh) % p - sl * sl) % p = sh := em_uniq hl'.2.2.1 hl'.2.2.2 (by
    obtain ⟨k, hk⟩ := dvd_em (p := p) (sl * sl + sh)
    exact ⟨-k, by rw [Int.mul_neg]; omega⟩)
  rw [lineOf, if_neg (by omega), if_neg (by omega), c, d, e, if_neg h3]
/-- the line with a slope through a near seat -/
def throughOf (p s sl : Int) : Int := if sl = p then numberOf p p (s / p) else numberOf p sl ((s % p - sl * (s / p)) % p)
theorem through_ok {p s sl : Int} (hp : 2 ≤ p) (s0 : 0 ≤ s) (s1 : s < p * p) (l0 : 0 ≤ sl) (l1 : sl ≤ p) : (0 ≤ throughOf p s sl ∧ throughOf p s sl < p * p + p + 1) ∧ (lineOf p (throughOf p s sl)).1 = sl ∧ on p s (throughOf p s sl) = true := by
  have em0 : ∀ a : Int, 0 ≤ a % p := fun a => Int.emod_nonneg _ (by omega)
  have em1 : ∀ a : Int, a % p < p := fun a => Int.emod_lt_of_pos _ (by omega)
  obtain ⟨x, y, e, x0, x1, y0, y1, ex, ey⟩ := split hp s0 s1
  unfold throughOf on
  rw [ex, ey]
  split
  · rename_i h
    have hl : Ln p (p, x) := .inr ⟨by dsimp only; omega, by dsimp only; omega, x0, x1⟩
    obtain ⟨a, b⟩ := number_ok hp hl
    refine ⟨a, by rw [b, h], ?_⟩
    rw [b, e]
    exact (on_fin hl x0 x1 y0 y1).mpr (.inl ⟨rfl, rfl⟩)
  · rename_i h
    have hl : Ln p (sl, (y - sl * x) % p) := .inr ⟨l0, l1, em0 _, em1 _⟩
    obtain ⟨a, b⟩ := number_ok hp hl
    refine ⟨a, by rw [b], ?_⟩
    rw [b, e]
    refine (on_fin hl x0 x1 y0 y1).mpr (.inr ⟨by dsimp only; omega, ?_⟩)
    dsimp only
    obtain ⟨k, hk⟩ := dvd_em (p := p) (y - sl * x)
    exact ⟨-k, by rw [Int.mul_neg]; omega⟩
/-- a far seat lies on a line by its slope -/
theorem on_far {p k n : Int} (k0 : 0 ≤ k) : on p (p * p + k) n = true ↔ (lineOf p n).1 = k ∨ p < (lineOf p n).1 := on_inf k0
/-- a second near seat on the line with the right slope -/
theorem on_near {p x y u v n : Int} (hp : 2 ≤ p) (n0 : 0 ≤ n) (n1 : n < p * p + p + 1) (x0 : 0 ≤ x) (x1 : x < p) (y0 : 0 ≤ y) (y1 : y < p) (u0 : 0 ≤ u) (u1 : u < p) (v0 : 0 ≤ v) (v1 : v < p) (h : on p (x * p + y) n = true)
    (hs : ((lineOf p n).1 = p ∧ x = u) ∨ ((lineOf p n).1 < p ∧ p ∣ (lineOf p n).1 * (u - x) - (v - y))) : on p (u * p + v) n = true := by
  have hl := lineOf_ok hp n0 n1
  have h := (on_fin hl x0 x1 y0 y1).mp h
  refine (on_fin hl u0 u1 v0 v1).mpr ?_
  rcases hs with ⟨a, b⟩ | ⟨a, b⟩
  · rcases h with ⟨_, c⟩ | ⟨c, _⟩
    · exact .inl ⟨a, by omega⟩
    · omega
  · rcases h with ⟨c, _⟩ | ⟨_, c⟩
    · omega
    · refine .inr ⟨a, ?_⟩
      have := Int.dvd_add b c
      rw [show (lineOf p n).1 * u + (lineOf p n).2 - v = (lineOf p n).1 * (u - x) - (v - y) + ((lineOf p n).1 * x + (lineOf p n).2 - y) by grind]
      exact this

inductive q_number_of (K : PySem.W.Frag) (ad : Ad) : V → V → V → Hp → VK → Prop
  | mk {p sl sh : Int} {H : Hp} {Q : VK} (P : Pr p) (l0 : 0 ≤ sl) (l1 : sl ≤ p + 1) (h0 : 0 ≤ sh) (h1 : sh < p) (k : Q (.int (numberOf p sl sh)) H) : q_number_of K ad (.int p) (.int sl) (.int sh) H Q
def sp_number_of (K : PySem.W.Frag) (ad : Ad) : Sp := fun vs H Q _ => match vs with | [x0, x1, x2] => q_number_of K ad x0 x1 x2 H Q | _ => False
theorem c_number_of {K : PySem.W.Frag} {ad : Ad} {x0 x1 x2 : V} {H : Hp} {Q : VK} {E : XK} (h : q_number_of K ad x0 x1 x2 H Q) : sp_number_of K ad ([x0, x1, x2] ++ []) H Q E := h
theorem n_number_of {K : PySem.W.Frag} {ad : Ad} {vs : List V} {H : Hp} {Q : VK} {E : XK} (h : sp_number_of K ad vs H Q E) : ∃ x0 x1 x2, vs = [x0, x1, x2] ∧ q_number_of K ad x0 x1 x2 H Q := match vs, h with | [x0, x1, x2], h => ⟨x0, x1, x2, rfl, h⟩
def t_number_of (K : PySem.W.Frag) (ad : Ad) : TS := (tSeq (tIfS (tTest (tOp zGt (tVar 1) (tVar 0))) (tRet (tOp (zAdd K) (tOp zMul (tVar 0) (tVar 0)) (tVar 0))) tNext)
    (tSeq (tIfS (tTest (tOp (zEq K) (tVar 1) (tVar 0))) (tRet (tOp (zAdd K) (tOp zMul (tVar 2) (tVar 0)) (tOp zMod (tOp zMul (tVar 2) (tVar 2)) (tVar 0)))) tNext)
    (tSeq (tIfS (tTest (tOp (zEq K) (tVar 2) (tC (.int 0)))) (tRet (tOp (zAdd K) (tOp zMul (tVar 0) (tVar 0)) (tVar 1))) tNext)
    (tRet (tOp (zAdd K) (tOp zMul (tVar 1) (tVar 0)) (tOp zMod (tOp (zAdd K) (tOp zMul (tVar 1) (tVar 1)) (tVar 2)) (tVar 0)))))))
theorem w_number_of {K : PySem.W.Frag} {ad : Ad} {x0 x1 x2 : V} {H : Hp} {Q : VK} (h : q_number_of K ad x0 x1 x2 H Q) : t_number_of K ad ⟨fun _ H' => Q .non H', Q, fun _ _ => False, fun _ _ => False⟩ [some x0, some x1, some x2] H := by
  cases h with
  | @mk p sl sh _ _ P l0 l1 h0 h1 k =>
    have lo := P.lo
    have hi := P.hi
    unfold t_number_of
    unfold numberOf at k
    walk_at "rd"
    walk_at "if"
    · rename_i a1
      rw [if_pos a1] at k
      walk_at "rd"
      exact k
    rename_i a1
    rw [if_neg a1] at k
    walk_at "rd"
    walk_at "if"
    · rename_i a2
      rw [if_pos a2] at k
      walk_at "rd"
      exact k
    rename_i a2
    rw [if_neg a2] at k
    walk_at "rd"
    walk_at "if"
    · rename_i a3
      rw [if_pos a3] at k
      walk_at "rd"
      exact k
    rename_i a3
    rw [if_neg a3] at k
    walk_at "rd"
    exact k
inductive q_through (K : PySem.W.Frag) (ad : Ad) : V → V → V → Hp → VK → Prop
  | mk {p s sl : Int} {H : Hp} {Q : VK} (P : Pr p) (s0 : 0 ≤ s) (s1 : s < p * p) (l0 : 0 ≤ sl) (l1 : sl ≤ p) (k : ∀ n H', Same H H' → 0 ≤ n → n < p * p + p + 1 → (lineOf p n).1 = sl → on p s n = true → Q (.int n) H') : q_through K ad (.int p) (.int s) (.int sl) H Q
def sp_through (K : PySem.W.Frag) (ad : Ad) : Sp := fun vs H Q _ => match vs with | [x0, x1, x2] => q_through K ad x0 x1 x2 H Q | _ => False
theorem c_through {K : PySem.W.Frag} {ad : Ad} {x0 x1 x2 : V} {H : Hp} {Q : VK} {E : XK} (h : q_through K ad x0 x1 x2 H Q) : sp_through K ad ([x0, x1, x2] ++ []) H Q E := h
theorem n_through {K : PySem.W.Frag} {ad : Ad} {vs : List V} {H : Hp} {Q : VK} {E : XK} (h : sp_through K ad vs H Q E) : ∃ x0 x1 x2, vs = [x0, x1, x2] ∧ q_through K ad x0 x1 x2 H Q := match vs, h with | [x0, x1, x2], h => ⟨x0, x1, x2, rfl, h⟩
def t_through (K : PySem.W.Frag) (ad : Ad) : TS := (tSeq (tAsg (tCB zDm (tCons (tVar 1) (tCons (tVar 0) tNil))) (gTup K 2 (gCons (gName 3) (gCons (gName 4) gNil))))
    (tSeq (tIfS (tTest (tOp (zEq K) (tVar 2) (tVar 0))) (tRet (tCall (sp_number_of K ad) [] E0 (tCons (tVar 0) (tCons (tVar 0) (tCons (tVar 3) tNil))))) tNext)
    (tRet (tCall (sp_number_of K ad) [] E0 (tCons (tVar 0) (tCons (tVar 2) (tCons (tOp zMod (tOp zSub (tVar 4) (tOp zMul (tVar 2) (tVar 3))) (tVar 0)) tNil)))))))
theorem w_through {K : PySem.W.Frag} {ad : Ad} {x0 x1 x2 : V} {H : Hp} {Q : VK} (h : q_through K ad x0 x1 x2 H Q) : t_through K ad ⟨fun _ H' => Q .non H', Q, fun _ _ => False, fun _ _ => False⟩ [some x0, some x1, some x2, none, none] H := by
  cases h with
  | @mk p s sl _ _ P s0 s1 l0 l1 k =>
    have lo := P.lo
    have hi := P.hi
    obtain ⟨⟨b0, b1⟩, b2, b3⟩ := through_ok lo s0 s1 l0 l1
    have k := fun H' S => k _ H' S b0 b1 b2 b3
    have nb : s.natAbs < 2 ^ 240 := by
      have a : p * p ≤ 9973 * 9973 := Int.mul_le_mul hi hi (by omega) (by omega)
      have : s.natAbs < 2 ^ 64 := by omega
      exact Nat.lt_of_lt_of_le this (Nat.pow_le_pow_right (by decide) (by decide))
    obtain ⟨x, y, e, x0, x1, y0, y1, ex, ey⟩ := split lo s0 s1
    unfold throughOf at k
    unfold t_through
    walk_at "rd"
    refine o_divmod (by omega) nb fun t nt => ?_
    have S := same_new (o := .tup [.int (s / p), .int (s % p)]) (Same.refl H) nt
    rw [ex, ey] at k
    rw [ex, ey]
    rw [ex, ey] at S
    walk_at "rd"
    walk_at "if"
    · rename_i h
      rw [if_pos h] at k
      walk_at "rd"
      apply c_number_of
      refine q_number_of.mk P (by omega) (by omega) x0 x1 ?_
      exact k _ S
    · rename_i h
      rw [if_neg h] at k
      walk_at "rd"
      apply c_number_of
      refine q_number_of.mk P (by omega) (by omega) (Int.emod_nonneg _ (by omega)) (Int.emod_lt_of_pos _ (by omega)) ?_
      exact k _ S
inductive q_holding (K : PySem.W.Frag) (ad : Ad) : V → V → V → Hp → VK → XK → Prop
  | mk {p s t : Int} {H : Hp} {Q : VK} {E : XK} (P : Pr p) (s0 : 0 ≤ s) (s1 : s < p * p + p + 1) (t0 : 0 ≤ t) (t1 : t < p * p + p + 1) (ne : s ≠ t) (k : ∀ n H', Same H H' → 0 ≤ n → n < p * p + p + 1 → on p s n = true → on p t n = true → Q (.int n) H') : q_holding K ad (.int p) (.int s) (.int t) H Q E
  | bad {p m n : Int} {H : Hp} {Q : VK} {E : XK} {f : Fault} (X : Xf K ad) (e : fOr (faultL .seat p [m, n]) (if m = n then some (.seat n) else none) = some f) (k : ExF ad E H f) : q_holding K ad (.int p) (.int m) (.int n) H Q E
def sp_holding (K : PySem.W.Frag) (ad : Ad) : Sp := fun vs H Q E => match vs with | [x0, x1, x2] => q_holding K ad x0 x1 x2 H Q E | _ => False
theorem c_holding {K : PySem.W.Frag} {ad : Ad} {x0 x1 x2 : V} {H : Hp} {Q : VK} {E : XK} (h : q_holding K ad x0 x1 x2 H Q E) : sp_holding K ad ([x0, x1, x2] ++ []) H Q E := h
theorem d_holding {K : PySem.W.Frag} {ad : Ad} {x0 x1 x2 : V} {H : Hp} {Q : VK} {E : XK} (h : q_holding K ad x0 x1 x2 H Q E) : sp_holding K ad [x0, x1, x2] H Q E := h
theorem n_holding {K : PySem.W.Frag} {ad : Ad} {vs : List V} {H : Hp} {Q : VK} {E : XK} (h : sp_holding K ad vs H Q E) : ∃ x0 x1 x2, vs = [x0, x1, x2] ∧ q_holding K ad x0 x1 x2 H Q E := match vs, h with | [x0, x1, x2], h => ⟨x0, x1, x2, rfl, h⟩
def t_holding (K : PySem.W.Frag) (ad : Ad) (E : XK) : TS := (tSeq (tDrop (tCallS (sp_seats_looked K ad) (WE (fun cls d _ H => E cls d H)) (tCons (tVar 0) (tCons (tLst (tCons (tVar 1) (tCons (tVar 2) tNil))) tNil))))
    (tSeq (tIfS (tTest (tOp (zEq K) (tVar 1) (tVar 2))) (tRaise (tMkO ad.NoSeat (sp_NoSeat___init__ K ad) [] (tCons (tVar 2) tNil)) (fun cls d _ H => E cls d H)) tNext)
    (tSeq (tPar 3 4 (tCons (tCB zMin2 (tCons (tVar 1) (tCons (tVar 2) tNil))) (tCons (tCB zMax2 (tCons (tVar 1) (tCons (tVar 2) tNil))) tNil)))
    (tSeq (tIfS (tTest (tOp zGe (tVar 3) (tOp zMul (tVar 0) (tVar 0)))) (tRet (tOp (zAdd K) (tOp zMul (tVar 0) (tVar 0)) (tVar 0))) tNext)
    (tSeq (tIfS (tTest (tOp zGe (tVar 4) (tOp zMul (tVar 0) (tVar 0)))) (tRet (tCall (sp_through K ad) [] E0 (tCons (tVar 0) (tCons (tVar 3) (tCons (tOp zSub (tVar 4) (tOp zMul (tVar 0) (tVar 0))) tNil))))) tNext)
    (tSeq (tAsg (tCB zDm (tCons (tVar 3) (tCons (tVar 0) tNil))) (gTup K 2 (gCons (gName 5) (gCons (gName 6) gNil))))
    (tSeq (tAsg (tCB zDm (tCons (tVar 4) (tCons (tVar 0) tNil))) (gTup K 2 (gCons (gName 7) (gCons (gName 8) gNil))))
    (tSeq (tIfS (tTest (tOp (zEq K) (tVar 5) (tVar 7))) (tRet (tCall (sp_through K ad) [] E0 (tCons (tVar 0) (tCons (tVar 3) (tCons (tVar 0) tNil))))) tNext)
    (tRet (tCall (sp_through K ad) [] E0 (tCons (tVar 0) (tCons (tVar 3) (tCons (tOp zMod (tOp zMul (tOp zSub (tVar 8) (tVar 6)) (tCall (sp_inverse K ad) [] E0 (tCons (tOp zSub (tVar 7) (tVar 5)) (tCons (tVar 0) tNil)))) (tVar 0)) tNil)))))))))))))
theorem w_holding {K : PySem.W.Frag} {ad : Ad} {x0 x1 x2 : V} {H : Hp} {Q : VK} {E : XK} (h : q_holding K ad x0 x1 x2 H Q E) : t_holding K ad E ⟨fun _ H' => Q .non H', Q, fun _ _ => False, fun _ _ => False⟩ [some x0, some x1, some x2, none, none, none, none, none, none] H := by
  cases h with
  | @bad p m n _ _ _ f X e k =>
    unfold t_holding
    walk_at "rd"
    refine o_new (by walk_at "len") fun t1 n1 => ?_
    have S1 := same_new (o := .lst [.int m, .int n]) (Same.refl H) n1
    have el := upd_same (H := H) (a := t1) (o := .lst [.int m, .int n])
    generalize upd H t1 (.lst [.int m, .int n]) = H1 at *
    walk_at "rd"
    apply d_seats_looked
    cases h1 : faultL .seat p [m, n] with
    | some f1 =>
      rw [h1] at e
      cases e
      exact seats_looked_bad (ns := [m, n]) X (SqL.of el) h1 (k.mono S1)
    | none =>
      rw [h1] at e
      obtain ⟨P, h0⟩ := faultL_none h1
      refine q_seats_looked.mk (ns := [m, n]) P (SqL.of el) h0 ?_
      by_cases q : m = n
      · subst q
        have e : (if m = m then some (Fault.seat m) else none) = some f := e
        rw [if_pos rfl] at e
        cases e
        walk_at "rd"
        exact mk_NoSeat X (k.mono S1).here
      · have e : (if m = n then some (Fault.seat n) else none) = some f := e
        rw [if_neg q] at e
        cases e
  | @mk p s t _ _ _ P s0 s1 t0 t1 ne k =>
    have lo := P.lo
    have hi := P.hi
    have pp : 0 ≤ p * p := Int.mul_nonneg (by omega) (by omega)
    have pb : p * p ≤ 9973 * 9973 := Int.mul_le_mul hi hi (by omega) (by omega)
    unfold t_holding
    walk_at "rd"
    refine o_new (by walk_at "len") fun z n1 => ?_
    have S1 := same_new (o := .lst [.int s, .int t]) (Same.refl H) n1
    walk_at "rd"
    apply d_seats_looked
    refine q_seats_looked.mk (ns := [s, t]) P (SqL.of upd_same) (by simp; omega) ?_
    generalize upd H z (.lst [.int s, .int t]) = H1 at *
    walk_at "rd"
    obtain ⟨lw, elw⟩ : ∃ lw, lw = (if t < s then t else s) := ⟨_, rfl⟩
    obtain ⟨hg, ehg⟩ : ∃ hg, hg = (if t > s then t else s) := ⟨_, rfl⟩
    rw [← elw, ← ehg]
    have k' : ∀ n H', Same H H' → 0 ≤ n → n < p * p + p + 1 → on p lw n = true → on p hg n = true → Q (.int n) H' := fun n H' S n0 n1 a b => by
      by_cases h : t < s
      · rw [if_pos h] at elw
        rw [if_neg (by omega)] at ehg
        rw [elw] at a
        rw [ehg] at b
        exact k n H' S n0 n1 b a
      · rw [if_neg h] at elw
        rw [if_pos (by omega)] at ehg
        rw [elw] at a
        rw [ehg] at b
        exact k n H' S n0 n1 a b
    have l0 : 0 ≤ lw ∧ lw < hg ∧ hg < p * p + p + 1 := by
      by_cases h : t < s
      · rw [if_pos h] at elw
        rw [if_neg (by omega)] at ehg
        omega
      · rw [if_neg h] at elw
        rw [if_pos (by omega)] at ehg
        omega
    clear k elw ehg
    walk_at "if"
    · rename_i h
      walk_at "rd"
      refine k' _ _ S1 (by omega) (by omega) ?_ ?_
      · rw [show lw = p * p + (lw - p * p) by omega, on_far (by omega), lineOf, if_pos rfl]
        right
        dsimp only
        omega
      · rw [show hg = p * p + (hg - p * p) by omega, on_far (by omega), lineOf, if_pos rfl]
        right
        dsimp only
        omega
    rename_i h1
    walk_at "rd"
    walk_at "if"
    · rename_i h2
      walk_at "rd"
      apply c_through
      refine q_through.mk P l0.1 (by omega) (by omega) (by omega) fun n H2 S2 n0 n1 hs on1 => ?_
      refine k' n H2 (S1.trans S2) n0 n1 on1 ?_
      rw [show hg = p * p + (hg - p * p) by omega, on_far (by omega)]
      exact .inl hs
    rename_i h2
    obtain ⟨x, y, e, x0, x1, y0, y1, ex, ey⟩ := split lo l0.1 (by omega : lw < p * p)
    obtain ⟨u, v, e', u0, u1, v0, v1, eu, ev⟩ := split lo (by omega : 0 ≤ hg) (by omega : hg < p * p)
    have nb : ∀ a : Int, 0 ≤ a → a < p * p → a.natAbs < 2 ^ 240 := fun a a0 a1 => by
      have : a.natAbs < 2 ^ 64 := by omega
      exact Nat.lt_of_lt_of_le this (Nat.pow_le_pow_right (by decide) (by decide))
    walk_at "rd"
    refine o_divmod (by omega) (nb _ l0.1 (by omega)) fun t2 n2 => ?_
    have S2 := same_new (o := .tup [.int (lw / p), .int (lw % p)]) S1 n2
    rw [ex, ey]
    rw [ex, ey] at S2
    walk_at "rd"
    refine o_divmod (by omega) (nb _ (by omega) (by omega)) fun t3 n3 => ?_
    have S3 := same_new (o := .tup [.int (hg / p), .int (hg % p)]) S2 n3
    rw [eu, ev]
    rw [eu, ev] at S3
    walk_at "rd"
    walk_at "if"
    · rename_i h3
      walk_at "rd"
      apply c_through
      refine q_through.mk P l0.1 (by omega) (by omega) (by omega) fun n H2 S2 n0 n1 hs on1 => ?_
      refine k' n H2 (S3.trans S2) n0 n1 on1 ?_
      rw [e'] 
      rw [e] at on1
      exact on_near lo n0 n1 x0 x1 y0 y1 u0 u1 v0 v1 on1 (.inl ⟨hs, h3⟩)
    · rename_i h3
      walk_at "rd"
      apply c_inverse
      refine q_inverse.mk P (fun z => ?_) fun inv HI SI i0 i1 hi => ?_
      · have := small_zero z (by omega) (by omega)
        omega
      walk_at "rd"
      have em0 : ∀ a : Int, 0 ≤ a % p := fun a => Int.emod_nonneg _ (by omega)
      have em1 : ∀ a : Int, a % p < p := fun a => Int.emod_lt_of_pos _ (by omega)
      apply c_through
      refine q_through.mk P l0.1 (by omega) (em0 _) (Int.le_of_lt (em1 _)) fun n H2 S2 n0 n1 hs on1 => ?_
      refine k' n H2 ((S3.trans SI).trans S2) n0 n1 on1 ?_
      rw [e']
      rw [e] at on1
      refine on_near lo n0 n1 x0 x1 y0 y1 u0 u1 v0 v1 on1 (.inr ⟨by rw [hs]; exact em1 _, ?_⟩)
      rw [hs]
      obtain ⟨a, ha⟩ := hi
      obtain ⟨b, hb⟩ := dvd_em (p := p) ((v - y) * inv)
      exact ⟨(v - y) * a - b * (u - x), by grind⟩

theorem line_once {p n l s t : Int} (P : Pr p) (n0 : 0 ≤ n) (n1 : n < p * p + p + 1) (l0 : 0 ≤ l) (l1 : l < p * p + p + 1) (s0 : 0 ≤ s) (s1 : s < p * p + p + 1) (t0 : 0 ≤ t) (t1 : t < p * p + p + 1)
    (a : on p s n = true) (b : on p s l = true) (c : on p t n = true) (d : on p t l = true) (ne : s ≠ t) : n = l :=
  Decidable.byContradiction fun nn => ne (meet_once P (lineOf_ok P.lo n0 n1) (lineOf_ok P.lo l0 l1) (fun e => nn (line_inj P.lo n0 n1 l0 l1 e)) s0 s1 t0 t1 a b c d)
inductive q_free (K : PySem.W.Frag) (ad : Ad) : V → V → Hp → VK → XK → Prop
  | mk {p : Int} {a : Addr} {ns : List Int} {H : Hp} {Q : VK} {E : XK} (P : Pr p) (hs : SqL K H a (ns.map V.int)) (h : ∀ n ∈ ns, 0 ≤ n ∧ n < p * p + p + 1) (hl : (ns.length : Int) ≤ p)
      (k : ∀ n H', Same H H' → 0 ≤ n → n < p * p + p + 1 → (∀ z ∈ ns, on p z n = false) → Q (.int n) H') : q_free K ad (.int p) (.ref a) H Q E
  | badz {p z : Int} {a : Addr} {ns ms rs : List Int} {H : Hp} {Q : VK} {E : XK} (X : Xf K ad) (P : Pr p) (e : ns = ms ++ z :: rs) (hs : SqL K H a (ns.map V.int)) (h : ∀ n ∈ ms, 0 ≤ n ∧ n < p * p + p + 1) (hz : z < 0 ∨ p * p + p + 1 ≤ z)
      (k : ∀ d, Fresh H d → E (.ref ad.NoSeat) (some d) (upd H d (.xd [("seat", .int z)]))) : q_free K ad (.int p) (.ref a) H Q E
  | np {p : Int} {a : Addr} {H : Hp} {Q : VK} {E : XK} (X : Xf K ad) (h : tstI p = false) (k : ExF ad E H (.prime p)) : q_free K ad (.int p) (.ref a) H Q E
def sp_free (K : PySem.W.Frag) (ad : Ad) : Sp := fun vs H Q E => match vs with | [x0, x1] => q_free K ad x0 x1 H Q E | _ => False
theorem c_free {K : PySem.W.Frag} {ad : Ad} {x0 x1 : V} {H : Hp} {Q : VK} {E : XK} (h : q_free K ad x0 x1 H Q E) : sp_free K ad ([x0, x1] ++ []) H Q E := h
theorem d_free {K : PySem.W.Frag} {ad : Ad} {x0 x1 : V} {H : Hp} {Q : VK} {E : XK} (h : q_free K ad x0 x1 H Q E) : sp_free K ad [x0, x1] H Q E := h
theorem n_free {K : PySem.W.Frag} {ad : Ad} {vs : List V} {H : Hp} {Q : VK} {E : XK} (h : sp_free K ad vs H Q E) : ∃ x0 x1, vs = [x0, x1] ∧ q_free K ad x0 x1 H Q E := match vs, h with | [x0, x1], h => ⟨x0, x1, rfl, h⟩
def t_free (K : PySem.W.Frag) (ad : Ad) (E : XK) : TS := (tSeq (tDrop (tCallS (sp_seats_looked K ad) (WE (fun cls d _ H => E cls d H)) (tCons (tVar 0) (tCons (tVar 1) tNil))))
    (tSeq (tIfS (tTest (tOp zGt (tCB (zLen K) (tCons (tVar 1) tNil)) (tVar 0))) (tRaise (tMkO ad.TooManyFallen (sp_TooManyFallen___init__ K ad) [] (tCons (tCB (zLen K) (tCons (tVar 1) tNil)) tNil)) (fun cls d _ H => E cls d H)) tNext)
    (tSeq (tAsg (tC (.int 0)) (gName 2))
    (tSeq (tWhile (tTest (tOp (zIn K) (tVar 2) (tVar 1))) (tAug 2 (tC (.int 1)) (ipI fun i j => i + j)))
    (tSeq (tAsg (tDc (iList K (tVar 1)) (gName 6) tYes (tCall (sp_holding K ad) [] E0 (tCons (tVar 0) (tCons (tVar 2) (tCons (tVar 6) tNil)))) (tC (.bl true)) [6]) (gName 3))
    (tSeq (tFor (iRng1 (tCons (tVar 0) tNil)) (gName 4)
    (tSeq (tAsg (tCall (sp_through K ad) [] E0 (tCons (tVar 0) (tCons (tVar 2) (tCons (tVar 4) tNil)))) (gName 5))
    (tIfS (tB (tDNotIn (tVar 5) (tVar 3))) (tRet (tVar 5)) tNext)))
    (tRet (tCall (sp_through K ad) [] E0 (tCons (tVar 0) (tCons (tVar 2) (tCons (tVar 0) tNil)))))))))))
theorem w_free {K : PySem.W.Frag} {ad : Ad} {x0 x1 : V} {H : Hp} {Q : VK} {E : XK} (h : q_free K ad x0 x1 H Q E) : t_free K ad E ⟨fun _ H' => Q .non H', Q, fun _ _ => False, fun _ _ => False⟩ [some x0, some x1, none, none, none, none, none] H := by
  cases h with
  | @badz p z a ns ms rs _ _ _ X P e hs h hz k =>
    unfold t_free
    walk_at "rd"
    apply d_seats_looked
    exact q_seats_looked.badz X P e hs h hz k
  | @np p a _ _ _ X h k =>
    unfold t_free
    walk_at "rd"
    apply d_seats_looked
    exact q_seats_looked.np X h k
  | @mk p a ns _ _ _ P hs h hl k =>
    have lo := P.lo
    have hi := P.hi
    have pp : 2 * p ≤ p * p := Int.mul_le_mul_of_nonneg_right lo (by omega)
    unfold t_free
    walk_at "rd"
    apply d_seats_looked
    refine q_seats_looked.mk P hs h ?_
    walk_at "rd"
    rw [List.length_map]
    walk_at "rd"
    have few : ∀ s : Nat, (∀ i : Nat, i < s → (i : Int) ∈ ns) → s ≤ ns.length := fun s hm => inj_le (f := fun i : Nat => (i : Int)) (fun i j _ _ e => by omega) hm
    refine s_while (fun m σ' H' => H' = H ∧ ∃ s : Nat, σ' = [some (.int p), some (.ref a), some (.int (s : Int)), none, none, none, none] ∧ (∀ i : Nat, i < s → (i : Int) ∈ ns) ∧ m = ns.length - s) (ns.length - 0) ⟨rfl, 0, rfl, fun i hi => absurd hi (Nat.not_lt_zero _), rfl⟩ ?_
    rintro m σ' H0 ⟨rfl, s, rfl, hm, rfl⟩
    walk_at "rd"
    refine o_inI (.inl hs) ?_
    walk_at "rd"
    walk_at "if"
    · rename_i hin
      have hm' : ∀ i : Nat, i < s + 1 → (i : Int) ∈ ns := fun i hi => by
        rcases Nat.lt_succ_iff_lt_or_eq.mp hi with h | h
        · exact hm i h
        · rw [h]
          exact hin
      have := few _ hm'
      refine w_turn ?_
      walk_at "rd"
      exact ⟨_, by omega, rfl, s + 1, rfl, hm', rfl⟩
    rename_i nin
    have sl := few _ hm
    have s1 : (s : Int) < p * p := by omega
    walk_at "rd"
    refine dc_L hs (fun D i H' => Same H0 H' ∧ ∃ kvs : List (Key × V), H' D = some (.dK kvs) ∧ kvs.length ≤ i ∧ (∀ n : Int, (valV kvs (.inl n)).isSome = true → ∃ z ∈ ns.take i, on p z n = true ∧ on p (s : Int) n = true ∧ 0 ≤ n ∧ n < p * p + p + 1) ∧
      ∀ z ∈ ns.take i, ∃ n : Int, (valV kvs (.inl n)).isSome = true ∧ on p z n = true ∧ on p (s : Int) n = true ∧ 0 ≤ n ∧ n < p * p + p + 1) ?_ ?_ ?_ ?_
    · exact fun D nD => ⟨up_keep nD, [], upd_same, Nat.le_refl _, fun n h => (by rw [valV_nil] at h; cases h), fun z h => (by cases h)⟩
    · exact fun D i H' _ h => Same.seq h.1 hs
    · rintro D i x H' nD hx ⟨s', kvs, eD, lk, h1, h2⟩
      rw [List.getElem?_map] at hx
      obtain ⟨z, hz, rfl⟩ := Option.map_eq_some_iff.mp hx
      have hzm := List.mem_of_getElem? hz
      have hz2 := h z hzm
      have ne : (s : Int) ≠ z := fun e => nin (by rw [e]; exact hzm)
      have tk : ns.take (i + 1) = ns.take i ++ [z] := by
        rw [List.take_add_one, hz]
        rfl
      have il := (List.getElem?_eq_some_iff.mp hz).1
      walk_at "rd"
      apply c_holding
      refine q_holding.mk P (by omega) (by omega) hz2.1 hz2.2 ne fun n H2 s2 n0 n1 on1 on2 => ?_
      walk_at "rd"
      refine ⟨kvs, .inl n, rfl, s2 _ _ eD, by rw [sizeLine_eq]; omega, fun b o e => ?_, _, upd_same, ?_, fun m hm => ?_, fun y hy => ?_⟩
      · rw [upd_ne (ne_of_none e nD)]
        exact s2 _ _ (s' _ _ e)
      · have := length_putK kvs (.inl n) (.bl true)
        omega
      · rw [valV_put] at hm
        rw [tk]
        by_cases e : (Sum.inl m : Key) = .inl n
        · cases e
          exact ⟨z, by simp, on2, on1, n0, n1⟩
        · rw [if_neg e] at hm
          obtain ⟨y, hy, q⟩ := h1 m hm
          exact ⟨y, List.mem_append_left _ hy, q⟩
      · rw [tk] at hy
        rcases List.mem_append.mp hy with hy | hy
        · obtain ⟨m, q1, q2⟩ := h2 y hy
          refine ⟨m, ?_, q2⟩
          rw [valV_put]
          split
          · rfl
          · exact q1
        · rw [List.mem_singleton.mp hy]
          exact ⟨n, by rw [valV_put, if_pos rfl]; rfl, on2, on1, n0, n1⟩
    · rintro D H1 nD ⟨s1', kvs, eD, lk, h1, h2⟩
      rw [List.length_map, List.take_length] at h1 h2
      -- a set through the seat that is not hit
      have good : ∀ {n : Int} {H' : Hp}, Same H1 H' → 0 ≤ n → n < p * p + p + 1 → on p (s : Int) n = true → (valV kvs (.inl n)).isSome = false → Q (.int n) H' := fun {n H'} s2 n0 n1 on1 hv => by
        refine k n H' (s1'.trans s2) n0 n1 fun z hz => Bool.eq_false_iff.mpr fun oz => ?_
        obtain ⟨m, q1, q2, q3, q4, q5⟩ := h2 z hz
        have hz2 := h z hz
        have ne : (s : Int) ≠ z := fun e => nin (by rw [e]; exact hz)
        have e := line_once P n0 n1 q4 q5 (by omega) (by omega) hz2.1 hz2.2 on1 q3 oz q2 ne
        rw [e, q1] at hv
        cases hv
      walk_at "rd"
      refine lp_range1 (by omega) (fun i σ' H' => Same H1 H' ∧ (∃ y4 y5 y6, σ' = [some (.int p), some (.ref a), some (.int (s : Int)), some (.ref D), y4, y5, y6]) ∧ ∀ j : Nat, j < i → ∃ n, (lineOf p n).1 = (j : Int) ∧ on p (s : Int) n = true ∧ 0 ≤ n ∧ n < p * p + p + 1 ∧ (valV kvs (.inl n)).isSome = true) ⟨Same.refl _, ⟨_, _, _, rfl⟩, fun j hj => absurd hj (Nat.not_lt_zero _)⟩ ?_ ?_
      · rintro i σ' H2 hi2 ⟨s2, ⟨y4, y5, y6, rfl⟩, hj⟩
        walk_at "rd"
        apply c_through
        refine q_through.mk P (by omega) s1 (by omega) (by omega) fun n H3 s3 n0 n1 hsl on1 => ?_
        walk_at "rd"
        refine dnin_K (s3 _ _ (s2 _ _ eD)) ?_
        walk_at "rd"
        cases hv : (valV kvs (.inl n)).isSome with
        | false =>
          walk_at "rd"
          exact good (s2.trans s3) n0 n1 on1 hv
        | true =>
          walk_at "rd"
          refine ⟨s2.trans s3, ⟨_, _, _, rfl⟩, fun j hj' => ?_⟩
          rcases Nat.lt_succ_iff_lt_or_eq.mp hj' with h | h
          · exact hj j h
          · exact ⟨n, by rw [h]; exact hsl, on1, n0, n1, hv⟩
      · rintro σ' H2 ⟨s2, ⟨y4, y5, y6, rfl⟩, hj⟩
        walk_at "rd"
        apply c_through
        refine q_through.mk P (by omega) s1 (by omega) (by omega) fun n H3 s3 n0 n1 hsl on1 => ?_
        refine good (s2.trans s3) n0 n1 on1 (Bool.eq_false_iff.mpr fun hv => ?_)
        -- p + 1 sets through the seat, each with a fallen one
        have all : ∀ j : Nat, j < p.toNat + 1 → ∃ z, z ∈ ns ∧ ∃ n, (lineOf p n).1 = (j : Int) ∧ on p (s : Int) n = true ∧ on p z n = true ∧ 0 ≤ n ∧ n < p * p + p + 1 := fun j hj' => by
          rcases Nat.lt_succ_iff_lt_or_eq.mp hj' with h | h
          · obtain ⟨m, q1, q2, q3, q4, q5⟩ := hj j h
            obtain ⟨z, hz, oz, _⟩ := h1 m q5
            exact ⟨z, hz, m, q1, q2, oz, q3, q4⟩
          · obtain ⟨z, hz, oz, _⟩ := h1 n hv
            exact ⟨z, hz, n, by rw [hsl]; omega, on1, oz, n0, n1⟩
        have ch : ∃ f : Nat → Int, ∀ j, j < p.toNat + 1 → f j ∈ ns ∧ ∃ n, (lineOf p n).1 = (j : Int) ∧ on p (s : Int) n = true ∧ on p (f j) n = true ∧ 0 ≤ n ∧ n < p * p + p + 1 := by
          refine ⟨fun j => if hj : j < p.toNat + 1 then (all j hj).choose else 0, fun j hj => ?_⟩
          simp only [dif_pos hj]
          exact (all j hj).choose_spec
        obtain ⟨f, hf⟩ := ch
        have := inj_le (f := f) (k := p.toNat + 1) (m := ns) (fun i j hi' hj' e => by
          obtain ⟨hz, n, a1, a2, a3, a4, a5⟩ := hf i hi'
          obtain ⟨_, m, b1, b2, b3, b4, b5⟩ := hf j hj'
          have hz2 := h _ hz
          have ne : (s : Int) ≠ f i := fun e => nin (by rw [e]; exact hz)
          have := line_once P a4 a5 b4 b5 (by omega) (by omega) hz2.1 hz2.2 a2 b2 a3 (by rw [e]; exact b3) ne
          rw [this, b1] at a1
          omega) fun i hi' => (hf i hi').1
        omega
theorem free_bad {K : PySem.W.Frag} {ad : Ad} {p : Int} {a : Addr} {ns : List Int} {H : Hp} {Q : VK} {E : XK} {f : Fault} (X : Xf K ad) (hs : SqL K H a (ns.map V.int)) (e : faultL .seat p ns = some f) (k : ExF ad E H f) : q_free K ad (.int p) (.ref a) H Q E := by
  rcases faultL_some e with ⟨np, rfl⟩ | ⟨P, ms, z, rs, e2, hm, hz, rfl⟩
  · exact .np X np k
  · exact .badz X P e2 hs hm hz k.here

def setsOf (p : Int) : List (List Int) := (List.range (p * p + p + 1).toNat).map fun i : Nat => setOf p (lineOf p (i : Int))
inductive q_plane (K : PySem.W.Frag) (ad : Ad) : V → Hp → VK → XK → Prop
  | mk {p : Int} {H : Hp} {Q : VK} {E : XK} (P : Pr p) (small : p ≤ 7) (k : ∀ r vs H', Same H H' → H' r = some (.lst vs) → TIs H' vs (setsOf p) → Q (.ref r) H') : q_plane K ad (.int p) H Q E
  | bad {p : Int} {H : Hp} {Q : VK} {E : XK} {f : Fault} (X : Xf K ad) (e : fOr (faultL .seat p []) (if 7 < p then some .many else none) = some f) (k : ExF ad E H f) : q_plane K ad (.int p) H Q E
def sp_plane (K : PySem.W.Frag) (ad : Ad) : Sp := fun vs H Q E => match vs with | [x0] => q_plane K ad x0 H Q E | _ => False
theorem c_plane {K : PySem.W.Frag} {ad : Ad} {x0 : V} {H : Hp} {Q : VK} {E : XK} (h : q_plane K ad x0 H Q E) : sp_plane K ad ([x0] ++ []) H Q E := h
theorem d_plane {K : PySem.W.Frag} {ad : Ad} {x0 : V} {H : Hp} {Q : VK} {E : XK} (h : q_plane K ad x0 H Q E) : sp_plane K ad [x0] H Q E := h
theorem n_plane {K : PySem.W.Frag} {ad : Ad} {vs : List V} {H : Hp} {Q : VK} {E : XK} (h : sp_plane K ad vs H Q E) : ∃ x0, vs = [x0] ∧ q_plane K ad x0 H Q E := match vs, h with | [x0], h => ⟨x0, rfl, h⟩
def t_plane (K : PySem.W.Frag) (ad : Ad) (E : XK) : TS := (tSeq (tAsg (tCallS (sp_seats_of K ad) (WE (fun cls d _ H => E cls d H)) (tCons (tVar 0) tNil)) (gName 1))
    (tSeq (tIfS (tTest (tOp zGt (tVar 0) (tC (.int 7)))) (tRaise (tMkO ad.TooMany (sp_TooMany___init__ K ad) [] (tCons (tC (.str "seats")) tNil)) (fun cls d _ H => E cls d H)) tNext)
    (tRet (tLc (iRng1 (tCons (tVar 1) tNil)) (gName 2) tYes (tCall (sp_set_of K ad) [] E0 (tCons (tVar 0) (tCons (tVar 2) tNil))) [2]))))
theorem w_plane {K : PySem.W.Frag} {ad : Ad} {x0 : V} {H : Hp} {Q : VK} {E : XK} (h : q_plane K ad x0 H Q E) : t_plane K ad E ⟨fun _ H' => Q .non H', Q, fun _ _ => False, fun _ _ => False⟩ [some x0, none, none] H := by
  cases h with
  | @mk p _ _ _ P small k =>
    have lo := P.lo
    have pb : p * p ≤ 7 * 7 := Int.mul_le_mul small small (by omega) (by omega)
    have pb0 : 0 ≤ p * p := Int.mul_nonneg (by omega) (by omega)
    unfold t_plane
    walk_at "rd"
    apply d_seats_of
    refine q_seats_of.mk P ?_
    walk_at "rd"
    refine lcR_rel (fun i y H' => ∃ t, y = .ref t ∧ H' t = some (.tup ((setOf p (lineOf p (i : Int))).map V.int))) ⟨fun _ _ _ _ s ⟨t, e, x⟩ => ⟨t, e, s _ _ x⟩, fun i y H1 D acc acc' e _ ⟨t, et, x⟩ => ⟨t, et, by
      rw [upd_ne]
      · exact x
      · intro z
        rw [z, e] at x
        cases x⟩⟩ ⟨by omega, by omega⟩ (fun i hi H2 Q2 SF q => ?_) (fun D H' ys nD SF eD ly hy => ?_)
    · walk_at "rd"
      apply c_set_of
      refine q_set_of.mk P (by omega) (by omega) fun t H3 s3 nt et => ?_
      exact q _ _ s3 (fun b e => .inl (by cases e; exact nt)) ⟨t, rfl, et⟩
    · refine k D ys H' SF eD (paired_of (by rw [ly, setsOf, List.length_map, List.length_range]) fun i y e => ?_)
      obtain ⟨t, rfl, et⟩ := hy i y e
      have il := (List.getElem?_eq_some_iff.mp e).1
      rw [ly] at il
      exact ⟨setOf p (lineOf p (i : Int)), by rw [setsOf, List.getElem?_map, List.getElem?_range il]; rfl, t, rfl, et⟩
  | @bad p _ _ _ f X e k =>
    unfold t_plane
    walk_at "rd"
    apply d_seats_of
    cases h1 : faultL .seat p [] with
    | some f1 =>
      rw [h1] at e
      cases e
      rcases faultL_some h1 with ⟨np, rfl⟩ | ⟨_, ms, z, rs, e2, _⟩
      · exact q_seats_of.bad X np k
      · exact absurd e2 (by simp)
    | none =>
      rw [h1] at e
      obtain ⟨P, _⟩ := faultL_none h1
      refine q_seats_of.mk P ?_
      by_cases h7 : p > 7
      · have e : (if 7 < p then some Fault.many else none) = some f := e
        rw [if_pos h7] at e
        cases e
        walk_at "rd"
        exact mk_TooMany X k.here
      · have e : (if 7 < p then some Fault.many else none) = some f := e
        rw [if_neg h7] at e
        cases e
/-! ### the doors -/
def firstOff (p : Int) (l : List (Bool × Int)) : Option Fault := (l.find? fun x => off p x.2).map fun x => if x.1 = true then .seat x.2 else .set x.2
def kindsOf (door : Int) : List Bool := if door = 1 then [true, false] else if door = 2 then [false] else if door = 3 then [false, false] else if door = 4 then [true, true] else if door = 5 then [true, true] else []
def lastly (door p one other : Int) : Option Fault := if door = 3 ∧ one = other then some (.set other) else if door = 4 ∧ one = other then some (.seat other) else if door = 6 ∧ 7 < p then some .many else none
def fault7 (door p one other : Int) : Option Fault := if tstI p = true then fOr (firstOff p ((kindsOf door).zip [one, other])) (lastly door p one other) else some (.prime p)
theorem f7_0 (p a b : Int) : fault7 0 p a b = faultL .seat p [] := by
  unfold fault7 faultL
  cases tstI p <;> simp [kindsOf, lastly, firstOff, fOr]
theorem f7_1 (p a b : Int) : fault7 1 p a b = fOr (faultL .seat p [a]) (faultL .set p [b]) := by
  unfold fault7 faultL
  cases tstI p <;> cases h : off p a <;> cases h2 : off p b <;> simp [kindsOf, lastly, firstOff, fOr, List.find?, h, h2]
theorem f7_2 (p a b : Int) : fault7 2 p a b = faultL .set p [a] := by
  unfold fault7 faultL
  cases tstI p <;> cases h : off p a <;> simp [kindsOf, lastly, firstOff, fOr, List.find?, h]
theorem f7_3 (p a b : Int) : fault7 3 p a b = fOr (faultL .set p [a, b]) (if a = b then some (.set b) else none) := by
  unfold fault7 faultL
  cases tstI p <;> cases h : off p a <;> cases h2 : off p b <;> simp [kindsOf, lastly, firstOff, fOr, List.find?, h, h2]
theorem f7_4 (p a b : Int) : fault7 4 p a b = fOr (faultL .seat p [a, b]) (if a = b then some (.seat b) else none) := by
  unfold fault7 faultL
  cases tstI p <;> cases h : off p a <;> cases h2 : off p b <;> simp [kindsOf, lastly, firstOff, fOr, List.find?, h, h2]
theorem f7_5 (p a b : Int) : fault7 5 p a b = faultL .seat p [a, b] := by
  unfold fault7 faultL
  cases tstI p <;> cases h : off p a <;> cases h2 : off p b <;> simp [kindsOf, lastly, firstOff, fOr, List.find?, h, h2]
theorem f7_6 (p a b : Int) : fault7 6 p a b = fOr (faultL .seat p []) (if 7 < p then some .many else none) := by
  unfold fault7 faultL
  cases tstI p <;> simp [kindsOf, lastly, firstOff, fOr]
theorem fOr_none {a b : Option Fault} (h : fOr a b = none) : a = none ∧ b = none := by
  cases a with
  | none => exact ⟨rfl, h⟩
  | some f => cases h
def dueD : Option Fault → PyData
  | none => .none
  | some (.prime p) => .tuple [.str "prime", .int p]
  | some (.seat z) => .tuple [.str "seat", .int z]
  | some (.set z) => .tuple [.str "set", .int z]
  | some .many => .tuple [.str "many", .str "seats"]
inductive q__law_call (K : PySem.W.Frag) (ad : Ad) : V → V → V → V → Hp → VK → XK → Prop
  | ok {door p one other : Int} {H : Hp} {Q : VK} {E : XK} (d0 : 0 ≤ door) (d6 : door < 7) (e : fault7 door p one other = none) (k : ∀ v H', Same H H' → Q v H') : q__law_call K ad (.int door) (.int p) (.int one) (.int other) H Q E
  | bad {door p one other : Int} {H : Hp} {Q : VK} {E : XK} {f : Fault} (X : Xf K ad) (d0 : 0 ≤ door) (d6 : door < 7) (e : fault7 door p one other = some f) (k : ExF ad E H f) : q__law_call K ad (.int door) (.int p) (.int one) (.int other) H Q E
def sp__law_call (K : PySem.W.Frag) (ad : Ad) : Sp := fun vs H Q E => match vs with | [x0, x1, x2, x3] => q__law_call K ad x0 x1 x2 x3 H Q E | _ => False
theorem c__law_call {K : PySem.W.Frag} {ad : Ad} {x0 x1 x2 x3 : V} {H : Hp} {Q : VK} {E : XK} (h : q__law_call K ad x0 x1 x2 x3 H Q E) : sp__law_call K ad ([x0, x1, x2, x3] ++ []) H Q E := h
theorem d__law_call {K : PySem.W.Frag} {ad : Ad} {x0 x1 x2 x3 : V} {H : Hp} {Q : VK} {E : XK} (h : q__law_call K ad x0 x1 x2 x3 H Q E) : sp__law_call K ad [x0, x1, x2, x3] H Q E := h
theorem n__law_call {K : PySem.W.Frag} {ad : Ad} {vs : List V} {H : Hp} {Q : VK} {E : XK} (h : sp__law_call K ad vs H Q E) : ∃ x0 x1 x2 x3, vs = [x0, x1, x2, x3] ∧ q__law_call K ad x0 x1 x2 x3 H Q E := match vs, h with | [x0, x1, x2, x3], h => ⟨x0, x1, x2, x3, rfl, h⟩
def t__law_call (K : PySem.W.Frag) (ad : Ad) (E : XK) : TS := (tSeq (tIfS (tTest (tOp (zEq K) (tVar 0) (tC (.int 0)))) (tRet (tCallS (sp_seats_of K ad) (WE (fun cls d _ H => E cls d H)) (tCons (tVar 1) tNil))) tNext)
    (tSeq (tIfS (tTest (tOp (zEq K) (tVar 0) (tC (.int 1)))) (tRet (tCallS (sp_lies K ad) (WE (fun cls d _ H => E cls d H)) (tCons (tVar 1) (tCons (tVar 2) (tCons (tVar 3) tNil))))) tNext)
    (tSeq (tIfS (tTest (tOp (zEq K) (tVar 0) (tC (.int 2)))) (tRet (tCallS (sp_set_of K ad) (WE (fun cls d _ H => E cls d H)) (tCons (tVar 1) (tCons (tVar 2) tNil)))) tNext)
    (tSeq (tIfS (tTest (tOp (zEq K) (tVar 0) (tC (.int 3)))) (tRet (tCallS (sp_shared K ad) (WE (fun cls d _ H => E cls d H)) (tCons (tVar 1) (tCons (tVar 2) (tCons (tVar 3) tNil))))) tNext)
    (tSeq (tIfS (tTest (tOp (zEq K) (tVar 0) (tC (.int 4)))) (tRet (tCallS (sp_holding K ad) (WE (fun cls d _ H => E cls d H)) (tCons (tVar 1) (tCons (tVar 2) (tCons (tVar 3) tNil))))) tNext)
    (tSeq (tIfS (tTest (tOp (zEq K) (tVar 0) (tC (.int 5)))) (tRet (tCallS (sp_free K ad) (WE (fun cls d _ H => E cls d H)) (tCons (tVar 1) (tCons (tLst (tCons (tVar 2) (tCons (tVar 3) tNil))) tNil)))) tNext)
    (tRet (tCallS (sp_plane K ad) (WE (fun cls d _ H => E cls d H)) (tCons (tVar 1) tNil)))))))))
theorem w__law_call {K : PySem.W.Frag} {ad : Ad} {x0 x1 x2 x3 : V} {H : Hp} {Q : VK} {E : XK} (h : q__law_call K ad x0 x1 x2 x3 H Q E) : t__law_call K ad E ⟨fun _ H' => Q .non H', Q, fun _ _ => False, fun _ _ => False⟩ [some x0, some x1, some x2, some x3] H := by
  cases h with
  | @ok door p one other _ _ _ d0 d6 e k =>
    have hd : door = 0 ∨ door = 1 ∨ door = 2 ∨ door = 3 ∨ door = 4 ∨ door = 5 ∨ door = 6 := by omega
    unfold t__law_call
    rcases hd with rfl | rfl | rfl | rfl | rfl | rfl | rfl
    · rw [f7_0] at e
      obtain ⟨P, _⟩ := faultL_none e
      walk_at "rd"
      apply d_seats_of
      exact q_seats_of.mk P (k _ _ (Same.refl H))
    · rw [f7_1] at e
      obtain ⟨e1, e2⟩ := fOr_none e
      obtain ⟨P, h1⟩ := faultL_none e1
      obtain ⟨_, h2⟩ := faultL_none e2
      have h1 := h1 one List.mem_cons_self
      have h2 := h2 other List.mem_cons_self
      walk_at "rd"
      apply d_lies
      exact q_lies.mk P h1.1 h1.2 h2.1 h2.2 fun H' s => k _ _ s
    · rw [f7_2] at e
      obtain ⟨P, h1⟩ := faultL_none e
      have h1 := h1 one List.mem_cons_self
      walk_at "rd"
      apply d_set_of
      exact q_set_of.mk P h1.1 h1.2 fun t H' s _ _ => k _ _ s
    · rw [f7_3] at e
      obtain ⟨e1, e2⟩ := fOr_none e
      obtain ⟨P, h1⟩ := faultL_none e1
      have h2 := h1 other (List.mem_cons_of_mem _ List.mem_cons_self)
      have h1 := h1 one List.mem_cons_self
      have ne : one ≠ other := fun z => by
        rw [if_pos z] at e2
        cases e2
      walk_at "rd"
      apply d_shared
      exact q_shared.mk P h1.1 h1.2 h2.1 h2.2 ne fun t H' s _ _ _ _ => k _ _ s
    · rw [f7_4] at e
      obtain ⟨e1, e2⟩ := fOr_none e
      obtain ⟨P, h1⟩ := faultL_none e1
      have h2 := h1 other (List.mem_cons_of_mem _ List.mem_cons_self)
      have h1 := h1 one List.mem_cons_self
      have ne : one ≠ other := fun z => by
        rw [if_pos z] at e2
        cases e2
      walk_at "rd"
      apply d_holding
      exact q_holding.mk P h1.1 h1.2 h2.1 h2.2 ne fun t H' s _ _ _ _ => k _ _ s
    · rw [f7_5] at e
      obtain ⟨P, h1⟩ := faultL_none e
      have lo := P.lo
      walk_at "rd"
      refine o_new (by walk_at "len") fun u nu => ?_
      walk_at "rd"
      apply d_free
      exact q_free.mk (ns := [one, other]) P (SqL.of upd_same) h1 (by simpa using lo) fun n H' s _ _ _ => k _ _ (Same.trans (up_keep nu) s)
    · rw [f7_6] at e
      obtain ⟨e1, e2⟩ := fOr_none e
      obtain ⟨P, _⟩ := faultL_none e1
      have small : p ≤ 7 := by
        by_cases z : 7 < p
        · rw [if_pos z] at e2
          cases e2
        · omega
      walk_at "rd"
      apply d_plane
      exact q_plane.mk P small fun r vs H' s _ _ => k _ _ s
  | @bad door p one other _ _ _ f X d0 d6 e k =>
    have hd : door = 0 ∨ door = 1 ∨ door = 2 ∨ door = 3 ∨ door = 4 ∨ door = 5 ∨ door = 6 := by omega
    unfold t__law_call
    rcases hd with rfl | rfl | rfl | rfl | rfl | rfl | rfl
    · rw [f7_0] at e
      walk_at "rd"
      apply d_seats_of
      rcases faultL_some e with ⟨np, rfl⟩ | ⟨_, ms, z, rs, e2, _⟩
      · exact q_seats_of.bad X np k
      · exact absurd e2 (by simp)
    · rw [f7_1] at e
      walk_at "rd"
      apply d_lies
      exact q_lies.bad X e k
    · rw [f7_2] at e
      walk_at "rd"
      apply d_set_of
      exact q_set_of.bad X e k
    · rw [f7_3] at e
      walk_at "rd"
      apply d_shared
      exact q_shared.bad X e k
    · rw [f7_4] at e
      walk_at "rd"
      apply d_holding
      exact q_holding.bad X e k
    · rw [f7_5] at e
      walk_at "rd"
      refine o_new (by walk_at "len") fun u nu => ?_
      walk_at "rd"
      apply d_free
      exact free_bad (ns := [one, other]) X (SqL.of upd_same) e (k.mono (up_keep nu))
    · rw [f7_6] at e
      walk_at "rd"
      apply d_plane
      exact q_plane.bad X e k

inductive q__law_met (K : PySem.W.Frag) (ad : Ad) : V → V → V → V → Hp → VK → Prop
  | mk {door p one other : Int} {H : Hp} {Q : VK} (X : Xf K ad) (d0 : 0 ≤ door) (d6 : door < 7) (k : ∀ v H', Same H H' → Dp K H' v (dueD (fault7 door p one other)) → Q v H') : q__law_met K ad (.int door) (.int p) (.int one) (.int other) H Q
theorem dp_pair {K : PySem.W.Frag} {H : Hp} {t : Addr} {w : Str} {z : Int} (e : H t = some (.tup [.str w, .int z])) : Dp K H (.ref t) (.tuple [.str w, .int z]) := .tup (SqT.of e) (.cons (.str _) (.cons (.int _) .nil))
def sp__law_met (K : PySem.W.Frag) (ad : Ad) : Sp := fun vs H Q _ => match vs with | [x0, x1, x2, x3] => q__law_met K ad x0 x1 x2 x3 H Q | _ => False
theorem c__law_met {K : PySem.W.Frag} {ad : Ad} {x0 x1 x2 x3 : V} {H : Hp} {Q : VK} {E : XK} (h : q__law_met K ad x0 x1 x2 x3 H Q) : sp__law_met K ad ([x0, x1, x2, x3] ++ []) H Q E := h
theorem n__law_met {K : PySem.W.Frag} {ad : Ad} {vs : List V} {H : Hp} {Q : VK} {E : XK} (h : sp__law_met K ad vs H Q E) : ∃ x0 x1 x2 x3, vs = [x0, x1, x2, x3] ∧ q__law_met K ad x0 x1 x2 x3 H Q := match vs, h with | [x0, x1, x2, x3], h => ⟨x0, x1, x2, x3, rfl, h⟩
def t__law_met (K : PySem.W.Frag) (ad : Ad) : TS := (tSeq (tTryAsN K [((.ref ad.SoleError), 4, fun a cls d => (tSeq (tAsg (tLst (tCons (tCB (zIsX K a cls d) (tCons (tVar 4) (tCons (tC (.ref ad.NoSeat)) tNil))) (tCons (tCB (zIsX K a cls d) (tCons (tVar 4) (tCons (tC (.ref ad.NoSet)) tNil))) (tCons (tCB (zIsX K a cls d) (tCons (tVar 4) (tCons (tC (.ref ad.TooMany)) tNil))) (tCons (tCB (zIsX K a cls d) (tCons (tVar 4) (tCons (tC (.ref ad.TooManyFallen)) tNil))) tNil))))) (gName 5))
    (tSeq (tIfS (tOr (tTest (tOp (zNe K) (tBM K "list" (rCntB K) (tVar 5) (tCons (tC (.bl true)) tNil)) (tC (.int 1)))) (tOr (tNot (zTru K (tCB (zIsX K a cls d) (tCons (tVar 4) (tCons (tC (.ty "ValueError")) tNil))))) (zTru K (tCB (zIsX K a cls d) (tCons (tVar 4) (tCons (tTup (tCons (tC (.ref ad.Apart)) (tCons (tC (.ref ad.NoFamily)) (tCons (tC (.ref ad.NoShape)) tNil)))) tNil)))))) (tRet (tTup (tCons (tC (.str "odd")) (tCons (tC (.int 0)) tNil)))) tNext)
    (tSeq (tIfS (zTru K (tOp (rIx K) (tVar 5) (tC (.int 0)))) (tRet (tTup (tCons (tC (.str "seat")) (tCons (tXfA K a cls d "seat" (tVar 4)) tNil)))) tNext)
    (tSeq (tIfS (zTru K (tOp (rIx K) (tVar 5) (tC (.int 1)))) (tRet (tTup (tCons (tC (.str "set")) (tCons (tXfA K a cls d "number" (tVar 4)) tNil)))) tNext)
    (tRet (tIf (zTru K (tOp (rIx K) (tVar 5) (tC (.int 2)))) (tTup (tCons (tC (.str "many")) (tCons (tXfA K a cls d "what" (tVar 4)) tNil))) (tTup (tCons (tC (.str "fallen")) (tCons (tXfA K a cls d "many" (tVar 4)) tNil)))))))))), ((.ref ad.NotPrime), 4, fun a cls d => (tRet (tIf (zTru K (tCB (zIsX K a cls d) (tCons (tVar 4) (tCons (tC (.ty "ArithmeticError")) tNil)))) (tTup (tCons (tC (.str "prime")) (tCons (tXfA K a cls d "number" (tVar 4)) tNil))) (tTup (tCons (tC (.str "odd")) (tCons (tC (.int 1)) tNil))))))] (fun W => (tDrop (tCallS (sp__law_call K ad) (WE W) (tCons (tVar 0) (tCons (tVar 1) (tCons (tVar 2) (tCons (tVar 3) tNil))))))) (fun _ _ _ _ => False))
    (tRet (tC .non)))
theorem w__law_met {K : PySem.W.Frag} {ad : Ad} {x0 x1 x2 x3 : V} {H : Hp} {Q : VK} (h : q__law_met K ad x0 x1 x2 x3 H Q) : t__law_met K ad ⟨fun _ H' => Q .non H', Q, fun _ _ => False, fun _ _ => False⟩ [some x0, some x1, some x2, some x3, none, none] H := by
  cases h with
  | @mk door p one other _ _ X d0 d6 k =>
    unfold t__law_met
    walk_at "rd"
    refine s_tryN ?_
    walk_at "rd"
    apply d__law_call
    cases hf : fault7 door p one other with
    | none =>
      refine q__law_call.ok d0 d6 hf fun v H1 s1 => ?_
      rw [hf] at k
      walk_at "rd"
      exact k .non H1 s1 .non
    | some f =>
      rw [hf] at k
      refine q__law_call.bad X d0 d6 hf fun H1 d s1 nd => ?_
      have s2 : Same H1 (upd H1 d (.xd f.fs)) := up_keep nd
      have ed := upd_same (H := H1) (a := d) (o := .xd f.fs)
      generalize upd H1 d (.xd f.fs) = H2 at *
      have S2 := s1.trans s2
      clear s1 s2 nd hf
      cases f with
      | prime z =>
        have ed : H2 d = some (.xd [("number", .int z)]) := ed
        refine as_no X.m_NotPrime_SoleError ?_
        refine as_yes X.m_NotPrime_NotPrime fun b nb => ?_
        walk_at "rd"
        refine x_is X.e_NotPrime ed (.ty _) X.k_NotPrime_ArithmeticError ?_
        walk_at "rd"
        refine xf_ X.e_NotPrime X.n_NotPrime_number ed (v := .int z) rfl ?_
        walk_at "rd"
        refine o_new (by walk_at "len") fun u nu => ?_
        walk_at "rd"
        exact k _ _ (S2.trans (up_keep nu)) (dp_pair upd_same)
      | seat z =>
        have ed : H2 d = some (.xd [("seat", .int z)]) := ed
        refine as_yes X.m_NoSeat_SoleError fun b nb => ?_
        walk_at "rd"
        refine x_is X.e_NoSeat ed (.own _) X.k_NoSeat_NoSeat ?_
        walk_at "rd"
        refine x_is X.e_NoSeat ed (.own _) X.k_NoSeat_NoSet ?_
        walk_at "rd"
        refine x_is X.e_NoSeat ed (.own _) X.k_NoSeat_TooMany ?_
        walk_at "rd"
        refine x_is X.e_NoSeat ed (.own _) X.k_NoSeat_TooManyFallen ?_
        walk_at "rd"
        refine o_new (by walk_at "len") fun l nl => ?_
        have s3 : Same H2 (upd H2 l (.lst [.bl true, .bl false, .bl false, .bl false])) := up_keep nl
        have el := upd_same (H := H2) (a := l) (o := .lst [.bl true, .bl false, .bl false, .bl false])
        have ed := s3 _ _ ed
        generalize upd H2 l (.lst [.bl true, .bl false, .bl false, .bl false]) = H3 at *
        have S2 := S2.trans s3
        walk_at "rd"
        refine ⟨ty_list (SqL.of el), ?_⟩
        walk_at "rd"
        refine m_cntB (bs := [true, false, false, false]) (SqL.of el) ?_
        have cn : (([true, false, false, false].count true : Nat) : Int) = 1 := by decide
        rw [cn]
        walk_at "rd"
        refine x_is X.e_NoSeat ed (.ty _) X.k_NoSeat_ValueError ?_
        walk_at "rd"
        refine o_new (by walk_at "len") fun t nt => ?_
        have s4 : Same H3 (upd H3 t (.tup [.ref ad.Apart, .ref ad.NoFamily, .ref ad.NoShape])) := up_keep nt
        have et := upd_same (H := H3) (a := t) (o := .tup [.ref ad.Apart, .ref ad.NoFamily, .ref ad.NoShape])
        have ed := s4 _ _ ed
        have el := s4 _ _ el
        generalize upd H3 t (.tup [.ref ad.Apart, .ref ad.NoFamily, .ref ad.NoShape]) = H4 at *
        have S2 := S2.trans s4
        refine x_isT X.e_NoSeat ed et (.cons (.own _) (.cons (.own _) (.cons (.own _) .nil))) (kit_any1 X.k_NoSeat_Apart (kit_any1 X.k_NoSeat_NoFamily (kit_any1 X.k_NoSeat_NoShape rfl))) ?_
        walk_at "rd"
        refine xf_ X.e_NoSeat X.n_NoSeat_seat ed (v := .int z) rfl ?_
        walk_at "rd"
        refine o_new (by walk_at "len") fun u nu => ?_
        walk_at "rd"
        exact k _ _ (S2.trans (up_keep nu)) (dp_pair upd_same)
      | set z =>
        have ed : H2 d = some (.xd [("number", .int z)]) := ed
        refine as_yes X.m_NoSet_SoleError fun b nb => ?_
        walk_at "rd"
        refine x_is X.e_NoSet ed (.own _) X.k_NoSet_NoSeat ?_
        walk_at "rd"
        refine x_is X.e_NoSet ed (.own _) X.k_NoSet_NoSet ?_
        walk_at "rd"
        refine x_is X.e_NoSet ed (.own _) X.k_NoSet_TooMany ?_
        walk_at "rd"
        refine x_is X.e_NoSet ed (.own _) X.k_NoSet_TooManyFallen ?_
        walk_at "rd"
        refine o_new (by walk_at "len") fun l nl => ?_
        have s3 : Same H2 (upd H2 l (.lst [.bl false, .bl true, .bl false, .bl false])) := up_keep nl
        have el := upd_same (H := H2) (a := l) (o := .lst [.bl false, .bl true, .bl false, .bl false])
        have ed := s3 _ _ ed
        generalize upd H2 l (.lst [.bl false, .bl true, .bl false, .bl false]) = H3 at *
        have S2 := S2.trans s3
        walk_at "rd"
        refine ⟨ty_list (SqL.of el), ?_⟩
        walk_at "rd"
        refine m_cntB (bs := [false, true, false, false]) (SqL.of el) ?_
        have cn : (([false, true, false, false].count true : Nat) : Int) = 1 := by decide
        rw [cn]
        walk_at "rd"
        refine x_is X.e_NoSet ed (.ty _) X.k_NoSet_ValueError ?_
        walk_at "rd"
        refine o_new (by walk_at "len") fun t nt => ?_
        have s4 : Same H3 (upd H3 t (.tup [.ref ad.Apart, .ref ad.NoFamily, .ref ad.NoShape])) := up_keep nt
        have et := upd_same (H := H3) (a := t) (o := .tup [.ref ad.Apart, .ref ad.NoFamily, .ref ad.NoShape])
        have ed := s4 _ _ ed
        have el := s4 _ _ el
        generalize upd H3 t (.tup [.ref ad.Apart, .ref ad.NoFamily, .ref ad.NoShape]) = H4 at *
        have S2 := S2.trans s4
        refine x_isT X.e_NoSet ed et (.cons (.own _) (.cons (.own _) (.cons (.own _) .nil))) (kit_any1 X.k_NoSet_Apart (kit_any1 X.k_NoSet_NoFamily (kit_any1 X.k_NoSet_NoShape rfl))) ?_
        walk_at "rd"
        refine xf_ X.e_NoSet X.n_NoSet_number ed (v := .int z) rfl ?_
        walk_at "rd"
        refine o_new (by walk_at "len") fun u nu => ?_
        walk_at "rd"
        exact k _ _ (S2.trans (up_keep nu)) (dp_pair upd_same)
      | many => 
        have ed : H2 d = some (.xd [("what", .str "seats")]) := ed
        refine as_yes X.m_TooMany_SoleError fun b nb => ?_
        walk_at "rd"
        refine x_is X.e_TooMany ed (.own _) X.k_TooMany_NoSeat ?_
        walk_at "rd"
        refine x_is X.e_TooMany ed (.own _) X.k_TooMany_NoSet ?_
        walk_at "rd"
        refine x_is X.e_TooMany ed (.own _) X.k_TooMany_TooMany ?_
        walk_at "rd"
        refine x_is X.e_TooMany ed (.own _) X.k_TooMany_TooManyFallen ?_
        walk_at "rd"
        refine o_new (by walk_at "len") fun l nl => ?_
        have s3 : Same H2 (upd H2 l (.lst [.bl false, .bl false, .bl true, .bl false])) := up_keep nl
        have el := upd_same (H := H2) (a := l) (o := .lst [.bl false, .bl false, .bl true, .bl false])
        have ed := s3 _ _ ed
        generalize upd H2 l (.lst [.bl false, .bl false, .bl true, .bl false]) = H3 at *
        have S2 := S2.trans s3
        walk_at "rd"
        refine ⟨ty_list (SqL.of el), ?_⟩
        walk_at "rd"
        refine m_cntB (bs := [false, false, true, false]) (SqL.of el) ?_
        have cn : (([false, false, true, false].count true : Nat) : Int) = 1 := by decide
        rw [cn]
        walk_at "rd"
        refine x_is X.e_TooMany ed (.ty _) X.k_TooMany_ValueError ?_
        walk_at "rd"
        refine o_new (by walk_at "len") fun t nt => ?_
        have s4 : Same H3 (upd H3 t (.tup [.ref ad.Apart, .ref ad.NoFamily, .ref ad.NoShape])) := up_keep nt
        have et := upd_same (H := H3) (a := t) (o := .tup [.ref ad.Apart, .ref ad.NoFamily, .ref ad.NoShape])
        have ed := s4 _ _ ed
        have el := s4 _ _ el
        generalize upd H3 t (.tup [.ref ad.Apart, .ref ad.NoFamily, .ref ad.NoShape]) = H4 at *
        have S2 := S2.trans s4
        refine x_isT X.e_TooMany ed et (.cons (.own _) (.cons (.own _) (.cons (.own _) .nil))) (kit_any1 X.k_TooMany_Apart (kit_any1 X.k_TooMany_NoFamily (kit_any1 X.k_TooMany_NoShape rfl))) ?_
        walk_at "rd"
        refine xf_ X.e_TooMany X.n_TooMany_what ed (v := .str "seats") rfl ?_
        walk_at "rd"
        refine o_new (by walk_at "len") fun u nu => ?_
        walk_at "rd"
        exact k _ _ (S2.trans (up_keep nu)) (.tup (SqT.of upd_same) (.cons (.str _) (.cons (.str _) .nil)))

theorem tstI_nat {n : Nat} (lo : ¬ (n : Int) < 2) (hi : ¬ (n : Int) > 9973) : tstI (n : Int) = tst n := by
  unfold tstI
  rw [decide_eq_true (by omega : 2 ≤ (n : Int)), decide_eq_true (by omega : (n : Int) ≤ 9973), Int.toNat_natCast]
  rfl
inductive q__law_is_prime (K : PySem.W.Frag) (ad : Ad) : V → Hp → VK → Prop
  | mk {n : Int} {H : Hp} {Q : VK} (k : Q (.bl (tstI n)) H) : q__law_is_prime K ad (.int n) H Q
def sp__law_is_prime (K : PySem.W.Frag) (ad : Ad) : Sp := fun vs H Q _ => match vs with | [x0] => q__law_is_prime K ad x0 H Q | _ => False
theorem c__law_is_prime {K : PySem.W.Frag} {ad : Ad} {x0 : V} {H : Hp} {Q : VK} {E : XK} (h : q__law_is_prime K ad x0 H Q) : sp__law_is_prime K ad ([x0] ++ []) H Q E := h
theorem n__law_is_prime {K : PySem.W.Frag} {ad : Ad} {vs : List V} {H : Hp} {Q : VK} {E : XK} (h : sp__law_is_prime K ad vs H Q E) : ∃ x0, vs = [x0] ∧ q__law_is_prime K ad x0 H Q := match vs, h with | [x0], h => ⟨x0, rfl, h⟩
def t__law_is_prime (K : PySem.W.Frag) (ad : Ad) : TS := (tSeq (tIfS (tOr (tTest (tOp (zLt K) (tVar 0) (tC (.int 2)))) (tTest (tOp zGt (tVar 0) (tC (.int 9973))))) (tRet (tC (.bl false))) tNext)
    (tSeq (tFor (iRng2 (tCons (tC (.int 2)) (tCons (tC (.int 100)) tNil))) (gName 1)
    (tIfS (tAnd (tTest (tOp zLe (tOp zMul (tVar 1) (tVar 1)) (tVar 0))) (tTest (tOp (zEq K) (tOp zMod (tVar 0) (tVar 1)) (tC (.int 0))))) (tRet (tC (.bl false))) tNext))
    (tRet (tC (.bl true)))))
theorem w__law_is_prime {K : PySem.W.Frag} {ad : Ad} {x0 : V} {H : Hp} {Q : VK} (h : q__law_is_prime K ad x0 H Q) : t__law_is_prime K ad ⟨fun _ H' => Q .non H', Q, fun _ _ => False, fun _ _ => False⟩ [some x0, none] H := by
  cases h with
  | @mk n _ _ k =>
    unfold t__law_is_prime
    by_cases lo : n < 2
    · have : tstI n = false := by
        unfold tstI
        rw [decide_eq_false (by omega)]
        rfl
      rw [this] at k
      walk_at "rd"
      exact k
    by_cases hi : n > 9973
    · have : tstI n = false := by
        unfold tstI
        rw [decide_eq_false (by omega : ¬ n ≤ 9973), Bool.and_false]
        rfl
      rw [this] at k
      walk_at "rd"
      exact k
    obtain ⟨n, rfl⟩ : ∃ m : Nat, n = (m : Int) := ⟨n.toNat, by omega⟩
    rw [tstI_nat lo hi] at k
    walk_at "rd"
    refine lp_range2 (by omega) (fun i σ' H' => H' = H ∧ (∃ y1, σ' = [some (.int n), y1]) ∧ ∀ j : Nat, j < i → ¬ ((j + 2) * (j + 2) ≤ n ∧ n % (j + 2) = 0)) ⟨rfl, ⟨_, rfl⟩, by omega⟩ ?_ ?_
    · rintro i σ' H' hi ⟨rfl, ⟨y1, rfl⟩, ok⟩
      have e0 : (2 : Int) + (i : Int) = ((i + 2 : Nat) : Int) := by omega
      have e1 : ((i + 2 : Nat) : Int) * ((i + 2 : Nat) : Int) = (((i + 2) * (i + 2) : Nat) : Int) := (Int.natCast_mul _ _).symm
      have e2 : (n : Int) % ((i + 2 : Nat) : Int) = ((n % (i + 2) : Nat) : Int) := rfl
      rw [e0]
      walk_at "rd"
      rw [e1]
      walk_at "if"
      · rename_i h1
        walk_at "rd"
        rw [e2]
        walk_at "if"
        · rename_i h2
          walk_at "rd"
          have : tst n = false := Bool.eq_false_iff.mpr fun z => by
            have := List.all_eq_true.mp z i (List.mem_range.mpr (by omega))
            rw [decide_eq_true (show (i + 2) * (i + 2) ≤ n by omega), decide_eq_true (show n % (i + 2) = 0 by omega)] at this
            cases this
          rw [this] at k
          exact k
        · rename_i h2
          walk_at "rd"
          refine ⟨rfl, ⟨_, rfl⟩, fun j hj => ?_⟩
          by_cases e : j = i
          · subst e
            rintro ⟨_, z⟩
            exact h2 (by omega)
          · exact ok j (by omega)
      · rename_i h1
        walk_at "rd"
        refine ⟨rfl, ⟨_, rfl⟩, fun j hj => ?_⟩
        by_cases e : j = i
        · subst e
          rintro ⟨z, _⟩
          exact h1 (by omega)
        · exact ok j (by omega)
    · rintro σ' H' ⟨rfl, ⟨y1, rfl⟩, ok⟩
      walk_at "rd"
      have : tst n = true := List.all_eq_true.mpr fun i hi => by
        have := ok i (by have := List.mem_range.mp hi; omega)
        rw [← Bool.decide_and, decide_eq_false this]
        rfl
      rw [this] at k
      exact k
def wordOf : Bool → Str
  | true => "seat"
  | false => "set"
inductive q__law_due (K : PySem.W.Frag) (ad : Ad) : V → V → V → V → Hp → VK → Prop
  | mk {door p one other : Int} {H : Hp} {Q : VK} (d0 : 0 ≤ door) (d6 : door < 7) (k : ∀ v H', Same H H' → Dp K H' v (dueD (fault7 door p one other)) → Q v H') : q__law_due K ad (.int door) (.int p) (.int one) (.int other) H Q
def sp__law_due (K : PySem.W.Frag) (ad : Ad) : Sp := fun vs H Q _ => match vs with | [x0, x1, x2, x3] => q__law_due K ad x0 x1 x2 x3 H Q | _ => False
theorem c__law_due {K : PySem.W.Frag} {ad : Ad} {x0 x1 x2 x3 : V} {H : Hp} {Q : VK} {E : XK} (h : q__law_due K ad x0 x1 x2 x3 H Q) : sp__law_due K ad ([x0, x1, x2, x3] ++ []) H Q E := h
theorem n__law_due {K : PySem.W.Frag} {ad : Ad} {vs : List V} {H : Hp} {Q : VK} {E : XK} (h : sp__law_due K ad vs H Q E) : ∃ x0 x1 x2 x3, vs = [x0, x1, x2, x3] ∧ q__law_due K ad x0 x1 x2 x3 H Q := match vs, h with | [x0, x1, x2, x3], h => ⟨x0, x1, x2, x3, rfl, h⟩
def t__law_due (K : PySem.W.Frag) (ad : Ad) : TS := (tSeq (tIfS (tNot (zTru K (tCall (sp__law_is_prime K ad) [] E0 (tCons (tVar 1) tNil)))) (tRet (tTup (tCons (tC (.str "prime")) (tCons (tVar 1) tNil)))) tNext)
    (tSeq (tAsg (tOp (zAdd K) (tOp zMul (tVar 1) (tVar 1)) (tVar 1)) (gName 4))
    (Evl.tCut (tAsg (tOp (rIx K) (tLst (tCons (tLst tNil) (tCons (tLst (tCons (tC (.str "seat")) (tCons (tC (.str "set")) tNil))) (tCons (tLst (tCons (tC (.str "set")) tNil)) (tCons (tLst (tCons (tC (.str "set")) (tCons (tC (.str "set")) tNil))) (tCons (tLst (tCons (tC (.str "seat")) (tCons (tC (.str "seat")) tNil))) (tCons (tLst (tCons (tC (.str "seat")) (tCons (tC (.str "seat")) tNil))) (tCons (tLst tNil) tNil)))))))) (tVar 0)) (gName 5))
    (tSeq (tFor (iRng1 (tCons (tCB (zLen K) (tCons (tVar 5) tNil)) tNil)) (gName 6)
    (tSeq (tAsg (tOp (rIx K) (tLst (tCons (tVar 2) (tCons (tVar 3) tNil))) (tVar 6)) (gName 7))
    (tIfS (tOr (tTest (tOp (zLt K) (tVar 7) (tC (.int 0)))) (tTest (tOp zGt (tVar 7) (tVar 4)))) (tRet (tTup (tCons (tOp (rIx K) (tVar 5) (tVar 6)) (tCons (tVar 7) tNil)))) tNext)))
    (tSeq (tIfS (tAnd (tTest (tOp (zIn K) (tVar 0) (tTup (tCons (tC (.int 3)) (tCons (tC (.int 4)) tNil))))) (tTest (tOp (zEq K) (tVar 2) (tVar 3)))) (tRet (tTup (tCons (tOp (rIx K) (tVar 5) (tC (.int 1))) (tCons (tVar 3) tNil)))) tNext)
    (tSeq (tIfS (tAnd (tTest (tOp (zEq K) (tVar 0) (tC (.int 6)))) (tTest (tOp zGt (tVar 1) (tC (.int 7))))) (tRet (tTup (tCons (tC (.str "many")) (tCons (tC (.str "seats")) tNil)))) tNext)
    (tRet (tC .non))))))))
theorem w__law_due {K : PySem.W.Frag} {ad : Ad} {x0 x1 x2 x3 : V} {H : Hp} {Q : VK} (h : q__law_due K ad x0 x1 x2 x3 H Q) : t__law_due K ad ⟨fun _ H' => Q .non H', Q, fun _ _ => False, fun _ _ => False⟩ [some x0, some x1, some x2, some x3, none, none, none, none] H := by
  cases h with
  | @mk door p one other _ _ d0 d6 k =>
    have hd : door = 0 ∨ door = 1 ∨ door = 2 ∨ door = 3 ∨ door = 4 ∨ door = 5 ∨ door = 6 := by omega
    unfold t__law_due
    walk_at "rd"
    apply c__law_is_prime
    apply q__law_is_prime.mk
    cases hp : tstI p with
    | false =>
      have e : fault7 door p one other = some (.prime p) := by
        unfold fault7
        rw [hp]
        rfl
      rw [e] at k
      walk_at "rd"
      refine o_new (by walk_at "len") fun u nu => ?_
      walk_at "rd"
      exact k _ _ (up_keep nu) (dp_pair upd_same)
    | true =>
      have e7 : fault7 door p one other = fOr (firstOff p ((kindsOf door).zip [one, other])) (lastly door p one other) := by
        unfold fault7
        rw [hp]
        rfl
      rw [e7] at k
      clear e7
      have P := tstI_pr hp
      have lo := P.lo
      have hi := P.hi
      walk_at "rd"
      refine s_cut (fun σ' H' => ∃ wl, σ' = [some (.int door), some (.int p), some (.int one), some (.int other), some (.int (p * p + p)), some (.ref wl), none, none] ∧ Same H H' ∧ H' wl = some (.lst ((kindsOf door).map fun b => .str (wordOf b)))) ?_ ?_
      · walk_at "rd"
        refine o_new (Nat.zero_le _) fun a0 n0 => ?_
        have s0 : Same H (upd H a0 (.lst [])) := up_keep n0
        have e0 := upd_same (H := H) (a := a0) (o := .lst [])
        generalize upd H a0 (.lst []) = H0 at *
        walk_at "rd"
        refine o_new (by walk_at "len") fun a1 n1 => ?_
        have s1 : Same H0 (upd H0 a1 (.lst [.str "seat", .str "set"])) := up_keep n1
        have e1 := upd_same (H := H0) (a := a1) (o := .lst [.str "seat", .str "set"])
        generalize upd H0 a1 (.lst [.str "seat", .str "set"]) = H1 at *
        walk_at "rd"
        refine o_new (by walk_at "len") fun a2 n2 => ?_
        have s2 : Same H1 (upd H1 a2 (.lst [.str "set"])) := up_keep n2
        have e2 := upd_same (H := H1) (a := a2) (o := .lst [.str "set"])
        generalize upd H1 a2 (.lst [.str "set"]) = H2 at *
        walk_at "rd"
        refine o_new (by walk_at "len") fun a3 n3 => ?_
        have s3 : Same H2 (upd H2 a3 (.lst [.str "set", .str "set"])) := up_keep n3
        have e3 := upd_same (H := H2) (a := a3) (o := .lst [.str "set", .str "set"])
        generalize upd H2 a3 (.lst [.str "set", .str "set"]) = H3 at *
        walk_at "rd"
        refine o_new (by walk_at "len") fun a4 n4 => ?_
        have s4 : Same H3 (upd H3 a4 (.lst [.str "seat", .str "seat"])) := up_keep n4
        have e4 := upd_same (H := H3) (a := a4) (o := .lst [.str "seat", .str "seat"])
        generalize upd H3 a4 (.lst [.str "seat", .str "seat"]) = H4 at *
        walk_at "rd"
        refine o_new (by walk_at "len") fun a5 n5 => ?_
        have s5 : Same H4 (upd H4 a5 (.lst [.str "seat", .str "seat"])) := up_keep n5
        have e5 := upd_same (H := H4) (a := a5) (o := .lst [.str "seat", .str "seat"])
        generalize upd H4 a5 (.lst [.str "seat", .str "seat"]) = H5 at *
        walk_at "rd"
        refine o_new (Nat.zero_le _) fun a6 n6 => ?_
        have s6 : Same H5 (upd H5 a6 (.lst [])) := up_keep n6
        have e6 := upd_same (H := H5) (a := a6) (o := .lst [])
        generalize upd H5 a6 (.lst []) = H6 at *
        walk_at "rd"
        refine o_new (by walk_at "len") fun b nb => ?_
        have s7 : Same H6 (upd H6 b (.lst [.ref a0, .ref a1, .ref a2, .ref a3, .ref a4, .ref a5, .ref a6])) := up_keep nb
        have eb := upd_same (H := H6) (a := b) (o := .lst [.ref a0, .ref a1, .ref a2, .ref a3, .ref a4, .ref a5, .ref a6])
        generalize upd H6 b (.lst [.ref a0, .ref a1, .ref a2, .ref a3, .ref a4, .ref a5, .ref a6]) = H7 at *
        have t6 := s6.trans s7
        have t5 := s5.trans t6
        have t4 := s4.trans t5
        have t3 := s3.trans t4
        have t2 := s2.trans t3
        have t1 := s1.trans t2
        have t0 := s0.trans t1
        walk_at "rd"
        rcases hd with rfl | rfl | rfl | rfl | rfl | rfl | rfl
        · refine o_ixL (SqL.of eb) (v := .ref a0) rfl ?_
          walk_at "rd"
          exact ⟨a0, rfl, t0, t1 _ _ e0⟩
        · refine o_ixL (SqL.of eb) (v := .ref a1) rfl ?_
          walk_at "rd"
          exact ⟨a1, rfl, t0, t2 _ _ e1⟩
        · refine o_ixL (SqL.of eb) (v := .ref a2) rfl ?_
          walk_at "rd"
          exact ⟨a2, rfl, t0, t3 _ _ e2⟩
        · refine o_ixL (SqL.of eb) (v := .ref a3) rfl ?_
          walk_at "rd"
          exact ⟨a3, rfl, t0, t4 _ _ e3⟩
        · refine o_ixL (SqL.of eb) (v := .ref a4) rfl ?_
          walk_at "rd"
          exact ⟨a4, rfl, t0, t5 _ _ e4⟩
        · refine o_ixL (SqL.of eb) (v := .ref a5) rfl ?_
          walk_at "rd"
          exact ⟨a5, rfl, t0, t6 _ _ e5⟩
        · refine o_ixL (SqL.of eb) (v := .ref a6) rfl ?_
          walk_at "rd"
          exact ⟨a6, rfl, t0, s7 _ _ e6⟩
      · rintro σ' H1 ⟨wl, rfl, s1, ew⟩
        have kl : (kindsOf door).length ≤ 2 := by rcases hd with rfl | rfl | rfl | rfl | rfl | rfl | rfl <;> decide
        have k2 : door = 3 ∨ door = 4 → (kindsOf door)[1]? = some (decide (door = 4)) := by rintro (rfl | rfl) <;> rfl
        generalize hk : kindsOf door = ks at *
        walk_at "rd"
        rw [List.length_map]
        refine lp_range1 (by omega) (fun i σ' H' => (∃ y6 y7, σ' = [some (.int door), some (.int p), some (.int one), some (.int other), some (.int (p * p + p)), some (.ref wl), y6, y7]) ∧ Same H1 H' ∧ ∀ x ∈ (ks.zip [one, other]).take i, off p x.2 = false) ⟨⟨_, _, rfl⟩, Same.refl _, fun x hx => (by simp at hx)⟩ ?_ ?_
        · rintro i σ' H2 hi ⟨⟨y6, y7, rfl⟩, s2, ok⟩
          have il : i < ks.length := by omega
          have ek : ks[i]? = some ks[i] := List.getElem?_eq_getElem il
          obtain ⟨nb, hn⟩ : ∃ nb, [one, other][i]? = some nb := by
            have : i = 0 ∨ i = 1 := by omega
            rcases this with rfl | rfl
            · exact ⟨one, rfl⟩
            · exact ⟨other, rfl⟩
          have hz : (ks.zip [one, other])[i]? = some (ks[i], nb) := by rw [List.getElem?_zip_eq_some]; exact ⟨ek, hn⟩
          have hv : [V.int one, V.int other][i]? = some (.int nb) := by
            have : ([one, other].map V.int)[i]? = some (.int nb) := by rw [List.getElem?_map, hn]; rfl
            exact this
          have hw : (ks.map fun b => V.str (wordOf b))[i]? = some (.str (wordOf ks[i])) := by rw [List.getElem?_map, ek]; rfl
          have ew2 := s2 _ _ ew
          walk_at "rd"
          refine o_new (by walk_at "len") fun u nu => ?_
          have s3 : Same H2 (upd H2 u (.lst [.int one, .int other])) := up_keep nu
          have eu := upd_same (H := H2) (a := u) (o := .lst [.int one, .int other])
          generalize upd H2 u (.lst [.int one, .int other]) = H3 at *
          walk_at "rd"
          refine o_ixL (SqL.of eu) (atI_nat hv) ?_
          have found : off p nb = true → firstOff p (ks.zip [one, other]) = some (if ks[i] = true then .seat nb else .set nb) := fun oz => by
            unfold firstOff
            have : (ks.zip [one, other]).find? (fun x => off p x.2) = some (ks[i], nb) := by
              obtain ⟨hi2, hx⟩ := List.getElem?_eq_some_iff.mp hz
              refine List.find?_eq_some_iff_getElem.mpr ⟨oz, i, hi2, hx, fun j hj => ?_⟩
              have : (ks.zip [one, other])[j] ∈ (ks.zip [one, other]).take i := by
                rw [List.mem_take_iff_getElem]
                exact ⟨j, by omega, rfl⟩
              rw [ok _ this]
              rfl
            rw [this]
            rfl
          have give : off p nb = true → ∀ u H4, Same H3 H4 → H4 u = some (.tup [.str (wordOf ks[i]), .int nb]) → Q (.ref u) H4 := fun oz u H4 s4 e => by
            refine k _ _ (s1.trans (s2.trans (s3.trans s4))) ?_
            rw [found oz]
            cases hki : ks[i] with
            | true =>
              rw [hki] at e
              exact dp_pair (w := "seat") e
            | false =>
              rw [hki] at e
              exact dp_pair (w := "set") e
          walk_at "rd"
          by_cases lo1 : nb < 0
          · have oz : off p nb = true := by
              unfold off
              rw [decide_eq_true lo1]
              rfl
            walk_at "rd"
            refine o_ixL (SqL.of (s3 _ _ ew2)) (atI_nat hw) ?_
            walk_at "rd"
            refine o_new (by walk_at "len") fun v nv => ?_
            walk_at "rd"
            exact give oz _ _ (up_keep nv) upd_same
          walk_at "rd"
          by_cases hi1 : nb > p * p + p
          · have oz : off p nb = true := by
              unfold off
              rw [decide_eq_true (by omega : p * p + p + 1 ≤ nb), Bool.or_true]
            walk_at "rd"
            refine o_ixL (SqL.of (s3 _ _ ew2)) (atI_nat hw) ?_
            walk_at "rd"
            refine o_new (by walk_at "len") fun v nv => ?_
            walk_at "rd"
            exact give oz _ _ (up_keep nv) upd_same
          · have oz : off p nb = false := by
              unfold off
              rw [decide_eq_false lo1, decide_eq_false (by omega)]
              rfl
            walk_at "rd"
            refine ⟨⟨_, _, rfl⟩, s2.trans s3, fun x hx => ?_⟩
            rw [List.take_add_one, hz, List.mem_append] at hx
            rcases hx with hx | hx
            · exact ok x hx
            · have : x = (ks[i], nb) := by simpa using hx
              rw [this]
              exact oz
        · rintro σ' H2 ⟨⟨y6, y7, rfl⟩, s2, ok⟩
          have none_off : firstOff p (ks.zip [one, other]) = none := by
            unfold firstOff
            rw [Option.map_eq_none_iff, List.find?_eq_none]
            intro x hx
            rw [ok x (by
              rw [List.take_of_length_le]
              · exact hx
              · rw [List.length_zip, Int.toNat_natCast]
                exact Nat.min_le_left _ _)]
            exact Bool.false_ne_true
          rw [none_off] at k
          have k : ∀ v H', Same H2 H' → Dp K H' v (dueD (lastly door p one other)) → Q v H' := fun v H' s d => k v H' (s1.trans (s2.trans s)) d
          have ew2 := s2 _ _ ew
          clear none_off ok ew s2 s1 hp
          rcases hd with rfl | rfl | rfl | rfl | rfl | rfl | rfl
          · walk_at "rd"
            refine o_new (by walk_at "len") fun t nt => ?_
            have s3 : Same H2 (upd H2 t (.tup [.int 3, .int 4])) := up_keep nt
            have et := upd_same (H := H2) (a := t) (o := .tup [.int 3, .int 4])
            generalize upd H2 t (.tup [.int 3, .int 4]) = H3 at *
            refine o_inI (ns := [3, 4]) (.inr (SqT.of et)) ?_
            rw [decide_eq_false (by decide)]
            walk_at "rd"
            have e : lastly 0 p one other = none := by
              unfold lastly
              rw [if_neg (by omega), if_neg (by omega), if_neg (by omega)]
            rw [e] at k
            exact k _ _ s3 .non
          · walk_at "rd"
            refine o_new (by walk_at "len") fun t nt => ?_
            have s3 : Same H2 (upd H2 t (.tup [.int 3, .int 4])) := up_keep nt
            have et := upd_same (H := H2) (a := t) (o := .tup [.int 3, .int 4])
            generalize upd H2 t (.tup [.int 3, .int 4]) = H3 at *
            refine o_inI (ns := [3, 4]) (.inr (SqT.of et)) ?_
            rw [decide_eq_false (by decide)]
            walk_at "rd"
            have e : lastly 1 p one other = none := by
              unfold lastly
              rw [if_neg (by omega), if_neg (by omega), if_neg (by omega)]
            rw [e] at k
            exact k _ _ s3 .non
          · walk_at "rd"
            refine o_new (by walk_at "len") fun t nt => ?_
            have s3 : Same H2 (upd H2 t (.tup [.int 3, .int 4])) := up_keep nt
            have et := upd_same (H := H2) (a := t) (o := .tup [.int 3, .int 4])
            generalize upd H2 t (.tup [.int 3, .int 4]) = H3 at *
            refine o_inI (ns := [3, 4]) (.inr (SqT.of et)) ?_
            rw [decide_eq_false (by decide)]
            walk_at "rd"
            have e : lastly 2 p one other = none := by
              unfold lastly
              rw [if_neg (by omega), if_neg (by omega), if_neg (by omega)]
            rw [e] at k
            exact k _ _ s3 .non
          · walk_at "rd"
            refine o_new (by walk_at "len") fun t nt => ?_
            have s3 : Same H2 (upd H2 t (.tup [.int 3, .int 4])) := up_keep nt
            have et := upd_same (H := H2) (a := t) (o := .tup [.int 3, .int 4])
            generalize upd H2 t (.tup [.int 3, .int 4]) = H3 at *
            refine o_inI (ns := [3, 4]) (.inr (SqT.of et)) ?_
            rw [decide_eq_true (by decide)]
            walk_at "rd"
            by_cases q : one = other
            · have e : lastly 3 p one other = some (.set other) := by
                unfold lastly
                simp [q]
              rw [e] at k
              walk_at "rd"
              have hw1 : (ks.map fun b => V.str (wordOf b))[1]? = some (.str (wordOf false)) := by rw [List.getElem?_map, k2 (by omega)]; rfl
              refine o_ixL (SqL.of (s3 _ _ ew2)) (atI_nat hw1) ?_
              walk_at "rd"
              refine o_new (by walk_at "len") fun u nu => ?_
              walk_at "rd"
              exact k _ _ (s3.trans (up_keep nu)) (dp_pair (w := "set") upd_same)
            · have e : lastly 3 p one other = none := by
                unfold lastly
                simp [q]
              rw [e] at k
              walk_at "rd"
              exact k _ _ s3 .non
          · walk_at "rd"
            refine o_new (by walk_at "len") fun t nt => ?_
            have s3 : Same H2 (upd H2 t (.tup [.int 3, .int 4])) := up_keep nt
            have et := upd_same (H := H2) (a := t) (o := .tup [.int 3, .int 4])
            generalize upd H2 t (.tup [.int 3, .int 4]) = H3 at *
            refine o_inI (ns := [3, 4]) (.inr (SqT.of et)) ?_
            rw [decide_eq_true (by decide)]
            walk_at "rd"
            by_cases q : one = other
            · have e : lastly 4 p one other = some (.seat other) := by
                unfold lastly
                simp [q]
              rw [e] at k
              walk_at "rd"
              have hw1 : (ks.map fun b => V.str (wordOf b))[1]? = some (.str (wordOf true)) := by rw [List.getElem?_map, k2 (by omega)]; rfl
              refine o_ixL (SqL.of (s3 _ _ ew2)) (atI_nat hw1) ?_
              walk_at "rd"
              refine o_new (by walk_at "len") fun u nu => ?_
              walk_at "rd"
              exact k _ _ (s3.trans (up_keep nu)) (dp_pair (w := "seat") upd_same)
            · have e : lastly 4 p one other = none := by
                unfold lastly
                simp [q]
              rw [e] at k
              walk_at "rd"
              exact k _ _ s3 .non
          · walk_at "rd"
            refine o_new (by walk_at "len") fun t nt => ?_
            have s3 : Same H2 (upd H2 t (.tup [.int 3, .int 4])) := up_keep nt
            have et := upd_same (H := H2) (a := t) (o := .tup [.int 3, .int 4])
            generalize upd H2 t (.tup [.int 3, .int 4]) = H3 at *
            refine o_inI (ns := [3, 4]) (.inr (SqT.of et)) ?_
            rw [decide_eq_false (by decide)]
            walk_at "rd"
            have e : lastly 5 p one other = none := by
              unfold lastly
              rw [if_neg (by omega), if_neg (by omega), if_neg (by omega)]
            rw [e] at k
            exact k _ _ s3 .non
          · walk_at "rd"
            refine o_new (by walk_at "len") fun t nt => ?_
            have s3 : Same H2 (upd H2 t (.tup [.int 3, .int 4])) := up_keep nt
            have et := upd_same (H := H2) (a := t) (o := .tup [.int 3, .int 4])
            generalize upd H2 t (.tup [.int 3, .int 4]) = H3 at *
            refine o_inI (ns := [3, 4]) (.inr (SqT.of et)) ?_
            rw [decide_eq_false (by decide)]
            walk_at "rd"
            by_cases q : p > 7
            · have e : lastly 6 p one other = some .many := by
                unfold lastly
                rw [if_neg (by omega), if_neg (by omega), if_pos ⟨rfl, q⟩]
              rw [e] at k
              walk_at "rd"
              refine o_new (by walk_at "len") fun u nu => ?_
              walk_at "rd"
              exact k _ _ (s3.trans (up_keep nu)) (.tup (SqT.of upd_same) (.cons (.str _) (.cons (.str _) .nil)))
            · have e : lastly 6 p one other = none := by
                unfold lastly
                rw [if_neg (by omega), if_neg (by omega), if_neg (by omega)]
              rw [e] at k
              walk_at "rd"
              exact k _ _ s3 .non

/-! ### the drawing of sets (shared by the laws on families) -/
def Pot (H : Hp) (p : Addr) : Prop := ∃ i r : Int, 0 ≤ i ∧ 0 ≤ r ∧ H p = some (.lst [.int i, .int r])
theorem Pot.at {H H' : Hp} {p : Addr} (h : Pot H p) (e : ∀ o, H p = some o → H' p = some o) : Pot H' p := by
  obtain ⟨i, r, hi, hr, h⟩ := h
  exact ⟨i, r, hi, hr, e _ h⟩
theorem Pot.upd {H : Hp} {p q : Addr} {o : HO} (h : Pot H p) (n : p ≠ q) : Pot (L2.upd H q o) p := h.at fun o e => (upd_ne n).trans e
theorem Pot.ne {H : Hp} {p u : Addr} {xs : List V} (h : Pot H p) (e : H u = some (.tup xs)) : u ≠ p := fun z => by
  obtain ⟨i, r, hi, hr, h⟩ := h
  rw [z, h] at e
  cases e
theorem Pot.is {H : Hp} {p : Addr} (h : Pot H p) : ∃ o, H p = some o := by
  obtain ⟨i, r, hi, hr, h⟩ := h
  exact ⟨_, h⟩
inductive q__law_wide (K : PySem.W.Frag) (ad : Ad) : V → Hp → VK → Prop
  | mk {n : Int} {H : Hp} {Q : VK} (k : ∀ r, 0 ≤ r → Q (.int r) H) : q__law_wide K ad (.int n) H Q
def sp__law_wide (K : PySem.W.Frag) (ad : Ad) : Sp := fun vs H Q _ => match vs with | [x0] => q__law_wide K ad x0 H Q | _ => False
theorem c__law_wide {K : PySem.W.Frag} {ad : Ad} {x0 : V} {H : Hp} {Q : VK} {E : XK} (h : q__law_wide K ad x0 H Q) : sp__law_wide K ad ([x0] ++ []) H Q E := h
theorem n__law_wide {K : PySem.W.Frag} {ad : Ad} {vs : List V} {H : Hp} {Q : VK} {E : XK} (h : sp__law_wide K ad vs H Q E) : ∃ x0, vs = [x0] ∧ q__law_wide K ad x0 H Q := match vs, h with | [x0], h => ⟨x0, rfl, h⟩
def t__law_wide (K : PySem.W.Frag) (ad : Ad) : TS := (tSeq (tIfS (tTest (tOp zGe (tVar 0) (tOp zPow (tC (.int 10)) (tC (.int 18))))) (tRet (tVar 0)) tNext)
    (tSeq (tAsg (tOp zMod (tOp (zAdd K) (tOp zMul (tVar 0) (tC (.int 48271))) (tC (.int 12345))) (tC (.int 2147483647))) (gName 1))
    (tSeq (tAsg (tOp zMod (tOp (zAdd K) (tOp (zAdd K) (tOp zMul (tVar 1) (tVar 1)) (tOp zMul (tVar 0) (tC (.int 69621)))) (tC (.int 7))) (tC (.int 2147483629))) (gName 2))
    (tSeq (tAsg (tOp zMod (tOp (zAdd K) (tOp zMul (tVar 2) (tVar 2)) (tVar 1)) (tC (.int 1000000007))) (gName 3))
    (tRet (tOp (zAdd K) (tOp zDiv (tVar 1) (tC (.int 8))) (tOp zMul (tC (.int 268435456)) (tOp (zAdd K) (tOp zDiv (tVar 2) (tC (.int 8))) (tOp zMul (tC (.int 268435456)) (tOp zDiv (tVar 3) (tC (.int 8))))))))))))
theorem w__law_wide {K : PySem.W.Frag} {ad : Ad} {x0 : V} {H : Hp} {Q : VK} (h : q__law_wide K ad x0 H Q) : t__law_wide K ad ⟨fun _ H' => Q .non H', Q, fun _ _ => False, fun _ _ => False⟩ [some x0, none, none, none] H := by
  cases h with
  | @mk n _ _ k => 
    unfold t__law_wide
    walk_at "rd"
    walk_at "if"
    · walk_at "rd"
      rename_i h
      exact k _ (by omega)
    · walk_at "rd"
      exact k _ (by omega)
inductive q__law_take (K : PySem.W.Frag) (ad : Ad) : V → V → V → Hp → VK → Prop
  | mk {a p : Addr} {m : Int} {ns : List Int} {F H : Hp} {Q : VK} (hF : Same F H) (hS : SqL K F a (ns.map V.int)) (hp : Pot H p) (fp : F p = none) (hm : 0 < m) (hM : m ≤ 10 ^ 70)
    (k : ∀ d H', 0 ≤ d → d < m → Pot H' p → Gr (M1 p) F H F H' → Q (.int d) H') : q__law_take K ad (.ref a) (.ref p) (.int m) H Q
def sp__law_take (K : PySem.W.Frag) (ad : Ad) : Sp := fun vs H Q _ => match vs with | [x0, x1, x2] => q__law_take K ad x0 x1 x2 H Q | _ => False
theorem c__law_take {K : PySem.W.Frag} {ad : Ad} {x0 x1 x2 : V} {H : Hp} {Q : VK} {E : XK} (h : q__law_take K ad x0 x1 x2 H Q) : sp__law_take K ad ([x0, x1, x2] ++ []) H Q E := h
theorem n__law_take {K : PySem.W.Frag} {ad : Ad} {vs : List V} {H : Hp} {Q : VK} {E : XK} (h : sp__law_take K ad vs H Q E) : ∃ x0 x1 x2, vs = [x0, x1, x2] ∧ q__law_take K ad x0 x1 x2 H Q := match vs, h with | [x0, x1, x2], h => ⟨x0, x1, x2, rfl, h⟩
def t__law_take (K : PySem.W.Frag) (ad : Ad) : TS := (Evl.tCut (tIfS (tTest (tOp (zEq K) (tOp (rIx K) (tVar 1) (tC (.int 1))) (tC (.int 0)))) (tSeq (tAsg (tOp zMul (tOp (zAdd K) (tOp zMod (tCB (rSum K) (tCons (tVar 0) tNil)) (tC (.int 1000003))) (tC (.int 7919))) (tOp (zAdd K) (tOp (rIx K) (tVar 1) (tC (.int 0))) (tC (.int 1)))) (gName 3))
    (tSeq (tIfS (tTest (tOp (zLt K) (tOp (rIx K) (tVar 1) (tC (.int 0))) (tCB (zLen K) (tCons (tVar 0) tNil)))) (tAsg (tOp (rIx K) (tVar 0) (tOp (rIx K) (tVar 1) (tC (.int 0)))) (gName 3)) tNext)
    (tSeq (tAsg (tOp (zAdd K) (tOp (rIx K) (tVar 1) (tC (.int 0))) (tC (.int 1))) (gSub (tVar 1) (tC (.int 0)) rSetL))
    (tAsg (tCall (sp__law_wide K ad) [] E0 (tCons (tVar 3) tNil)) (gSub (tVar 1) (tC (.int 1)) rSetL))))) tNext)
    (tSeq (tAsg (tOp zMod (tOp (rIx K) (tVar 1) (tC (.int 1))) (tVar 2)) (gName 4))
    (tSeq (tAsg (tOp zDiv (tOp (rIx K) (tVar 1) (tC (.int 1))) (tVar 2)) (gSub (tVar 1) (tC (.int 1)) rSetL))
    (tRet (tVar 4)))))
theorem w__law_take {K : PySem.W.Frag} {ad : Ad} {x0 x1 x2 : V} {H : Hp} {Q : VK} (h : q__law_take K ad x0 x1 x2 H Q) : t__law_take K ad ⟨fun _ H' => Q .non H', Q, fun _ _ => False, fun _ _ => False⟩ [some x0, some x1, some x2, none, none] H := by
  cases h with
  | @mk a p m ns F _ _ hF hS hp fp hm hM k =>
    obtain ⟨i, r, hi, hr, hp⟩ := hp
    unfold t__law_take
    refine Z.s_cut (fun σ' H' => ∃ i r c, 0 ≤ i ∧ 0 ≤ r ∧ σ' = [some (.ref a), some (.ref p), some (.int m), c, none] ∧ H' p = some (.lst [.int i, .int r]) ∧ Gr (M1 p) F H F H') ?_ ?_
    · walk_at "rd"
      walk_at "if"
      · walk_at "rd"
        walk_at "if"
        · rename_i h
          rw [List.length_map] at h
          obtain ⟨j, rfl⟩ : ∃ j : Nat, i = (j : Int) := ⟨i.toNat, by omega⟩
          have hj : ns[j]? = some ns[j] := List.getElem?_eq_getElem (by omega)
          walk_at "rd"
          with_reducible apply o_ixL (Same.seq hF hS) (atI_ints hj)
          walk_at "rd"
          apply c__law_wide
          apply q__law_wide.mk
          intro r' h0
          walk_at "rd"
          exact ⟨_, r', _, by omega, h0, rfl, upd_same, ((Gr.refl hF).put1 fp).put1 fp⟩
        · walk_at "rd"
          apply c__law_wide
          apply q__law_wide.mk
          intro r' h0
          walk_at "rd"
          exact ⟨_, r', _, by omega, h0, rfl, upd_same, ((Gr.refl hF).put1 fp).put1 fp⟩
      · walk_at "rd"
        exact ⟨i, r, _, hi, hr, rfl, hp, Gr.refl hF⟩
    · rintro σ' H' ⟨i, r, c, hi, hr, rfl, hp, g⟩
      walk_at "rd"
      exact k _ _ (Int.emod_nonneg _ (by omega)) (Int.emod_lt_of_pos _ hm) ⟨i, r / m, hi, Int.ediv_nonneg hr (by omega), upd_same⟩ (g.put1 fp)

inductive q__law_whole (K : PySem.W.Frag) (ad : Ad) : V → Hp → VK → Prop
  | int {i : Int} {H : Hp} {Q : VK} (k : Q (.bl true) H) : q__law_whole K ad (.int i) H Q
def sp__law_whole (K : PySem.W.Frag) (ad : Ad) : Sp := fun vs H Q _ => match vs with | [x0] => q__law_whole K ad x0 H Q | _ => False
theorem c__law_whole {K : PySem.W.Frag} {ad : Ad} {x0 : V} {H : Hp} {Q : VK} {E : XK} (h : q__law_whole K ad x0 H Q) : sp__law_whole K ad ([x0] ++ []) H Q E := h
theorem n__law_whole {K : PySem.W.Frag} {ad : Ad} {vs : List V} {H : Hp} {Q : VK} {E : XK} (h : sp__law_whole K ad vs H Q E) : ∃ x0, vs = [x0] ∧ q__law_whole K ad x0 H Q := match vs, h with | [x0], h => ⟨x0, rfl, h⟩
def t__law_whole (K : PySem.W.Frag) (ad : Ad) : TS := (tRet (tAndV (tCB (rIsi K) (tCons (tVar 0) (tCons (tC (.ty "int")) tNil))) (tNotT K (tCB (rIsi K) (tCons (tVar 0) (tCons (tC (.ty "bool")) tNil))))))
theorem w__law_whole {K : PySem.W.Frag} {ad : Ad} {x0 : V} {H : Hp} {Q : VK} (h : q__law_whole K ad x0 H Q) : t__law_whole K ad ⟨fun _ H' => Q .non H', Q, fun _ _ => False, fun _ _ => False⟩ [some x0] H := by
  cases h with
  | @int i _ _ k =>
    unfold t__law_whole
    walk_at "rd"
    exact k

def firsts11 : List Int := [2, 3, 5, 7, 11, 13, 17, 19, 23, 29, 31]
theorem firsts11_ok : ∀ x ∈ firsts11, ∃ n : Nat, x = (n : Int) ∧ 2 ≤ n ∧ n ≤ 9973 ∧ tst n = true := by
  intro x hx
  have e : firsts11 = [((2 : Nat) : Int), ((3 : Nat) : Int), ((5 : Nat) : Int), ((7 : Nat) : Int), ((11 : Nat) : Int), ((13 : Nat) : Int), ((17 : Nat) : Int), ((19 : Nat) : Int), ((23 : Nat) : Int), ((29 : Nat) : Int), ((31 : Nat) : Int)] := rfl
  rw [e] at hx
  simp only [List.mem_cons, List.not_mem_nil, or_false] at hx
  rcases hx with rfl | rfl | rfl | rfl | rfl | rfl | rfl | rfl | rfl | rfl | rfl <;> exact ⟨_, rfl, by decide, by decide, by decide +kernel⟩
inductive q__law_prime (K : PySem.W.Frag) (ad : Ad) : V → V → V → Hp → VK → Prop
  | mk {a p : Addr} {turn : Int} {ns : List Int} {F H : Hp} {Q : VK} (hF : Same F H) (hS : SqL K F a (ns.map V.int)) (hp : Pot H p) (fp : F p = none)
    (k : ∀ m H', Pr m → Pot H' p → Gr (M1 p) F H F H' → Q (.int m) H') : q__law_prime K ad (.ref a) (.ref p) (.int turn) H Q
def sp__law_prime (K : PySem.W.Frag) (ad : Ad) : Sp := fun vs H Q _ => match vs with | [x0, x1, x2] => q__law_prime K ad x0 x1 x2 H Q | _ => False
theorem c__law_prime {K : PySem.W.Frag} {ad : Ad} {x0 x1 x2 : V} {H : Hp} {Q : VK} {E : XK} (h : q__law_prime K ad x0 x1 x2 H Q) : sp__law_prime K ad ([x0, x1, x2] ++ []) H Q E := h
theorem n__law_prime {K : PySem.W.Frag} {ad : Ad} {vs : List V} {H : Hp} {Q : VK} {E : XK} (h : sp__law_prime K ad vs H Q E) : ∃ x0 x1 x2, vs = [x0, x1, x2] ∧ q__law_prime K ad x0 x1 x2 H Q := match vs, h with | [x0, x1, x2], h => ⟨x0, x1, x2, rfl, h⟩
def t__law_prime (K : PySem.W.Frag) (ad : Ad) : TS := (tSeq (tAsg (tLst (tCons (tC (.int 2)) (tCons (tC (.int 3)) (tCons (tC (.int 5)) (tCons (tC (.int 7)) (tCons (tC (.int 11)) (tCons (tC (.int 13)) (tCons (tC (.int 17)) (tCons (tC (.int 19)) (tCons (tC (.int 23)) (tCons (tC (.int 29)) (tCons (tC (.int 31)) tNil)))))))))))) (gName 3))
    (Evl.tCut (tIfS (tOr (tTest (tOp zGt (tVar 2) (tC (.int 3)))) (tTest (tOp zGt (tCall (sp__law_take K ad) [] E0 (tCons (tVar 0) (tCons (tVar 1) (tCons (tC (.int 6)) tNil)))) (tC (.int 0))))) (tRet (tOp (rIx K) (tVar 3) (tCall (sp__law_take K ad) [] E0 (tCons (tVar 0) (tCons (tVar 1) (tCons (tC (.int 11)) tNil)))))) tNext)
    (tSeq (tAsg (tOp (zAdd K) (tC (.int 2)) (tCall (sp__law_take K ad) [] E0 (tCons (tVar 0) (tCons (tVar 1) (tCons (tC (.int 9972)) tNil))))) (gName 4))
    (tSeq (tFor (iRng1 (tCons (tC (.int 40)) tNil)) (gName 5)
    (tIfS (tNot (zTru K (tCall (sp__law_is_prime K ad) [] E0 (tCons (tVar 4) tNil)))) (tAsg (tOp (zAdd K) (tVar 4) (tC (.int 1))) (gName 4)) tNext))
    (tRet (tVar 4))))))
theorem w__law_prime {K : PySem.W.Frag} {ad : Ad} {x0 x1 x2 : V} {H : Hp} {Q : VK} (h : q__law_prime K ad x0 x1 x2 H Q) : t__law_prime K ad ⟨fun _ H' => Q .non H', Q, fun _ _ => False, fun _ _ => False⟩ [some x0, some x1, some x2, none, none, none] H := by
  cases h with
  | @mk a p turn ns F _ _ hF hS hp fp k =>
    unfold t__law_prime
    walk_at "rd"
    refine o_new (by walk_at "len") fun u nu => ?_
    obtain ⟨_, ep⟩ := hp.is
    have up : u ≠ p := fresh_ne nu ep
    have G1 := (Gr.refl hF (M := M1 p)).add nu (o := .lst [.int 2, .int 3, .int 5, .int 7, .int 11, .int 13, .int 17, .int 19, .int 23, .int 29, .int 31])
    have hp1 := hp.upd (o := .lst [.int 2, .int 3, .int 5, .int 7, .int 11, .int 13, .int 17, .int 19, .int 23, .int 29, .int 31]) up.symm
    have eu : (upd H u (.lst [.int 2, .int 3, .int 5, .int 7, .int 11, .int 13, .int 17, .int 19, .int 23, .int 29, .int 31])) u = some (.lst (firsts11.map V.int)) := upd_same
    generalize upd H u (.lst [.int 2, .int 3, .int 5, .int 7, .int 11, .int 13, .int 17, .int 19, .int 23, .int 29, .int 31]) = H1 at *
    obtain ⟨_, ep1⟩ := hp1.is
    walk_at "rd"
    refine s_cut (fun σ' H2 => σ' = [some (.ref a), some (.ref p), some (.int turn), some (.ref u), none, none] ∧ Pot H2 p ∧ Gr (M1 p) F H F H2) ?_ ?_
    · have pick : ∀ H2, Pot H2 p → Gr (M1 p) F H F H2 → H2 u = some (.lst (firsts11.map V.int)) → q__law_take K ad (.ref a) (.ref p) (.int 11) H2 (fun v H3 => rIx K (.ref u) v H3 fun v H4 => Q v H4) := fun H2 hp2 G2 eu2 => by
        obtain ⟨_, ep2⟩ := hp2.is
        refine q__law_take.mk G2.fh hS hp2 fp (by omega) (by omega) fun d H3 d0 d1 hp3 g3 => ?_
        have eu3 := g3.hh _ _ up eu2
        obtain ⟨j, rfl⟩ : ∃ j : Nat, d = (j : Int) := ⟨d.toNat, by omega⟩
        have jl : j < firsts11.length := by
          have : firsts11.length = 11 := rfl
          omega
        have ej : firsts11[j]? = some firsts11[j] := List.getElem?_eq_getElem jl
        obtain ⟨n, en, n0, n1, nt⟩ := firsts11_ok _ (List.mem_of_getElem? ej)
        with_reducible apply o_ixL (SqL.of eu3) (atI_ints ej)
        refine k _ _ ?_ hp3 (G2.tr1 g3 ep2)
        rw [en]
        exact tst_pr n0 n1 nt
      walk_at "rd"
      by_cases ht : turn > 3
      · walk_at "rd"
        apply c__law_take
        exact pick H1 hp1 G1 eu
      · walk_at "rd"
        apply c__law_take
        refine q__law_take.mk G1.fh hS hp1 fp (by omega) (by omega) fun w H2 w0 w1 hp2 g2 => ?_
        have G2 := G1.tr1 g2 ep1
        have eu2 := g2.hh _ _ up eu
        walk_at "rd"
        walk_at "if"
        · walk_at "rd"
          apply c__law_take
          exact pick H2 hp2 G2 eu2
        · walk_at "rd"
          exact ⟨rfl, hp2, G2⟩
    · clear ep1 hp1 eu G1
      rintro σ' H2 ⟨rfl, hp2, G2⟩
      obtain ⟨_, ep2⟩ := hp2.is
      walk_at "rd"
      apply c__law_take
      refine q__law_take.mk G2.fh hS hp2 fp (by omega) (by omega) fun d H3 d0 d1 hp3 g3 => ?_
      have G3 := G2.tr1 g3 ep2
      obtain ⟨s, es⟩ : ∃ s : Nat, 2 + d = (s : Int) := ⟨(2 + d).toNat, by omega⟩
      walk_at "rd"
      refine lp_range1 (by omega) (fun i σ' H' => H' = H3 ∧ ∃ (y4 : Option V) (m : Nat), σ' = [some (.ref a), some (.ref p), some (.int turn), some (.ref u), some (.int m), y4] ∧ s ≤ m ∧ m ≤ 9973 ∧ (tst m = true ∨ m = s + i) ∧ ∀ t, s ≤ t → t < m → ¬ tst t = true) ⟨rfl, _, s, by rw [es]; rfl, by omega, by omega, .inr rfl, by omega⟩ ?_ ?_
      · rintro i σ' H' hi ⟨rfl, y4, m, rfl, m0, m1, hm, no⟩
        walk_at "rd"
        apply c__law_is_prime
        apply q__law_is_prime.mk
        rw [tstI_nat (by omega) (by omega)]
        walk_at "rd"
        walk_at "if"
        · rename_i ht
          walk_at "rd"
          have m2 : m ≠ 9973 := fun z => by
            rw [z, tst_top] at ht
            cases ht
          refine ⟨rfl, _, m + 1, rfl, by omega, by omega, .inr ?_, fun t t0 t1 => ?_⟩
          · rcases hm with hm | hm
            · rw [ht] at hm
              cases hm
            · omega
          · by_cases e : t = m
            · rw [e, ht]
              exact Bool.false_ne_true
            · exact no t t0 (by omega)
        · rename_i ht
          walk_at "rd"
          exact ⟨rfl, _, m, rfl, m0, m1, .inl ht, no⟩
      · rintro σ' H' ⟨rfl, y4, m, rfl, m0, m1, hm, no⟩
        walk_at "rd"
        have ht : tst m = true := by
          rcases hm with hm | hm
          · exact hm
          · obtain ⟨j, j0, hj⟩ := next_prime (s := s) (by omega) (by omega)
            by_cases e : j = 40
            · rw [hm, show (40 : Int).toNat = 40 from rfl, ← e]
              exact hj
            · exact absurd hj (no _ (by omega) (by have : (40 : Int).toNat = 40 := rfl; omega))
        exact k _ _ (tst_pr (by omega) m1 ht) hp3 G3
inductive q__law_number (K : PySem.W.Frag) (ad : Ad) : V → V → Hp → VK → Prop
  | mk {a p : Addr} {ns : List Int} {F H : Hp} {Q : VK} (hF : Same F H) (hS : SqL K F a (ns.map V.int)) (hp : Pot H p) (fp : F p = none)
    (k : ∀ m H', Pot H' p → Gr (M1 p) F H F H' → Q (.int m) H') : q__law_number K ad (.ref a) (.ref p) H Q
def sp__law_number (K : PySem.W.Frag) (ad : Ad) : Sp := fun vs H Q _ => match vs with | [x0, x1] => q__law_number K ad x0 x1 H Q | _ => False
theorem c__law_number {K : PySem.W.Frag} {ad : Ad} {x0 x1 : V} {H : Hp} {Q : VK} {E : XK} (h : q__law_number K ad x0 x1 H Q) : sp__law_number K ad ([x0, x1] ++ []) H Q E := h
theorem n__law_number {K : PySem.W.Frag} {ad : Ad} {vs : List V} {H : Hp} {Q : VK} {E : XK} (h : sp__law_number K ad vs H Q E) : ∃ x0 x1, vs = [x0, x1] ∧ q__law_number K ad x0 x1 H Q := match vs, h with | [x0, x1], h => ⟨x0, x1, rfl, h⟩
def t__law_number (K : PySem.W.Frag) (ad : Ad) : TS := (tSeq (tIfS (tTest (tOp (zEq K) (tCall (sp__law_take K ad) [] E0 (tCons (tVar 0) (tCons (tVar 1) (tCons (tC (.int 2)) tNil)))) (tC (.int 0)))) (tRet (tOp zSub (tCall (sp__law_take K ad) [] E0 (tCons (tVar 0) (tCons (tVar 1) (tCons (tC (.int 40)) tNil)))) (tC (.int 5)))) tNext)
    (tSeq (tAsg (tCall (sp__law_take K ad) [] E0 (tCons (tVar 0) (tCons (tVar 1) (tCons (tOp zPow (tC (.int 10)) (tC (.int 60))) tNil)))) (gName 2))
    (tRet (tOp (rIx K) (tLst (tCons (tC (.int 9973)) (tCons (tC (.int 9974)) (tCons (tC (.int 10007)) (tCons (tOp zSub (tC (.int 0)) (tVar 2)) (tCons (tVar 2) (tCons (tC (.int 9409)) (tCons (tC (.int 9167)) tNil)))))))) (tCall (sp__law_take K ad) [] E0 (tCons (tVar 0) (tCons (tVar 1) (tCons (tC (.int 7)) tNil))))))))
theorem w__law_number {K : PySem.W.Frag} {ad : Ad} {x0 x1 : V} {H : Hp} {Q : VK} (h : q__law_number K ad x0 x1 H Q) : t__law_number K ad ⟨fun _ H' => Q .non H', Q, fun _ _ => False, fun _ _ => False⟩ [some x0, some x1, none] H := by
  cases h with
  | @mk a p ns F _ _ hF hS hp fp k =>
    unfold t__law_number
    obtain ⟨_, ep⟩ := hp.is
    walk_at "rd"
    apply c__law_take
    refine q__law_take.mk hF hS hp fp (by omega) (by omega) fun w H1 w0 w1 hp1 g1 => ?_
    obtain ⟨_, ep1⟩ := hp1.is
    walk_at "rd"
    walk_at "if"
    · walk_at "rd"
      apply c__law_take
      refine q__law_take.mk g1.fh hS hp1 fp (by omega) (by omega) fun d H2 d0 d1 hp2 g2 => ?_
      walk_at "rd"
      exact k _ _ hp2 (g1.tr1 g2 ep1)
    · walk_at "rd"
      apply c__law_take
      refine q__law_take.mk g1.fh hS hp1 fp (by decide) (by decide) fun far H2 f0 f1 hp2 g2 => ?_
      obtain ⟨_, ep2⟩ := hp2.is
      have G2 := g1.tr1 g2 ep1
      walk_at "rd"
      refine o_new (by walk_at "len") fun u nu => ?_
      have up : u ≠ p := fresh_ne nu ep2
      obtain ⟨xs, hxs⟩ : ∃ xs : List Int, xs = [9973, 9974, 10007, 0 - far, far, 9409, 9167] := ⟨_, rfl⟩
      have eu : (upd H2 u (.lst [.int 9973, .int 9974, .int 10007, .int (0 - far), .int far, .int 9409, .int 9167])) u = some (.lst (xs.map V.int)) := by rw [hxs]; exact upd_same
      have G3 := G2.add nu (o := .lst [.int 9973, .int 9974, .int 10007, .int (0 - far), .int far, .int 9409, .int 9167])
      have hp3 := hp2.upd (o := .lst [.int 9973, .int 9974, .int 10007, .int (0 - far), .int far, .int 9409, .int 9167]) up.symm
      generalize upd H2 u (.lst [.int 9973, .int 9974, .int 10007, .int (0 - far), .int far, .int 9409, .int 9167]) = H3 at *
      have xl : xs.length = 7 := by rw [hxs]; rfl
      obtain ⟨_, ep3⟩ := hp3.is
      clear hxs f0 f1
      walk_at "rd"
      apply c__law_take
      refine q__law_take.mk G3.fh hS hp3 fp (by omega) (by omega) fun d H4 d0 d1 hp4 g4 => ?_
      have eu4 := g4.hh _ _ up eu
      obtain ⟨j, rfl⟩ : ∃ j : Nat, d = (j : Int) := ⟨d.toNat, by omega⟩
      have ej : xs[j]? = some xs[j] := List.getElem?_eq_getElem (by omega)
      with_reducible apply o_ixL (SqL.of eu4) (atI_ints ej)
      walk_at "rd"
      exact k _ _ hp4 (G3.tr1 g4 ep3)

theorem setOf_len {p : Int} (l : Int × Int) (hp : 2 ≤ p) : (setOf p l).length = (p + 1).toNat := by
  unfold setOf
  split
  · rw [List.length_map, List.length_range]
  · split <;> (rw [List.length_append, List.length_map, List.length_range]; simp only [List.length_cons, List.length_nil]; omega)
theorem number_on {p n : Int} (hp : 2 ≤ p) (h0 : 0 ≤ n) (h1 : n < p * p + p + 1) : on p n n = true := by
  unfold on lineOf
  split
  · rename_i e
    unfold onL
    rw [if_pos (by omega), decide_eq_true (by dsimp only; omega : p < (p + 1, (0 : Int)).1), Bool.or_true]
  · split
    · rename_i h
      unfold onL
      rw [if_pos h, decide_eq_true (by dsimp only : (n - p * p, (0 : Int)).1 = n - p * p)]
      rfl
    · rename_i h
      split
      · unfold onL
        rw [if_neg h, if_pos (by dsimp only)]
        exact decide_eq_true rfl
      · obtain ⟨x, y, e, x0, x1, y0, y1, ex, ey⟩ := split hp h0 (by omega)
        rw [ex, ey]
        unfold onL
        rw [if_neg h, if_neg (by dsimp only; omega), ex, ey, decide_eq_true (by dsimp only; omega), Bool.true_and]
        refine decide_eq_true (em_zero.mpr ?_)
        obtain ⟨k, hk⟩ := dvd_em (p := p) (y - x * x)
        exact ⟨-k, by dsimp only; rw [Int.mul_neg]; omega⟩
inductive q__law_is_set (K : PySem.W.Frag) (ad : Ad) : V → Hp → VK → Prop
  | mk {a : Addr} {ns : List Int} {H : Hp} {Q : VK} (hs : SqT K H a (ns.map V.int)) (hl : ns.length ≤ 10000) (k : ∀ H', Same H H' → Q (.bl true) H') : q__law_is_set K ad (.ref a) H Q
def sp__law_is_set (K : PySem.W.Frag) (ad : Ad) : Sp := fun vs H Q _ => match vs with | [x0] => q__law_is_set K ad x0 H Q | _ => False
theorem c__law_is_set {K : PySem.W.Frag} {ad : Ad} {x0 : V} {H : Hp} {Q : VK} {E : XK} (h : q__law_is_set K ad x0 H Q) : sp__law_is_set K ad ([x0] ++ []) H Q E := h
theorem n__law_is_set {K : PySem.W.Frag} {ad : Ad} {vs : List V} {H : Hp} {Q : VK} {E : XK} (h : sp__law_is_set K ad vs H Q E) : ∃ x0, vs = [x0] ∧ q__law_is_set K ad x0 H Q := match vs, h with | [x0], h => ⟨x0, rfl, h⟩
def t__law_is_set (K : PySem.W.Frag) (ad : Ad) : TS := (tRet (tAndV (tCB (rIsi K) (tCons (tVar 0) (tCons (tC (.ty "tuple")) tNil))) (tOp (zEq K) (tLc (iTup K (tVar 0)) (gName 1) (tNot (zTru K (tCall (sp__law_whole K ad) [] E0 (tCons (tVar 1) tNil)))) (tC (.int 1)) [1]) (tLst tNil))))
theorem w__law_is_set {K : PySem.W.Frag} {ad : Ad} {x0 : V} {H : Hp} {Q : VK} (h : q__law_is_set K ad x0 H Q) : t__law_is_set K ad ⟨fun _ H' => Q .non H', Q, fun _ _ => False, fun _ _ => False⟩ [some x0, none] H := by
  cases h with
  | @mk a ns _ _ hs hl k =>
    unfold t__law_is_set
    walk_at "rd"
    refine lcT_ones (fun _ => false) hs (by rw [List.length_map]; omega) (fun i x H2 QB hx s2 q => ?_) (fun D c nD hc => ?_)
    · rw [List.getElem?_map] at hx
      obtain ⟨z, hz, rfl⟩ := Option.map_eq_some_iff.mp hx
      walk_at "rd"
      apply c__law_whole
      refine q__law_whole.int ?_
      walk_at "rd"
      exact q
    · have c0 : c = 0 := hc.mpr fun _ _ => rfl
      walk_at "rd"
      refine o_new (Nat.zero_le _) fun u nu => ?_
      refine o_eqOnes (up_keep nu _ _ upd_same) upd_same ?_
      rw [decide_eq_true c0]
      exact k _ (same_new (same_new (Same.refl _) nD) nu)
inductive q__law_set_right (K : PySem.W.Frag) (ad : Ad) : V → V → V → V → Hp → VK → Prop
  | mk {a p : Addr} {m n : Int} {ns : List Int} {F H : Hp} {Q : VK} (hF : Same F H) (hS : SqL K F a (ns.map V.int)) (hp : Pot H p) (fp : F p = none) (P : Pr m) (n0 : 0 ≤ n) (n1 : n < m * m + m + 1)
    (k : ∀ H', Pot H' p → Gr (M1 p) F H F H' → Q (.bl true) H') : q__law_set_right K ad (.ref a) (.ref p) (.int m) (.int n) H Q
theorem gthn {M : Addr → Prop} {F H F' H' H'' : Hp} (g : Gr M F H F' H') (s : Same H' H'') : Gr M F H F' H'' := ⟨g.ff, g.fh.trans s, fun b o n e => s _ _ (g.hh b o n e), g.nw⟩
def sp__law_set_right (K : PySem.W.Frag) (ad : Ad) : Sp := fun vs H Q _ => match vs with | [x0, x1, x2, x3] => q__law_set_right K ad x0 x1 x2 x3 H Q | _ => False
theorem c__law_set_right {K : PySem.W.Frag} {ad : Ad} {x0 x1 x2 x3 : V} {H : Hp} {Q : VK} {E : XK} (h : q__law_set_right K ad x0 x1 x2 x3 H Q) : sp__law_set_right K ad ([x0, x1, x2, x3] ++ []) H Q E := h
theorem n__law_set_right {K : PySem.W.Frag} {ad : Ad} {vs : List V} {H : Hp} {Q : VK} {E : XK} (h : sp__law_set_right K ad vs H Q E) : ∃ x0 x1 x2 x3, vs = [x0, x1, x2, x3] ∧ q__law_set_right K ad x0 x1 x2 x3 H Q := match vs, h with | [x0, x1, x2, x3], h => ⟨x0, x1, x2, x3, rfl, h⟩
def t__law_set_right (K : PySem.W.Frag) (ad : Ad) : TS := (tSeq (tAsg (tCall (sp_set_of K ad) [] E0 (tCons (tVar 2) (tCons (tVar 3) tNil))) (gName 4))
    (tSeq (tIfS (tOr (tNot (zTru K (tCall (sp__law_is_set K ad) [] E0 (tCons (tVar 4) tNil)))) (tOr (tTest (tOp (zNe K) (tCB (zLen K) (tCons (tVar 4) tNil)) (tOp (zAdd K) (tVar 2) (tC (.int 1))))) (tOr (tTest (tOp (zLt K) (tOp (rIx K) (tVar 4) (tC (.int 0))) (tC (.int 0)))) (tTest (tOp zGt (tOp (rIx K) (tVar 4) (tVar 2)) (tOp (zAdd K) (tOp zMul (tVar 2) (tVar 2)) (tVar 2))))))) (tRet (tC (.bl false))) tNext)
    (tSeq (tIfS (tOr (tTest (tOp (zNe K) (tLc (iRng1 (tCons (tVar 2) tNil)) (gName 5) (tTest (tOp zGe (tOp (rIx K) (tVar 4) (tVar 5)) (tOp (rIx K) (tVar 4) (tOp (zAdd K) (tVar 5) (tC (.int 1)))))) (tC (.int 1)) [5]) (tLst tNil))) (tOr (tTest (tOp (zNotIn K) (tVar 3) (tVar 4))) (tTest (tOp (zNe K) (tCall (sp_set_of K ad) [] E0 (tCons (tVar 2) (tCons (tVar 3) tNil))) (tVar 4))))) (tRet (tC (.bl false))) tNext)
    (tSeq (tFor (iRng1 (tCons (tC (.int 6)) tNil)) (gName 5)
    (tSeq (tAsg (tOp (rIx K) (tVar 4) (tCall (sp__law_take K ad) [] E0 (tCons (tVar 0) (tCons (tVar 1) (tCons (tOp (zAdd K) (tVar 2) (tC (.int 1))) tNil))))) (gName 6))
    (Evl.tCut (tIfS (tTest (tOp zGt (tVar 5) (tC (.int 2)))) (tAsg (tCall (sp__law_take K ad) [] E0 (tCons (tVar 0) (tCons (tVar 1) (tCons (tOp (zAdd K) (tOp (zAdd K) (tOp zMul (tVar 2) (tVar 2)) (tVar 2)) (tC (.int 1))) tNil)))) (gName 6)) tNext)
    (tSeq (tAsg (tCall (sp_lies K ad) [] E0 (tCons (tVar 2) (tCons (tVar 6) (tCons (tVar 3) tNil)))) (gName 7))
    (tIfS (tOr (tNot (zTru K (tCB (rIsi K) (tCons (tVar 7) (tCons (tC (.ty "bool")) tNil))))) (tTest (tOp (zNe K) (tVar 7) (tOp (zIn K) (tVar 6) (tVar 4))))) (tRet (tC (.bl false))) tNext)))))
    (tRet (tC (.bl true)))))))
theorem w__law_set_right {K : PySem.W.Frag} {ad : Ad} {x0 x1 x2 x3 : V} {H : Hp} {Q : VK} (h : q__law_set_right K ad x0 x1 x2 x3 H Q) : t__law_set_right K ad ⟨fun _ H' => Q .non H', Q, fun _ _ => False, fun _ _ => False⟩ [some x0, some x1, some x2, some x3, none, none, none, none] H := by
  cases h with
  | @mk a p m n ns F _ _ hF hS hp fp P n0 n1 k =>
    have lo := P.lo
    have hi := P.hi
    have pb : m * m ≤ 9973 * 9973 := Int.mul_le_mul hi hi (by omega) (by omega)
    have pb0 : 0 ≤ m * m := Int.mul_nonneg (by omega) (by omega)
    have hl := lineOf_ok lo n0 n1
    have all := setOf_ok lo hl
    have rise := setOf_nodup lo hl
    have len := setOf_len (lineOf m n) lo
    have mm : ∀ z, 0 ≤ z → z < m * m + m + 1 → on m z n = decide (z ∈ setOf m (lineOf m n)) := fun z z0 z1 => by
      cases ho : on m z n with
      | true => exact (decide_eq_true (setOf_all lo hl z0 z1 ho)).symm
      | false => exact (decide_eq_false fun h => by
          have : on m z n = true := (all z h).2
          rw [ho] at this
          cases this).symm
    have own : n ∈ setOf m (lineOf m n) := setOf_all lo hl n0 n1 (number_on lo n0 n1)
    have all : ∀ s ∈ setOf m (lineOf m n), 0 ≤ s ∧ s < m * m + m + 1 := fun s hs => (all s hs).1
    unfold t__law_set_right
    walk_at "rd"
    apply c_set_of
    refine q_set_of.mk P n0 n1 fun t H1 s1 nt et => ?_
    have again : ∀ H2 (Q2 : VK), (∀ t2 H3, Same H2 H3 → H3 t2 = some (.tup ((setOf m (lineOf m n)).map V.int)) → Q2 (.ref t2) H3) → q_set_of K ad (.int m) (.int n) H2 Q2 E0 := fun H2 Q2 k2 => q_set_of.mk P n0 n1 fun t2 H3 s3 _ e3 => k2 t2 H3 s3 e3
    generalize setOf m (lineOf m n) = L at *
    obtain ⟨_, ep⟩ := hp.is
    have at1 : ∀ j : Nat, (j : Int) < m + 1 → L[j]? = some (L.getD j 0) := fun j hj => by
      rw [List.getD_eq_getElem?_getD, List.getElem?_eq_getElem (by omega)]
      rfl
    have mem : ∀ j : Nat, (j : Int) < m + 1 → L.getD j 0 ∈ L := fun j hj => List.mem_of_getElem? (at1 j hj)
    walk_at "rd"
    apply c__law_is_set
    refine q__law_is_set.mk (SqT.of et) (by omega) fun H2 s2 => ?_
    have et2 := s2 _ _ et
    walk_at "rd"
    rw [List.length_map, len, Int.toNat_of_nonneg (by omega)]
    have a0 := all _ (mem 0 (by omega))
    have am := all _ (mem m.toNat (by omega))
    walk_at "rd"
    refine o_ixT (SqT.of et2) (atI_ints (at1 0 (by omega))) ?_
    walk_at "rd"
    have etm : atI (L.map V.int) m = some (.int (L.getD m.toNat 0)) := by
      have := atI_ints (at1 m.toNat (by omega))
      rwa [Int.toNat_of_nonneg (by omega)] at this
    refine o_ixT (SqT.of et2) etm ?_
    walk_at "rd"
    refine lcR_ones (fun _ => false) (by omega) (fun i H3 QB hi s3 q => ?_) (fun D c nD hc => ?_)
    · have et3 := s3 _ _ et2
      walk_at "rd"
      refine o_ixT (SqT.of et3) (atI_ints (at1 i (by omega))) ?_
      walk_at "rd"
      rw [show (i : Int) + 1 = ((i + 1 : Nat) : Int) by omega]
      refine o_ixT (SqT.of et3) (atI_ints (at1 (i + 1) (by omega))) ?_
      have lt : L.getD i 0 < L.getD (i + 1) 0 := by
        have := List.pairwise_iff_getElem.mp rise i (i + 1) (by omega) (by omega) (by omega)
        rw [List.getD_eq_getElem?_getD, List.getD_eq_getElem?_getD, List.getElem?_eq_getElem (by omega), List.getElem?_eq_getElem (by omega)]
        exact this
      walk_at "rd"
      rw [decide_eq_false (by omega)]
      exact q
    have c0 : c = 0 := hc.mpr fun _ _ => rfl
    have s3 : Same H2 (upd H2 D (ones c)) := up_keep nD
    have eD := upd_same (H := H2) (a := D) (o := ones c)
    generalize upd H2 D (ones c) = H3 at *
    walk_at "rd"
    refine o_new (Nat.zero_le _) fun u nu => ?_
    have s4 : Same H3 (upd H3 u (.lst [])) := up_keep nu
    have eu := upd_same (H := H3) (a := u) (o := .lst [])
    generalize upd H3 u (.lst []) = H4 at *
    refine o_neOnes (s4 _ _ eD) eu ?_
    rw [decide_eq_true c0]
    have S4 := s1.trans (s2.trans (s3.trans s4))
    have et4 := (s3.trans s4) _ _ et2
    walk_at "rd"
    refine o_notInI (.inr (SqT.of et4)) ?_
    rw [decide_eq_true own]
    walk_at "rd"
    apply c_set_of
    refine again _ _ fun t2 H5 s5 e5 => ?_
    have et5 := s5 _ _ et4
    walk_at "rd"
    refine o_neIT (SqT.of e5) (SqT.of et5) ?_
    rw [decide_eq_true rfl]
    have G5 := gthn (Gr.refl hF (M := M1 p)) (S4.trans s5)
    have hp5 : Pot H5 p := hp.at (S4.trans s5 p)
    have tp : t ≠ p := fun z => by
      obtain ⟨_, _, _, _, ep5⟩ := id hp5
      rw [← z, et5] at ep5
      cases ep5
    clear S4 s5 s4 s3 s2 s1 et et2 et4 eD eu nu nD a0 am etm hc again e5 nt ep
    walk_at "rd"
    refine lp_range1 (by omega) (fun i σ' H' => (∃ y5 y6 y7, σ' = [some (.ref a), some (.ref p), some (.int m), some (.int n), some (.ref t), y5, y6, y7]) ∧ Pot H' p ∧ Gr (M1 p) F H F H' ∧ H' t = some (.tup (L.map V.int))) ⟨⟨_, _, _, rfl⟩, hp5, G5, et5⟩ ?_ ?_
    · clear hp5 G5 et5
      rintro i σ' H1 hi' ⟨⟨y5, y6, y7, rfl⟩, hp1, G1, et1⟩
      obtain ⟨_, ep1⟩ := hp1.is
      walk_at "rd"
      apply c__law_take
      refine q__law_take.mk G1.fh hS hp1 fp (by omega) (by omega) fun d H2 d0 d1 hp2 g2 => ?_
      obtain ⟨_, ep2⟩ := hp2.is
      have et2 := g2.hh _ _ tp et1
      have G2 := G1.tr1 g2 ep1
      obtain ⟨j, rfl⟩ : ∃ j : Nat, d = (j : Int) := ⟨d.toNat, by omega⟩
      have hj := all _ (mem j (by omega))
      walk_at "rd"
      refine o_ixT (SqT.of et2) (atI_ints (at1 j (by omega))) ?_
      generalize L.getD j 0 = s at hj
      walk_at "rd"
      refine s_cut (fun σ' H' => (∃ s : Int, σ' = [some (.ref a), some (.ref p), some (.int m), some (.int n), some (.ref t), some (.int i), some (.int s), y7] ∧ 0 ≤ s ∧ s < m * m + m + 1) ∧ Pot H' p ∧ Gr (M1 p) F H F H' ∧ H' t = some (.tup (L.map V.int))) ?_ ?_
      · walk_at "rd"
        walk_at "if"
        · walk_at "rd"
          apply c__law_take
          refine q__law_take.mk G2.fh hS hp2 fp (by omega) (by omega) fun d H3 d0 d1 hp3 g3 => ?_
          walk_at "rd"
          exact ⟨⟨_, rfl, d0, d1⟩, hp3, G2.tr1 g3 ep2, g3.hh _ _ tp et2⟩
        · walk_at "rd"
          exact ⟨⟨_, rfl, hj.1, hj.2⟩, hp2, G2, et2⟩
      · clear hj hp2 G2 et2 ep2 g2 hp1 G1 et1 ep1
        rintro σ' H3 ⟨⟨s, rfl, s0, s1⟩, hp3, G3, et3⟩
        walk_at "rd"
        apply c_lies
        refine q_lies.mk P s0 s1 n0 n1 fun H4 s4 => ?_
        rw [mm s s0 s1]
        have et4 := s4 _ _ et3
        walk_at "rd"
        refine o_inI (.inr (SqT.of et4)) ?_
        walk_at "rd"
        exact ⟨⟨_, _, _, rfl⟩, hp3.at (s4 p), gthn G3 s4, et4⟩
    · rintro σ' H1 ⟨⟨y5, y6, y7, rfl⟩, hp1, G1, et1⟩
      walk_at "rd"
      exact k _ hp1 G1

theorem o_neSame {K : PySem.W.Frag} {x y : V} {H : Hp} {Q : VK} {d : PyData} {n : Nat} (hx : Dp K H x d) (hy : Dp K H y d) (pl : Pl n d) (hn : n ≤ 64) (h : Q (.bl false) H) : zNe K x y H Q :=
  o_neD hx hy (pl.shaped hn) (pl.shaped hn) (by rw [pl.refl]; exact h)
theorem pl_due : ∀ f, Pl 1 (dueD f)
  | none => pl_none
  | some (.prime p) => pl_tup fun d hd => by
    rcases List.mem_cons.mp hd with rfl | hd
    · exact pl_str
    · rw [List.mem_singleton.mp hd]
      exact pl_int
  | some (.seat p) => pl_tup fun d hd => by
    rcases List.mem_cons.mp hd with rfl | hd
    · exact pl_str
    · rw [List.mem_singleton.mp hd]
      exact pl_int
  | some (.set p) => pl_tup fun d hd => by
    rcases List.mem_cons.mp hd with rfl | hd
    · exact pl_str
    · rw [List.mem_singleton.mp hd]
      exact pl_int
  | some .many => pl_tup fun d hd => by
    rcases List.mem_cons.mp hd with rfl | hd
    · exact pl_str
    · rw [List.mem_singleton.mp hd]
      exact pl_str
theorem set_end (zs : List Int) (x y : Int) : ((zs ++ [x]).map V.int).set zs.length (.int y) = (zs ++ [y]).map V.int := by
  rw [List.map_append, List.map_append, List.set_append_right _ _ (by rw [List.length_map]; exact Nat.le_refl _), List.length_map, Nat.sub_self]
  rfl
/-- a list of one's own, outside the frame, changes -/
theorem gr_own {M : Addr → Prop} {F H F' H' : Hp} (g : Gr M F H F' H') {b : Addr} {o : HO} (hb : H b = none) (fb : F' b = none) : Gr M F H F' (upd H' b o) :=
  ⟨g.ff, fun c u e => by
    rw [upd_ne fun z => by rw [z, fb] at e; cases e]
    exact g.fh c u e, fun c u n e => by
    rw [upd_ne fun z => by rw [z, hb] at e; cases e]
    exact g.hh c u n e, g.nw⟩
inductive q_law (K : PySem.W.Frag) (ad : Ad) : V → Hp → VK → Prop
  | mk {a : Addr} {ns : List Int} {H : Hp} {Q : VK} (X : Xf K ad) (hl : ns.length ≤ 63) (hS : SqL K H a (ns.map V.int)) (k : ∀ H', Q (.bl true) H') : q_law K ad (.ref a) H Q

def sp_law (K : PySem.W.Frag) (ad : Ad) : Sp := fun vs H Q _ => match vs with | [x0] => q_law K ad x0 H Q | _ => False
theorem c_law {K : PySem.W.Frag} {ad : Ad} {x0 : V} {H : Hp} {Q : VK} {E : XK} (h : q_law K ad x0 H Q) : sp_law K ad ([x0] ++ []) H Q E := h
theorem n_law {K : PySem.W.Frag} {ad : Ad} {vs : List V} {H : Hp} {Q : VK} {E : XK} (h : sp_law K ad vs H Q E) : ∃ x0, vs = [x0] ∧ q_law K ad x0 H Q := match vs, h with | [x0], h => ⟨x0, rfl, h⟩
theorem spLaw_to {K : PySem.W.Frag} (ad : Ad) (X : Xf K ad) {vs : List V} {H : Hp} {Q : VK} {E : XK} (h : spLaw K vs H Q E) : sp_law K ad vs H Q E := by
  obtain ⟨a, ns, rfl, hl, hS, k⟩ := h
  exact q_law.mk X hl hS k
def t_law (K : PySem.W.Frag) (ad : Ad) : TS := (tSeq (tAsg (tLst (tCons (tC (.int 0)) (tCons (tC (.int 0)) tNil))) (gName 1))
    (tSeq (tFor (iRng1 (tCons (tC (.int 30)) tNil)) (gName 2)
    (tSeq (tAsg (tCall (sp__law_prime K ad) [] E0 (tCons (tVar 0) (tCons (tVar 1) (tCons (tVar 2) tNil)))) (gName 3))
    (tSeq (tIfS (tOr (tNot (zTru K (tCall (sp__law_whole K ad) [] E0 (tCons (tCall (sp_seats_of K ad) [] E0 (tCons (tVar 3) tNil)) tNil)))) (tTest (tOp (zNe K) (tCall (sp_seats_of K ad) [] E0 (tCons (tVar 3) tNil)) (tOp (zAdd K) (tOp (zAdd K) (tOp zMul (tVar 3) (tVar 3)) (tVar 3)) (tC (.int 1)))))) (tRet (tC (.bl false))) tNext)
    (tSeq (tIfS (tNot (zTru K (tCall (sp__law_set_right K ad) [] E0 (tCons (tVar 0) (tCons (tVar 1) (tCons (tVar 3) (tCons (tCall (sp__law_take K ad) [] E0 (tCons (tVar 0) (tCons (tVar 1) (tCons (tOp (zAdd K) (tOp (zAdd K) (tOp zMul (tVar 3) (tVar 3)) (tVar 3)) (tC (.int 1))) tNil)))) tNil))))))) (tRet (tC (.bl false))) tNext)
    (Evl.tCut (tIfS (tTest (tOp (zLt K) (tVar 3) (tC (.int 8)))) (tSeq (tAsg (tCall (sp_plane K ad) [] E0 (tCons (tVar 3) tNil)) (gName 4))
    (tIfS (tOr (tNot (zTru K (tCB (rIsi K) (tCons (tVar 4) (tCons (tC (.ty "list")) tNil))))) (tTest (tOp (zNe K) (tVar 4) (tLc (iRng1 (tCons (tOp (zAdd K) (tOp (zAdd K) (tOp zMul (tVar 3) (tVar 3)) (tVar 3)) (tC (.int 1))) tNil)) (gName 5) tYes (tCall (sp_set_of K ad) [] E0 (tCons (tVar 3) (tCons (tVar 5) tNil))) [5])))) (tRet (tC (.bl false))) tNext)) tNext)
    (tSeq (tAsg (tVar 3) (gName 6))
    (Evl.tCut (tIfS (tTest (tOp (zEq K) (tCall (sp__law_take K ad) [] E0 (tCons (tVar 0) (tCons (tVar 1) (tCons (tC (.int 2)) tNil)))) (tC (.int 0)))) (tAsg (tCall (sp__law_number K ad) [] E0 (tCons (tVar 0) (tCons (tVar 1) tNil))) (gName 6)) tNext)
    (tSeq (tAsg (tLst tNil) (gName 7))
    (tSeq (tFor (iRng1 (tCons (tC (.int 2)) tNil)) (gName 5)
    (tSeq (tAsg (tCall (sp__law_take K ad) [] E0 (tCons (tVar 0) (tCons (tVar 1) (tCons (tC (.int 5)) tNil)))) (gName 8))
    (tSeq (tDrop (tBM K "list" rAppend (tVar 7) (tCons (tCall (sp__law_take K ad) [] E0 (tCons (tVar 0) (tCons (tVar 1) (tCons (tOp (zAdd K) (tOp (zAdd K) (tOp zMul (tVar 3) (tVar 3)) (tVar 3)) (tC (.int 1))) tNil)))) tNil)))
    (Evl.tCut (tIfS (tTest (tOp (zEq K) (tVar 8) (tC (.int 0)))) (tAsg (tOp (rIx K) (tLst (tCons (tUn (rU fun i => .int (-i)) (tC (.int 1))) (tCons (tOp (zAdd K) (tOp (zAdd K) (tOp zMul (tVar 3) (tVar 3)) (tVar 3)) (tC (.int 1))) (tCons (tOp zSub (tC (.int 0)) (tCall (sp__law_take K ad) [] E0 (tCons (tVar 0) (tCons (tVar 1) (tCons (tOp zPow (tC (.int 10)) (tC (.int 50))) tNil))))) tNil)))) (tCall (sp__law_take K ad) [] E0 (tCons (tVar 0) (tCons (tVar 1) (tCons (tC (.int 3)) tNil))))) (gSub (tVar 7) (tVar 5) rSetL)) tNext)
    (tIfS (tTest (tOp (zEq K) (tVar 8) (tC (.int 1)))) (tAsg (tOp (rIx K) (tVar 7) (tC (.int 0))) (gSub (tVar 7) (tVar 5) rSetL)) tNext)))))
    (tSeq (tAsg (tCall (sp__law_take K ad) [] E0 (tCons (tVar 0) (tCons (tVar 1) (tCons (tC (.int 7)) tNil)))) (gName 9))
    (Evl.tCut (tIfS (tAnd (tTest (tOp (zEq K) (tVar 9) (tC (.int 5)))) (tTest (tOp (zEq K) (tOp (rIx K) (tVar 7) (tC (.int 0))) (tOp (rIx K) (tVar 7) (tC (.int 1)))))) (tAsg (tUn (rU fun i => .int (-i)) (tC (.int 2))) (gSub (tVar 7) (tC (.int 1)) rSetL)) tNext)
    (tSeq (tIfS (tTest (tOp (zNe K) (tCall (sp__law_met K ad) [] E0 (tCons (tVar 9) (tCons (tVar 6) (tCons (tOp (rIx K) (tVar 7) (tC (.int 0))) (tCons (tOp (rIx K) (tVar 7) (tC (.int 1))) tNil))))) (tCall (sp__law_due K ad) [] E0 (tCons (tVar 9) (tCons (tVar 6) (tCons (tOp (rIx K) (tVar 7) (tC (.int 0))) (tCons (tOp (rIx K) (tVar 7) (tC (.int 1))) tNil))))))) (tRet (tC (.bl false))) tNext)
    (tIfS (tTest (tOp zGe (tOp (rIx K) (tVar 1) (tC (.int 0))) (tCB (zLen K) (tCons (tVar 0) tNil)))) (tRet (tC (.bl true))) tNext)))))))))))))
    (tRet (tC (.bl true)))))
theorem w_law {K : PySem.W.Frag} {ad : Ad} {x0 : V} {H : Hp} {Q : VK} (h : q_law K ad x0 H Q) : t_law K ad ⟨fun _ H' => Q .non H', Q, fun _ _ => False, fun _ _ => False⟩ [some x0, none, none, none, none, none, none, none, none, none] H := by
  cases h with
  | @mk a ns _ _ X hl hS k =>
    unfold t_law
    walk_at "rd"
    refine o_new (by walk_at "len") fun p np => ?_
    walk_at "rd"
    have G0 : Gr (M1 p) H H H (upd H p (.lst [.int 0, .int 0])) := (Gr.refl (Same.refl H)).add np
    have hp0 : Pot (upd H p (.lst [.int 0, .int 0])) p := ⟨0, 0, by omega, by omega, upd_same⟩
    have fp : H p = none := np
    refine lp_range1 (by omega) (fun i σ' H' => (∃ y2 y3 y4 y5 y6 y7 y8 y9, σ' = [some (.ref a), some (.ref p), y2, y3, y4, y5, y6, y7, y8, y9]) ∧ Pot H' p ∧ Gr (M1 p) H H H H') ⟨⟨_, _, _, _, _, _, _, _, rfl⟩, hp0, G0⟩ ?_ ?_
    · clear G0 hp0
      rintro i σ' H1 hi ⟨⟨y2, y3, y4, y5, y6, y7, y8, y9, rfl⟩, hp1, G1⟩
      obtain ⟨_, ep1⟩ := hp1.is
      walk_at "rd"
      apply c__law_prime
      refine q__law_prime.mk G1.fh hS hp1 fp fun m H2 P hp2 g2 => ?_
      have G2 := G1.tr1 g2 ep1
      obtain ⟨_, ep2⟩ := hp2.is
      clear hp1 g2 ep1 G1
      have lo := P.lo
      have hi := P.hi
      have pb : m * m ≤ 9973 * 9973 := Int.mul_le_mul hi hi (by omega) (by omega)
      have pb0 : 0 ≤ m * m := Int.mul_nonneg (by omega) (by omega)
      walk_at "rd"
      apply c_seats_of
      refine q_seats_of.mk P ?_
      walk_at "rd"
      apply c__law_whole
      refine q__law_whole.int ?_
      walk_at "rd"
      apply c_seats_of
      refine q_seats_of.mk P ?_
      walk_at "rd"
      apply c__law_take
      refine q__law_take.mk G2.fh hS hp2 fp (by omega) (by omega) fun n H3 n0 n1 hp3 g3 => ?_
      have G3 := G2.tr1 g3 ep2
      obtain ⟨_, ep3⟩ := hp3.is
      walk_at "rd"
      apply c__law_set_right
      refine q__law_set_right.mk G3.fh hS hp3 fp P n0 n1 fun H4 hp4 g4 => ?_
      have G4 := G3.tr1 g4 ep3
      clear hp2 g3 ep2 G2 hp3 g4 ep3 G3
      walk_at "rd"
      refine s_cut (fun σ' H' => (∃ y4 y5, σ' = [some (.ref a), some (.ref p), some (.int i), some (.int m), y4, y5, y6, y7, y8, y9]) ∧ Same H4 H') ?_ ?_
      · walk_at "rd"
        by_cases h8 : m < 8
        · have pb7 : m * m ≤ 7 * 7 := Int.mul_le_mul (by omega) (by omega) (by omega) (by omega)
          walk_at "rd"
          apply c_plane
          refine q_plane.mk P (by omega) fun r vs H5 s5 er tv => ?_
          walk_at "rd"
          refine lcR_rel (fun i y H' => ∃ t, y = .ref t ∧ H' t = some (.tup ((setOf m (lineOf m (i : Int))).map V.int))) ⟨fun _ _ _ _ s ⟨t, e, x⟩ => ⟨t, e, s _ _ x⟩, fun i y H1 D acc acc' e _ ⟨t, et, x⟩ => ⟨t, et, by
            rw [upd_ne]
            · exact x
            · intro z
              rw [z, e] at x
              cases x⟩⟩ ⟨by omega, by omega⟩ (fun i hi H2 Q2 SF q => ?_) (fun D H6 ys nD s6 eD ly hy => ?_)
          · walk_at "rd"
            apply c_set_of
            refine q_set_of.mk P (by omega) (by omega) fun t H3 s3 nt et => ?_
            exact q _ _ s3 (fun b e => .inl (by cases e; exact nt)) ⟨t, rfl, et⟩
          · have tys : TIs H6 ys (setsOf m) := paired_of (by rw [ly, setsOf, List.length_map, List.length_range]) fun i y e => by
              obtain ⟨t, rfl, et⟩ := hy i y e
              have il := (List.getElem?_eq_some_iff.mp e).1
              rw [ly] at il
              exact ⟨setOf m (lineOf m (i : Int)), by rw [setsOf, List.getElem?_map, List.getElem?_range il]; rfl, t, rfl, et⟩
            refine o_neLI (SqL.of (s6 _ _ er)) (SqL.of eD) (TIs.mono s6 tv) tys ?_
            rw [decide_eq_true rfl]
            walk_at "rd"
            exact ⟨⟨_, _, rfl⟩, s5.trans s6⟩
        · walk_at "rd"
          exact ⟨⟨_, _, rfl⟩, Same.refl _⟩
      rintro σ' H5 ⟨⟨z4, z5, rfl⟩, s5⟩
      have G5 := gthn G4 s5
      have hp5 := hp4.at (s5 p)
      clear s5 G4 hp4 y4 y5
      walk_at "rd"
      refine s_cut (fun σ' H' => (∃ num : Int, σ' = [some (.ref a), some (.ref p), some (.int i), some (.int m), z4, z5, some (.int num), y7, y8, y9]) ∧ Pot H' p ∧ Gr (M1 p) H H H H') ?_ ?_
      · obtain ⟨_, ep5⟩ := hp5.is
        walk_at "rd"
        apply c__law_take
        refine q__law_take.mk G5.fh hS hp5 fp (by omega) (by omega) fun w H6 w0 w1 hp6 g6 => ?_
        have G6 := G5.tr1 g6 ep5
        obtain ⟨_, ep6⟩ := hp6.is
        walk_at "rd"
        walk_at "if"
        · walk_at "rd"
          apply c__law_number
          refine q__law_number.mk G6.fh hS hp6 fp fun num H7 hp7 g7 => ?_
          walk_at "rd"
          exact ⟨⟨_, rfl⟩, hp7, G6.tr1 g7 ep6⟩
        · walk_at "rd"
          exact ⟨⟨_, rfl⟩, hp6, G6⟩
      clear hp5 G5
      rintro σ' H6 ⟨⟨num, rfl⟩, hp6, G6⟩
      walk_at "rd"
      refine o_new (Nat.zero_le _) fun B nB => ?_
      obtain ⟨_, ep6⟩ := hp6.is
      have nBp : B ≠ p := fresh_ne nB ep6
      have fB : H B = none := fresh_F G6.fh nB
      have G7 := G6.add nB (o := .lst [])
      have hp7 := hp6.upd (o := .lst []) nBp.symm
      have eB := upd_same (H := H6) (a := B) (o := .lst [])
      generalize upd H6 B (.lst []) = H7 at *
      clear ep6 G6 hp6 nB
      walk_at "rd"
      refine lp_range1 (by omega) (fun j σ' H' => (∃ z5 z8, σ' = [some (.ref a), some (.ref p), some (.int i), some (.int m), z4, z5, some (.int num), some (.ref B), z8, y9]) ∧ Pot H' p ∧ Gr (M1 p) H H H H' ∧ ∃ zs : List Int, zs.length = j ∧ H' B = some (.lst (zs.map V.int))) ⟨⟨_, _, rfl⟩, hp7, G7, [], rfl, eB⟩ ?_ ?_
      · clear hp7 G7 eB
        rintro j σ' H8 hj ⟨⟨z5, z8, rfl⟩, hp8, G8, zs, zl, eB8⟩
        obtain ⟨_, ep8⟩ := hp8.is
        walk_at "rd"
        apply c__law_take
        refine q__law_take.mk G8.fh hS hp8 fp (by omega) (by omega) fun way H9 w0 w1 hp9 g9 => ?_
        have G9 := G8.tr1 g9 ep8
        have eB9 := g9.hh _ _ nBp eB8
        obtain ⟨_, ep9⟩ := hp9.is
        clear hp8 G8 eB8 ep8 g9
        walk_at "rd"
        refine ⟨ty_list (SqL.of eB9), ?_⟩
        walk_at "rd"
        apply c__law_take
        refine q__law_take.mk G9.fh hS hp9 fp (by omega) (by omega) fun z HA a0 a1 hpA gA => ?_
        have GA := G9.tr1 gA ep9
        have eBA := gA.hh _ _ nBp eB9
        clear hp9 G9 eB9 ep9 gA
        walk_at "rd"
        refine m_app eBA (by rw [List.length_map, sizeLine_eq]; omega) ?_
        have e1 : zs.map V.int ++ [V.int z] = (zs ++ [z]).map V.int := by rw [List.map_append]; rfl
        rw [e1]
        have GB := gr_own GA (o := .lst ((zs ++ [z]).map V.int)) fB fB
        have hpB := hpA.upd (o := .lst ((zs ++ [z]).map V.int)) nBp.symm
        have eBB := upd_same (H := HA) (a := B) (o := .lst ((zs ++ [z]).map V.int))
        generalize upd HA B (.lst ((zs ++ [z]).map V.int)) = HB at *
        have ix : ∀ x : Int, ixN ((zs ++ [x]).map V.int).length (j : Int) = some zs.length := fun x => by
          have e : ((zs ++ [x]).map V.int).length = j + 1 := by rw [List.length_map, List.length_append, zl]; rfl
          rw [e, zl]
          exact Evl.ixN_nat (by omega)
        clear eBA hpA GA e1
        walk_at "rd"
        refine s_cut (fun σ' H' => σ' = [some (.ref a), some (.ref p), some (.int i), some (.int m), z4, some (.int j), some (.int num), some (.ref B), some (.int way), y9] ∧ Pot H' p ∧ Gr (M1 p) H H H H' ∧ ∃ z : Int, H' B = some (.lst ((zs ++ [z]).map V.int))) ?_ ?_
        · walk_at "rd"
          walk_at "if"
          · obtain ⟨_, epB⟩ := hpB.is
            walk_at "rd"
            apply c__law_take
            refine q__law_take.mk GB.fh hS hpB fp (by decide) (by decide) fun far HC f0 f1 hpC gC => ?_
            have GC := GB.tr1 gC epB
            have eBC := gC.hh _ _ nBp eBB
            obtain ⟨_, epC⟩ := hpC.is
            clear hpB GB eBB epB gC f0 f1
            walk_at "rd"
            refine o_new (by walk_at "len") fun u nu => ?_
            have up : u ≠ p := fresh_ne nu epC
            have uB : u ≠ B := fresh_ne nu eBC
            obtain ⟨xs, hxs⟩ : ∃ xs : List Int, xs = [-1, m * m + m + 1, 0 - far] := ⟨_, rfl⟩
            have eu : (upd HC u (.lst [.int (-1), .int (m * m + m + 1), .int (0 - far)])) u = some (.lst (xs.map V.int)) := by rw [hxs]; exact upd_same
            have GD := GC.add nu (o := .lst [.int (-1), .int (m * m + m + 1), .int (0 - far)])
            have hpD := hpC.upd (o := .lst [.int (-1), .int (m * m + m + 1), .int (0 - far)]) up.symm
            have eBD : (upd HC u (.lst [.int (-1), .int (m * m + m + 1), .int (0 - far)])) B = some (.lst ((zs ++ [z]).map V.int)) := (upd_ne uB.symm).trans eBC
            generalize upd HC u (.lst [.int (-1), .int (m * m + m + 1), .int (0 - far)]) = HD at *
            have xl : xs.length = 3 := by rw [hxs]; rfl
            obtain ⟨_, epD⟩ := hpD.is
            clear hxs eBC hpC GC epC nu
            walk_at "rd"
            apply c__law_take
            refine q__law_take.mk GD.fh hS hpD fp (by omega) (by omega) fun d HE d0 d1 hpE gE => ?_
            have GE := GD.tr1 gE epD
            have euE := gE.hh _ _ up eu
            have eBE := gE.hh _ _ nBp eBD
            obtain ⟨t, rfl⟩ : ∃ t : Nat, d = (t : Int) := ⟨d.toNat, by omega⟩
            have et : xs[t]? = some xs[t] := List.getElem?_eq_getElem (by omega)
            with_reducible apply o_ixL (SqL.of euE) (atI_ints et)
            generalize xs[t] = y at *
            walk_at "rd"
            refine o_setL eBE (ix z) ?_
            rw [set_end]
            exact ⟨rfl, hpE.upd nBp.symm, gr_own GE fB fB, y, upd_same⟩
          · walk_at "rd"
            exact ⟨rfl, hpB, GB, z, eBB⟩
        · clear eBB hpB GB a0 a1 z
          rintro σ' HC ⟨rfl, hpC, GC, z, eBC⟩
          walk_at "rd"
          walk_at "if"
          · obtain ⟨y, hy⟩ : ∃ y, (zs ++ [z])[0]? = some y := ⟨_, List.getElem?_eq_getElem (by rw [List.length_append]; exact Nat.succ_pos _)⟩
            walk_at "rd"
            refine o_ixL (SqL.of eBC) (atI_ints hy) ?_
            walk_at "rd"
            refine o_setL eBC (ix z) ?_
            rw [set_end]
            exact ⟨⟨_, _, rfl⟩, hpC.upd nBp.symm, gr_own GC fB fB, zs ++ [y], by rw [List.length_append, zl]; rfl, upd_same⟩
          · walk_at "rd"
            exact ⟨⟨_, _, rfl⟩, hpC, GC, zs ++ [z], by rw [List.length_append, zl]; rfl, eBC⟩
      · clear hp7 G7 eB
        rintro σ' H8 ⟨⟨z5, z8, rfl⟩, hp8, G8, zs, zl, eB8⟩
        obtain ⟨u, v, rfl⟩ : ∃ u v, zs = [u, v] := by
          match zs, zl with
          | [u, v], _ => exact ⟨u, v, rfl⟩
        replace eB8 : H8 B = some (.lst [.int u, .int v]) := eB8
        obtain ⟨_, ep8⟩ := hp8.is
        walk_at "rd"
        apply c__law_take
        refine q__law_take.mk G8.fh hS hp8 fp (by omega) (by omega) fun door H9 d0 d1 hp9 g9 => ?_
        have G9 := G8.tr1 g9 ep8
        have eB9 := g9.hh _ _ nBp eB8
        clear hp8 G8 eB8 ep8 g9
        walk_at "rd"
        refine s_cut (fun σ' H' => (∃ door : Int, 0 ≤ door ∧ door < 7 ∧ σ' = [some (.ref a), some (.ref p), some (.int i), some (.int m), z4, z5, some (.int num), some (.ref B), z8, some (.int door)]) ∧ Pot H' p ∧ Gr (M1 p) H H H H' ∧ ∃ u v : Int, H' B = some (.lst [.int u, .int v])) ?_ ?_
        · walk_at "rd"
          walk_at "if"
          · walk_at "rd"
            walk_at "if"
            · walk_at "rd"
              exact ⟨⟨door, d0, d1, rfl⟩, hp9.upd nBp.symm, gr_own G9 fB fB, u, -2, upd_same⟩
            · walk_at "rd"
              exact ⟨⟨door, d0, d1, rfl⟩, hp9, G9, u, v, eB9⟩
          · walk_at "rd"
            exact ⟨⟨door, d0, d1, rfl⟩, hp9, G9, u, v, eB9⟩
        · clear hp9 G9 eB9 d0 d1 u v zl
          rintro σ' HA ⟨⟨door, d0, d1, rfl⟩, hpA, GA, u, v, eBA⟩
          walk_at "rd"
          apply c__law_met
          refine q__law_met.mk X d0 d1 fun x HB sB dx => ?_
          have eBB := sB _ _ eBA
          walk_at "rd"
          apply c__law_due
          refine q__law_due.mk d0 d1 fun y HC sC dy => ?_
          walk_at "rd"
          refine o_neSame (Z.Dp.mono sC _ _ dx) dy (pl_due _) (by decide) ?_
          have S := sB.trans sC
          have GC := gthn GA S
          have hpC := hpA.at (S p)
          obtain ⟨pi, pr, _, _, epC⟩ := id hpC
          have hSC := Same.seq GC.fh hS
          walk_at "rd"
          walk_at "if"
          · walk_at "rd"
            exact k _
          · walk_at "rd"
            exact ⟨⟨_, _, _, _, _, _, _, _, rfl⟩, hpC, GC⟩
    · rintro σ' H1 ⟨⟨y2, y3, y4, y5, y6, y7, y8, y9, rfl⟩, hp1, G1⟩
      walk_at "rd"
      exact k _

def topS (i : Nat) : Stmt := PySem.Challenge.pw_soleseat_k50_planes_told.main.body.getD i (.Pass ⟨0, 0, 0, 0⟩)
abbrev s_NoSeat___init__ : Stmt := inClass (topS 2) 0
abbrev N_NoSeat___init__ : List Str := ["self", "seat"]
theorem sc_NoSeat___init__ : FnScope N_NoSeat___init__ ["self", "seat"] (defScope s_NoSeat___init__) := ⟨rfl, rfl, rfl, by decide +kernel, rfl, by decide +kernel, by decide +kernel⟩
abbrev s_TooMany___init__ : Stmt := inClass (topS 5) 0
abbrev N_TooMany___init__ : List Str := ["self", "what"]
theorem sc_TooMany___init__ : FnScope N_TooMany___init__ ["self", "what"] (defScope s_TooMany___init__) := ⟨rfl, rfl, rfl, by decide +kernel, rfl, by decide +kernel, by decide +kernel⟩
abbrev s_NoSet___init__ : Stmt := inClass (topS 6) 0
abbrev N_NoSet___init__ : List Str := ["self", "number"]
theorem sc_NoSet___init__ : FnScope N_NoSet___init__ ["self", "number"] (defScope s_NoSet___init__) := ⟨rfl, rfl, rfl, by decide +kernel, rfl, by decide +kernel, by decide +kernel⟩
abbrev s_TooManyFallen___init__ : Stmt := inClass (topS 9) 0
abbrev N_TooManyFallen___init__ : List Str := ["self", "many"]
theorem sc_TooManyFallen___init__ : FnScope N_TooManyFallen___init__ ["self", "many"] (defScope s_TooManyFallen___init__) := ⟨rfl, rfl, rfl, by decide +kernel, rfl, by decide +kernel, by decide +kernel⟩
abbrev s_NotPrime___init__ : Stmt := inClass (topS 10) 0
abbrev N_NotPrime___init__ : List Str := ["self", "number"]
theorem sc_NotPrime___init__ : FnScope N_NotPrime___init__ ["self", "number"] (defScope s_NotPrime___init__) := ⟨rfl, rfl, rfl, by decide +kernel, rfl, by decide +kernel, by decide +kernel⟩
abbrev s_seats_of : Stmt := topS 14
abbrev N_seats_of : List Str := ["p", "part"]
theorem sc_seats_of : FnScope N_seats_of ["p"] (defScope s_seats_of) := ⟨rfl, rfl, rfl, by decide +kernel, rfl, by decide +kernel, by decide +kernel⟩
abbrev s_seats_looked : Stmt := topS 15
abbrev N_seats_looked : List Str := ["p", "seats", "many", "seat"]
theorem sc_seats_looked : FnScope N_seats_looked ["p", "seats"] (defScope s_seats_looked) := ⟨rfl, rfl, rfl, by decide +kernel, rfl, by decide +kernel, by decide +kernel⟩
abbrev s_sets_looked : Stmt := topS 16
abbrev N_sets_looked : List Str := ["p", "numbers", "many", "number"]
theorem sc_sets_looked : FnScope N_sets_looked ["p", "numbers"] (defScope s_sets_looked) := ⟨rfl, rfl, rfl, by decide +kernel, rfl, by decide +kernel, by decide +kernel⟩
abbrev s_inverse : Stmt := topS 17
abbrev N_inverse : List Str := ["number", "p", "left", "right", "first", "second", "times"]
theorem sc_inverse : FnScope N_inverse ["number", "p"] (defScope s_inverse) := ⟨rfl, rfl, rfl, by decide +kernel, rfl, by decide +kernel, by decide +kernel⟩
abbrev s_line_of : Stmt := topS 18
abbrev N_line_of : List Str := ["p", "number", "x", "y", "shift"]
theorem sc_line_of : FnScope N_line_of ["p", "number"] (defScope s_line_of) := ⟨rfl, rfl, rfl, by decide +kernel, rfl, by decide +kernel, by decide +kernel⟩
abbrev s_number_of : Stmt := topS 19
abbrev N_number_of : List Str := ["p", "slope", "shift"]
theorem sc_number_of : FnScope N_number_of ["p", "slope", "shift"] (defScope s_number_of) := ⟨rfl, rfl, rfl, by decide +kernel, rfl, by decide +kernel, by decide +kernel⟩
abbrev s_through : Stmt := topS 20
abbrev N_through : List Str := ["p", "seat", "slope", "x", "y"]
theorem sc_through : FnScope N_through ["p", "seat", "slope"] (defScope s_through) := ⟨rfl, rfl, rfl, by decide +kernel, rfl, by decide +kernel, by decide +kernel⟩
abbrev s_lies : Stmt := topS 21
abbrev N_lies : List Str := ["p", "seat", "number", "slope", "shift", "x", "y"]
theorem sc_lies : FnScope N_lies ["p", "seat", "number"] (defScope s_lies) := ⟨rfl, rfl, rfl, by decide +kernel, rfl, by decide +kernel, by decide +kernel⟩
abbrev s_set_of : Stmt := topS 22
abbrev N_set_of : List Str := ["p", "number", "slope", "shift", "y", "x"]
theorem sc_set_of : FnScope N_set_of ["p", "number"] (defScope s_set_of) := ⟨rfl, rfl, rfl, by decide +kernel, rfl, by decide +kernel, by decide +kernel⟩
abbrev s_shared : Stmt := topS 23
abbrev N_shared : List Str := ["p", "one", "other", "slope", "shift", "turn", "start", "x"]
theorem sc_shared : FnScope N_shared ["p", "one", "other"] (defScope s_shared) := ⟨rfl, rfl, rfl, by decide +kernel, rfl, by decide +kernel, by decide +kernel⟩
abbrev s_holding : Stmt := topS 24
abbrev N_holding : List Str := ["p", "one", "other", "near", "far", "x", "y", "other_x", "other_y"]
theorem sc_holding : FnScope N_holding ["p", "one", "other"] (defScope s_holding) := ⟨rfl, rfl, rfl, by decide +kernel, rfl, by decide +kernel, by decide +kernel⟩
abbrev s_free : Stmt := topS 25
abbrev N_free : List Str := ["p", "fallen", "seat", "hit", "slope", "number", "one"]
theorem sc_free : FnScope N_free ["p", "fallen"] (defScope s_free) := ⟨rfl, rfl, rfl, by decide +kernel, rfl, by decide +kernel, by decide +kernel⟩
abbrev s_plane : Stmt := topS 26
abbrev N_plane : List Str := ["p", "many", "number"]
theorem sc_plane : FnScope N_plane ["p"] (defScope s_plane) := ⟨rfl, rfl, rfl, by decide +kernel, rfl, by decide +kernel, by decide +kernel⟩
abbrev s__law_wide : Stmt := topS 28
abbrev N__law_wide : List Str := ["cell", "one", "other", "third"]
theorem sc__law_wide : FnScope N__law_wide ["cell"] (defScope s__law_wide) := ⟨rfl, rfl, rfl, by decide +kernel, rfl, by decide +kernel, by decide +kernel⟩
abbrev s__law_take : Stmt := topS 29
abbrev N__law_take : List Str := ["script", "pot", "many", "cell", "found"]
theorem sc__law_take : FnScope N__law_take ["script", "pot", "many"] (defScope s__law_take) := ⟨rfl, rfl, rfl, by decide +kernel, rfl, by decide +kernel, by decide +kernel⟩
abbrev s__law_whole : Stmt := topS 33
abbrev N__law_whole : List Str := ["thing"]
theorem sc__law_whole : FnScope N__law_whole ["thing"] (defScope s__law_whole) := ⟨rfl, rfl, rfl, by decide +kernel, rfl, by decide +kernel, by decide +kernel⟩
abbrev s__law_is_set : Stmt := topS 34
abbrev N__law_is_set : List Str := ["thing", "one"]
theorem sc__law_is_set : FnScope N__law_is_set ["thing"] (defScope s__law_is_set) := ⟨rfl, rfl, rfl, by decide +kernel, rfl, by decide +kernel, by decide +kernel⟩
abbrev s__law_is_prime : Stmt := topS 35
abbrev N__law_is_prime : List Str := ["number", "part"]
theorem sc__law_is_prime : FnScope N__law_is_prime ["number"] (defScope s__law_is_prime) := ⟨rfl, rfl, rfl, by decide +kernel, rfl, by decide +kernel, by decide +kernel⟩
abbrev s__law_prime : Stmt := topS 36
abbrev N__law_prime : List Str := ["script", "pot", "turn", "small", "number", "k"]
theorem sc__law_prime : FnScope N__law_prime ["script", "pot", "turn"] (defScope s__law_prime) := ⟨rfl, rfl, rfl, by decide +kernel, rfl, by decide +kernel, by decide +kernel⟩
abbrev s__law_number : Stmt := topS 37
abbrev N__law_number : List Str := ["script", "pot", "far"]
theorem sc__law_number : FnScope N__law_number ["script", "pot"] (defScope s__law_number) := ⟨rfl, rfl, rfl, by decide +kernel, rfl, by decide +kernel, by decide +kernel⟩
abbrev s__law_call : Stmt := topS 38
abbrev N__law_call : List Str := ["door", "p", "one", "other"]
theorem sc__law_call : FnScope N__law_call ["door", "p", "one", "other"] (defScope s__law_call) := ⟨rfl, rfl, rfl, by decide +kernel, rfl, by decide +kernel, by decide +kernel⟩
abbrev s__law_met : Stmt := topS 39
abbrev N__law_met : List Str := ["door", "p", "one", "other", "e", "flags"]
theorem sc__law_met : FnScope N__law_met ["door", "p", "one", "other"] (defScope s__law_met) := ⟨rfl, rfl, rfl, by decide +kernel, rfl, by decide +kernel, by decide +kernel⟩
abbrev s__law_due : Stmt := topS 40
abbrev N__law_due : List Str := ["door", "p", "one", "other", "most", "words", "k", "number"]
theorem sc__law_due : FnScope N__law_due ["door", "p", "one", "other"] (defScope s__law_due) := ⟨rfl, rfl, rfl, by decide +kernel, rfl, by decide +kernel, by decide +kernel⟩
abbrev s__law_set_right : Stmt := topS 41
abbrev N__law_set_right : List Str := ["script", "pot", "p", "number", "found", "k", "seat", "told"]
theorem sc__law_set_right : FnScope N__law_set_right ["script", "pot", "p", "number"] (defScope s__law_set_right) := ⟨rfl, rfl, rfl, by decide +kernel, rfl, by decide +kernel, by decide +kernel⟩
abbrev s_law : Stmt := topS 42
abbrev N_law : List Str := ["script", "pot", "turn", "p", "found", "k", "number", "numbers", "way", "door"]
theorem sc_law : FnScope N_law ["script"] (defScope s_law) := ⟨rfl, rfl, rfl, by decide +kernel, rfl, by decide +kernel, by decide +kernel⟩
structure Txt (K : PySem.W.Frag) (mg : Str → Option Value) (ad : Ad) where
  f_NoSeat___init__ : Addr
  d_NoSeat___init__ : FuncData
  F_NoSeat___init__ : Fun K "__init__" "NoSeat.__init__" s_NoSeat___init__ f_NoSeat___init__ d_NoSeat___init__
  b_NoSeat___init__ : Binds K d_NoSeat___init__ ["self", "seat"] []
  i_NoSeat : PySem.W.findIn K (.ref ad.NoSeat) "__init__" = some (some (.ref f_NoSeat___init__))
  t_NoSeat : PySem.W.typeIn K (.ref f_NoSeat___init__) = some (.type "function")
  f_TooMany___init__ : Addr
  d_TooMany___init__ : FuncData
  F_TooMany___init__ : Fun K "__init__" "TooMany.__init__" s_TooMany___init__ f_TooMany___init__ d_TooMany___init__
  b_TooMany___init__ : Binds K d_TooMany___init__ ["self", "what"] []
  i_TooMany : PySem.W.findIn K (.ref ad.TooMany) "__init__" = some (some (.ref f_TooMany___init__))
  t_TooMany : PySem.W.typeIn K (.ref f_TooMany___init__) = some (.type "function")
  f_NoSet___init__ : Addr
  d_NoSet___init__ : FuncData
  F_NoSet___init__ : Fun K "__init__" "NoSet.__init__" s_NoSet___init__ f_NoSet___init__ d_NoSet___init__
  b_NoSet___init__ : Binds K d_NoSet___init__ ["self", "number"] []
  i_NoSet : PySem.W.findIn K (.ref ad.NoSet) "__init__" = some (some (.ref f_NoSet___init__))
  t_NoSet : PySem.W.typeIn K (.ref f_NoSet___init__) = some (.type "function")
  f_TooManyFallen___init__ : Addr
  d_TooManyFallen___init__ : FuncData
  F_TooManyFallen___init__ : Fun K "__init__" "TooManyFallen.__init__" s_TooManyFallen___init__ f_TooManyFallen___init__ d_TooManyFallen___init__
  b_TooManyFallen___init__ : Binds K d_TooManyFallen___init__ ["self", "many"] []
  i_TooManyFallen : PySem.W.findIn K (.ref ad.TooManyFallen) "__init__" = some (some (.ref f_TooManyFallen___init__))
  t_TooManyFallen : PySem.W.typeIn K (.ref f_TooManyFallen___init__) = some (.type "function")
  f_NotPrime___init__ : Addr
  d_NotPrime___init__ : FuncData
  F_NotPrime___init__ : Fun K "__init__" "NotPrime.__init__" s_NotPrime___init__ f_NotPrime___init__ d_NotPrime___init__
  b_NotPrime___init__ : Binds K d_NotPrime___init__ ["self", "number"] []
  i_NotPrime : PySem.W.findIn K (.ref ad.NotPrime) "__init__" = some (some (.ref f_NotPrime___init__))
  t_NotPrime : PySem.W.typeIn K (.ref f_NotPrime___init__) = some (.type "function")
  f_seats_of : Addr
  d_seats_of : FuncData
  F_seats_of : Fun K "seats_of" "seats_of" s_seats_of f_seats_of d_seats_of
  b_seats_of : Binds K d_seats_of ["p"] []
  g_seats_of : mg "seats_of" = some (.ref f_seats_of)
  f_seats_looked : Addr
  d_seats_looked : FuncData
  F_seats_looked : Fun K "seats_looked" "seats_looked" s_seats_looked f_seats_looked d_seats_looked
  b_seats_looked : Binds K d_seats_looked ["p", "seats"] []
  g_seats_looked : mg "seats_looked" = some (.ref f_seats_looked)
  f_sets_looked : Addr
  d_sets_looked : FuncData
  F_sets_looked : Fun K "sets_looked" "sets_looked" s_sets_looked f_sets_looked d_sets_looked
  b_sets_looked : Binds K d_sets_looked ["p", "numbers"] []
  g_sets_looked : mg "sets_looked" = some (.ref f_sets_looked)
  f_inverse : Addr
  d_inverse : FuncData
  F_inverse : Fun K "inverse" "inverse" s_inverse f_inverse d_inverse
  b_inverse : Binds K d_inverse ["number", "p"] []
  g_inverse : mg "inverse" = some (.ref f_inverse)
  f_line_of : Addr
  d_line_of : FuncData
  F_line_of : Fun K "line_of" "line_of" s_line_of f_line_of d_line_of
  b_line_of : Binds K d_line_of ["p", "number"] []
  g_line_of : mg "line_of" = some (.ref f_line_of)
  f_number_of : Addr
  d_number_of : FuncData
  F_number_of : Fun K "number_of" "number_of" s_number_of f_number_of d_number_of
  b_number_of : Binds K d_number_of ["p", "slope", "shift"] []
  g_number_of : mg "number_of" = some (.ref f_number_of)
  f_through : Addr
  d_through : FuncData
  F_through : Fun K "through" "through" s_through f_through d_through
  b_through : Binds K d_through ["p", "seat", "slope"] []
  g_through : mg "through" = some (.ref f_through)
  f_lies : Addr
  d_lies : FuncData
  F_lies : Fun K "lies" "lies" s_lies f_lies d_lies
  b_lies : Binds K d_lies ["p", "seat", "number"] []
  g_lies : mg "lies" = some (.ref f_lies)
  f_set_of : Addr
  d_set_of : FuncData
  F_set_of : Fun K "set_of" "set_of" s_set_of f_set_of d_set_of
  b_set_of : Binds K d_set_of ["p", "number"] []
  g_set_of : mg "set_of" = some (.ref f_set_of)
  f_shared : Addr
  d_shared : FuncData
  F_shared : Fun K "shared" "shared" s_shared f_shared d_shared
  b_shared : Binds K d_shared ["p", "one", "other"] []
  g_shared : mg "shared" = some (.ref f_shared)
  f_holding : Addr
  d_holding : FuncData
  F_holding : Fun K "holding" "holding" s_holding f_holding d_holding
  b_holding : Binds K d_holding ["p", "one", "other"] []
  g_holding : mg "holding" = some (.ref f_holding)
  f_free : Addr
  d_free : FuncData
  F_free : Fun K "free" "free" s_free f_free d_free
  b_free : Binds K d_free ["p", "fallen"] []
  g_free : mg "free" = some (.ref f_free)
  f_plane : Addr
  d_plane : FuncData
  F_plane : Fun K "plane" "plane" s_plane f_plane d_plane
  b_plane : Binds K d_plane ["p"] []
  g_plane : mg "plane" = some (.ref f_plane)
  f__law_wide : Addr
  d__law_wide : FuncData
  F__law_wide : Fun K "_law_wide" "_law_wide" s__law_wide f__law_wide d__law_wide
  b__law_wide : Binds K d__law_wide ["cell"] []
  g__law_wide : mg "_law_wide" = some (.ref f__law_wide)
  f__law_take : Addr
  d__law_take : FuncData
  F__law_take : Fun K "_law_take" "_law_take" s__law_take f__law_take d__law_take
  b__law_take : Binds K d__law_take ["script", "pot", "many"] []
  g__law_take : mg "_law_take" = some (.ref f__law_take)
  f__law_whole : Addr
  d__law_whole : FuncData
  F__law_whole : Fun K "_law_whole" "_law_whole" s__law_whole f__law_whole d__law_whole
  b__law_whole : Binds K d__law_whole ["thing"] []
  g__law_whole : mg "_law_whole" = some (.ref f__law_whole)
  f__law_is_set : Addr
  d__law_is_set : FuncData
  F__law_is_set : Fun K "_law_is_set" "_law_is_set" s__law_is_set f__law_is_set d__law_is_set
  b__law_is_set : Binds K d__law_is_set ["thing"] []
  g__law_is_set : mg "_law_is_set" = some (.ref f__law_is_set)
  f__law_is_prime : Addr
  d__law_is_prime : FuncData
  F__law_is_prime : Fun K "_law_is_prime" "_law_is_prime" s__law_is_prime f__law_is_prime d__law_is_prime
  b__law_is_prime : Binds K d__law_is_prime ["number"] []
  g__law_is_prime : mg "_law_is_prime" = some (.ref f__law_is_prime)
  f__law_prime : Addr
  d__law_prime : FuncData
  F__law_prime : Fun K "_law_prime" "_law_prime" s__law_prime f__law_prime d__law_prime
  b__law_prime : Binds K d__law_prime ["script", "pot", "turn"] []
  g__law_prime : mg "_law_prime" = some (.ref f__law_prime)
  f__law_number : Addr
  d__law_number : FuncData
  F__law_number : Fun K "_law_number" "_law_number" s__law_number f__law_number d__law_number
  b__law_number : Binds K d__law_number ["script", "pot"] []
  g__law_number : mg "_law_number" = some (.ref f__law_number)
  f__law_call : Addr
  d__law_call : FuncData
  F__law_call : Fun K "_law_call" "_law_call" s__law_call f__law_call d__law_call
  b__law_call : Binds K d__law_call ["door", "p", "one", "other"] []
  g__law_call : mg "_law_call" = some (.ref f__law_call)
  f__law_met : Addr
  d__law_met : FuncData
  F__law_met : Fun K "_law_met" "_law_met" s__law_met f__law_met d__law_met
  b__law_met : Binds K d__law_met ["door", "p", "one", "other"] []
  g__law_met : mg "_law_met" = some (.ref f__law_met)
  f__law_due : Addr
  d__law_due : FuncData
  F__law_due : Fun K "_law_due" "_law_due" s__law_due f__law_due d__law_due
  b__law_due : Binds K d__law_due ["door", "p", "one", "other"] []
  g__law_due : mg "_law_due" = some (.ref f__law_due)
  f__law_set_right : Addr
  d__law_set_right : FuncData
  F__law_set_right : Fun K "_law_set_right" "_law_set_right" s__law_set_right f__law_set_right d__law_set_right
  b__law_set_right : Binds K d__law_set_right ["script", "pot", "p", "number"] []
  g__law_set_right : mg "_law_set_right" = some (.ref f__law_set_right)
  f_law : Addr
  d_law : FuncData
  F_law : Fun K "law" "law" s_law f_law d_law
  b_law : Binds K d_law ["script"] []
  g_law : mg "law" = some (.ref f_law)
  u_GREATEST : Value
  g_GREATEST : mg "GREATEST" = some u_GREATEST
  r_GREATEST : RelV (.int 9973) u_GREATEST
  u_LISTED : Value
  g_LISTED : mg "LISTED" = some u_LISTED
  r_LISTED : RelV (.int 7) u_LISTED
  m_ArithmeticError : mg "ArithmeticError" = none
  m_ValueError : mg "ValueError" = none
  m_bool : mg "bool" = none
  m_divmod : mg "divmod" = none
  m_int : mg "int" = none
  m_isinstance : mg "isinstance" = none
  m_len : mg "len" = none
  m_list : mg "list" = none
  m_max : mg "max" = none
  m_min : mg "min" = none
  m_range : mg "range" = none
  m_sum : mg "sum" = none
  m_tuple : mg "tuple" = none
  g_SoleError : mg "SoleError" = some (.ref ad.SoleError)
  g_NoSeat : mg "NoSeat" = some (.ref ad.NoSeat)
  g_NoFamily : mg "NoFamily" = some (.ref ad.NoFamily)
  g_TooMany : mg "TooMany" = some (.ref ad.TooMany)
  g_NoSet : mg "NoSet" = some (.ref ad.NoSet)
  g_NoShape : mg "NoShape" = some (.ref ad.NoShape)
  g_Apart : mg "Apart" = some (.ref ad.Apart)
  g_TooManyFallen : mg "TooManyFallen" = some (.ref ad.TooManyFallen)
  g_NotPrime : mg "NotPrime" = some (.ref ad.NotPrime)
  bs_SoleError : BaseC K ad.SoleError
  xf : Xf K ad
theorem ok_NoSeat___init__ {K : PySem.W.Frag} {mg : Str → Option Value} {base : Heap} {ad : Ad} (T : Txt K mg ad) : FnOk ad.P ad.w K mg base CX0 1 T.f_NoSeat___init__ T.d_NoSeat___init__ ["self", "seat"] (sp_NoSeat___init__ K ad) := by
  refine T.F_NoSeat___init__.ok sc_NoSeat___init__ (fun vs H Q E h => ?_) (fun cdv A outer s H vs Q E hr h => ⟨t_NoSeat___init__ K ad, ?_, ?_⟩)
  · obtain ⟨x0, x1, rfl, _⟩ := n_NoSeat___init__ h
    rfl
  · exact (pss_cons (ps_expr (pe_cinit (by rfl) T.g_SoleError T.bs_SoleError (pa_cons (pv 0) (pa_cons pe_str pa_nil))))
    (pss_one (ps_ost (pv 0) (pv 1))))
  · obtain ⟨x0, x1, rfl, h⟩ := n_NoSeat___init__ h
    exact w_NoSeat___init__ h
theorem ok_TooMany___init__ {K : PySem.W.Frag} {mg : Str → Option Value} {base : Heap} {ad : Ad} (T : Txt K mg ad) : FnOk ad.P ad.w K mg base CX0 1 T.f_TooMany___init__ T.d_TooMany___init__ ["self", "what"] (sp_TooMany___init__ K ad) := by
  refine T.F_TooMany___init__.ok sc_TooMany___init__ (fun vs H Q E h => ?_) (fun cdv A outer s H vs Q E hr h => ⟨t_TooMany___init__ K ad, ?_, ?_⟩)
  · obtain ⟨x0, x1, rfl, _⟩ := n_TooMany___init__ h
    rfl
  · exact (pss_one (ps_ost (pv 0) (pv 1)))
  · obtain ⟨x0, x1, rfl, h⟩ := n_TooMany___init__ h
    exact w_TooMany___init__ h
theorem ok_NoSet___init__ {K : PySem.W.Frag} {mg : Str → Option Value} {base : Heap} {ad : Ad} (T : Txt K mg ad) : FnOk ad.P ad.w K mg base CX0 1 T.f_NoSet___init__ T.d_NoSet___init__ ["self", "number"] (sp_NoSet___init__ K ad) := by
  refine T.F_NoSet___init__.ok sc_NoSet___init__ (fun vs H Q E h => ?_) (fun cdv A outer s H vs Q E hr h => ⟨t_NoSet___init__ K ad, ?_, ?_⟩)
  · obtain ⟨x0, x1, rfl, _⟩ := n_NoSet___init__ h
    rfl
  · exact (pss_one (ps_ost (pv 0) (pv 1)))
  · obtain ⟨x0, x1, rfl, h⟩ := n_NoSet___init__ h
    exact w_NoSet___init__ h
theorem ok_TooManyFallen___init__ {K : PySem.W.Frag} {mg : Str → Option Value} {base : Heap} {ad : Ad} (T : Txt K mg ad) : FnOk ad.P ad.w K mg base CX0 1 T.f_TooManyFallen___init__ T.d_TooManyFallen___init__ ["self", "many"] (sp_TooManyFallen___init__ K ad) := by
  refine T.F_TooManyFallen___init__.ok sc_TooManyFallen___init__ (fun vs H Q E h => ?_) (fun cdv A outer s H vs Q E hr h => ⟨t_TooManyFallen___init__ K ad, ?_, ?_⟩)
  · obtain ⟨x0, x1, rfl, _⟩ := n_TooManyFallen___init__ h
    rfl
  · exact (pss_one (ps_ost (pv 0) (pv 1)))
  · obtain ⟨x0, x1, rfl, h⟩ := n_TooManyFallen___init__ h
    exact w_TooManyFallen___init__ h
theorem ok_NotPrime___init__ {K : PySem.W.Frag} {mg : Str → Option Value} {base : Heap} {ad : Ad} (T : Txt K mg ad) : FnOk ad.P ad.w K mg base CX0 1 T.f_NotPrime___init__ T.d_NotPrime___init__ ["self", "number"] (sp_NotPrime___init__ K ad) := by
  refine T.F_NotPrime___init__.ok sc_NotPrime___init__ (fun vs H Q E h => ?_) (fun cdv A outer s H vs Q E hr h => ⟨t_NotPrime___init__ K ad, ?_, ?_⟩)
  · obtain ⟨x0, x1, rfl, _⟩ := n_NotPrime___init__ h
    rfl
  · exact (pss_one (ps_ostG (pv 0) (pv 1)))
  · obtain ⟨x0, x1, rfl, h⟩ := n_NotPrime___init__ h
    exact w_NotPrime___init__ h
theorem ok_inverse {K : PySem.W.Frag} {mg : Str → Option Value} {base : Heap} {ad : Ad} (T : Txt K mg ad) : FnOk ad.P ad.w K mg base CX0 1 T.f_inverse T.d_inverse ["number", "p"] (sp_inverse K ad) := by
  refine T.F_inverse.ok sc_inverse (fun vs H Q E h => ?_) (fun cdv A outer s H vs Q E hr h => ⟨t_inverse K ad, ?_, ?_⟩)
  · obtain ⟨x0, x1, rfl, _⟩ := n_inverse h
    rfl
  · exact (pss_cons (ps_par (i := 2) (j := 3) (by rfl) sc_inverse.nd rfl rfl (by decide) rfl rfl (pa_cons (pe_op op_zMod (pv 0) (pv 1)) (pa_cons (pv 1) pa_nil)) (by rfl))
    (pss_cons (ps_asg (pe_tup (pa_cons pe_int (pa_cons pe_int pa_nil))) (pg_tup rfl (pgs_cons (pg_name (i := 4) sc_inverse.nd rfl (Or.inl rfl)) (pgs_cons (pg_name (i := 5) sc_inverse.nd rfl (Or.inl rfl)) pgs_nil))))
    (pss_cons (ps_while PassesOwn.never (pt_cmpR op_zGt (pv 2) pe_int (nomark _)) (pss_cons (ps_set (i := 6) sc_inverse.nd rfl (Or.inl rfl) (pe_op op_zDiv (pv 3) (pv 2)))
    (pss_cons (ps_par (i := 2) (j := 3) (by rfl) sc_inverse.nd rfl rfl (by decide) rfl rfl (pa_cons (pe_op op_zSub (pv 3) (pe_op op_zMul (pv 6) (pv 2))) (pa_cons (pv 2) pa_nil)) (by rfl))
    (pss_one (ps_par (i := 4) (j := 5) (by rfl) sc_inverse.nd rfl rfl (by decide) rfl rfl (pa_cons (pe_op op_zSub (pv 5) (pe_op op_zMul (pv 6) (pv 4))) (pa_cons (pv 4) pa_nil)) (by rfl))))))
    (pss_one (ps_ret (pe_op op_zMod (pv 4) (pv 1)))))))
  · obtain ⟨x0, x1, rfl, h⟩ := n_inverse h
    exact w_inverse h
theorem ok_line_of {K : PySem.W.Frag} {mg : Str → Option Value} {base : Heap} {ad : Ad} (T : Txt K mg ad) : FnOk ad.P ad.w K mg base CX0 1 T.f_line_of T.d_line_of ["p", "number"] (sp_line_of K ad) := by
  refine T.F_line_of.ok sc_line_of (fun vs H Q E h => ?_) (fun cdv A outer s H vs Q E hr h => ⟨t_line_of K ad, ?_, ?_⟩)
  · obtain ⟨x0, x1, rfl, _⟩ := n_line_of h
    rfl
  · exact (pss_cons (ps_if (pt_cmpR (op_zEq hr.units) (pv 1) (pe_op op_zAdd (pe_op op_zMul (pv 0) (pv 0)) (pv 0)) (nomark _)) (pss_one (ps_ret (pe_tup (pa_cons (pe_op op_zAdd (pv 0) pe_int) (pa_cons pe_int pa_nil))))) pss_nil)
    (pss_cons (ps_if (pt_cmpR op_zGe (pv 1) (pe_op op_zMul (pv 0) (pv 0)) (nomark _)) (pss_one (ps_ret (pe_tup (pa_cons (pe_op op_zSub (pv 1) (pe_op op_zMul (pv 0) (pv 0))) (pa_cons pe_int pa_nil))))) pss_nil)
    (pss_cons (ps_asg (pe_callB call_divmodW (by rfl) T.m_divmod (by decide +kernel) (pa_cons (pv 1) (pa_cons (pv 0) pa_nil))) (pg_tup rfl (pgs_cons (pg_name (i := 2) sc_line_of.nd rfl (Or.inl rfl)) (pgs_cons (pg_name (i := 3) sc_line_of.nd rfl (Or.inl rfl)) pgs_nil))))
    (pss_cons (ps_set (i := 4) sc_line_of.nd rfl (Or.inl rfl) (pe_op op_zMod (pe_op op_zSub (pv 3) (pe_op op_zMul (pv 2) (pv 2))) (pv 0)))
    (pss_cons (ps_if (pt_cmpR (op_zEq hr.units) (pv 4) pe_int (nomark _)) (pss_one (ps_ret (pe_tup (pa_cons (pv 0) (pa_cons (pv 2) pa_nil))))) pss_nil)
    (pss_one (ps_ret (pe_tup (pa_cons (pv 2) (pa_cons (pv 4) pa_nil))))))))))
  · obtain ⟨x0, x1, rfl, h⟩ := n_line_of h
    exact w_line_of h
theorem ok_number_of {K : PySem.W.Frag} {mg : Str → Option Value} {base : Heap} {ad : Ad} (T : Txt K mg ad) : FnOk ad.P ad.w K mg base CX0 1 T.f_number_of T.d_number_of ["p", "slope", "shift"] (sp_number_of K ad) := by
  refine T.F_number_of.ok sc_number_of (fun vs H Q E h => ?_) (fun cdv A outer s H vs Q E hr h => ⟨t_number_of K ad, ?_, ?_⟩)
  · obtain ⟨x0, x1, x2, rfl, _⟩ := n_number_of h
    rfl
  · exact (pss_cons (ps_if (pt_cmpR op_zGt (pv 1) (pv 0) (nomark _)) (pss_one (ps_ret (pe_op op_zAdd (pe_op op_zMul (pv 0) (pv 0)) (pv 0)))) pss_nil)
    (pss_cons (ps_if (pt_cmpR (op_zEq hr.units) (pv 1) (pv 0) (nomark _)) (pss_one (ps_ret (pe_op op_zAdd (pe_op op_zMul (pv 2) (pv 0)) (pe_op op_zMod (pe_op op_zMul (pv 2) (pv 2)) (pv 0))))) pss_nil)
    (pss_cons (ps_if (pt_cmpR (op_zEq hr.units) (pv 2) pe_int (nomark _)) (pss_one (ps_ret (pe_op op_zAdd (pe_op op_zMul (pv 0) (pv 0)) (pv 1)))) pss_nil)
    (pss_one (ps_ret (pe_op op_zAdd (pe_op op_zMul (pv 1) (pv 0)) (pe_op op_zMod (pe_op op_zAdd (pe_op op_zMul (pv 1) (pv 1)) (pv 2)) (pv 0))))))))
  · obtain ⟨x0, x1, x2, rfl, h⟩ := n_number_of h
    exact w_number_of h
theorem ok__law_wide {K : PySem.W.Frag} {mg : Str → Option Value} {base : Heap} {ad : Ad} (T : Txt K mg ad) : FnOk ad.P ad.w K mg base CX0 1 T.f__law_wide T.d__law_wide ["cell"] (sp__law_wide K ad) := by
  refine T.F__law_wide.ok sc__law_wide (fun vs H Q E h => ?_) (fun cdv A outer s H vs Q E hr h => ⟨t__law_wide K ad, ?_, ?_⟩)
  · obtain ⟨x0, rfl, _⟩ := n__law_wide h
    rfl
  · exact (pss_cons (ps_if (pt_cmpR op_zGe (pv 0) (pe_op op_zPow pe_int pe_int) (nomark _)) (pss_one (ps_ret (pv 0))) pss_nil)
    (pss_cons (ps_set (i := 1) sc__law_wide.nd rfl (Or.inl rfl) (pe_op op_zMod (pe_op op_zAdd (pe_op op_zMul (pv 0) pe_int) pe_int) pe_int))
    (pss_cons (ps_set (i := 2) sc__law_wide.nd rfl (Or.inl rfl) (pe_op op_zMod (pe_op op_zAdd (pe_op op_zAdd (pe_op op_zMul (pv 1) (pv 1)) (pe_op op_zMul (pv 0) pe_int)) pe_int) pe_int))
    (pss_cons (ps_set (i := 3) sc__law_wide.nd rfl (Or.inl rfl) (pe_op op_zMod (pe_op op_zAdd (pe_op op_zMul (pv 2) (pv 2)) (pv 1)) pe_int))
    (pss_one (ps_ret (pe_op op_zAdd (pe_op op_zDiv (pv 1) pe_int) (pe_op op_zMul pe_int (pe_op op_zAdd (pe_op op_zDiv (pv 2) pe_int) (pe_op op_zMul pe_int (pe_op op_zDiv (pv 3) pe_int)))))))))))
  · obtain ⟨x0, rfl, h⟩ := n__law_wide h
    exact w__law_wide h
theorem ok__law_whole {K : PySem.W.Frag} {mg : Str → Option Value} {base : Heap} {ad : Ad} (T : Txt K mg ad) : FnOk ad.P ad.w K mg base CX0 1 T.f__law_whole T.d__law_whole ["thing"] (sp__law_whole K ad) := by
  refine T.F__law_whole.ok sc__law_whole (fun vs H Q E h => ?_) (fun cdv A outer s H vs Q E hr h => ⟨t__law_whole K ad, ?_, ?_⟩)
  · obtain ⟨x0, rfl, _⟩ := n__law_whole h
    rfl
  · exact (pss_one (ps_ret (pe_and (pe_callB call_isi (by rfl) T.m_isinstance (by decide +kernel) (pa_cons (pv 0) (pa_cons (pe_bltn (by rfl) T.m_int (by decide +kernel) rfl) pa_nil))) (pe_one (pe_notT (pe_callB call_isi (by rfl) T.m_isinstance (by decide +kernel) (pa_cons (pv 0) (pa_cons (pe_bltn (by rfl) T.m_bool (by decide +kernel) rfl) pa_nil))))))))
  · obtain ⟨x0, rfl, h⟩ := n__law_whole h
    exact w__law_whole h
theorem ok__law_is_prime {K : PySem.W.Frag} {mg : Str → Option Value} {base : Heap} {ad : Ad} (T : Txt K mg ad) : FnOk ad.P ad.w K mg base CX0 1 T.f__law_is_prime T.d__law_is_prime ["number"] (sp__law_is_prime K ad) := by
  refine T.F__law_is_prime.ok sc__law_is_prime (fun vs H Q E h => ?_) (fun cdv A outer s H vs Q E hr h => ⟨t__law_is_prime K ad, ?_, ?_⟩)
  · obtain ⟨x0, rfl, _⟩ := n__law_is_prime h
    rfl
  · exact (pss_cons (ps_if (PW.pt (pw_or (pt_cmpR (op_zLt hr.units0) (pv 0) pe_int (nomark _)) (pw_or1 (pt_cmpR op_zGt (pv 0) pe_int (nomark _))))) (pss_one (ps_ret pe_bl)) pss_nil)
    (pss_cons (ps_for PassesOwn.never rfl (pi_range2 (by rfl) T.m_range (pa_cons pe_int (pa_cons pe_int pa_nil))) (pg_name (i := 1) sc__law_is_prime.nd rfl (Or.inl rfl))
    (pss_one (ps_if (PW.pt (pw_and (pt_cmpR op_zLe (pe_op op_zMul (pv 1) (pv 1)) (pv 0) (nomark _)) (pw_and1 (pt_cmpR (op_zEq hr.units) (pe_op op_zMod (pv 0) (pv 1)) pe_int (nomark _))))) (pss_one (ps_ret pe_bl)) pss_nil)))
    (pss_one (ps_ret pe_bl))))
  · obtain ⟨x0, rfl, h⟩ := n__law_is_prime h
    exact w__law_is_prime h
theorem ok_through {K : PySem.W.Frag} {mg : Str → Option Value} {base : Heap} {ad : Ad} (T : Txt K mg ad) : FnOk ad.P ad.w K mg base CX0 2 T.f_through T.d_through ["p", "seat", "slope"] (sp_through K ad) := by
  refine T.F_through.ok sc_through (fun vs H Q E h => ?_) (fun cdv A outer s H vs Q E hr h => ⟨t_through K ad, ?_, ?_⟩)
  · obtain ⟨x0, x1, x2, rfl, _⟩ := n_through h
    rfl
  · exact (pss_cons (ps_asg (pe_callB call_divmodW (by rfl) T.m_divmod (by decide +kernel) (pa_cons (pv 1) (pa_cons (pv 0) pa_nil))) (pg_tup rfl (pgs_cons (pg_name (i := 3) sc_through.nd rfl (Or.inl rfl)) (pgs_cons (pg_name (i := 4) sc_through.nd rfl (Or.inl rfl)) pgs_nil))))
    (pss_cons (ps_if (pt_cmpR (op_zEq hr.units) (pv 2) (pv 0) (nomark _)) (pss_one (ps_ret (pe_call (ok_number_of T) hr (by rfl) T.g_number_of T.F_number_of.kp T.b_number_of .nil pass0 (pa_cons (pv 0) (pa_cons (pv 0) (pa_cons (pv 3) pa_nil)))))) pss_nil)
    (pss_one (ps_ret (pe_call (ok_number_of T) hr (by rfl) T.g_number_of T.F_number_of.kp T.b_number_of .nil pass0 (pa_cons (pv 0) (pa_cons (pv 2) (pa_cons (pe_op op_zMod (pe_op op_zSub (pv 4) (pe_op op_zMul (pv 2) (pv 3))) (pv 0)) pa_nil))))))))
  · obtain ⟨x0, x1, x2, rfl, h⟩ := n_through h
    exact w_through h
theorem ok__law_take {K : PySem.W.Frag} {mg : Str → Option Value} {base : Heap} {ad : Ad} (T : Txt K mg ad) : FnOk ad.P ad.w K mg base CX0 2 T.f__law_take T.d__law_take ["script", "pot", "many"] (sp__law_take K ad) := by
  refine T.F__law_take.ok sc__law_take (fun vs H Q E h => ?_) (fun cdv A outer s H vs Q E hr h => ⟨t__law_take K ad, ?_, ?_⟩)
  · obtain ⟨x0, x1, x2, rfl, _⟩ := n__law_take h
    rfl
  · exact (Evl.pss_cut (ps_if (pt_cmpR (op_zEq hr.units) (pe_ix ix_seq (pv 1) pe_int (fun _ _ => rfl)) pe_int (nomark _)) (pss_cons (ps_set (i := 3) sc__law_take.nd rfl (Or.inl rfl) (pe_op op_zMul (pe_op op_zAdd (pe_op op_zMod (pe_callB (cr_sum rfl) (by rfl) T.m_sum (by decide +kernel) (pa_cons (pv 0) pa_nil)) pe_int) pe_int) (pe_op op_zAdd (pe_ix ix_seq (pv 1) pe_int (fun _ _ => rfl)) pe_int)))
    (pss_cons (ps_if (pt_cmpR (op_zLt hr.units0) (pe_ix ix_seq (pv 1) pe_int (fun _ _ => rfl)) (pe_callB cr_zLen (by rfl) T.m_len (by decide +kernel) (pa_cons (pv 0) pa_nil)) (nomark _)) (pss_one (ps_set (i := 3) sc__law_take.nd rfl (Or.inl rfl) (pe_ix ix_seq (pv 0) (pe_ix ix_seq (pv 1) pe_int (fun _ _ => rfl)) (fun _ _ => rfl)))) pss_nil)
    (pss_cons (ps_asg (pe_op op_zAdd (pe_ix ix_seq (pv 1) pe_int (fun _ _ => rfl)) pe_int) (pg_sub (pv 1) pe_int set_list))
    (pss_one (ps_asg (pe_call (ok__law_wide T) hr (by rfl) T.g__law_wide T.F__law_wide.kp T.b__law_wide .nil pass0 (pa_cons (pv 3) pa_nil)) (pg_sub (pv 1) pe_int set_list)))))) pss_nil)
    (pss_cons (ps_set (i := 4) sc__law_take.nd rfl (Or.inl rfl) (pe_op op_zMod (pe_ix ix_seq (pv 1) pe_int (fun _ _ => rfl)) (pv 2)))
    (pss_cons (ps_asg (pe_op op_zDiv (pe_ix ix_seq (pv 1) pe_int (fun _ _ => rfl)) (pv 2)) (pg_sub (pv 1) pe_int set_list))
    (pss_one (ps_ret (pv 4))))))
  · obtain ⟨x0, x1, x2, rfl, h⟩ := n__law_take h
    exact w__law_take h
theorem ok__law_is_set {K : PySem.W.Frag} {mg : Str → Option Value} {base : Heap} {ad : Ad} (T : Txt K mg ad) : FnOk ad.P ad.w K mg base CX0 2 T.f__law_is_set T.d__law_is_set ["thing"] (sp__law_is_set K ad) := by
  refine T.F__law_is_set.ok sc__law_is_set (fun vs H Q E h => ?_) (fun cdv A outer s H vs Q E hr h => ⟨t__law_is_set K ad, ?_, ?_⟩)
  · obtain ⟨x0, rfl, _⟩ := n__law_is_set h
    rfl
  · exact (pss_one (ps_ret (pe_and (pe_callB call_isi (by rfl) T.m_isinstance (by decide +kernel) (pa_cons (pv 0) (pa_cons (pe_bltn (by rfl) T.m_tuple (by decide +kernel) rfl) pa_nil))) (pe_one (pe_cmpR (op_zEq hr.units) (pe_lc (own := [("one", 1)]) rfl sc__law_is_set.nd (pi_tup (pv 0)) (blkOk_by (own := [("one", 1)]) (N := N__law_is_set) (sc := defScope s__law_is_set) (by decide +kernel)) (fun _ _ _ _ _ => (pg_name (i := 1) sc__law_is_set.nd rfl (Or.inl rfl))) (fun _ _ _ _ _ => (pts_one (pt_not (pt_truth (pe_call (ok__law_whole T) hr (by rfl) T.g__law_whole T.F__law_whole.kp T.b__law_whole .nil pass0 (pa_cons (pv 1) pa_nil)) (by intro _; rfl))))) (fun _ _ _ _ _ => pe_int)) (pe_lst pa_nil) (nomark _))))))
  · obtain ⟨x0, rfl, h⟩ := n__law_is_set h
    exact w__law_is_set h
theorem ok__law_due {K : PySem.W.Frag} {mg : Str → Option Value} {base : Heap} {ad : Ad} (T : Txt K mg ad) : FnOk ad.P ad.w K mg base CX0 2 T.f__law_due T.d__law_due ["door", "p", "one", "other"] (sp__law_due K ad) := by
  refine T.F__law_due.ok sc__law_due (fun vs H Q E h => ?_) (fun cdv A outer s H vs Q E hr h => ⟨t__law_due K ad, ?_, ?_⟩)
  · obtain ⟨x0, x1, x2, x3, rfl, _⟩ := n__law_due h
    rfl
  · exact (pss_cons (ps_if (pt_not (pt_truth (pe_call (ok__law_is_prime T) hr (by rfl) T.g__law_is_prime T.F__law_is_prime.kp T.b__law_is_prime .nil pass0 (pa_cons (pv 1) pa_nil)) (by intro _; rfl))) (pss_one (ps_ret (pe_tup (pa_cons pe_str (pa_cons (pv 1) pa_nil))))) pss_nil)
    (pss_cons (ps_set (i := 4) sc__law_due.nd rfl (Or.inl rfl) (pe_op op_zAdd (pe_op op_zMul (pv 1) (pv 1)) (pv 1)))
    (Evl.pss_cut (ps_set (i := 5) sc__law_due.nd rfl (Or.inl rfl) (pe_ix ix_seq (pe_lst (pa_cons (pe_lst pa_nil) (pa_cons (pe_lst (pa_cons pe_str (pa_cons pe_str pa_nil))) (pa_cons (pe_lst (pa_cons pe_str pa_nil)) (pa_cons (pe_lst (pa_cons pe_str (pa_cons pe_str pa_nil))) (pa_cons (pe_lst (pa_cons pe_str (pa_cons pe_str pa_nil))) (pa_cons (pe_lst (pa_cons pe_str (pa_cons pe_str pa_nil))) (pa_cons (pe_lst pa_nil) pa_nil)))))))) (pv 0) (fun _ _ => rfl)))
    (pss_cons (ps_for PassesOwn.never rfl (pi_range1 (by rfl) T.m_range (pa_cons (pe_callB cr_zLen (by rfl) T.m_len (by decide +kernel) (pa_cons (pv 5) pa_nil)) pa_nil)) (pg_name (i := 6) sc__law_due.nd rfl (Or.inl rfl))
    (pss_cons (ps_set (i := 7) sc__law_due.nd rfl (Or.inl rfl) (pe_ix ix_seq (pe_lst (pa_cons (pv 2) (pa_cons (pv 3) pa_nil))) (pv 6) (fun _ _ => rfl)))
    (pss_one (ps_if (PW.pt (pw_or (pt_cmpR (op_zLt hr.units0) (pv 7) pe_int (nomark _)) (pw_or1 (pt_cmpR op_zGt (pv 7) (pv 4) (nomark _))))) (pss_one (ps_ret (pe_tup (pa_cons (pe_ix ix_seq (pv 5) (pv 6) (fun _ _ => rfl)) (pa_cons (pv 7) pa_nil))))) pss_nil))))
    (pss_cons (ps_if (PW.pt (pw_and (pt_cmpR (op_zIn hr.units65) (pv 0) (pe_tup (pa_cons pe_int (pa_cons pe_int pa_nil))) (by rfl)) (pw_and1 (pt_cmpR (op_zEq hr.units) (pv 2) (pv 3) (nomark _))))) (pss_one (ps_ret (pe_tup (pa_cons (pe_ix ix_seq (pv 5) pe_int (fun _ _ => rfl)) (pa_cons (pv 3) pa_nil))))) pss_nil)
    (pss_cons (ps_if (PW.pt (pw_and (pt_cmpR (op_zEq hr.units) (pv 0) pe_int (nomark _)) (pw_and1 (pt_cmpR op_zGt (pv 1) pe_int (nomark _))))) (pss_one (ps_ret (pe_tup (pa_cons pe_str (pa_cons pe_str pa_nil))))) pss_nil)
    (pss_one (ps_ret pe_non))))))))
  · obtain ⟨x0, x1, x2, x3, rfl, h⟩ := n__law_due h
    exact w__law_due h
theorem ok_seats_of {K : PySem.W.Frag} {mg : Str → Option Value} {base : Heap} {ad : Ad} (T : Txt K mg ad) : FnOk ad.P ad.w K mg base (L2.CX ad.P ad.w) 3 T.f_seats_of T.d_seats_of ["p"] (sp_seats_of K ad) := by
  refine T.F_seats_of.okX sc_seats_of (fun vs H Q E h => ?_) (fun cdv A outer s H vs Q E hr h => ⟨t_seats_of K ad E, ?_, ?_⟩)
  · obtain ⟨x0, rfl, _⟩ := n_seats_of h
    rfl
  · exact (pss_cons (ps_if (PW.pt (pw_or (pt_cmpR (op_zLt hr.units0) (pv 0) pe_int (nomark _)) (pw_or1 (pt_cmpR op_zGt (pv 0) (pe_glob (by rfl) T.g_GREATEST T.r_GREATEST) (nomark _))))) (pss_one (ps_raise rfl (takes_of rfl rfl rfl rfl) (pmk_oexG T.xf.x_NotPrime T.i_NotPrime T.t_NotPrime (ok_NotPrime___init__ T) hr T.b_NotPrime___init__ .nil pass0 (by rfl) T.g_NotPrime (pa_cons (pv 0) pa_nil)))) pss_nil)
    (pss_cons (ps_set (i := 1) sc_seats_of.nd rfl (Or.inl rfl) pe_int)
    (pss_cons (ps_while (passes_of rfl) (pt_cmpR op_zLe (pe_op op_zMul (pv 1) (pv 1)) (pv 0) (nomark _)) (pss_cons (ps_if (pt_cmpR (op_zEq hr.units) (pe_op op_zMod (pv 0) (pv 1)) pe_int (nomark _)) (pss_one (ps_raise rfl (takes_of rfl rfl rfl rfl) (pmk_oexG T.xf.x_NotPrime T.i_NotPrime T.t_NotPrime (ok_NotPrime___init__ T) hr T.b_NotPrime___init__ .nil pass0 (by rfl) T.g_NotPrime (pa_cons (pv 0) pa_nil)))) pss_nil)
    (pss_one (ps_aug (i := 1) sc_seats_of.nd rfl (Or.inl rfl) pe_int ip_add))))
    (pss_one (ps_ret (pe_op op_zAdd (pe_op op_zAdd (pe_op op_zMul (pv 0) (pv 0)) (pv 0)) pe_int))))))
  · obtain ⟨x0, rfl, h⟩ := n_seats_of h
    exact w_seats_of h
theorem ok__law_prime {K : PySem.W.Frag} {mg : Str → Option Value} {base : Heap} {ad : Ad} (T : Txt K mg ad) : FnOk ad.P ad.w K mg base CX0 3 T.f__law_prime T.d__law_prime ["script", "pot", "turn"] (sp__law_prime K ad) := by
  refine T.F__law_prime.ok sc__law_prime (fun vs H Q E h => ?_) (fun cdv A outer s H vs Q E hr h => ⟨t__law_prime K ad, ?_, ?_⟩)
  · obtain ⟨x0, x1, x2, rfl, _⟩ := n__law_prime h
    rfl
  · exact (pss_cons (ps_set (i := 3) sc__law_prime.nd rfl (Or.inl rfl) (pe_lst (pa_cons pe_int (pa_cons pe_int (pa_cons pe_int (pa_cons pe_int (pa_cons pe_int (pa_cons pe_int (pa_cons pe_int (pa_cons pe_int (pa_cons pe_int (pa_cons pe_int (pa_cons pe_int pa_nil)))))))))))))
    (Evl.pss_cut (ps_if (PW.pt (pw_or (pt_cmpR op_zGt (pv 2) pe_int (nomark _)) (pw_or1 (pt_cmpR op_zGt (pe_call (ok__law_take T) hr (by rfl) T.g__law_take T.F__law_take.kp T.b__law_take .nil pass0 (pa_cons (pv 0) (pa_cons (pv 1) (pa_cons pe_int pa_nil)))) pe_int (nomark _))))) (pss_one (ps_ret (pe_ix ix_seq (pv 3) (pe_call (ok__law_take T) hr (by rfl) T.g__law_take T.F__law_take.kp T.b__law_take .nil pass0 (pa_cons (pv 0) (pa_cons (pv 1) (pa_cons pe_int pa_nil)))) (fun _ _ => rfl)))) pss_nil)
    (pss_cons (ps_set (i := 4) sc__law_prime.nd rfl (Or.inl rfl) (pe_op op_zAdd pe_int (pe_call (ok__law_take T) hr (by rfl) T.g__law_take T.F__law_take.kp T.b__law_take .nil pass0 (pa_cons (pv 0) (pa_cons (pv 1) (pa_cons pe_int pa_nil))))))
    (pss_cons (ps_for PassesOwn.never rfl (pi_range1 (by rfl) T.m_range (pa_cons pe_int pa_nil)) (pg_name (i := 5) sc__law_prime.nd rfl (Or.inl rfl))
    (pss_one (ps_if (pt_not (pt_truth (pe_call (ok__law_is_prime T) (hr.mono (by decide)) (by rfl) T.g__law_is_prime T.F__law_is_prime.kp T.b__law_is_prime .nil pass0 (pa_cons (pv 4) pa_nil)) (by intro _; rfl))) (pss_one (ps_set (i := 4) sc__law_prime.nd rfl (Or.inl rfl) (pe_op op_zAdd (pv 4) pe_int))) pss_nil)))
    (pss_one (ps_ret (pv 4)))))))
  · obtain ⟨x0, x1, x2, rfl, h⟩ := n__law_prime h
    exact w__law_prime h
theorem ok__law_number {K : PySem.W.Frag} {mg : Str → Option Value} {base : Heap} {ad : Ad} (T : Txt K mg ad) : FnOk ad.P ad.w K mg base CX0 3 T.f__law_number T.d__law_number ["script", "pot"] (sp__law_number K ad) := by
  refine T.F__law_number.ok sc__law_number (fun vs H Q E h => ?_) (fun cdv A outer s H vs Q E hr h => ⟨t__law_number K ad, ?_, ?_⟩)
  · obtain ⟨x0, x1, rfl, _⟩ := n__law_number h
    rfl
  · exact (pss_cons (ps_if (pt_cmpR (op_zEq hr.units) (pe_call (ok__law_take T) hr (by rfl) T.g__law_take T.F__law_take.kp T.b__law_take .nil pass0 (pa_cons (pv 0) (pa_cons (pv 1) (pa_cons pe_int pa_nil)))) pe_int (nomark _)) (pss_one (ps_ret (pe_op op_zSub (pe_call (ok__law_take T) hr (by rfl) T.g__law_take T.F__law_take.kp T.b__law_take .nil pass0 (pa_cons (pv 0) (pa_cons (pv 1) (pa_cons pe_int pa_nil)))) pe_int))) pss_nil)
    (pss_cons (ps_set (i := 2) sc__law_number.nd rfl (Or.inl rfl) (pe_call (ok__law_take T) hr (by rfl) T.g__law_take T.F__law_take.kp T.b__law_take .nil pass0 (pa_cons (pv 0) (pa_cons (pv 1) (pa_cons (pe_op op_zPow pe_int pe_int) pa_nil)))))
    (pss_one (ps_ret (pe_ix ix_seq (pe_lst (pa_cons pe_int (pa_cons pe_int (pa_cons pe_int (pa_cons (pe_op op_zSub pe_int (pv 2)) (pa_cons (pv 2) (pa_cons pe_int (pa_cons pe_int pa_nil)))))))) (pe_call (ok__law_take T) hr (by rfl) T.g__law_take T.F__law_take.kp T.b__law_take .nil pass0 (pa_cons (pv 0) (pa_cons (pv 1) (pa_cons pe_int pa_nil)))) (fun _ _ => rfl))))))
  · obtain ⟨x0, x1, rfl, h⟩ := n__law_number h
    exact w__law_number h
theorem ok_seats_looked {K : PySem.W.Frag} {mg : Str → Option Value} {base : Heap} {ad : Ad} (T : Txt K mg ad) : FnOk ad.P ad.w K mg base (L2.CX ad.P ad.w) 4 T.f_seats_looked T.d_seats_looked ["p", "seats"] (sp_seats_looked K ad) := by
  refine T.F_seats_looked.okX sc_seats_looked (fun vs H Q E h => ?_) (fun cdv A outer s H vs Q E hr h => ⟨t_seats_looked K ad E, ?_, ?_⟩)
  · obtain ⟨x0, x1, rfl, _⟩ := n_seats_looked h
    rfl
  · exact (pss_cons (ps_set (i := 2) sc_seats_looked.nd rfl (Or.inl rfl) (pe_callS (ok_seats_of T) hr (by rfl) T.g_seats_of T.F_seats_of.kp T.b_seats_of (fun σ => passAt (takes_of rfl rfl rfl rfl) σ) (pa_cons (pv 0) pa_nil)))
    (pss_one (ps_for (passes_of rfl) rfl (pi_list (pv 1)) (pg_name (i := 3) sc_seats_looked.nd rfl (Or.inl rfl))
    (pss_one (ps_if (PW.pt (pw_or (pt_cmpR (op_zLt hr.units0) (pv 3) pe_int (nomark _)) (pw_or1 (pt_cmpR op_zGe (pv 3) (pv 2) (nomark _))))) (pss_one (ps_raise rfl (takes_of rfl rfl rfl rfl) (pmk_oex T.xf.x_NoSeat T.i_NoSeat T.t_NoSeat (ok_NoSeat___init__ T) (hr.mono (by decide)) T.b_NoSeat___init__ .nil pass0 (by rfl) T.g_NoSeat (pa_cons (pv 3) pa_nil)))) pss_nil)))))
  · obtain ⟨x0, x1, rfl, h⟩ := n_seats_looked h
    exact w_seats_looked h
theorem ok_sets_looked {K : PySem.W.Frag} {mg : Str → Option Value} {base : Heap} {ad : Ad} (T : Txt K mg ad) : FnOk ad.P ad.w K mg base (L2.CX ad.P ad.w) 4 T.f_sets_looked T.d_sets_looked ["p", "numbers"] (sp_sets_looked K ad) := by
  refine T.F_sets_looked.okX sc_sets_looked (fun vs H Q E h => ?_) (fun cdv A outer s H vs Q E hr h => ⟨t_sets_looked K ad E, ?_, ?_⟩)
  · obtain ⟨x0, x1, rfl, _⟩ := n_sets_looked h
    rfl
  · exact (pss_cons (ps_set (i := 2) sc_sets_looked.nd rfl (Or.inl rfl) (pe_callS (ok_seats_of T) hr (by rfl) T.g_seats_of T.F_seats_of.kp T.b_seats_of (fun σ => passAt (takes_of rfl rfl rfl rfl) σ) (pa_cons (pv 0) pa_nil)))
    (pss_one (ps_for (passes_of rfl) rfl (pi_list (pv 1)) (pg_name (i := 3) sc_sets_looked.nd rfl (Or.inl rfl))
    (pss_one (ps_if (PW.pt (pw_or (pt_cmpR (op_zLt hr.units0) (pv 3) pe_int (nomark _)) (pw_or1 (pt_cmpR op_zGe (pv 3) (pv 2) (nomark _))))) (pss_one (ps_raise rfl (takes_of rfl rfl rfl rfl) (pmk_oex T.xf.x_NoSet T.i_NoSet T.t_NoSet (ok_NoSet___init__ T) (hr.mono (by decide)) T.b_NoSet___init__ .nil pass0 (by rfl) T.g_NoSet (pa_cons (pv 3) pa_nil)))) pss_nil)))))
  · obtain ⟨x0, x1, rfl, h⟩ := n_sets_looked h
    exact w_sets_looked h
theorem ok_lies {K : PySem.W.Frag} {mg : Str → Option Value} {base : Heap} {ad : Ad} (T : Txt K mg ad) : FnOk ad.P ad.w K mg base (L2.CX ad.P ad.w) 5 T.f_lies T.d_lies ["p", "seat", "number"] (sp_lies K ad) := by
  refine T.F_lies.okX sc_lies (fun vs H Q E h => ?_) (fun cdv A outer s H vs Q E hr h => ⟨t_lies K ad E, ?_, ?_⟩)
  · obtain ⟨x0, x1, x2, rfl, _⟩ := n_lies h
    rfl
  · exact (pss_cons (ps_expr (pe_callS (ok_seats_looked T) hr (by rfl) T.g_seats_looked T.F_seats_looked.kp T.b_seats_looked (fun σ => passAt (takes_of rfl rfl rfl rfl) σ) (pa_cons (pv 0) (pa_cons (pe_lst (pa_cons (pv 1) pa_nil)) pa_nil))))
    (pss_cons (ps_expr (pe_callS (ok_sets_looked T) hr (by rfl) T.g_sets_looked T.F_sets_looked.kp T.b_sets_looked (fun σ => passAt (takes_of rfl rfl rfl rfl) σ) (pa_cons (pv 0) (pa_cons (pe_lst (pa_cons (pv 2) pa_nil)) pa_nil))))
    (pss_cons (ps_asg (pe_call (ok_line_of T) (hr.mono (by decide)) (by rfl) T.g_line_of T.F_line_of.kp T.b_line_of .nil pass0 (pa_cons (pv 0) (pa_cons (pv 2) pa_nil))) (pg_tup rfl (pgs_cons (pg_name (i := 3) sc_lies.nd rfl (Or.inl rfl)) (pgs_cons (pg_name (i := 4) sc_lies.nd rfl (Or.inl rfl)) pgs_nil))))
    (pss_cons (ps_if (pt_cmpR op_zGe (pv 1) (pe_op op_zMul (pv 0) (pv 0)) (nomark _)) (pss_one (ps_ret (pe_or (pe_cmpR (op_zEq hr.units) (pv 3) (pe_op op_zSub (pv 1) (pe_op op_zMul (pv 0) (pv 0))) (nomark _)) (pe_one (pe_cmpR op_zGt (pv 3) (pv 0) (nomark _)))))) pss_nil)
    (pss_cons (ps_asg (pe_callB call_divmodW (by rfl) T.m_divmod (by decide +kernel) (pa_cons (pv 1) (pa_cons (pv 0) pa_nil))) (pg_tup rfl (pgs_cons (pg_name (i := 5) sc_lies.nd rfl (Or.inl rfl)) (pgs_cons (pg_name (i := 6) sc_lies.nd rfl (Or.inl rfl)) pgs_nil))))
    (pss_cons (ps_if (pt_cmpR (op_zEq hr.units) (pv 3) (pv 0) (nomark _)) (pss_one (ps_ret (pe_cmpR (op_zEq hr.units) (pv 5) (pv 4) (nomark _)))) pss_nil)
    (pss_one (ps_ret (pe_and (pe_cmpR (op_zLt hr.units0) (pv 3) (pv 0) (nomark _)) (pe_one (pe_cmpR (op_zEq hr.units) (pe_op op_zMod (pe_op op_zSub (pe_op op_zAdd (pe_op op_zMul (pv 3) (pv 5)) (pv 4)) (pv 6)) (pv 0)) pe_int (nomark _))))))))))))
  · obtain ⟨x0, x1, x2, rfl, h⟩ := n_lies h
    exact w_lies h
theorem ok_set_of {K : PySem.W.Frag} {mg : Str → Option Value} {base : Heap} {ad : Ad} (T : Txt K mg ad) : FnOk ad.P ad.w K mg base (L2.CX ad.P ad.w) 5 T.f_set_of T.d_set_of ["p", "number"] (sp_set_of K ad) := by
  refine T.F_set_of.okX sc_set_of (fun vs H Q E h => ?_) (fun cdv A outer s H vs Q E hr h => ⟨t_set_of K ad E, ?_, ?_⟩)
  · obtain ⟨x0, x1, rfl, _⟩ := n_set_of h
    rfl
  · exact (pss_cons (ps_expr (pe_callS (ok_sets_looked T) hr (by rfl) T.g_sets_looked T.F_sets_looked.kp T.b_sets_looked (fun σ => passAt (takes_of rfl rfl rfl rfl) σ) (pa_cons (pv 0) (pa_cons (pe_lst (pa_cons (pv 1) pa_nil)) pa_nil))))
    (pss_cons (ps_asg (pe_call (ok_line_of T) (hr.mono (by decide)) (by rfl) T.g_line_of T.F_line_of.kp T.b_line_of .nil pass0 (pa_cons (pv 0) (pa_cons (pv 1) pa_nil))) (pg_tup rfl (pgs_cons (pg_name (i := 2) sc_set_of.nd rfl (Or.inr rfl)) (pgs_cons (pg_name (i := 3) sc_set_of.nd rfl (Or.inr rfl)) pgs_nil))))
    (pss_cons (ps_if (pt_cmpR op_zGt (pv 2) (pv 0) (nomark _)) (pss_one (ps_ret (pe_tupRg rfl (by rfl) T.m_tuple (prg_2 (by rfl) T.m_range (pe_op op_zMul (pv 0) (pv 0)) (pe_op op_zAdd (pe_op op_zAdd (pe_op op_zMul (pv 0) (pv 0)) (pv 0)) pe_int))))) pss_nil)
    (pss_cons (ps_if (pt_cmpR (op_zEq hr.units) (pv 2) (pv 0) (nomark _)) (pss_one (ps_ret (pe_callTy cr_zTuple (by rfl) T.m_tuple (by decide +kernel) (pa_cons (pe_op op_zAdd (pe_lc (own := [("y", 4)]) rfl sc_set_of.nd (pi_range1 (by rfl) T.m_range (pa_cons (pv 0) pa_nil)) (blkOk_by (own := [("y", 4)]) (N := N_set_of) (sc := defScope s_set_of) (by decide +kernel)) (fun _ _ _ _ _ => (pg_name (i := 4) sc_set_of.nd rfl (Or.inl rfl))) (fun _ _ _ _ _ => pts_nil) (fun _ _ _ _ _ => (pe_op op_zAdd (pe_op op_zMul (pv 3) (pv 0)) (pv 4)))) (pe_lst (pa_cons (pe_op op_zAdd (pe_op op_zMul (pv 0) (pv 0)) (pv 0)) pa_nil))) pa_nil)))) pss_nil)
    (pss_one (ps_ret (pe_callTy cr_zTuple (by rfl) T.m_tuple (by decide +kernel) (pa_cons (pe_op op_zAdd (pe_lc (own := [("x", 5)]) rfl sc_set_of.nd (pi_range1 (by rfl) T.m_range (pa_cons (pv 0) pa_nil)) (blkOk_by (own := [("x", 5)]) (N := N_set_of) (sc := defScope s_set_of) (by decide +kernel)) (fun _ _ _ _ _ => (pg_name (i := 5) sc_set_of.nd rfl (Or.inl rfl))) (fun _ _ _ _ _ => pts_nil) (fun _ _ _ _ _ => (pe_op op_zAdd (pe_op op_zMul (pv 5) (pv 0)) (pe_op op_zMod (pe_op op_zAdd (pe_op op_zMul (pv 2) (pv 5)) (pv 3)) (pv 0))))) (pe_lst (pa_cons (pe_op op_zAdd (pe_op op_zMul (pv 0) (pv 0)) (pv 2)) pa_nil))) pa_nil))))))))
  · obtain ⟨x0, x1, rfl, h⟩ := n_set_of h
    exact w_set_of h
theorem ok_shared {K : PySem.W.Frag} {mg : Str → Option Value} {base : Heap} {ad : Ad} (T : Txt K mg ad) : FnOk ad.P ad.w K mg base (L2.CX ad.P ad.w) 5 T.f_shared T.d_shared ["p", "one", "other"] (sp_shared K ad) := by
  refine T.F_shared.okX sc_shared (fun vs H Q E h => ?_) (fun cdv A outer s H vs Q E hr h => ⟨t_shared K ad E, ?_, ?_⟩)
  · obtain ⟨x0, x1, x2, rfl, _⟩ := n_shared h
    rfl
  · exact (pss_cons (ps_expr (pe_callS (ok_sets_looked T) hr (by rfl) T.g_sets_looked T.F_sets_looked.kp T.b_sets_looked (fun σ => passAt (takes_of rfl rfl rfl rfl) σ) (pa_cons (pv 0) (pa_cons (pe_lst (pa_cons (pv 1) (pa_cons (pv 2) pa_nil))) pa_nil))))
    (pss_cons (ps_if (pt_cmpR (op_zEq hr.units) (pv 1) (pv 2) (nomark _)) (pss_one (ps_raise rfl (takes_of rfl rfl rfl rfl) (pmk_oex T.xf.x_NoSet T.i_NoSet T.t_NoSet (ok_NoSet___init__ T) (hr.mono (by decide)) T.b_NoSet___init__ .nil pass0 (by rfl) T.g_NoSet (pa_cons (pv 2) pa_nil)))) pss_nil)
    (pss_cons (ps_asg (pe_call (ok_line_of T) (hr.mono (by decide)) (by rfl) T.g_line_of T.F_line_of.kp T.b_line_of .nil pass0 (pa_cons (pv 0) (pa_cons (pv 1) pa_nil))) (pg_tup rfl (pgs_cons (pg_name (i := 3) sc_shared.nd rfl (Or.inl rfl)) (pgs_cons (pg_name (i := 4) sc_shared.nd rfl (Or.inl rfl)) pgs_nil))))
    (pss_cons (ps_asg (pe_call (ok_line_of T) (hr.mono (by decide)) (by rfl) T.g_line_of T.F_line_of.kp T.b_line_of .nil pass0 (pa_cons (pv 0) (pa_cons (pv 2) pa_nil))) (pg_tup rfl (pgs_cons (pg_name (i := 5) sc_shared.nd rfl (Or.inl rfl)) (pgs_cons (pg_name (i := 6) sc_shared.nd rfl (Or.inl rfl)) pgs_nil))))
    (pss_cons (ps_if (PW.pt (pw_or (pt_cmpR (op_zEq hr.units) (pv 3) (pv 5) (nomark _)) (pw_or1 (pt_cmpR op_zGt (pv 5) (pv 0) (nomark _))))) (pss_one (ps_ret (pe_op op_zAdd (pe_op op_zMul (pv 0) (pv 0)) (pv 3)))) pss_nil)
    (pss_cons (ps_if (pt_cmpR op_zGt (pv 3) (pv 0) (nomark _)) (pss_one (ps_ret (pe_op op_zAdd (pe_op op_zMul (pv 0) (pv 0)) (pv 5)))) pss_nil)
    (pss_cons (ps_if (pt_cmpR (op_zEq hr.units) (pv 3) (pv 0) (nomark _)) (pss_one (ps_ret (pe_op op_zAdd (pe_op op_zMul (pv 4) (pv 0)) (pe_op op_zMod (pe_op op_zAdd (pe_op op_zMul (pv 5) (pv 4)) (pv 6)) (pv 0))))) pss_nil)
    (pss_cons (ps_set (i := 7) sc_shared.nd rfl (Or.inl rfl) (pv 6))
    (pss_cons (ps_if (pt_cmpR (op_zLt hr.units0) (pv 5) (pv 0) (nomark _)) (pss_one (ps_set (i := 7) sc_shared.nd rfl (Or.inl rfl) (pe_op op_zMod (pe_op op_zMul (pe_op op_zSub (pv 6) (pv 4)) (pe_call (ok_inverse T) (hr.mono (by decide)) (by rfl) T.g_inverse T.F_inverse.kp T.b_inverse .nil pass0 (pa_cons (pe_op op_zSub (pv 3) (pv 5)) (pa_cons (pv 0) pa_nil)))) (pv 0)))) pss_nil)
    (pss_one (ps_ret (pe_op op_zAdd (pe_op op_zMul (pv 7) (pv 0)) (pe_op op_zMod (pe_op op_zAdd (pe_op op_zMul (pv 3) (pv 7)) (pv 4)) (pv 0))))))))))))))
  · obtain ⟨x0, x1, x2, rfl, h⟩ := n_shared h
    exact w_shared h
theorem ok_holding {K : PySem.W.Frag} {mg : Str → Option Value} {base : Heap} {ad : Ad} (T : Txt K mg ad) : FnOk ad.P ad.w K mg base (L2.CX ad.P ad.w) 5 T.f_holding T.d_holding ["p", "one", "other"] (sp_holding K ad) := by
  refine T.F_holding.okX sc_holding (fun vs H Q E h => ?_) (fun cdv A outer s H vs Q E hr h => ⟨t_holding K ad E, ?_, ?_⟩)
  · obtain ⟨x0, x1, x2, rfl, _⟩ := n_holding h
    rfl
  · exact (pss_cons (ps_expr (pe_callS (ok_seats_looked T) hr (by rfl) T.g_seats_looked T.F_seats_looked.kp T.b_seats_looked (fun σ => passAt (takes_of rfl rfl rfl rfl) σ) (pa_cons (pv 0) (pa_cons (pe_lst (pa_cons (pv 1) (pa_cons (pv 2) pa_nil))) pa_nil))))
    (pss_cons (ps_if (pt_cmpR (op_zEq hr.units) (pv 1) (pv 2) (nomark _)) (pss_one (ps_raise rfl (takes_of rfl rfl rfl rfl) (pmk_oex T.xf.x_NoSeat T.i_NoSeat T.t_NoSeat (ok_NoSeat___init__ T) (hr.mono (by decide)) T.b_NoSeat___init__ .nil pass0 (by rfl) T.g_NoSeat (pa_cons (pv 2) pa_nil)))) pss_nil)
    (pss_cons (ps_par (i := 3) (j := 4) (by rfl) sc_holding.nd rfl rfl (by decide) rfl rfl (pa_cons (pe_callB (call_min2 rfl) (by rfl) T.m_min (by decide +kernel) (pa_cons (pv 1) (pa_cons (pv 2) pa_nil))) (pa_cons (pe_callB (call_max2 rfl) (by rfl) T.m_max (by decide +kernel) (pa_cons (pv 1) (pa_cons (pv 2) pa_nil))) pa_nil)) (by rfl))
    (pss_cons (ps_if (pt_cmpR op_zGe (pv 3) (pe_op op_zMul (pv 0) (pv 0)) (nomark _)) (pss_one (ps_ret (pe_op op_zAdd (pe_op op_zMul (pv 0) (pv 0)) (pv 0)))) pss_nil)
    (pss_cons (ps_if (pt_cmpR op_zGe (pv 4) (pe_op op_zMul (pv 0) (pv 0)) (nomark _)) (pss_one (ps_ret (pe_call (ok_through T) (hr.mono (by decide)) (by rfl) T.g_through T.F_through.kp T.b_through .nil pass0 (pa_cons (pv 0) (pa_cons (pv 3) (pa_cons (pe_op op_zSub (pv 4) (pe_op op_zMul (pv 0) (pv 0))) pa_nil)))))) pss_nil)
    (pss_cons (ps_asg (pe_callB call_divmodW (by rfl) T.m_divmod (by decide +kernel) (pa_cons (pv 3) (pa_cons (pv 0) pa_nil))) (pg_tup rfl (pgs_cons (pg_name (i := 5) sc_holding.nd rfl (Or.inl rfl)) (pgs_cons (pg_name (i := 6) sc_holding.nd rfl (Or.inl rfl)) pgs_nil))))
    (pss_cons (ps_asg (pe_callB call_divmodW (by rfl) T.m_divmod (by decide +kernel) (pa_cons (pv 4) (pa_cons (pv 0) pa_nil))) (pg_tup rfl (pgs_cons (pg_name (i := 7) sc_holding.nd rfl (Or.inl rfl)) (pgs_cons (pg_name (i := 8) sc_holding.nd rfl (Or.inl rfl)) pgs_nil))))
    (pss_cons (ps_if (pt_cmpR (op_zEq hr.units) (pv 5) (pv 7) (nomark _)) (pss_one (ps_ret (pe_call (ok_through T) (hr.mono (by decide)) (by rfl) T.g_through T.F_through.kp T.b_through .nil pass0 (pa_cons (pv 0) (pa_cons (pv 3) (pa_cons (pv 0) pa_nil)))))) pss_nil)
    (pss_one (ps_ret (pe_call (ok_through T) (hr.mono (by decide)) (by rfl) T.g_through T.F_through.kp T.b_through .nil pass0 (pa_cons (pv 0) (pa_cons (pv 3) (pa_cons (pe_op op_zMod (pe_op op_zMul (pe_op op_zSub (pv 8) (pv 6)) (pe_call (ok_inverse T) (hr.mono (by decide)) (by rfl) T.g_inverse T.F_inverse.kp T.b_inverse .nil pass0 (pa_cons (pe_op op_zSub (pv 7) (pv 5)) (pa_cons (pv 0) pa_nil)))) (pv 0)) pa_nil))))))))))))))
  · obtain ⟨x0, x1, x2, rfl, h⟩ := n_holding h
    exact w_holding h
theorem ok_free {K : PySem.W.Frag} {mg : Str → Option Value} {base : Heap} {ad : Ad} (T : Txt K mg ad) : FnOk ad.P ad.w K mg base (L2.CX ad.P ad.w) 6 T.f_free T.d_free ["p", "fallen"] (sp_free K ad) := by
  refine T.F_free.okX sc_free (fun vs H Q E h => ?_) (fun cdv A outer s H vs Q E hr h => ⟨t_free K ad E, ?_, ?_⟩)
  · obtain ⟨x0, x1, rfl, _⟩ := n_free h
    rfl
  · exact (pss_cons (ps_expr (pe_callS (ok_seats_looked T) (hr.mono (by decide)) (by rfl) T.g_seats_looked T.F_seats_looked.kp T.b_seats_looked (fun σ => passAt (takes_of rfl rfl rfl rfl) σ) (pa_cons (pv 0) (pa_cons (pv 1) pa_nil))))
    (pss_cons (ps_if (pt_cmpR op_zGt (pe_callB cr_zLen (by rfl) T.m_len (by decide +kernel) (pa_cons (pv 1) pa_nil)) (pv 0) (nomark _)) (pss_one (ps_raise rfl (takes_of rfl rfl rfl rfl) (pmk_oex T.xf.x_TooManyFallen T.i_TooManyFallen T.t_TooManyFallen (ok_TooManyFallen___init__ T) (hr.mono (by decide)) T.b_TooManyFallen___init__ .nil pass0 (by rfl) T.g_TooManyFallen (pa_cons (pe_callB cr_zLen (by rfl) T.m_len (by decide +kernel) (pa_cons (pv 1) pa_nil)) pa_nil)))) pss_nil)
    (pss_cons (ps_set (i := 2) sc_free.nd rfl (Or.inr rfl) pe_int)
    (pss_cons (ps_while (passes_of rfl) (pt_cmpR (op_zIn hr.units65) (pv 2) (pv 1) (by rfl)) (pss_one (ps_aug (i := 2) sc_free.nd rfl (Or.inr rfl) pe_int ip_add)))
    (pss_cons (ps_setDc (i := 3) (own := [("one", 6)]) rfl sc_free.nd rfl rfl (sw_trueD rfl rfl rfl (by decide +kernel)) (pi_list (pv 1)) (blkOk_by (own := [("one", 6)]) (N := N_free) (sc := defScope s_free) (by decide +kernel)) (fun _ _ _ _ _ => (pg_name (i := 6) sc_free.nd rfl (Or.inl rfl))) (fun _ _ _ _ _ => pts_nil) (fun _ _ _ _ _ => (pe_call (ok_holding T) hr (by rfl) T.g_holding T.F_holding.kp T.b_holding .nil passN (pa_cons (pv 0) (pa_cons (pv 2) (pa_cons (pv 6) pa_nil))))) (fun _ _ _ _ _ => pe_bl))
    (pss_cons (ps_for (passes_of rfl) rfl (pi_range1 (by rfl) T.m_range (pa_cons (pv 0) pa_nil)) (pg_name (i := 4) sc_free.nd rfl (Or.inl rfl))
    (pss_cons (ps_set (i := 5) sc_free.nd rfl (Or.inl rfl) (pe_call (ok_through T) (hr.mono (by decide)) (by rfl) T.g_through T.F_through.kp T.b_through .nil pass0 (pa_cons (pv 0) (pa_cons (pv 2) (pa_cons (pv 4) pa_nil)))))
    (pss_one (ps_if (pt_cmp (pc_dnotin (hu_of hr) (pv 5) (pv 3))) (pss_one (ps_ret (pv 5))) pss_nil))))
    (pss_one (ps_ret (pe_call (ok_through T) (hr.mono (by decide)) (by rfl) T.g_through T.F_through.kp T.b_through .nil pass0 (pa_cons (pv 0) (pa_cons (pv 2) (pa_cons (pv 0) pa_nil))))))))))))
  · obtain ⟨x0, x1, rfl, h⟩ := n_free h
    exact w_free h
theorem ok_plane {K : PySem.W.Frag} {mg : Str → Option Value} {base : Heap} {ad : Ad} (T : Txt K mg ad) : FnOk ad.P ad.w K mg base (L2.CX ad.P ad.w) 6 T.f_plane T.d_plane ["p"] (sp_plane K ad) := by
  refine T.F_plane.okX sc_plane (fun vs H Q E h => ?_) (fun cdv A outer s H vs Q E hr h => ⟨t_plane K ad E, ?_, ?_⟩)
  · obtain ⟨x0, rfl, _⟩ := n_plane h
    rfl
  · exact (pss_cons (ps_set (i := 1) sc_plane.nd rfl (Or.inl rfl) (pe_callS (ok_seats_of T) (hr.mono (by decide)) (by rfl) T.g_seats_of T.F_seats_of.kp T.b_seats_of (fun σ => passAt (takes_of rfl rfl rfl rfl) σ) (pa_cons (pv 0) pa_nil)))
    (pss_cons (ps_if (pt_cmpR op_zGt (pv 0) (pe_glob (by rfl) T.g_LISTED T.r_LISTED) (nomark _)) (pss_one (ps_raise rfl (takes_of rfl rfl rfl rfl) (pmk_oex T.xf.x_TooMany T.i_TooMany T.t_TooMany (ok_TooMany___init__ T) (hr.mono (by decide)) T.b_TooMany___init__ .nil pass0 (by rfl) T.g_TooMany (pa_cons pe_str pa_nil)))) pss_nil)
    (pss_one (ps_ret (pe_lc (own := [("number", 2)]) rfl sc_plane.nd (pi_range1 (by rfl) T.m_range (pa_cons (pv 1) pa_nil)) (blkOk_by (own := [("number", 2)]) (N := N_plane) (sc := defScope s_plane) (by decide +kernel)) (fun _ _ _ _ _ => (pg_name (i := 2) sc_plane.nd rfl (Or.inl rfl))) (fun _ _ _ _ _ => pts_nil) (fun _ _ _ _ _ => (pe_call (ok_set_of T) hr (by rfl) T.g_set_of T.F_set_of.kp T.b_set_of .nil passN (pa_cons (pv 0) (pa_cons (pv 2) pa_nil)))))))))
  · obtain ⟨x0, rfl, h⟩ := n_plane h
    exact w_plane h
theorem ok__law_set_right {K : PySem.W.Frag} {mg : Str → Option Value} {base : Heap} {ad : Ad} (T : Txt K mg ad) : FnOk ad.P ad.w K mg base CX0 6 T.f__law_set_right T.d__law_set_right ["script", "pot", "p", "number"] (sp__law_set_right K ad) := by
  refine T.F__law_set_right.ok sc__law_set_right (fun vs H Q E h => ?_) (fun cdv A outer s H vs Q E hr h => ⟨t__law_set_right K ad, ?_, ?_⟩)
  · obtain ⟨x0, x1, x2, x3, rfl, _⟩ := n__law_set_right h
    rfl
  · exact (pss_cons (ps_set (i := 4) sc__law_set_right.nd rfl (Or.inr rfl) (pe_call (ok_set_of T) hr (by rfl) T.g_set_of T.F_set_of.kp T.b_set_of .nil passN (pa_cons (pv 2) (pa_cons (pv 3) pa_nil))))
    (pss_cons (ps_if (PW.pt (pw_or (pt_not (pt_truth (pe_call (ok__law_is_set T) (hr.mono (by decide)) (by rfl) T.g__law_is_set T.F__law_is_set.kp T.b__law_is_set .nil pass0 (pa_cons (pv 4) pa_nil)) (by intro _; rfl))) (pw_or (pt_cmpR (op_zNe hr.units) (pe_callB cr_zLen (by rfl) T.m_len (by decide +kernel) (pa_cons (pv 4) pa_nil)) (pe_op op_zAdd (pv 2) pe_int) (nomark _)) (pw_or (pt_cmpR (op_zLt hr.units0) (pe_ix ix_seq (pv 4) pe_int (fun _ _ => rfl)) pe_int (nomark _)) (pw_or1 (pt_cmpR op_zGt (pe_ix ix_seq (pv 4) (pv 2) (fun _ _ => rfl)) (pe_op op_zAdd (pe_op op_zMul (pv 2) (pv 2)) (pv 2)) (nomark _))))))) (pss_one (ps_ret pe_bl)) pss_nil)
    (pss_cons (ps_if (PW.pt (pw_or (pt_cmpR (op_zNe hr.units) (pe_lc (own := [("k", 5)]) rfl sc__law_set_right.nd (pi_range1 (by rfl) T.m_range (pa_cons (pv 2) pa_nil)) (blkOk_by (own := [("k", 5)]) (N := N__law_set_right) (sc := defScope s__law_set_right) (by decide +kernel)) (fun _ _ _ _ _ => (pg_name (i := 5) sc__law_set_right.nd rfl (Or.inl rfl))) (fun _ _ _ _ _ => (pts_one (pt_cmpR op_zGe (pe_ix ix_seq (pv 4) (pv 5) (fun _ _ => rfl)) (pe_ix ix_seq (pv 4) (pe_op op_zAdd (pv 5) pe_int) (fun _ _ => rfl)) (nomark _)))) (fun _ _ _ _ _ => pe_int)) (pe_lst pa_nil) (nomark _)) (pw_or (pt_cmpR (op_zNotIn hr.units65) (pv 3) (pv 4) (by rfl)) (pw_or1 (pt_cmpR (op_zNe hr.units) (pe_call (ok_set_of T) hr (by rfl) T.g_set_of T.F_set_of.kp T.b_set_of .nil passN (pa_cons (pv 2) (pa_cons (pv 3) pa_nil))) (pv 4) (nomark _)))))) (pss_one (ps_ret pe_bl)) pss_nil)
    (pss_cons (ps_for PassesOwn.never rfl (pi_range1 (by rfl) T.m_range (pa_cons pe_int pa_nil)) (pg_name (i := 5) sc__law_set_right.nd rfl (Or.inl rfl))
    (pss_cons (ps_set (i := 6) sc__law_set_right.nd rfl (Or.inl rfl) (pe_ix ix_seq (pv 4) (pe_call (ok__law_take T) (hr.mono (by decide)) (by rfl) T.g__law_take T.F__law_take.kp T.b__law_take .nil pass0 (pa_cons (pv 0) (pa_cons (pv 1) (pa_cons (pe_op op_zAdd (pv 2) pe_int) pa_nil)))) (fun _ _ => rfl)))
    (Evl.pss_cut (ps_if (pt_cmpR op_zGt (pv 5) pe_int (nomark _)) (pss_one (ps_set (i := 6) sc__law_set_right.nd rfl (Or.inl rfl) (pe_call (ok__law_take T) (hr.mono (by decide)) (by rfl) T.g__law_take T.F__law_take.kp T.b__law_take .nil pass0 (pa_cons (pv 0) (pa_cons (pv 1) (pa_cons (pe_op op_zAdd (pe_op op_zAdd (pe_op op_zMul (pv 2) (pv 2)) (pv 2)) pe_int) pa_nil)))))) pss_nil)
    (pss_cons (ps_set (i := 7) sc__law_set_right.nd rfl (Or.inl rfl) (pe_call (ok_lies T) hr (by rfl) T.g_lies T.F_lies.kp T.b_lies .nil passN (pa_cons (pv 2) (pa_cons (pv 6) (pa_cons (pv 3) pa_nil)))))
    (pss_one (ps_if (PW.pt (pw_or (pt_not (pt_truth (pe_callB call_isi (by rfl) T.m_isinstance (by decide +kernel) (pa_cons (pv 7) (pa_cons (pe_bltn (by rfl) T.m_bool (by decide +kernel) rfl) pa_nil))) (by intro _; rfl))) (pw_or1 (pt_cmpR (op_zNe hr.units) (pv 7) (pe_cmpR (op_zIn hr.units65) (pv 6) (pv 4) (by rfl)) (nomark _))))) (pss_one (ps_ret pe_bl)) pss_nil))))))
    (pss_one (ps_ret pe_bl))))))
  · obtain ⟨x0, x1, x2, x3, rfl, h⟩ := n__law_set_right h
    exact w__law_set_right h
theorem ok__law_call {K : PySem.W.Frag} {mg : Str → Option Value} {base : Heap} {ad : Ad} (T : Txt K mg ad) : FnOk ad.P ad.w K mg base (L2.CX ad.P ad.w) 7 T.f__law_call T.d__law_call ["door", "p", "one", "other"] (sp__law_call K ad) := by
  refine T.F__law_call.okX sc__law_call (fun vs H Q E h => ?_) (fun cdv A outer s H vs Q E hr h => ⟨t__law_call K ad E, ?_, ?_⟩)
  · obtain ⟨x0, x1, x2, x3, rfl, _⟩ := n__law_call h
    rfl
  · exact (pss_cons (ps_if (pt_cmpR (op_zEq hr.units) (pv 0) pe_int (nomark _)) (pss_one (ps_ret (pe_callS (ok_seats_of T) (hr.mono (by decide)) (by rfl) T.g_seats_of T.F_seats_of.kp T.b_seats_of (fun σ => passAt (takes_of rfl rfl rfl rfl) σ) (pa_cons (pv 1) pa_nil)))) pss_nil)
    (pss_cons (ps_if (pt_cmpR (op_zEq hr.units) (pv 0) pe_int (nomark _)) (pss_one (ps_ret (pe_callS (ok_lies T) (hr.mono (by decide)) (by rfl) T.g_lies T.F_lies.kp T.b_lies (fun σ => passAt (takes_of rfl rfl rfl rfl) σ) (pa_cons (pv 1) (pa_cons (pv 2) (pa_cons (pv 3) pa_nil)))))) pss_nil)
    (pss_cons (ps_if (pt_cmpR (op_zEq hr.units) (pv 0) pe_int (nomark _)) (pss_one (ps_ret (pe_callS (ok_set_of T) (hr.mono (by decide)) (by rfl) T.g_set_of T.F_set_of.kp T.b_set_of (fun σ => passAt (takes_of rfl rfl rfl rfl) σ) (pa_cons (pv 1) (pa_cons (pv 2) pa_nil))))) pss_nil)
    (pss_cons (ps_if (pt_cmpR (op_zEq hr.units) (pv 0) pe_int (nomark _)) (pss_one (ps_ret (pe_callS (ok_shared T) (hr.mono (by decide)) (by rfl) T.g_shared T.F_shared.kp T.b_shared (fun σ => passAt (takes_of rfl rfl rfl rfl) σ) (pa_cons (pv 1) (pa_cons (pv 2) (pa_cons (pv 3) pa_nil)))))) pss_nil)
    (pss_cons (ps_if (pt_cmpR (op_zEq hr.units) (pv 0) pe_int (nomark _)) (pss_one (ps_ret (pe_callS (ok_holding T) (hr.mono (by decide)) (by rfl) T.g_holding T.F_holding.kp T.b_holding (fun σ => passAt (takes_of rfl rfl rfl rfl) σ) (pa_cons (pv 1) (pa_cons (pv 2) (pa_cons (pv 3) pa_nil)))))) pss_nil)
    (pss_cons (ps_if (pt_cmpR (op_zEq hr.units) (pv 0) pe_int (nomark _)) (pss_one (ps_ret (pe_callS (ok_free T) hr (by rfl) T.g_free T.F_free.kp T.b_free (fun σ => passAt (takes_of rfl rfl rfl rfl) σ) (pa_cons (pv 1) (pa_cons (pe_lst (pa_cons (pv 2) (pa_cons (pv 3) pa_nil))) pa_nil))))) pss_nil)
    (pss_one (ps_ret (pe_callS (ok_plane T) hr (by rfl) T.g_plane T.F_plane.kp T.b_plane (fun σ => passAt (takes_of rfl rfl rfl rfl) σ) (pa_cons (pv 1) pa_nil))))))))))
  · obtain ⟨x0, x1, x2, x3, rfl, h⟩ := n__law_call h
    exact w__law_call h
theorem ok__law_met {K : PySem.W.Frag} {mg : Str → Option Value} {base : Heap} {ad : Ad} (T : Txt K mg ad) : FnOk ad.P ad.w K mg base CX0 8 T.f__law_met T.d__law_met ["door", "p", "one", "other"] (sp__law_met K ad) := by
  refine T.F__law_met.ok sc__law_met (fun vs H Q E h => ?_) (fun cdv A outer s H vs Q E hr h => ⟨t__law_met K ad, ?_, ?_⟩)
  · obtain ⟨x0, x1, x2, x3, rfl, _⟩ := n__law_met h
    rfl
  · exact (pss_cons (ps_try_asN (tb := fun W => (tDrop (tCallS (sp__law_call K ad) (WE W) (tCons (tVar 0) (tCons (tVar 1) (tCons (tVar 2) (tCons (tVar 3) tNil))))))) (l := [((.ref ad.SoleError), 4, fun a cls d => (tSeq (tAsg (tLst (tCons (tCB (zIsX K a cls d) (tCons (tVar 4) (tCons (tC (.ref ad.NoSeat)) tNil))) (tCons (tCB (zIsX K a cls d) (tCons (tVar 4) (tCons (tC (.ref ad.NoSet)) tNil))) (tCons (tCB (zIsX K a cls d) (tCons (tVar 4) (tCons (tC (.ref ad.TooMany)) tNil))) (tCons (tCB (zIsX K a cls d) (tCons (tVar 4) (tCons (tC (.ref ad.TooManyFallen)) tNil))) tNil))))) (gName 5))
    (tSeq (tIfS (tOr (tTest (tOp (zNe K) (tBM K "list" (rCntB K) (tVar 5) (tCons (tC (.bl true)) tNil)) (tC (.int 1)))) (tOr (tNot (zTru K (tCB (zIsX K a cls d) (tCons (tVar 4) (tCons (tC (.ty "ValueError")) tNil))))) (zTru K (tCB (zIsX K a cls d) (tCons (tVar 4) (tCons (tTup (tCons (tC (.ref ad.Apart)) (tCons (tC (.ref ad.NoFamily)) (tCons (tC (.ref ad.NoShape)) tNil)))) tNil)))))) (tRet (tTup (tCons (tC (.str "odd")) (tCons (tC (.int 0)) tNil)))) tNext)
    (tSeq (tIfS (zTru K (tOp (rIx K) (tVar 5) (tC (.int 0)))) (tRet (tTup (tCons (tC (.str "seat")) (tCons (tXfA K a cls d "seat" (tVar 4)) tNil)))) tNext)
    (tSeq (tIfS (zTru K (tOp (rIx K) (tVar 5) (tC (.int 1)))) (tRet (tTup (tCons (tC (.str "set")) (tCons (tXfA K a cls d "number" (tVar 4)) tNil)))) tNext)
    (tRet (tIf (zTru K (tOp (rIx K) (tVar 5) (tC (.int 2)))) (tTup (tCons (tC (.str "many")) (tCons (tXfA K a cls d "what" (tVar 4)) tNil))) (tTup (tCons (tC (.str "fallen")) (tCons (tXfA K a cls d "many" (tVar 4)) tNil)))))))))), ((.ref ad.NotPrime), 4, fun a cls d => (tRet (tIf (zTru K (tCB (zIsX K a cls d) (tCons (tVar 4) (tCons (tC (.ty "ArithmeticError")) tNil)))) (tTup (tCons (tC (.str "prime")) (tCons (tXfA K a cls d "number" (tVar 4)) tNil))) (tTup (tCons (tC (.str "odd")) (tCons (tC (.int 1)) tNil))))))]) (Wout := (fun _ _ _ _ => False)) rfl rfl sc__law_met.nd takes0 (fun W pn xe tk po => (pss_one (ps_expr (pe_callS (ok__law_call T) hr (by rfl) T.g__law_call T.F__law_call.kp T.b__law_call (fun σ => passAt tk σ) (pa_cons (pv 0) (pa_cons (pv 1) (pa_cons (pv 2) (pa_cons (pv 3) pa_nil)))))))) (.cons (i := 4) (ts := fun a cls d => (tSeq (tAsg (tLst (tCons (tCB (zIsX K a cls d) (tCons (tVar 4) (tCons (tC (.ref ad.NoSeat)) tNil))) (tCons (tCB (zIsX K a cls d) (tCons (tVar 4) (tCons (tC (.ref ad.NoSet)) tNil))) (tCons (tCB (zIsX K a cls d) (tCons (tVar 4) (tCons (tC (.ref ad.TooMany)) tNil))) (tCons (tCB (zIsX K a cls d) (tCons (tVar 4) (tCons (tC (.ref ad.TooManyFallen)) tNil))) tNil))))) (gName 5))
    (tSeq (tIfS (tOr (tTest (tOp (zNe K) (tBM K "list" (rCntB K) (tVar 5) (tCons (tC (.bl true)) tNil)) (tC (.int 1)))) (tOr (tNot (zTru K (tCB (zIsX K a cls d) (tCons (tVar 4) (tCons (tC (.ty "ValueError")) tNil))))) (zTru K (tCB (zIsX K a cls d) (tCons (tVar 4) (tCons (tTup (tCons (tC (.ref ad.Apart)) (tCons (tC (.ref ad.NoFamily)) (tCons (tC (.ref ad.NoShape)) tNil)))) tNil)))))) (tRet (tTup (tCons (tC (.str "odd")) (tCons (tC (.int 0)) tNil)))) tNext)
    (tSeq (tIfS (zTru K (tOp (rIx K) (tVar 5) (tC (.int 0)))) (tRet (tTup (tCons (tC (.str "seat")) (tCons (tXfA K a cls d "seat" (tVar 4)) tNil)))) tNext)
    (tSeq (tIfS (zTru K (tOp (rIx K) (tVar 5) (tC (.int 1)))) (tRet (tTup (tCons (tC (.str "set")) (tCons (tXfA K a cls d "number" (tVar 4)) tNil)))) tNext)
    (tRet (tIf (zTru K (tOp (rIx K) (tVar 5) (tC (.int 2)))) (tTup (tCons (tC (.str "many")) (tCons (tXfA K a cls d "what" (tVar 4)) tNil))) (tTup (tCons (tC (.str "fallen")) (tCons (tXfA K a cls d "many" (tVar 4)) tNil)))))))))) rfl rfl ⟨by rfl, by decide, (.inl T.g_SoleError)⟩ (fun a oe cls d pn hz hf => (pss_cons (ps_set (i := 5) sc__law_met.nd rfl (Or.inl rfl) (pe_lst (pa_cons (pe_callB (cr_zIsX hz hf) (by rfl) T.m_isinstance (by decide +kernel) (pa_cons (pv 4) (pa_cons (pe_glob (by rfl) T.g_NoSeat rfl) pa_nil))) (pa_cons (pe_callB (cr_zIsX hz hf) (by rfl) T.m_isinstance (by decide +kernel) (pa_cons (pv 4) (pa_cons (pe_glob (by rfl) T.g_NoSet rfl) pa_nil))) (pa_cons (pe_callB (cr_zIsX hz hf) (by rfl) T.m_isinstance (by decide +kernel) (pa_cons (pv 4) (pa_cons (pe_glob (by rfl) T.g_TooMany rfl) pa_nil))) (pa_cons (pe_callB (cr_zIsX hz hf) (by rfl) T.m_isinstance (by decide +kernel) (pa_cons (pv 4) (pa_cons (pe_glob (by rfl) T.g_TooManyFallen rfl) pa_nil))) pa_nil))))))
    (pss_cons (ps_if (PW.pt (pw_or (pt_cmpR (op_zNe hr.units) (pe_bm PySem.F.plainAttrs_list PySem.F.slot_list_count PySem.F.type_list_count mt_lcountB (pv 5) (pa_cons pe_bl pa_nil)) pe_int (nomark _)) (pw_or (pt_not (pt_truth (pe_callB (cr_zIsX hz hf) (by rfl) T.m_isinstance (by decide +kernel) (pa_cons (pv 4) (pa_cons (pe_bltn (by rfl) T.m_ValueError (by decide +kernel) rfl) pa_nil))) (by intro _; rfl))) (pw_or1 (pt_truth (pe_callB (cr_zIsX hz hf) (by rfl) T.m_isinstance (by decide +kernel) (pa_cons (pv 4) (pa_cons (pe_tup (pa_cons (pe_glob (by rfl) T.g_Apart rfl) (pa_cons (pe_glob (by rfl) T.g_NoFamily rfl) (pa_cons (pe_glob (by rfl) T.g_NoShape rfl) pa_nil)))) pa_nil))) (by intro _; rfl)))))) (pss_one (ps_ret (pe_tup (pa_cons pe_str (pa_cons pe_int pa_nil))))) pss_nil)
    (pss_cons (ps_if (pt_truth (pe_ix ix_seq (pv 5) pe_int (fun _ _ => rfl)) (by intro _; rfl)) (pss_one (ps_ret (pe_tup (pa_cons pe_str (pa_cons (pe_xfA hz hf (pv 4)) pa_nil))))) pss_nil)
    (pss_cons (ps_if (pt_truth (pe_ix ix_seq (pv 5) pe_int (fun _ _ => rfl)) (by intro _; rfl)) (pss_one (ps_ret (pe_tup (pa_cons pe_str (pa_cons (pe_xfA hz hf (pv 4)) pa_nil))))) pss_nil)
    (pss_one (ps_ret (pe_ifExp (pt_truth (pe_ix ix_seq (pv 5) pe_int (fun _ _ => rfl)) (by intro _; rfl)) (pe_tup (pa_cons pe_str (pa_cons (pe_xfA hz hf (pv 4)) pa_nil))) (pe_tup (pa_cons pe_str (pa_cons (pe_xfA hz hf (pv 4)) pa_nil))))))))))) (.cons (i := 4) (ts := fun a cls d => (tRet (tIf (zTru K (tCB (zIsX K a cls d) (tCons (tVar 4) (tCons (tC (.ty "ArithmeticError")) tNil)))) (tTup (tCons (tC (.str "prime")) (tCons (tXfA K a cls d "number" (tVar 4)) tNil))) (tTup (tCons (tC (.str "odd")) (tCons (tC (.int 1)) tNil)))))) rfl rfl ⟨by rfl, by decide, (.inl T.g_NotPrime)⟩ (fun a oe cls d pn hz hf => (pss_one (ps_ret (pe_ifExp (pt_truth (pe_callB (cr_zIsX hz hf) (by rfl) T.m_isinstance (by decide +kernel) (pa_cons (pv 4) (pa_cons (pe_bltn (by rfl) T.m_ArithmeticError (by decide +kernel) rfl) pa_nil))) (by intro _; rfl)) (pe_tup (pa_cons pe_str (pa_cons (pe_xfA hz hf (pv 4)) pa_nil))) (pe_tup (pa_cons pe_str (pa_cons pe_int pa_nil))))))) .nil)))
    (pss_one (ps_ret pe_non)))
  · obtain ⟨x0, x1, x2, x3, rfl, h⟩ := n__law_met h
    exact w__law_met h
theorem ok_law {K : PySem.W.Frag} {mg : Str → Option Value} {base : Heap} {ad : Ad} (T : Txt K mg ad) : FnOk ad.P ad.w K mg base CX0 9 T.f_law T.d_law ["script"] (sp_law K ad) := by
  refine T.F_law.ok sc_law (fun vs H Q E h => ?_) (fun cdv A outer s H vs Q E hr h => ⟨t_law K ad, ?_, ?_⟩)
  · obtain ⟨x0, rfl, _⟩ := n_law h
    rfl
  · exact (pss_cons (ps_set (i := 1) sc_law.nd rfl (Or.inl rfl) (pe_lst (pa_cons pe_int (pa_cons pe_int pa_nil))))
    (pss_cons (ps_for PassesOwn.never rfl (pi_range1 (by rfl) T.m_range (pa_cons pe_int pa_nil)) (pg_name (i := 2) sc_law.nd rfl (Or.inl rfl))
    (pss_cons (ps_set (i := 3) sc_law.nd rfl (Or.inr rfl) (pe_call (ok__law_prime T) (hr.mono (by decide)) (by rfl) T.g__law_prime T.F__law_prime.kp T.b__law_prime .nil pass0 (pa_cons (pv 0) (pa_cons (pv 1) (pa_cons (pv 2) pa_nil)))))
    (pss_cons (ps_if (PW.pt (pw_or (pt_not (pt_truth (pe_call (ok__law_whole T) (hr.mono (by decide)) (by rfl) T.g__law_whole T.F__law_whole.kp T.b__law_whole .nil pass0 (pa_cons (pe_call (ok_seats_of T) (hr.mono (by decide)) (by rfl) T.g_seats_of T.F_seats_of.kp T.b_seats_of .nil passN (pa_cons (pv 3) pa_nil)) pa_nil)) (by intro _; rfl))) (pw_or1 (pt_cmpR (op_zNe hr.units) (pe_call (ok_seats_of T) (hr.mono (by decide)) (by rfl) T.g_seats_of T.F_seats_of.kp T.b_seats_of .nil passN (pa_cons (pv 3) pa_nil)) (pe_op op_zAdd (pe_op op_zAdd (pe_op op_zMul (pv 3) (pv 3)) (pv 3)) pe_int) (nomark _))))) (pss_one (ps_ret pe_bl)) pss_nil)
    (pss_cons (ps_if (pt_not (pt_truth (pe_call (ok__law_set_right T) (hr.mono (by decide)) (by rfl) T.g__law_set_right T.F__law_set_right.kp T.b__law_set_right .nil pass0 (pa_cons (pv 0) (pa_cons (pv 1) (pa_cons (pv 3) (pa_cons (pe_call (ok__law_take T) (hr.mono (by decide)) (by rfl) T.g__law_take T.F__law_take.kp T.b__law_take .nil pass0 (pa_cons (pv 0) (pa_cons (pv 1) (pa_cons (pe_op op_zAdd (pe_op op_zAdd (pe_op op_zMul (pv 3) (pv 3)) (pv 3)) pe_int) pa_nil)))) pa_nil))))) (by intro _; rfl))) (pss_one (ps_ret pe_bl)) pss_nil)
    (Evl.pss_cut (ps_if (pt_cmpR (op_zLt hr.units0) (pv 3) pe_int (nomark _)) (pss_cons (ps_set (i := 4) sc_law.nd rfl (Or.inl rfl) (pe_call (ok_plane T) (hr.mono (by decide)) (by rfl) T.g_plane T.F_plane.kp T.b_plane .nil passN (pa_cons (pv 3) pa_nil)))
    (pss_one (ps_if (PW.pt (pw_or (pt_not (pt_truth (pe_callB call_isi (by rfl) T.m_isinstance (by decide +kernel) (pa_cons (pv 4) (pa_cons (pe_bltn (by rfl) T.m_list (by decide +kernel) rfl) pa_nil))) (by intro _; rfl))) (pw_or1 (pt_cmpR (op_zNe hr.units) (pv 4) (pe_lc (own := [("k", 5)]) rfl sc_law.nd (pi_range1 (by rfl) T.m_range (pa_cons (pe_op op_zAdd (pe_op op_zAdd (pe_op op_zMul (pv 3) (pv 3)) (pv 3)) pe_int) pa_nil)) (blkOk_by (own := [("k", 5)]) (N := N_law) (sc := defScope s_law) (by decide +kernel)) (fun _ _ _ _ _ => (pg_name (i := 5) sc_law.nd rfl (Or.inl rfl))) (fun _ _ _ _ _ => pts_nil) (fun _ _ _ _ _ => (pe_call (ok_set_of T) (hr.mono (by decide)) (by rfl) T.g_set_of T.F_set_of.kp T.b_set_of .nil passN (pa_cons (pv 3) (pa_cons (pv 5) pa_nil))))) (nomark _))))) (pss_one (ps_ret pe_bl)) pss_nil))) pss_nil)
    (pss_cons (ps_set (i := 6) sc_law.nd rfl (Or.inl rfl) (pv 3))
    (Evl.pss_cut (ps_if (pt_cmpR (op_zEq hr.units) (pe_call (ok__law_take T) (hr.mono (by decide)) (by rfl) T.g__law_take T.F__law_take.kp T.b__law_take .nil pass0 (pa_cons (pv 0) (pa_cons (pv 1) (pa_cons pe_int pa_nil)))) pe_int (nomark _)) (pss_one (ps_set (i := 6) sc_law.nd rfl (Or.inl rfl) (pe_call (ok__law_number T) (hr.mono (by decide)) (by rfl) T.g__law_number T.F__law_number.kp T.b__law_number .nil pass0 (pa_cons (pv 0) (pa_cons (pv 1) pa_nil))))) pss_nil)
    (pss_cons (ps_set (i := 7) sc_law.nd rfl (Or.inl rfl) (pe_lst pa_nil))
    (pss_cons (ps_for PassesOwn.never rfl (pi_range1 (by rfl) T.m_range (pa_cons pe_int pa_nil)) (pg_name (i := 5) sc_law.nd rfl (Or.inl rfl))
    (pss_cons (ps_set (i := 8) sc_law.nd rfl (Or.inl rfl) (pe_call (ok__law_take T) (hr.mono (by decide)) (by rfl) T.g__law_take T.F__law_take.kp T.b__law_take .nil pass0 (pa_cons (pv 0) (pa_cons (pv 1) (pa_cons pe_int pa_nil)))))
    (pss_cons (ps_expr (pe_bm PySem.F.plainAttrs_list PySem.F.slot_list_append PySem.F.type_list_append mt_append (pv 7) (pa_cons (pe_call (ok__law_take T) (hr.mono (by decide)) (by rfl) T.g__law_take T.F__law_take.kp T.b__law_take .nil pass0 (pa_cons (pv 0) (pa_cons (pv 1) (pa_cons (pe_op op_zAdd (pe_op op_zAdd (pe_op op_zMul (pv 3) (pv 3)) (pv 3)) pe_int) pa_nil)))) pa_nil)))
    (Evl.pss_cut (ps_if (pt_cmpR (op_zEq hr.units) (pv 8) pe_int (nomark _)) (pss_one (ps_asg (pe_ix ix_seq (pe_lst (pa_cons (pe_un un_neg pe_int) (pa_cons (pe_op op_zAdd (pe_op op_zAdd (pe_op op_zMul (pv 3) (pv 3)) (pv 3)) pe_int) (pa_cons (pe_op op_zSub pe_int (pe_call (ok__law_take T) (hr.mono (by decide)) (by rfl) T.g__law_take T.F__law_take.kp T.b__law_take .nil pass0 (pa_cons (pv 0) (pa_cons (pv 1) (pa_cons (pe_op op_zPow pe_int pe_int) pa_nil))))) pa_nil)))) (pe_call (ok__law_take T) (hr.mono (by decide)) (by rfl) T.g__law_take T.F__law_take.kp T.b__law_take .nil pass0 (pa_cons (pv 0) (pa_cons (pv 1) (pa_cons pe_int pa_nil)))) (fun _ _ => rfl)) (pg_sub (pv 7) (pv 5) set_list))) pss_nil)
    (pss_one (ps_if (pt_cmpR (op_zEq hr.units) (pv 8) pe_int (nomark _)) (pss_one (ps_asg (pe_ix ix_seq (pv 7) pe_int (fun _ _ => rfl)) (pg_sub (pv 7) (pv 5) set_list))) pss_nil))))))
    (pss_cons (ps_set (i := 9) sc_law.nd rfl (Or.inl rfl) (pe_call (ok__law_take T) (hr.mono (by decide)) (by rfl) T.g__law_take T.F__law_take.kp T.b__law_take .nil pass0 (pa_cons (pv 0) (pa_cons (pv 1) (pa_cons pe_int pa_nil)))))
    (Evl.pss_cut (ps_if (PW.pt (pw_and (pt_cmpR (op_zEq hr.units) (pv 9) pe_int (nomark _)) (pw_and1 (pt_cmpR (op_zEq hr.units) (pe_ix ix_seq (pv 7) pe_int (fun _ _ => rfl)) (pe_ix ix_seq (pv 7) pe_int (fun _ _ => rfl)) (nomark _))))) (pss_one (ps_asg (pe_un un_neg pe_int) (pg_sub (pv 7) pe_int set_list))) pss_nil)
    (pss_cons (ps_if (pt_cmpR (op_zNe hr.units) (pe_call (ok__law_met T) hr (by rfl) T.g__law_met T.F__law_met.kp T.b__law_met .nil pass0 (pa_cons (pv 9) (pa_cons (pv 6) (pa_cons (pe_ix ix_seq (pv 7) pe_int (fun _ _ => rfl)) (pa_cons (pe_ix ix_seq (pv 7) pe_int (fun _ _ => rfl)) pa_nil))))) (pe_call (ok__law_due T) (hr.mono (by decide)) (by rfl) T.g__law_due T.F__law_due.kp T.b__law_due .nil pass0 (pa_cons (pv 9) (pa_cons (pv 6) (pa_cons (pe_ix ix_seq (pv 7) pe_int (fun _ _ => rfl)) (pa_cons (pe_ix ix_seq (pv 7) pe_int (fun _ _ => rfl)) pa_nil))))) (nomark _)) (pss_one (ps_ret pe_bl)) pss_nil)
    (pss_one (ps_if (pt_cmpR op_zGe (pe_ix ix_seq (pv 1) pe_int (fun _ _ => rfl)) (pe_callB cr_zLen (by rfl) T.m_len (by decide +kernel) (pa_cons (pv 0) pa_nil)) (nomark _)) (pss_one (ps_ret pe_bl)) pss_nil))))))))))))))
    (pss_one (ps_ret pe_bl))))
  · obtain ⟨x0, rfl, h⟩ := n_law h
    exact w_law h
theorem all_mk {l : PySem.W.OpenLaw} {w : World} {K : PySem.W.Frag} {h : Heap} {mg : Str → Option Value} {fa : Addr} (X : K.In h) (G : h.Ns mainGlobals mg) (hfa : mg "law" = some (.ref fa))
    {A_SoleError : Addr}
    (a_SoleError : PySem.W.nsIn K mainGlobals "SoleError" = some (some (.ref A_SoleError)))
    {A_NoSeat : Addr}
    (a_NoSeat : PySem.W.nsIn K mainGlobals "NoSeat" = some (some (.ref A_NoSeat)))
    {A_NoFamily : Addr}
    (a_NoFamily : PySem.W.nsIn K mainGlobals "NoFamily" = some (some (.ref A_NoFamily)))
    {A_TooMany : Addr}
    (a_TooMany : PySem.W.nsIn K mainGlobals "TooMany" = some (some (.ref A_TooMany)))
    {A_NoSet : Addr}
    (a_NoSet : PySem.W.nsIn K mainGlobals "NoSet" = some (some (.ref A_NoSet)))
    {A_NoShape : Addr}
    (a_NoShape : PySem.W.nsIn K mainGlobals "NoShape" = some (some (.ref A_NoShape)))
    {A_Apart : Addr}
    (a_Apart : PySem.W.nsIn K mainGlobals "Apart" = some (some (.ref A_Apart)))
    {A_TooManyFallen : Addr}
    (a_TooManyFallen : PySem.W.nsIn K mainGlobals "TooManyFallen" = some (some (.ref A_TooManyFallen)))
    {A_NotPrime : Addr}
    (a_NotPrime : PySem.W.nsIn K mainGlobals "NotPrime" = some (some (.ref A_NotPrime)))
    (is_NotPrime : PySem.W.isClsIn K A_NotPrime = true)
    (ty_NotPrime : PySem.W.typeIn K (.ref A_NotPrime) = some (.type "type"))
    (ex_NotPrime : PySem.W.subIn K (.ref A_NotPrime) (.type "BaseException") = some true)
    (is_NoSeat : PySem.W.isClsIn K A_NoSeat = true)
    (ty_NoSeat : PySem.W.typeIn K (.ref A_NoSeat) = some (.type "type"))
    (ex_NoSeat : PySem.W.subIn K (.ref A_NoSeat) (.type "BaseException") = some true)
    (is_NoSet : PySem.W.isClsIn K A_NoSet = true)
    (ty_NoSet : PySem.W.typeIn K (.ref A_NoSet) = some (.type "type"))
    (ex_NoSet : PySem.W.subIn K (.ref A_NoSet) (.type "BaseException") = some true)
    (is_TooManyFallen : PySem.W.isClsIn K A_TooManyFallen = true)
    (ty_TooManyFallen : PySem.W.typeIn K (.ref A_TooManyFallen) = some (.type "type"))
    (ex_TooManyFallen : PySem.W.subIn K (.ref A_TooManyFallen) (.type "BaseException") = some true)
    (is_TooMany : PySem.W.isClsIn K A_TooMany = true)
    (ty_TooMany : PySem.W.typeIn K (.ref A_TooMany) = some (.type "type"))
    (ex_TooMany : PySem.W.subIn K (.ref A_TooMany) (.type "BaseException") = some true)
    (is_SoleError : PySem.W.isClsIn K A_SoleError = true)
    (ty_SoleError : PySem.W.typeIn K (.ref A_SoleError) = some (.type "type"))
    (ex_SoleError : PySem.W.subIn K (.ref A_SoleError) (.type "BaseException") = some true)
    (is_Apart : PySem.W.isClsIn K A_Apart = true)
    (ty_Apart : PySem.W.typeIn K (.ref A_Apart) = some (.type "type"))
    (ex_Apart : PySem.W.subIn K (.ref A_Apart) (.type "BaseException") = some true)
    (is_NoFamily : PySem.W.isClsIn K A_NoFamily = true)
    (ty_NoFamily : PySem.W.typeIn K (.ref A_NoFamily) = some (.type "type"))
    (ex_NoFamily : PySem.W.subIn K (.ref A_NoFamily) (.type "BaseException") = some true)
    (is_NoShape : PySem.W.isClsIn K A_NoShape = true)
    (ty_NoShape : PySem.W.typeIn K (.ref A_NoShape) = some (.type "type"))
    (ex_NoShape : PySem.W.subIn K (.ref A_NoShape) (.type "BaseException") = some true)
    (hn_ : PySem.W.specialIn K (.builtin "object.__class__") "__get__" = some (some (.builtin "getset_descriptor.__get__")))
    (ht_ : PySem.W.takesIn K (.builtin "object.__class__") = some true)
    {nm_NotPrime qn_NotPrime : Str} {N_NotPrime : Addr} {bs_NotPrime sub_NotPrime : List Value} {sn_NotPrime : List Str} {ab_NotPrime : Bool} {col_NotPrime : Option Bool} {dd_NotPrime : Option Addr} {m0_NotPrime m1_NotPrime m2_NotPrime m3_NotPrime m5_NotPrime : Option Value}
    (xL_NotPrime : K.lookup A_NotPrime = some (excClassObj nm_NotPrime qn_NotPrime A_NotPrime N_NotPrime bs_NotPrime [.type "ArithmeticError", .type "Exception", .type "BaseException", .type "object"] true sn_NotPrime sub_NotPrime ab_NotPrime col_NotPrime dd_NotPrime m0_NotPrime m1_NotPrime m2_NotPrime m3_NotPrime m5_NotPrime "ArithmeticError.__new__"))
    (sa_NotPrime : PySem.W.findIn K (.ref A_NotPrime) "__setattr__" = some (some (.builtin "object.__setattr__")))
    (ga_NotPrime : PySem.W.findIn K (.ref A_NotPrime) "__getattribute__" = some (some (.builtin "BaseException.__getattribute__")))
    (gg_NotPrime : PySem.W.findIn K (.ref A_NotPrime) "__getattr__" = some none)
    (kc_NotPrime : PySem.W.keepIn K (.ref A_NotPrime) = true)
    (hd_NotPrime : PySem.W.hasDictIn K A_NotPrime = true)
    (ca_NotPrime : PySem.W.findIn K (.ref A_NotPrime) "__class__" = some (some (.builtin "object.__class__")))
    (hm_NotPrime : PySem.W.mroIn K A_NotPrime (.type "object") = some true)
    (n_NotPrime_number : PySem.W.findIn K (.ref A_NotPrime) "number" = some none)
    (s_NotPrime_NotPrime : PySem.W.subIn K (.ref A_NotPrime) (.ref A_NotPrime) = some true)
    (s_NotPrime_SoleError : PySem.W.subIn K (.ref A_NotPrime) (.ref A_SoleError) = some false)
    (s_NotPrime_NoSeat : PySem.W.subIn K (.ref A_NotPrime) (.ref A_NoSeat) = some false)
    (s_NotPrime_NoSet : PySem.W.subIn K (.ref A_NotPrime) (.ref A_NoSet) = some false)
    (s_NotPrime_TooMany : PySem.W.subIn K (.ref A_NotPrime) (.ref A_TooMany) = some false)
    (s_NotPrime_TooManyFallen : PySem.W.subIn K (.ref A_NotPrime) (.ref A_TooManyFallen) = some false)
    (s_NotPrime_Apart : PySem.W.subIn K (.ref A_NotPrime) (.ref A_Apart) = some false)
    (s_NotPrime_NoFamily : PySem.W.subIn K (.ref A_NotPrime) (.ref A_NoFamily) = some false)
    (s_NotPrime_NoShape : PySem.W.subIn K (.ref A_NotPrime) (.ref A_NoShape) = some false)
    (s_NotPrime_ValueError : PySem.W.subIn K (.ref A_NotPrime) (.type "ValueError") = some false)
    (s_NotPrime_ArithmeticError : PySem.W.subIn K (.ref A_NotPrime) (.type "ArithmeticError") = some true)
    {nm_NoSeat qn_NoSeat : Str} {N_NoSeat : Addr} {bs_NoSeat sub_NoSeat : List Value} {sn_NoSeat : List Str} {ab_NoSeat : Bool} {col_NoSeat : Option Bool} {dd_NoSeat : Option Addr} {m0_NoSeat m1_NoSeat m2_NoSeat m3_NoSeat m5_NoSeat : Option Value}
    (xL_NoSeat : K.lookup A_NoSeat = some (excClassObj nm_NoSeat qn_NoSeat A_NoSeat N_NoSeat bs_NoSeat [.ref A_SoleError, .type "ValueError", .type "Exception", .type "BaseException", .type "object"] true sn_NoSeat sub_NoSeat ab_NoSeat col_NoSeat dd_NoSeat m0_NoSeat m1_NoSeat m2_NoSeat m3_NoSeat m5_NoSeat "ValueError.__new__"))
    (sa_NoSeat : PySem.W.findIn K (.ref A_NoSeat) "__setattr__" = some (some (.builtin "object.__setattr__")))
    (ga_NoSeat : PySem.W.findIn K (.ref A_NoSeat) "__getattribute__" = some (some (.builtin "BaseException.__getattribute__")))
    (gg_NoSeat : PySem.W.findIn K (.ref A_NoSeat) "__getattr__" = some none)
    (kc_NoSeat : PySem.W.keepIn K (.ref A_NoSeat) = true)
    (hd_NoSeat : PySem.W.hasDictIn K A_NoSeat = true)
    (ca_NoSeat : PySem.W.findIn K (.ref A_NoSeat) "__class__" = some (some (.builtin "object.__class__")))
    (hm_NoSeat : PySem.W.mroIn K A_NoSeat (.type "object") = some true)
    (n_NoSeat_seat : PySem.W.findIn K (.ref A_NoSeat) "seat" = some none)
    (s_NoSeat_NoSeat : PySem.W.subIn K (.ref A_NoSeat) (.ref A_NoSeat) = some true)
    (s_NoSeat_SoleError : PySem.W.subIn K (.ref A_NoSeat) (.ref A_SoleError) = some true)
    (s_NoSeat_NoSet : PySem.W.subIn K (.ref A_NoSeat) (.ref A_NoSet) = some false)
    (s_NoSeat_TooMany : PySem.W.subIn K (.ref A_NoSeat) (.ref A_TooMany) = some false)
    (s_NoSeat_TooManyFallen : PySem.W.subIn K (.ref A_NoSeat) (.ref A_TooManyFallen) = some false)
    (s_NoSeat_Apart : PySem.W.subIn K (.ref A_NoSeat) (.ref A_Apart) = some false)
    (s_NoSeat_NoFamily : PySem.W.subIn K (.ref A_NoSeat) (.ref A_NoFamily) = some false)
    (s_NoSeat_NoShape : PySem.W.subIn K (.ref A_NoSeat) (.ref A_NoShape) = some false)
    (s_NoSeat_NotPrime : PySem.W.subIn K (.ref A_NoSeat) (.ref A_NotPrime) = some false)
    (s_NoSeat_ValueError : PySem.W.subIn K (.ref A_NoSeat) (.type "ValueError") = some true)
    (s_NoSeat_ArithmeticError : PySem.W.subIn K (.ref A_NoSeat) (.type "ArithmeticError") = some false)
    {nm_NoSet qn_NoSet : Str} {N_NoSet : Addr} {bs_NoSet sub_NoSet : List Value} {sn_NoSet : List Str} {ab_NoSet : Bool} {col_NoSet : Option Bool} {dd_NoSet : Option Addr} {m0_NoSet m1_NoSet m2_NoSet m3_NoSet m5_NoSet : Option Value}
    (xL_NoSet : K.lookup A_NoSet = some (excClassObj nm_NoSet qn_NoSet A_NoSet N_NoSet bs_NoSet [.ref A_SoleError, .type "ValueError", .type "Exception", .type "BaseException", .type "object"] true sn_NoSet sub_NoSet ab_NoSet col_NoSet dd_NoSet m0_NoSet m1_NoSet m2_NoSet m3_NoSet m5_NoSet "ValueError.__new__"))
    (sa_NoSet : PySem.W.findIn K (.ref A_NoSet) "__setattr__" = some (some (.builtin "object.__setattr__")))
    (ga_NoSet : PySem.W.findIn K (.ref A_NoSet) "__getattribute__" = some (some (.builtin "BaseException.__getattribute__")))
    (gg_NoSet : PySem.W.findIn K (.ref A_NoSet) "__getattr__" = some none)
    (kc_NoSet : PySem.W.keepIn K (.ref A_NoSet) = true)
    (hd_NoSet : PySem.W.hasDictIn K A_NoSet = true)
    (ca_NoSet : PySem.W.findIn K (.ref A_NoSet) "__class__" = some (some (.builtin "object.__class__")))
    (hm_NoSet : PySem.W.mroIn K A_NoSet (.type "object") = some true)
    (n_NoSet_number : PySem.W.findIn K (.ref A_NoSet) "number" = some none)
    (s_NoSet_NoSet : PySem.W.subIn K (.ref A_NoSet) (.ref A_NoSet) = some true)
    (s_NoSet_SoleError : PySem.W.subIn K (.ref A_NoSet) (.ref A_SoleError) = some true)
    (s_NoSet_NoSeat : PySem.W.subIn K (.ref A_NoSet) (.ref A_NoSeat) = some false)
    (s_NoSet_TooMany : PySem.W.subIn K (.ref A_NoSet) (.ref A_TooMany) = some false)
    (s_NoSet_TooManyFallen : PySem.W.subIn K (.ref A_NoSet) (.ref A_TooManyFallen) = some false)
    (s_NoSet_Apart : PySem.W.subIn K (.ref A_NoSet) (.ref A_Apart) = some false)
    (s_NoSet_NoFamily : PySem.W.subIn K (.ref A_NoSet) (.ref A_NoFamily) = some false)
    (s_NoSet_NoShape : PySem.W.subIn K (.ref A_NoSet) (.ref A_NoShape) = some false)
    (s_NoSet_NotPrime : PySem.W.subIn K (.ref A_NoSet) (.ref A_NotPrime) = some false)
    (s_NoSet_ValueError : PySem.W.subIn K (.ref A_NoSet) (.type "ValueError") = some true)
    (s_NoSet_ArithmeticError : PySem.W.subIn K (.ref A_NoSet) (.type "ArithmeticError") = some false)
    {nm_TooManyFallen qn_TooManyFallen : Str} {N_TooManyFallen : Addr} {bs_TooManyFallen sub_TooManyFallen : List Value} {sn_TooManyFallen : List Str} {ab_TooManyFallen : Bool} {col_TooManyFallen : Option Bool} {dd_TooManyFallen : Option Addr} {m0_TooManyFallen m1_TooManyFallen m2_TooManyFallen m3_TooManyFallen m5_TooManyFallen : Option Value}
    (xL_TooManyFallen : K.lookup A_TooManyFallen = some (excClassObj nm_TooManyFallen qn_TooManyFallen A_TooManyFallen N_TooManyFallen bs_TooManyFallen [.ref A_SoleError, .type "ValueError", .type "Exception", .type "BaseException", .type "object"] true sn_TooManyFallen sub_TooManyFallen ab_TooManyFallen col_TooManyFallen dd_TooManyFallen m0_TooManyFallen m1_TooManyFallen m2_TooManyFallen m3_TooManyFallen m5_TooManyFallen "ValueError.__new__"))
    (sa_TooManyFallen : PySem.W.findIn K (.ref A_TooManyFallen) "__setattr__" = some (some (.builtin "object.__setattr__")))
    (ga_TooManyFallen : PySem.W.findIn K (.ref A_TooManyFallen) "__getattribute__" = some (some (.builtin "BaseException.__getattribute__")))
    (gg_TooManyFallen : PySem.W.findIn K (.ref A_TooManyFallen) "__getattr__" = some none)
    (kc_TooManyFallen : PySem.W.keepIn K (.ref A_TooManyFallen) = true)
    (hd_TooManyFallen : PySem.W.hasDictIn K A_TooManyFallen = true)
    (ca_TooManyFallen : PySem.W.findIn K (.ref A_TooManyFallen) "__class__" = some (some (.builtin "object.__class__")))
    (hm_TooManyFallen : PySem.W.mroIn K A_TooManyFallen (.type "object") = some true)
    (n_TooManyFallen_many : PySem.W.findIn K (.ref A_TooManyFallen) "many" = some none)
    (s_TooManyFallen_TooManyFallen : PySem.W.subIn K (.ref A_TooManyFallen) (.ref A_TooManyFallen) = some true)
    (s_TooManyFallen_SoleError : PySem.W.subIn K (.ref A_TooManyFallen) (.ref A_SoleError) = some true)
    (s_TooManyFallen_NoSeat : PySem.W.subIn K (.ref A_TooManyFallen) (.ref A_NoSeat) = some false)
    (s_TooManyFallen_NoSet : PySem.W.subIn K (.ref A_TooManyFallen) (.ref A_NoSet) = some false)
    (s_TooManyFallen_TooMany : PySem.W.subIn K (.ref A_TooManyFallen) (.ref A_TooMany) = some false)
    (s_TooManyFallen_Apart : PySem.W.subIn K (.ref A_TooManyFallen) (.ref A_Apart) = some false)
    (s_TooManyFallen_NoFamily : PySem.W.subIn K (.ref A_TooManyFallen) (.ref A_NoFamily) = some false)
    (s_TooManyFallen_NoShape : PySem.W.subIn K (.ref A_TooManyFallen) (.ref A_NoShape) = some false)
    (s_TooManyFallen_NotPrime : PySem.W.subIn K (.ref A_TooManyFallen) (.ref A_NotPrime) = some false)
    (s_TooManyFallen_ValueError : PySem.W.subIn K (.ref A_TooManyFallen) (.type "ValueError") = some true)
    (s_TooManyFallen_ArithmeticError : PySem.W.subIn K (.ref A_TooManyFallen) (.type "ArithmeticError") = some false)
    {nm_TooMany qn_TooMany : Str} {N_TooMany : Addr} {bs_TooMany sub_TooMany : List Value} {sn_TooMany : List Str} {ab_TooMany : Bool} {col_TooMany : Option Bool} {dd_TooMany : Option Addr} {m0_TooMany m1_TooMany m2_TooMany m3_TooMany m5_TooMany : Option Value}
    (xL_TooMany : K.lookup A_TooMany = some (excClassObj nm_TooMany qn_TooMany A_TooMany N_TooMany bs_TooMany [.ref A_SoleError, .type "ValueError", .type "Exception", .type "BaseException", .type "object"] true sn_TooMany sub_TooMany ab_TooMany col_TooMany dd_TooMany m0_TooMany m1_TooMany m2_TooMany m3_TooMany m5_TooMany "ValueError.__new__"))
    (sa_TooMany : PySem.W.findIn K (.ref A_TooMany) "__setattr__" = some (some (.builtin "object.__setattr__")))
    (ga_TooMany : PySem.W.findIn K (.ref A_TooMany) "__getattribute__" = some (some (.builtin "BaseException.__getattribute__")))
    (gg_TooMany : PySem.W.findIn K (.ref A_TooMany) "__getattr__" = some none)
    (kc_TooMany : PySem.W.keepIn K (.ref A_TooMany) = true)
    (hd_TooMany : PySem.W.hasDictIn K A_TooMany = true)
    (ca_TooMany : PySem.W.findIn K (.ref A_TooMany) "__class__" = some (some (.builtin "object.__class__")))
    (hm_TooMany : PySem.W.mroIn K A_TooMany (.type "object") = some true)
    (n_TooMany_what : PySem.W.findIn K (.ref A_TooMany) "what" = some none)
    (s_TooMany_TooMany : PySem.W.subIn K (.ref A_TooMany) (.ref A_TooMany) = some true)
    (s_TooMany_SoleError : PySem.W.subIn K (.ref A_TooMany) (.ref A_SoleError) = some true)
    (s_TooMany_NoSeat : PySem.W.subIn K (.ref A_TooMany) (.ref A_NoSeat) = some false)
    (s_TooMany_NoSet : PySem.W.subIn K (.ref A_TooMany) (.ref A_NoSet) = some false)
    (s_TooMany_TooManyFallen : PySem.W.subIn K (.ref A_TooMany) (.ref A_TooManyFallen) = some false)
    (s_TooMany_Apart : PySem.W.subIn K (.ref A_TooMany) (.ref A_Apart) = some false)
    (s_TooMany_NoFamily : PySem.W.subIn K (.ref A_TooMany) (.ref A_NoFamily) = some false)
    (s_TooMany_NoShape : PySem.W.subIn K (.ref A_TooMany) (.ref A_NoShape) = some false)
    (s_TooMany_NotPrime : PySem.W.subIn K (.ref A_TooMany) (.ref A_NotPrime) = some false)
    (s_TooMany_ValueError : PySem.W.subIn K (.ref A_TooMany) (.type "ValueError") = some true)
    (s_TooMany_ArithmeticError : PySem.W.subIn K (.ref A_TooMany) (.type "ArithmeticError") = some false)
    (rd_SoleError : PySem.W.readsIn K A_SoleError (.type "type") = true)
    (sg_SoleError : PySem.W.specialIn K (.ref A_SoleError) "__getattribute__" = some (some (.builtin "type.__getattribute__")))
    (vi_SoleError : PySem.W.findCls K (.ref A_SoleError) (.type "type") "__init__" = some (.val (.builtin "ValueError.__init__")))
    {f_NoSeat___init__ : Addr} {oc_NoSeat___init__ kV_NoSeat___init__ dc_NoSeat___init__ pm_NoSeat___init__ cd_NoSeat___init__ ct_NoSeat___init__ : Value} {od_NoSeat___init__ an_NoSeat___init__ : Option Addr} {sl_NoSeat___init__ : Array (Option Value)}
    (a_NoSeat___init__ : PySem.W.findIn K (.ref A_NoSeat) "__init__" = some (some (.ref f_NoSeat___init__)))
    (t_NoSeat___init__ : PySem.W.typeIn K (.ref f_NoSeat___init__) = some (.type "function"))
    (l_NoSeat___init__ : K.lookup f_NoSeat___init__ = some ⟨oc_NoSeat___init__, od_NoSeat___init__, .func (PySem.W.fnOf "__init__" "NoSeat.__init__" (defArgs s_NoSeat___init__) (defBody s_NoSeat___init__) (defScope s_NoSeat___init__) .none kV_NoSeat___init__ dc_NoSeat___init__ pm_NoSeat___init__ an_NoSeat___init__ cd_NoSeat___init__ ct_NoSeat___init__), sl_NoSeat___init__⟩) (c_NoSeat___init__ : PySem.W.codeIn K cd_NoSeat___init__ "NoSeat.__init__" = true) (k_NoSeat___init__ : PySem.W.keepIn K (.ref f_NoSeat___init__) = true)
    {f_TooMany___init__ : Addr} {oc_TooMany___init__ kV_TooMany___init__ dc_TooMany___init__ pm_TooMany___init__ cd_TooMany___init__ ct_TooMany___init__ : Value} {od_TooMany___init__ an_TooMany___init__ : Option Addr} {sl_TooMany___init__ : Array (Option Value)}
    (a_TooMany___init__ : PySem.W.findIn K (.ref A_TooMany) "__init__" = some (some (.ref f_TooMany___init__)))
    (t_TooMany___init__ : PySem.W.typeIn K (.ref f_TooMany___init__) = some (.type "function"))
    (l_TooMany___init__ : K.lookup f_TooMany___init__ = some ⟨oc_TooMany___init__, od_TooMany___init__, .func (PySem.W.fnOf "__init__" "TooMany.__init__" (defArgs s_TooMany___init__) (defBody s_TooMany___init__) (defScope s_TooMany___init__) .none kV_TooMany___init__ dc_TooMany___init__ pm_TooMany___init__ an_TooMany___init__ cd_TooMany___init__ ct_TooMany___init__), sl_TooMany___init__⟩) (c_TooMany___init__ : PySem.W.codeIn K cd_TooMany___init__ "TooMany.__init__" = true) (k_TooMany___init__ : PySem.W.keepIn K (.ref f_TooMany___init__) = true)
    {f_NoSet___init__ : Addr} {oc_NoSet___init__ kV_NoSet___init__ dc_NoSet___init__ pm_NoSet___init__ cd_NoSet___init__ ct_NoSet___init__ : Value} {od_NoSet___init__ an_NoSet___init__ : Option Addr} {sl_NoSet___init__ : Array (Option Value)}
    (a_NoSet___init__ : PySem.W.findIn K (.ref A_NoSet) "__init__" = some (some (.ref f_NoSet___init__)))
    (t_NoSet___init__ : PySem.W.typeIn K (.ref f_NoSet___init__) = some (.type "function"))
    (l_NoSet___init__ : K.lookup f_NoSet___init__ = some ⟨oc_NoSet___init__, od_NoSet___init__, .func (PySem.W.fnOf "__init__" "NoSet.__init__" (defArgs s_NoSet___init__) (defBody s_NoSet___init__) (defScope s_NoSet___init__) .none kV_NoSet___init__ dc_NoSet___init__ pm_NoSet___init__ an_NoSet___init__ cd_NoSet___init__ ct_NoSet___init__), sl_NoSet___init__⟩) (c_NoSet___init__ : PySem.W.codeIn K cd_NoSet___init__ "NoSet.__init__" = true) (k_NoSet___init__ : PySem.W.keepIn K (.ref f_NoSet___init__) = true)
    {f_TooManyFallen___init__ : Addr} {oc_TooManyFallen___init__ kV_TooManyFallen___init__ dc_TooManyFallen___init__ pm_TooManyFallen___init__ cd_TooManyFallen___init__ ct_TooManyFallen___init__ : Value} {od_TooManyFallen___init__ an_TooManyFallen___init__ : Option Addr} {sl_TooManyFallen___init__ : Array (Option Value)}
    (a_TooManyFallen___init__ : PySem.W.findIn K (.ref A_TooManyFallen) "__init__" = some (some (.ref f_TooManyFallen___init__)))
    (t_TooManyFallen___init__ : PySem.W.typeIn K (.ref f_TooManyFallen___init__) = some (.type "function"))
    (l_TooManyFallen___init__ : K.lookup f_TooManyFallen___init__ = some ⟨oc_TooManyFallen___init__, od_TooManyFallen___init__, .func (PySem.W.fnOf "__init__" "TooManyFallen.__init__" (defArgs s_TooManyFallen___init__) (defBody s_TooManyFallen___init__) (defScope s_TooManyFallen___init__) .none kV_TooManyFallen___init__ dc_TooManyFallen___init__ pm_TooManyFallen___init__ an_TooManyFallen___init__ cd_TooManyFallen___init__ ct_TooManyFallen___init__), sl_TooManyFallen___init__⟩) (c_TooManyFallen___init__ : PySem.W.codeIn K cd_TooManyFallen___init__ "TooManyFallen.__init__" = true) (k_TooManyFallen___init__ : PySem.W.keepIn K (.ref f_TooManyFallen___init__) = true)
    {f_NotPrime___init__ : Addr} {oc_NotPrime___init__ kV_NotPrime___init__ dc_NotPrime___init__ pm_NotPrime___init__ cd_NotPrime___init__ ct_NotPrime___init__ : Value} {od_NotPrime___init__ an_NotPrime___init__ : Option Addr} {sl_NotPrime___init__ : Array (Option Value)}
    (a_NotPrime___init__ : PySem.W.findIn K (.ref A_NotPrime) "__init__" = some (some (.ref f_NotPrime___init__)))
    (t_NotPrime___init__ : PySem.W.typeIn K (.ref f_NotPrime___init__) = some (.type "function"))
    (l_NotPrime___init__ : K.lookup f_NotPrime___init__ = some ⟨oc_NotPrime___init__, od_NotPrime___init__, .func (PySem.W.fnOf "__init__" "NotPrime.__init__" (defArgs s_NotPrime___init__) (defBody s_NotPrime___init__) (defScope s_NotPrime___init__) .none kV_NotPrime___init__ dc_NotPrime___init__ pm_NotPrime___init__ an_NotPrime___init__ cd_NotPrime___init__ ct_NotPrime___init__), sl_NotPrime___init__⟩) (c_NotPrime___init__ : PySem.W.codeIn K cd_NotPrime___init__ "NotPrime.__init__" = true) (k_NotPrime___init__ : PySem.W.keepIn K (.ref f_NotPrime___init__) = true)
    {f_seats_of : Addr} {oc_seats_of kV_seats_of dc_seats_of pm_seats_of cd_seats_of ct_seats_of : Value} {od_seats_of an_seats_of : Option Addr} {sl_seats_of : Array (Option Value)}
    (a_seats_of : PySem.W.nsIn K mainGlobals "seats_of" = some (some (.ref f_seats_of)))
    (l_seats_of : K.lookup f_seats_of = some ⟨oc_seats_of, od_seats_of, .func (PySem.W.fnOf "seats_of" "seats_of" (defArgs s_seats_of) (defBody s_seats_of) (defScope s_seats_of) .none kV_seats_of dc_seats_of pm_seats_of an_seats_of cd_seats_of ct_seats_of), sl_seats_of⟩) (c_seats_of : PySem.W.codeIn K cd_seats_of "seats_of" = true) (k_seats_of : PySem.W.keepIn K (.ref f_seats_of) = true)
    {f_seats_looked : Addr} {oc_seats_looked kV_seats_looked dc_seats_looked pm_seats_looked cd_seats_looked ct_seats_looked : Value} {od_seats_looked an_seats_looked : Option Addr} {sl_seats_looked : Array (Option Value)}
    (a_seats_looked : PySem.W.nsIn K mainGlobals "seats_looked" = some (some (.ref f_seats_looked)))
    (l_seats_looked : K.lookup f_seats_looked = some ⟨oc_seats_looked, od_seats_looked, .func (PySem.W.fnOf "seats_looked" "seats_looked" (defArgs s_seats_looked) (defBody s_seats_looked) (defScope s_seats_looked) .none kV_seats_looked dc_seats_looked pm_seats_looked an_seats_looked cd_seats_looked ct_seats_looked), sl_seats_looked⟩) (c_seats_looked : PySem.W.codeIn K cd_seats_looked "seats_looked" = true) (k_seats_looked : PySem.W.keepIn K (.ref f_seats_looked) = true)
    {f_sets_looked : Addr} {oc_sets_looked kV_sets_looked dc_sets_looked pm_sets_looked cd_sets_looked ct_sets_looked : Value} {od_sets_looked an_sets_looked : Option Addr} {sl_sets_looked : Array (Option Value)}
    (a_sets_looked : PySem.W.nsIn K mainGlobals "sets_looked" = some (some (.ref f_sets_looked)))
    (l_sets_looked : K.lookup f_sets_looked = some ⟨oc_sets_looked, od_sets_looked, .func (PySem.W.fnOf "sets_looked" "sets_looked" (defArgs s_sets_looked) (defBody s_sets_looked) (defScope s_sets_looked) .none kV_sets_looked dc_sets_looked pm_sets_looked an_sets_looked cd_sets_looked ct_sets_looked), sl_sets_looked⟩) (c_sets_looked : PySem.W.codeIn K cd_sets_looked "sets_looked" = true) (k_sets_looked : PySem.W.keepIn K (.ref f_sets_looked) = true)
    {f_inverse : Addr} {oc_inverse kV_inverse dc_inverse pm_inverse cd_inverse ct_inverse : Value} {od_inverse an_inverse : Option Addr} {sl_inverse : Array (Option Value)}
    (a_inverse : PySem.W.nsIn K mainGlobals "inverse" = some (some (.ref f_inverse)))
    (l_inverse : K.lookup f_inverse = some ⟨oc_inverse, od_inverse, .func (PySem.W.fnOf "inverse" "inverse" (defArgs s_inverse) (defBody s_inverse) (defScope s_inverse) .none kV_inverse dc_inverse pm_inverse an_inverse cd_inverse ct_inverse), sl_inverse⟩) (c_inverse : PySem.W.codeIn K cd_inverse "inverse" = true) (k_inverse : PySem.W.keepIn K (.ref f_inverse) = true)
    {f_line_of : Addr} {oc_line_of kV_line_of dc_line_of pm_line_of cd_line_of ct_line_of : Value} {od_line_of an_line_of : Option Addr} {sl_line_of : Array (Option Value)}
    (a_line_of : PySem.W.nsIn K mainGlobals "line_of" = some (some (.ref f_line_of)))
    (l_line_of : K.lookup f_line_of = some ⟨oc_line_of, od_line_of, .func (PySem.W.fnOf "line_of" "line_of" (defArgs s_line_of) (defBody s_line_of) (defScope s_line_of) .none kV_line_of dc_line_of pm_line_of an_line_of cd_line_of ct_line_of), sl_line_of⟩) (c_line_of : PySem.W.codeIn K cd_line_of "line_of" = true) (k_line_of : PySem.W.keepIn K (.ref f_line_of) = true)
    {f_number_of : Addr} {oc_number_of kV_number_of dc_number_of pm_number_of cd_number_of ct_number_of : Value} {od_number_of an_number_of : Option Addr} {sl_number_of : Array (Option Value)}
    (a_number_of : PySem.W.nsIn K mainGlobals "number_of" = some (some (.ref f_number_of)))
    (l_number_of : K.lookup f_number_of = some ⟨oc_number_of, od_number_of, .func (PySem.W.fnOf "number_of" "number_of" (defArgs s_number_of) (defBody s_number_of) (defScope s_number_of) .none kV_number_of dc_number_of pm_number_of an_number_of cd_number_of ct_number_of), sl_number_of⟩) (c_number_of : PySem.W.codeIn K cd_number_of "number_of" = true) (k_number_of : PySem.W.keepIn K (.ref f_number_of) = true)
    {f_through : Addr} {oc_through kV_through dc_through pm_through cd_through ct_through : Value} {od_through an_through : Option Addr} {sl_through : Array (Option Value)}
    (a_through : PySem.W.nsIn K mainGlobals "through" = some (some (.ref f_through)))
    (l_through : K.lookup f_through = some ⟨oc_through, od_through, .func (PySem.W.fnOf "through" "through" (defArgs s_through) (defBody s_through) (defScope s_through) .none kV_through dc_through pm_through an_through cd_through ct_through), sl_through⟩) (c_through : PySem.W.codeIn K cd_through "through" = true) (k_through : PySem.W.keepIn K (.ref f_through) = true)
    {f_lies : Addr} {oc_lies kV_lies dc_lies pm_lies cd_lies ct_lies : Value} {od_lies an_lies : Option Addr} {sl_lies : Array (Option Value)}
    (a_lies : PySem.W.nsIn K mainGlobals "lies" = some (some (.ref f_lies)))
    (l_lies : K.lookup f_lies = some ⟨oc_lies, od_lies, .func (PySem.W.fnOf "lies" "lies" (defArgs s_lies) (defBody s_lies) (defScope s_lies) .none kV_lies dc_lies pm_lies an_lies cd_lies ct_lies), sl_lies⟩) (c_lies : PySem.W.codeIn K cd_lies "lies" = true) (k_lies : PySem.W.keepIn K (.ref f_lies) = true)
    {f_set_of : Addr} {oc_set_of kV_set_of dc_set_of pm_set_of cd_set_of ct_set_of : Value} {od_set_of an_set_of : Option Addr} {sl_set_of : Array (Option Value)}
    (a_set_of : PySem.W.nsIn K mainGlobals "set_of" = some (some (.ref f_set_of)))
    (l_set_of : K.lookup f_set_of = some ⟨oc_set_of, od_set_of, .func (PySem.W.fnOf "set_of" "set_of" (defArgs s_set_of) (defBody s_set_of) (defScope s_set_of) .none kV_set_of dc_set_of pm_set_of an_set_of cd_set_of ct_set_of), sl_set_of⟩) (c_set_of : PySem.W.codeIn K cd_set_of "set_of" = true) (k_set_of : PySem.W.keepIn K (.ref f_set_of) = true)
    {f_shared : Addr} {oc_shared kV_shared dc_shared pm_shared cd_shared ct_shared : Value} {od_shared an_shared : Option Addr} {sl_shared : Array (Option Value)}
    (a_shared : PySem.W.nsIn K mainGlobals "shared" = some (some (.ref f_shared)))
    (l_shared : K.lookup f_shared = some ⟨oc_shared, od_shared, .func (PySem.W.fnOf "shared" "shared" (defArgs s_shared) (defBody s_shared) (defScope s_shared) .none kV_shared dc_shared pm_shared an_shared cd_shared ct_shared), sl_shared⟩) (c_shared : PySem.W.codeIn K cd_shared "shared" = true) (k_shared : PySem.W.keepIn K (.ref f_shared) = true)
    {f_holding : Addr} {oc_holding kV_holding dc_holding pm_holding cd_holding ct_holding : Value} {od_holding an_holding : Option Addr} {sl_holding : Array (Option Value)}
    (a_holding : PySem.W.nsIn K mainGlobals "holding" = some (some (.ref f_holding)))
    (l_holding : K.lookup f_holding = some ⟨oc_holding, od_holding, .func (PySem.W.fnOf "holding" "holding" (defArgs s_holding) (defBody s_holding) (defScope s_holding) .none kV_holding dc_holding pm_holding an_holding cd_holding ct_holding), sl_holding⟩) (c_holding : PySem.W.codeIn K cd_holding "holding" = true) (k_holding : PySem.W.keepIn K (.ref f_holding) = true)
    {f_free : Addr} {oc_free kV_free dc_free pm_free cd_free ct_free : Value} {od_free an_free : Option Addr} {sl_free : Array (Option Value)}
    (a_free : PySem.W.nsIn K mainGlobals "free" = some (some (.ref f_free)))
    (l_free : K.lookup f_free = some ⟨oc_free, od_free, .func (PySem.W.fnOf "free" "free" (defArgs s_free) (defBody s_free) (defScope s_free) .none kV_free dc_free pm_free an_free cd_free ct_free), sl_free⟩) (c_free : PySem.W.codeIn K cd_free "free" = true) (k_free : PySem.W.keepIn K (.ref f_free) = true)
    {f_plane : Addr} {oc_plane kV_plane dc_plane pm_plane cd_plane ct_plane : Value} {od_plane an_plane : Option Addr} {sl_plane : Array (Option Value)}
    (a_plane : PySem.W.nsIn K mainGlobals "plane" = some (some (.ref f_plane)))
    (l_plane : K.lookup f_plane = some ⟨oc_plane, od_plane, .func (PySem.W.fnOf "plane" "plane" (defArgs s_plane) (defBody s_plane) (defScope s_plane) .none kV_plane dc_plane pm_plane an_plane cd_plane ct_plane), sl_plane⟩) (c_plane : PySem.W.codeIn K cd_plane "plane" = true) (k_plane : PySem.W.keepIn K (.ref f_plane) = true)
    {f__law_wide : Addr} {oc__law_wide kV__law_wide dc__law_wide pm__law_wide cd__law_wide ct__law_wide : Value} {od__law_wide an__law_wide : Option Addr} {sl__law_wide : Array (Option Value)}
    (a__law_wide : PySem.W.nsIn K mainGlobals "_law_wide" = some (some (.ref f__law_wide)))
    (l__law_wide : K.lookup f__law_wide = some ⟨oc__law_wide, od__law_wide, .func (PySem.W.fnOf "_law_wide" "_law_wide" (defArgs s__law_wide) (defBody s__law_wide) (defScope s__law_wide) .none kV__law_wide dc__law_wide pm__law_wide an__law_wide cd__law_wide ct__law_wide), sl__law_wide⟩) (c__law_wide : PySem.W.codeIn K cd__law_wide "_law_wide" = true) (k__law_wide : PySem.W.keepIn K (.ref f__law_wide) = true)
    {f__law_take : Addr} {oc__law_take kV__law_take dc__law_take pm__law_take cd__law_take ct__law_take : Value} {od__law_take an__law_take : Option Addr} {sl__law_take : Array (Option Value)}
    (a__law_take : PySem.W.nsIn K mainGlobals "_law_take" = some (some (.ref f__law_take)))
    (l__law_take : K.lookup f__law_take = some ⟨oc__law_take, od__law_take, .func (PySem.W.fnOf "_law_take" "_law_take" (defArgs s__law_take) (defBody s__law_take) (defScope s__law_take) .none kV__law_take dc__law_take pm__law_take an__law_take cd__law_take ct__law_take), sl__law_take⟩) (c__law_take : PySem.W.codeIn K cd__law_take "_law_take" = true) (k__law_take : PySem.W.keepIn K (.ref f__law_take) = true)
    {f__law_whole : Addr} {oc__law_whole kV__law_whole dc__law_whole pm__law_whole cd__law_whole ct__law_whole : Value} {od__law_whole an__law_whole : Option Addr} {sl__law_whole : Array (Option Value)}
    (a__law_whole : PySem.W.nsIn K mainGlobals "_law_whole" = some (some (.ref f__law_whole)))
    (l__law_whole : K.lookup f__law_whole = some ⟨oc__law_whole, od__law_whole, .func (PySem.W.fnOf "_law_whole" "_law_whole" (defArgs s__law_whole) (defBody s__law_whole) (defScope s__law_whole) .none kV__law_whole dc__law_whole pm__law_whole an__law_whole cd__law_whole ct__law_whole), sl__law_whole⟩) (c__law_whole : PySem.W.codeIn K cd__law_whole "_law_whole" = true) (k__law_whole : PySem.W.keepIn K (.ref f__law_whole) = true)
    {f__law_is_set : Addr} {oc__law_is_set kV__law_is_set dc__law_is_set pm__law_is_set cd__law_is_set ct__law_is_set : Value} {od__law_is_set an__law_is_set : Option Addr} {sl__law_is_set : Array (Option Value)}
    (a__law_is_set : PySem.W.nsIn K mainGlobals "_law_is_set" = some (some (.ref f__law_is_set)))
    (l__law_is_set : K.lookup f__law_is_set = some ⟨oc__law_is_set, od__law_is_set, .func (PySem.W.fnOf "_law_is_set" "_law_is_set" (defArgs s__law_is_set) (defBody s__law_is_set) (defScope s__law_is_set) .none kV__law_is_set dc__law_is_set pm__law_is_set an__law_is_set cd__law_is_set ct__law_is_set), sl__law_is_set⟩) (c__law_is_set : PySem.W.codeIn K cd__law_is_set "_law_is_set" = true) (k__law_is_set : PySem.W.keepIn K (.ref f__law_is_set) = true)
    {f__law_is_prime : Addr} {oc__law_is_prime kV__law_is_prime dc__law_is_prime pm__law_is_prime cd__law_is_prime ct__law_is_prime : Value} {od__law_is_prime an__law_is_prime : Option Addr} {sl__law_is_prime : Array (Option Value)}
    (a__law_is_prime : PySem.W.nsIn K mainGlobals "_law_is_prime" = some (some (.ref f__law_is_prime)))
    (l__law_is_prime : K.lookup f__law_is_prime = some ⟨oc__law_is_prime, od__law_is_prime, .func (PySem.W.fnOf "_law_is_prime" "_law_is_prime" (defArgs s__law_is_prime) (defBody s__law_is_prime) (defScope s__law_is_prime) .none kV__law_is_prime dc__law_is_prime pm__law_is_prime an__law_is_prime cd__law_is_prime ct__law_is_prime), sl__law_is_prime⟩) (c__law_is_prime : PySem.W.codeIn K cd__law_is_prime "_law_is_prime" = true) (k__law_is_prime : PySem.W.keepIn K (.ref f__law_is_prime) = true)
    {f__law_prime : Addr} {oc__law_prime kV__law_prime dc__law_prime pm__law_prime cd__law_prime ct__law_prime : Value} {od__law_prime an__law_prime : Option Addr} {sl__law_prime : Array (Option Value)}
    (a__law_prime : PySem.W.nsIn K mainGlobals "_law_prime" = some (some (.ref f__law_prime)))
    (l__law_prime : K.lookup f__law_prime = some ⟨oc__law_prime, od__law_prime, .func (PySem.W.fnOf "_law_prime" "_law_prime" (defArgs s__law_prime) (defBody s__law_prime) (defScope s__law_prime) .none kV__law_prime dc__law_prime pm__law_prime an__law_prime cd__law_prime ct__law_prime), sl__law_prime⟩) (c__law_prime : PySem.W.codeIn K cd__law_prime "_law_prime" = true) (k__law_prime : PySem.W.keepIn K (.ref f__law_prime) = true)
    {f__law_number : Addr} {oc__law_number kV__law_number dc__law_number pm__law_number cd__law_number ct__law_number : Value} {od__law_number an__law_number : Option Addr} {sl__law_number : Array (Option Value)}
    (a__law_number : PySem.W.nsIn K mainGlobals "_law_number" = some (some (.ref f__law_number)))
    (l__law_number : K.lookup f__law_number = some ⟨oc__law_number, od__law_number, .func (PySem.W.fnOf "_law_number" "_law_number" (defArgs s__law_number) (defBody s__law_number) (defScope s__law_number) .none kV__law_number dc__law_number pm__law_number an__law_number cd__law_number ct__law_number), sl__law_number⟩) (c__law_number : PySem.W.codeIn K cd__law_number "_law_number" = true) (k__law_number : PySem.W.keepIn K (.ref f__law_number) = true)
    {f__law_call : Addr} {oc__law_call kV__law_call dc__law_call pm__law_call cd__law_call ct__law_call : Value} {od__law_call an__law_call : Option Addr} {sl__law_call : Array (Option Value)}
    (a__law_call : PySem.W.nsIn K mainGlobals "_law_call" = some (some (.ref f__law_call)))
    (l__law_call : K.lookup f__law_call = some ⟨oc__law_call, od__law_call, .func (PySem.W.fnOf "_law_call" "_law_call" (defArgs s__law_call) (defBody s__law_call) (defScope s__law_call) .none kV__law_call dc__law_call pm__law_call an__law_call cd__law_call ct__law_call), sl__law_call⟩) (c__law_call : PySem.W.codeIn K cd__law_call "_law_call" = true) (k__law_call : PySem.W.keepIn K (.ref f__law_call) = true)
    {f__law_met : Addr} {oc__law_met kV__law_met dc__law_met pm__law_met cd__law_met ct__law_met : Value} {od__law_met an__law_met : Option Addr} {sl__law_met : Array (Option Value)}
    (a__law_met : PySem.W.nsIn K mainGlobals "_law_met" = some (some (.ref f__law_met)))
    (l__law_met : K.lookup f__law_met = some ⟨oc__law_met, od__law_met, .func (PySem.W.fnOf "_law_met" "_law_met" (defArgs s__law_met) (defBody s__law_met) (defScope s__law_met) .none kV__law_met dc__law_met pm__law_met an__law_met cd__law_met ct__law_met), sl__law_met⟩) (c__law_met : PySem.W.codeIn K cd__law_met "_law_met" = true) (k__law_met : PySem.W.keepIn K (.ref f__law_met) = true)
    {f__law_due : Addr} {oc__law_due kV__law_due dc__law_due pm__law_due cd__law_due ct__law_due : Value} {od__law_due an__law_due : Option Addr} {sl__law_due : Array (Option Value)}
    (a__law_due : PySem.W.nsIn K mainGlobals "_law_due" = some (some (.ref f__law_due)))
    (l__law_due : K.lookup f__law_due = some ⟨oc__law_due, od__law_due, .func (PySem.W.fnOf "_law_due" "_law_due" (defArgs s__law_due) (defBody s__law_due) (defScope s__law_due) .none kV__law_due dc__law_due pm__law_due an__law_due cd__law_due ct__law_due), sl__law_due⟩) (c__law_due : PySem.W.codeIn K cd__law_due "_law_due" = true) (k__law_due : PySem.W.keepIn K (.ref f__law_due) = true)
    {f__law_set_right : Addr} {oc__law_set_right kV__law_set_right dc__law_set_right pm__law_set_right cd__law_set_right ct__law_set_right : Value} {od__law_set_right an__law_set_right : Option Addr} {sl__law_set_right : Array (Option Value)}
    (a__law_set_right : PySem.W.nsIn K mainGlobals "_law_set_right" = some (some (.ref f__law_set_right)))
    (l__law_set_right : K.lookup f__law_set_right = some ⟨oc__law_set_right, od__law_set_right, .func (PySem.W.fnOf "_law_set_right" "_law_set_right" (defArgs s__law_set_right) (defBody s__law_set_right) (defScope s__law_set_right) .none kV__law_set_right dc__law_set_right pm__law_set_right an__law_set_right cd__law_set_right ct__law_set_right), sl__law_set_right⟩) (c__law_set_right : PySem.W.codeIn K cd__law_set_right "_law_set_right" = true) (k__law_set_right : PySem.W.keepIn K (.ref f__law_set_right) = true)
    {f_law : Addr} {oc_law kV_law dc_law pm_law cd_law ct_law : Value} {od_law an_law : Option Addr} {sl_law : Array (Option Value)}
    (a_law : PySem.W.nsIn K mainGlobals "law" = some (some (.ref f_law)))
    (l_law : K.lookup f_law = some ⟨oc_law, od_law, .func (PySem.W.fnOf "law" "law" (defArgs s_law) (defBody s_law) (defScope s_law) .none kV_law dc_law pm_law an_law cd_law ct_law), sl_law⟩) (c_law : PySem.W.codeIn K cd_law "law" = true) (k_law : PySem.W.keepIn K (.ref f_law) = true)
    {t_GREATEST : Tok} (a_GREATEST : PySem.W.nsIn K mainGlobals "GREATEST" = some (some (.int 9973 t_GREATEST)))
    {t_LISTED : Tok} (a_LISTED : PySem.W.nsIn K mainGlobals "LISTED" = some (some (.int 7 t_LISTED)))
    (z_ArithmeticError : PySem.W.nsIn K mainGlobals "ArithmeticError" = some none)
    (z_ValueError : PySem.W.nsIn K mainGlobals "ValueError" = some none)
    (z_bool : PySem.W.nsIn K mainGlobals "bool" = some none)
    (z_divmod : PySem.W.nsIn K mainGlobals "divmod" = some none)
    (z_int : PySem.W.nsIn K mainGlobals "int" = some none)
    (z_isinstance : PySem.W.nsIn K mainGlobals "isinstance" = some none)
    (z_len : PySem.W.nsIn K mainGlobals "len" = some none)
    (z_list : PySem.W.nsIn K mainGlobals "list" = some none)
    (z_max : PySem.W.nsIn K mainGlobals "max" = some none)
    (z_min : PySem.W.nsIn K mainGlobals "min" = some none)
    (z_range : PySem.W.nsIn K mainGlobals "range" = some none)
    (z_sum : PySem.W.nsIn K mainGlobals "sum" = some none)
    (z_tuple : PySem.W.nsIn K mainGlobals "tuple" = some none) :
    ∃ fd : FuncData, (∀ (s : Shared) (v : Value), BindsTo s fd ⟨[v], []⟩ [("script", v)]) ∧ ∀ base : Heap, K.In base → base.Ns mainGlobals mg → FnOk l.prog w K mg base CX0 9 fa fd ["script"] (spLaw K) := by
  have e := hfa.symm.trans (PySem.W.mg_of X G a_law)
  cases e
  let ad : Ad := { P := l.prog, w := w, SoleError := A_SoleError, NoSeat := A_NoSeat, NoFamily := A_NoFamily, TooMany := A_TooMany, NoSet := A_NoSet, NoShape := A_NoShape, Apart := A_Apart, TooManyFallen := A_TooManyFallen, NotPrime := A_NotPrime }
  have XF : Xf K ad := {
    x_NotPrime := ⟨⟨_, _, _, _, _, _, _, _, _, _, _, _, _, _, _, _, _, _, _, xL_NotPrime, over_AE⟩, sa_NotPrime, ex_NotPrime, ty_NotPrime, kc_NotPrime⟩,
    e_NotPrime := ⟨ga_NotPrime, gg_NotPrime, ex_NotPrime, hd_NotPrime, is_NotPrime, ca_NotPrime, hn_, ht_, hm_NotPrime⟩,
    n_NotPrime_number := n_NotPrime_number,
    s_NotPrime_NotPrime := s_NotPrime_NotPrime,
    s_NotPrime_SoleError := s_NotPrime_SoleError,
    s_NotPrime_NoSeat := s_NotPrime_NoSeat,
    s_NotPrime_NoSet := s_NotPrime_NoSet,
    s_NotPrime_TooMany := s_NotPrime_TooMany,
    s_NotPrime_TooManyFallen := s_NotPrime_TooManyFallen,
    s_NotPrime_Apart := s_NotPrime_Apart,
    s_NotPrime_NoFamily := s_NotPrime_NoFamily,
    s_NotPrime_NoShape := s_NotPrime_NoShape,
    s_NotPrime_ValueError := s_NotPrime_ValueError,
    s_NotPrime_ArithmeticError := s_NotPrime_ArithmeticError,
    x_NoSeat := ⟨⟨_, _, _, _, _, _, _, _, _, _, _, _, _, _, _, xL_NoSeat, (show PySem.HandSPX.refsVE [.type "ValueError", .type "Exception", .type "BaseException", .type "object"] = true from by decide +kernel)⟩, sa_NoSeat, ex_NoSeat, ty_NoSeat, kc_NoSeat⟩,
    e_NoSeat := ⟨ga_NoSeat, gg_NoSeat, ex_NoSeat, hd_NoSeat, is_NoSeat, ca_NoSeat, hn_, ht_, hm_NoSeat⟩,
    n_NoSeat_seat := n_NoSeat_seat,
    s_NoSeat_NoSeat := s_NoSeat_NoSeat,
    s_NoSeat_SoleError := s_NoSeat_SoleError,
    s_NoSeat_NoSet := s_NoSeat_NoSet,
    s_NoSeat_TooMany := s_NoSeat_TooMany,
    s_NoSeat_TooManyFallen := s_NoSeat_TooManyFallen,
    s_NoSeat_Apart := s_NoSeat_Apart,
    s_NoSeat_NoFamily := s_NoSeat_NoFamily,
    s_NoSeat_NoShape := s_NoSeat_NoShape,
    s_NoSeat_NotPrime := s_NoSeat_NotPrime,
    s_NoSeat_ValueError := s_NoSeat_ValueError,
    s_NoSeat_ArithmeticError := s_NoSeat_ArithmeticError,
    x_NoSet := ⟨⟨_, _, _, _, _, _, _, _, _, _, _, _, _, _, _, xL_NoSet, (show PySem.HandSPX.refsVE [.type "ValueError", .type "Exception", .type "BaseException", .type "object"] = true from by decide +kernel)⟩, sa_NoSet, ex_NoSet, ty_NoSet, kc_NoSet⟩,
    e_NoSet := ⟨ga_NoSet, gg_NoSet, ex_NoSet, hd_NoSet, is_NoSet, ca_NoSet, hn_, ht_, hm_NoSet⟩,
    n_NoSet_number := n_NoSet_number,
    s_NoSet_NoSet := s_NoSet_NoSet,
    s_NoSet_SoleError := s_NoSet_SoleError,
    s_NoSet_NoSeat := s_NoSet_NoSeat,
    s_NoSet_TooMany := s_NoSet_TooMany,
    s_NoSet_TooManyFallen := s_NoSet_TooManyFallen,
    s_NoSet_Apart := s_NoSet_Apart,
    s_NoSet_NoFamily := s_NoSet_NoFamily,
    s_NoSet_NoShape := s_NoSet_NoShape,
    s_NoSet_NotPrime := s_NoSet_NotPrime,
    s_NoSet_ValueError := s_NoSet_ValueError,
    s_NoSet_ArithmeticError := s_NoSet_ArithmeticError,
    x_TooManyFallen := ⟨⟨_, _, _, _, _, _, _, _, _, _, _, _, _, _, _, xL_TooManyFallen, (show PySem.HandSPX.refsVE [.type "ValueError", .type "Exception", .type "BaseException", .type "object"] = true from by decide +kernel)⟩, sa_TooManyFallen, ex_TooManyFallen, ty_TooManyFallen, kc_TooManyFallen⟩,
    e_TooManyFallen := ⟨ga_TooManyFallen, gg_TooManyFallen, ex_TooManyFallen, hd_TooManyFallen, is_TooManyFallen, ca_TooManyFallen, hn_, ht_, hm_TooManyFallen⟩,
    n_TooManyFallen_many := n_TooManyFallen_many,
    s_TooManyFallen_TooManyFallen := s_TooManyFallen_TooManyFallen,
    s_TooManyFallen_SoleError := s_TooManyFallen_SoleError,
    s_TooManyFallen_NoSeat := s_TooManyFallen_NoSeat,
    s_TooManyFallen_NoSet := s_TooManyFallen_NoSet,
    s_TooManyFallen_TooMany := s_TooManyFallen_TooMany,
    s_TooManyFallen_Apart := s_TooManyFallen_Apart,
    s_TooManyFallen_NoFamily := s_TooManyFallen_NoFamily,
    s_TooManyFallen_NoShape := s_TooManyFallen_NoShape,
    s_TooManyFallen_NotPrime := s_TooManyFallen_NotPrime,
    s_TooManyFallen_ValueError := s_TooManyFallen_ValueError,
    s_TooManyFallen_ArithmeticError := s_TooManyFallen_ArithmeticError,
    x_TooMany := ⟨⟨_, _, _, _, _, _, _, _, _, _, _, _, _, _, _, xL_TooMany, (show PySem.HandSPX.refsVE [.type "ValueError", .type "Exception", .type "BaseException", .type "object"] = true from by decide +kernel)⟩, sa_TooMany, ex_TooMany, ty_TooMany, kc_TooMany⟩,
    e_TooMany := ⟨ga_TooMany, gg_TooMany, ex_TooMany, hd_TooMany, is_TooMany, ca_TooMany, hn_, ht_, hm_TooMany⟩,
    n_TooMany_what := n_TooMany_what,
    s_TooMany_TooMany := s_TooMany_TooMany,
    s_TooMany_SoleError := s_TooMany_SoleError,
    s_TooMany_NoSeat := s_TooMany_NoSeat,
    s_TooMany_NoSet := s_TooMany_NoSet,
    s_TooMany_TooManyFallen := s_TooMany_TooManyFallen,
    s_TooMany_Apart := s_TooMany_Apart,
    s_TooMany_NoFamily := s_TooMany_NoFamily,
    s_TooMany_NoShape := s_TooMany_NoShape,
    s_TooMany_NotPrime := s_TooMany_NotPrime,
    s_TooMany_ValueError := s_TooMany_ValueError,
    s_TooMany_ArithmeticError := s_TooMany_ArithmeticError,
    c_NotPrime := ⟨is_NotPrime, ty_NotPrime, ex_NotPrime⟩,
    c_NoSeat := ⟨is_NoSeat, ty_NoSeat, ex_NoSeat⟩,
    c_NoSet := ⟨is_NoSet, ty_NoSet, ex_NoSet⟩,
    c_TooManyFallen := ⟨is_TooManyFallen, ty_TooManyFallen, ex_TooManyFallen⟩,
    c_TooMany := ⟨is_TooMany, ty_TooMany, ex_TooMany⟩,
    c_SoleError := ⟨is_SoleError, ty_SoleError, ex_SoleError⟩,
    c_Apart := ⟨is_Apart, ty_Apart, ex_Apart⟩,
    c_NoFamily := ⟨is_NoFamily, ty_NoFamily, ex_NoFamily⟩,
    c_NoShape := ⟨is_NoShape, ty_NoShape, ex_NoShape⟩ }
  let T : Txt K mg ad := {
    f_NoSeat___init__ := f_NoSeat___init__,
    d_NoSeat___init__ := _,
    F_NoSeat___init__ := fun_mk (st := s_NoSeat___init__) l_NoSeat___init__ c_NoSeat___init__ k_NoSeat___init__,
    b_NoSeat___init__ := (fun_mk (st := s_NoSeat___init__) l_NoSeat___init__ c_NoSeat___init__ k_NoSeat___init__).binds (ps := ["self", "seat"]) fun _ _ _ _ _ _ us hl => match us, hl with | [_, _], _ => rfl,
    i_NoSeat := a_NoSeat___init__,
    t_NoSeat := t_NoSeat___init__,
    f_TooMany___init__ := f_TooMany___init__,
    d_TooMany___init__ := _,
    F_TooMany___init__ := fun_mk (st := s_TooMany___init__) l_TooMany___init__ c_TooMany___init__ k_TooMany___init__,
    b_TooMany___init__ := (fun_mk (st := s_TooMany___init__) l_TooMany___init__ c_TooMany___init__ k_TooMany___init__).binds (ps := ["self", "what"]) fun _ _ _ _ _ _ us hl => match us, hl with | [_, _], _ => rfl,
    i_TooMany := a_TooMany___init__,
    t_TooMany := t_TooMany___init__,
    f_NoSet___init__ := f_NoSet___init__,
    d_NoSet___init__ := _,
    F_NoSet___init__ := fun_mk (st := s_NoSet___init__) l_NoSet___init__ c_NoSet___init__ k_NoSet___init__,
    b_NoSet___init__ := (fun_mk (st := s_NoSet___init__) l_NoSet___init__ c_NoSet___init__ k_NoSet___init__).binds (ps := ["self", "number"]) fun _ _ _ _ _ _ us hl => match us, hl with | [_, _], _ => rfl,
    i_NoSet := a_NoSet___init__,
    t_NoSet := t_NoSet___init__,
    f_TooManyFallen___init__ := f_TooManyFallen___init__,
    d_TooManyFallen___init__ := _,
    F_TooManyFallen___init__ := fun_mk (st := s_TooManyFallen___init__) l_TooManyFallen___init__ c_TooManyFallen___init__ k_TooManyFallen___init__,
    b_TooManyFallen___init__ := (fun_mk (st := s_TooManyFallen___init__) l_TooManyFallen___init__ c_TooManyFallen___init__ k_TooManyFallen___init__).binds (ps := ["self", "many"]) fun _ _ _ _ _ _ us hl => match us, hl with | [_, _], _ => rfl,
    i_TooManyFallen := a_TooManyFallen___init__,
    t_TooManyFallen := t_TooManyFallen___init__,
    f_NotPrime___init__ := f_NotPrime___init__,
    d_NotPrime___init__ := _,
    F_NotPrime___init__ := fun_mk (st := s_NotPrime___init__) l_NotPrime___init__ c_NotPrime___init__ k_NotPrime___init__,
    b_NotPrime___init__ := (fun_mk (st := s_NotPrime___init__) l_NotPrime___init__ c_NotPrime___init__ k_NotPrime___init__).binds (ps := ["self", "number"]) fun _ _ _ _ _ _ us hl => match us, hl with | [_, _], _ => rfl,
    i_NotPrime := a_NotPrime___init__,
    t_NotPrime := t_NotPrime___init__,
    f_seats_of := f_seats_of,
    d_seats_of := _,
    F_seats_of := fun_mk (st := s_seats_of) l_seats_of c_seats_of k_seats_of,
    b_seats_of := (fun_mk (st := s_seats_of) l_seats_of c_seats_of k_seats_of).binds (ps := ["p"]) fun _ _ _ _ _ _ us hl => match us, hl with | [_], _ => rfl,
    g_seats_of := PySem.W.mg_of X G a_seats_of,
    f_seats_looked := f_seats_looked,
    d_seats_looked := _,
    F_seats_looked := fun_mk (st := s_seats_looked) l_seats_looked c_seats_looked k_seats_looked,
    b_seats_looked := (fun_mk (st := s_seats_looked) l_seats_looked c_seats_looked k_seats_looked).binds (ps := ["p", "seats"]) fun _ _ _ _ _ _ us hl => match us, hl with | [_, _], _ => rfl,
    g_seats_looked := PySem.W.mg_of X G a_seats_looked,
    f_sets_looked := f_sets_looked,
    d_sets_looked := _,
    F_sets_looked := fun_mk (st := s_sets_looked) l_sets_looked c_sets_looked k_sets_looked,
    b_sets_looked := (fun_mk (st := s_sets_looked) l_sets_looked c_sets_looked k_sets_looked).binds (ps := ["p", "numbers"]) fun _ _ _ _ _ _ us hl => match us, hl with | [_, _], _ => rfl,
    g_sets_looked := PySem.W.mg_of X G a_sets_looked,
    f_inverse := f_inverse,
    d_inverse := _,
    F_inverse := fun_mk (st := s_inverse) l_inverse c_inverse k_inverse,
    b_inverse := (fun_mk (st := s_inverse) l_inverse c_inverse k_inverse).binds (ps := ["number", "p"]) fun _ _ _ _ _ _ us hl => match us, hl with | [_, _], _ => rfl,
    g_inverse := PySem.W.mg_of X G a_inverse,
    f_line_of := f_line_of,
    d_line_of := _,
    F_line_of := fun_mk (st := s_line_of) l_line_of c_line_of k_line_of,
    b_line_of := (fun_mk (st := s_line_of) l_line_of c_line_of k_line_of).binds (ps := ["p", "number"]) fun _ _ _ _ _ _ us hl => match us, hl with | [_, _], _ => rfl,
    g_line_of := PySem.W.mg_of X G a_line_of,
    f_number_of := f_number_of,
    d_number_of := _,
    F_number_of := fun_mk (st := s_number_of) l_number_of c_number_of k_number_of,
    b_number_of := (fun_mk (st := s_number_of) l_number_of c_number_of k_number_of).binds (ps := ["p", "slope", "shift"]) fun _ _ _ _ _ _ us hl => match us, hl with | [_, _, _], _ => rfl,
    g_number_of := PySem.W.mg_of X G a_number_of,
    f_through := f_through,
    d_through := _,
    F_through := fun_mk (st := s_through) l_through c_through k_through,
    b_through := (fun_mk (st := s_through) l_through c_through k_through).binds (ps := ["p", "seat", "slope"]) fun _ _ _ _ _ _ us hl => match us, hl with | [_, _, _], _ => rfl,
    g_through := PySem.W.mg_of X G a_through,
    f_lies := f_lies,
    d_lies := _,
    F_lies := fun_mk (st := s_lies) l_lies c_lies k_lies,
    b_lies := (fun_mk (st := s_lies) l_lies c_lies k_lies).binds (ps := ["p", "seat", "number"]) fun _ _ _ _ _ _ us hl => match us, hl with | [_, _, _], _ => rfl,
    g_lies := PySem.W.mg_of X G a_lies,
    f_set_of := f_set_of,
    d_set_of := _,
    F_set_of := fun_mk (st := s_set_of) l_set_of c_set_of k_set_of,
    b_set_of := (fun_mk (st := s_set_of) l_set_of c_set_of k_set_of).binds (ps := ["p", "number"]) fun _ _ _ _ _ _ us hl => match us, hl with | [_, _], _ => rfl,
    g_set_of := PySem.W.mg_of X G a_set_of,
    f_shared := f_shared,
    d_shared := _,
    F_shared := fun_mk (st := s_shared) l_shared c_shared k_shared,
    b_shared := (fun_mk (st := s_shared) l_shared c_shared k_shared).binds (ps := ["p", "one", "other"]) fun _ _ _ _ _ _ us hl => match us, hl with | [_, _, _], _ => rfl,
    g_shared := PySem.W.mg_of X G a_shared,
    f_holding := f_holding,
    d_holding := _,
    F_holding := fun_mk (st := s_holding) l_holding c_holding k_holding,
    b_holding := (fun_mk (st := s_holding) l_holding c_holding k_holding).binds (ps := ["p", "one", "other"]) fun _ _ _ _ _ _ us hl => match us, hl with | [_, _, _], _ => rfl,
    g_holding := PySem.W.mg_of X G a_holding,
    f_free := f_free,
    d_free := _,
    F_free := fun_mk (st := s_free) l_free c_free k_free,
    b_free := (fun_mk (st := s_free) l_free c_free k_free).binds (ps := ["p", "fallen"]) fun _ _ _ _ _ _ us hl => match us, hl with | [_, _], _ => rfl,
    g_free := PySem.W.mg_of X G a_free,
    f_plane := f_plane,
    d_plane := _,
    F_plane := fun_mk (st := s_plane) l_plane c_plane k_plane,
    b_plane := (fun_mk (st := s_plane) l_plane c_plane k_plane).binds (ps := ["p"]) fun _ _ _ _ _ _ us hl => match us, hl with | [_], _ => rfl,
    g_plane := PySem.W.mg_of X G a_plane,
    f__law_wide := f__law_wide,
    d__law_wide := _,
    F__law_wide := fun_mk (st := s__law_wide) l__law_wide c__law_wide k__law_wide,
    b__law_wide := (fun_mk (st := s__law_wide) l__law_wide c__law_wide k__law_wide).binds (ps := ["cell"]) fun _ _ _ _ _ _ us hl => match us, hl with | [_], _ => rfl,
    g__law_wide := PySem.W.mg_of X G a__law_wide,
    f__law_take := f__law_take,
    d__law_take := _,
    F__law_take := fun_mk (st := s__law_take) l__law_take c__law_take k__law_take,
    b__law_take := (fun_mk (st := s__law_take) l__law_take c__law_take k__law_take).binds (ps := ["script", "pot", "many"]) fun _ _ _ _ _ _ us hl => match us, hl with | [_, _, _], _ => rfl,
    g__law_take := PySem.W.mg_of X G a__law_take,
    f__law_whole := f__law_whole,
    d__law_whole := _,
    F__law_whole := fun_mk (st := s__law_whole) l__law_whole c__law_whole k__law_whole,
    b__law_whole := (fun_mk (st := s__law_whole) l__law_whole c__law_whole k__law_whole).binds (ps := ["thing"]) fun _ _ _ _ _ _ us hl => match us, hl with | [_], _ => rfl,
    g__law_whole := PySem.W.mg_of X G a__law_whole,
    f__law_is_set := f__law_is_set,
    d__law_is_set := _,
    F__law_is_set := fun_mk (st := s__law_is_set) l__law_is_set c__law_is_set k__law_is_set,
    b__law_is_set := (fun_mk (st := s__law_is_set) l__law_is_set c__law_is_set k__law_is_set).binds (ps := ["thing"]) fun _ _ _ _ _ _ us hl => match us, hl with | [_], _ => rfl,
    g__law_is_set := PySem.W.mg_of X G a__law_is_set,
    f__law_is_prime := f__law_is_prime,
    d__law_is_prime := _,
    F__law_is_prime := fun_mk (st := s__law_is_prime) l__law_is_prime c__law_is_prime k__law_is_prime,
    b__law_is_prime := (fun_mk (st := s__law_is_prime) l__law_is_prime c__law_is_prime k__law_is_prime).binds (ps := ["number"]) fun _ _ _ _ _ _ us hl => match us, hl with | [_], _ => rfl,
    g__law_is_prime := PySem.W.mg_of X G a__law_is_prime,
    f__law_prime := f__law_prime,
    d__law_prime := _,
    F__law_prime := fun_mk (st := s__law_prime) l__law_prime c__law_prime k__law_prime,
    b__law_prime := (fun_mk (st := s__law_prime) l__law_prime c__law_prime k__law_prime).binds (ps := ["script", "pot", "turn"]) fun _ _ _ _ _ _ us hl => match us, hl with | [_, _, _], _ => rfl,
    g__law_prime := PySem.W.mg_of X G a__law_prime,
    f__law_number := f__law_number,
    d__law_number := _,
    F__law_number := fun_mk (st := s__law_number) l__law_number c__law_number k__law_number,
    b__law_number := (fun_mk (st := s__law_number) l__law_number c__law_number k__law_number).binds (ps := ["script", "pot"]) fun _ _ _ _ _ _ us hl => match us, hl with | [_, _], _ => rfl,
    g__law_number := PySem.W.mg_of X G a__law_number,
    f__law_call := f__law_call,
    d__law_call := _,
    F__law_call := fun_mk (st := s__law_call) l__law_call c__law_call k__law_call,
    b__law_call := (fun_mk (st := s__law_call) l__law_call c__law_call k__law_call).binds (ps := ["door", "p", "one", "other"]) fun _ _ _ _ _ _ us hl => match us, hl with | [_, _, _, _], _ => rfl,
    g__law_call := PySem.W.mg_of X G a__law_call,
    f__law_met := f__law_met,
    d__law_met := _,
    F__law_met := fun_mk (st := s__law_met) l__law_met c__law_met k__law_met,
    b__law_met := (fun_mk (st := s__law_met) l__law_met c__law_met k__law_met).binds (ps := ["door", "p", "one", "other"]) fun _ _ _ _ _ _ us hl => match us, hl with | [_, _, _, _], _ => rfl,
    g__law_met := PySem.W.mg_of X G a__law_met,
    f__law_due := f__law_due,
    d__law_due := _,
    F__law_due := fun_mk (st := s__law_due) l__law_due c__law_due k__law_due,
    b__law_due := (fun_mk (st := s__law_due) l__law_due c__law_due k__law_due).binds (ps := ["door", "p", "one", "other"]) fun _ _ _ _ _ _ us hl => match us, hl with | [_, _, _, _], _ => rfl,
    g__law_due := PySem.W.mg_of X G a__law_due,
    f__law_set_right := f__law_set_right,
    d__law_set_right := _,
    F__law_set_right := fun_mk (st := s__law_set_right) l__law_set_right c__law_set_right k__law_set_right,
    b__law_set_right := (fun_mk (st := s__law_set_right) l__law_set_right c__law_set_right k__law_set_right).binds (ps := ["script", "pot", "p", "number"]) fun _ _ _ _ _ _ us hl => match us, hl with | [_, _, _, _], _ => rfl,
    g__law_set_right := PySem.W.mg_of X G a__law_set_right,
    f_law := fa,
    d_law := _,
    F_law := fun_mk (st := s_law) l_law c_law k_law,
    b_law := (fun_mk (st := s_law) l_law c_law k_law).binds (ps := ["script"]) fun _ _ _ _ _ _ us hl => match us, hl with | [_], _ => rfl,
    g_law := PySem.W.mg_of X G a_law,
    u_GREATEST := _,
    g_GREATEST := PySem.W.mg_of X G a_GREATEST,
    r_GREATEST := ⟨_, rfl⟩,
    u_LISTED := _,
    g_LISTED := PySem.W.mg_of X G a_LISTED,
    r_LISTED := ⟨_, rfl⟩,
    m_ArithmeticError := PySem.W.mg_none_of X G z_ArithmeticError,
    m_ValueError := PySem.W.mg_none_of X G z_ValueError,
    m_bool := PySem.W.mg_none_of X G z_bool,
    m_divmod := PySem.W.mg_none_of X G z_divmod,
    m_int := PySem.W.mg_none_of X G z_int,
    m_isinstance := PySem.W.mg_none_of X G z_isinstance,
    m_len := PySem.W.mg_none_of X G z_len,
    m_list := PySem.W.mg_none_of X G z_list,
    m_max := PySem.W.mg_none_of X G z_max,
    m_min := PySem.W.mg_none_of X G z_min,
    m_range := PySem.W.mg_none_of X G z_range,
    m_sum := PySem.W.mg_none_of X G z_sum,
    m_tuple := PySem.W.mg_none_of X G z_tuple,
    g_SoleError := PySem.W.mg_of X G a_SoleError,
    g_NoSeat := PySem.W.mg_of X G a_NoSeat,
    g_NoFamily := PySem.W.mg_of X G a_NoFamily,
    g_TooMany := PySem.W.mg_of X G a_TooMany,
    g_NoSet := PySem.W.mg_of X G a_NoSet,
    g_NoShape := PySem.W.mg_of X G a_NoShape,
    g_Apart := PySem.W.mg_of X G a_Apart,
    g_TooManyFallen := PySem.W.mg_of X G a_TooManyFallen,
    g_NotPrime := PySem.W.mg_of X G a_NotPrime,
    bs_SoleError := ⟨rd_SoleError, sg_SoleError, vi_SoleError⟩,
    xf := XF }
  exact ⟨PySem.W.fnOf "law" "law" (defArgs s_law) (defBody s_law) (defScope s_law) .none kV_law dc_law pm_law an_law cd_law ct_law, fun s v => .of_eq rfl, fun base _ _ => (ok_law (ad := ad) T).imp fun vs H Q E h => spLaw_to ad XF h⟩
end Y
open PySem PySem.W PyProof.Rows
set_option maxRecDepth 100000 in
set_option maxHeartbeats 0 in
theorem PySem.Challenge.cw_soleseat_k50_planes_told_holds : PySem.Challenge.rw_soleseat_k50_planes_told.Holds := by
  w_on; o_law; k_head; (case hw => w_witness2)
  k_fill
  refine L2.walk_of (l := PySem.Challenge.rw_soleseat_k50_planes_told) (n := 63) (k := 9) (x := "script") (CX := fun _ => L2.CX0) (sp := fun w => Z.spLaw _) rfl (by decide) rfl ⟨rfl, by decide, by decide⟩ (fun w h Y => PySem.W.kIn_of Y) ?F (fun _ _ a ns hl _ hS => Z.spLaw_in hl hS) (fun _ _ _ _ _ h => h)
  case F =>
    intro w mg fa h KX G hmg
    refine' Y.all_mk KX G hmg ?a_SoleError ?a_NoSeat ?a_NoFamily ?a_TooMany ?a_NoSet ?a_NoShape ?a_Apart ?a_TooManyFallen ?a_NotPrime ?is_NotPrime ?ty_NotPrime ?ex_NotPrime ?is_NoSeat ?ty_NoSeat ?ex_NoSeat ?is_NoSet ?ty_NoSet ?ex_NoSet ?is_TooManyFallen ?ty_TooManyFallen ?ex_TooManyFallen ?is_TooMany ?ty_TooMany ?ex_TooMany ?is_SoleError ?ty_SoleError ?ex_SoleError ?is_Apart ?ty_Apart ?ex_Apart ?is_NoFamily ?ty_NoFamily ?ex_NoFamily ?is_NoShape ?ty_NoShape ?ex_NoShape ?hn_ ?ht_ ?xL_NotPrime ?sa_NotPrime ?ga_NotPrime ?gg_NotPrime ?kc_NotPrime ?hd_NotPrime ?ca_NotPrime ?hm_NotPrime ?n_NotPrime_number ?s_NotPrime_NotPrime ?s_NotPrime_SoleError ?s_NotPrime_NoSeat ?s_NotPrime_NoSet ?s_NotPrime_TooMany ?s_NotPrime_TooManyFallen ?s_NotPrime_Apart ?s_NotPrime_NoFamily ?s_NotPrime_NoShape ?s_NotPrime_ValueError ?s_NotPrime_ArithmeticError ?xL_NoSeat ?sa_NoSeat ?ga_NoSeat ?gg_NoSeat ?kc_NoSeat ?hd_NoSeat ?ca_NoSeat ?hm_NoSeat ?n_NoSeat_seat ?s_NoSeat_NoSeat ?s_NoSeat_SoleError ?s_NoSeat_NoSet ?s_NoSeat_TooMany ?s_NoSeat_TooManyFallen ?s_NoSeat_Apart ?s_NoSeat_NoFamily ?s_NoSeat_NoShape ?s_NoSeat_NotPrime ?s_NoSeat_ValueError ?s_NoSeat_ArithmeticError ?xL_NoSet ?sa_NoSet ?ga_NoSet ?gg_NoSet ?kc_NoSet ?hd_NoSet ?ca_NoSet ?hm_NoSet ?n_NoSet_number ?s_NoSet_NoSet ?s_NoSet_SoleError ?s_NoSet_NoSeat ?s_NoSet_TooMany ?s_NoSet_TooManyFallen ?s_NoSet_Apart ?s_NoSet_NoFamily ?s_NoSet_NoShape ?s_NoSet_NotPrime ?s_NoSet_ValueError ?s_NoSet_ArithmeticError ?xL_TooManyFallen ?sa_TooManyFallen ?ga_TooManyFallen ?gg_TooManyFallen ?kc_TooManyFallen ?hd_TooManyFallen ?ca_TooManyFallen ?hm_TooManyFallen ?n_TooManyFallen_many ?s_TooManyFallen_TooManyFallen ?s_TooManyFallen_SoleError ?s_TooManyFallen_NoSeat ?s_TooManyFallen_NoSet ?s_TooManyFallen_TooMany ?s_TooManyFallen_Apart ?s_TooManyFallen_NoFamily ?s_TooManyFallen_NoShape ?s_TooManyFallen_NotPrime ?s_TooManyFallen_ValueError ?s_TooManyFallen_ArithmeticError ?xL_TooMany ?sa_TooMany ?ga_TooMany ?gg_TooMany ?kc_TooMany ?hd_TooMany ?ca_TooMany ?hm_TooMany ?n_TooMany_what ?s_TooMany_TooMany ?s_TooMany_SoleError ?s_TooMany_NoSeat ?s_TooMany_NoSet ?s_TooMany_TooManyFallen ?s_TooMany_Apart ?s_TooMany_NoFamily ?s_TooMany_NoShape ?s_TooMany_NotPrime ?s_TooMany_ValueError ?s_TooMany_ArithmeticError ?rd_SoleError ?sg_SoleError ?vi_SoleError ?a_NoSeat___init__ ?t_NoSeat___init__ ?l_NoSeat___init__ ?c_NoSeat___init__ ?k_NoSeat___init__ ?a_TooMany___init__ ?t_TooMany___init__ ?l_TooMany___init__ ?c_TooMany___init__ ?k_TooMany___init__ ?a_NoSet___init__ ?t_NoSet___init__ ?l_NoSet___init__ ?c_NoSet___init__ ?k_NoSet___init__ ?a_TooManyFallen___init__ ?t_TooManyFallen___init__ ?l_TooManyFallen___init__ ?c_TooManyFallen___init__ ?k_TooManyFallen___init__ ?a_NotPrime___init__ ?t_NotPrime___init__ ?l_NotPrime___init__ ?c_NotPrime___init__ ?k_NotPrime___init__ ?a_seats_of ?l_seats_of ?c_seats_of ?k_seats_of ?a_seats_looked ?l_seats_looked ?c_seats_looked ?k_seats_looked ?a_sets_looked ?l_sets_looked ?c_sets_looked ?k_sets_looked ?a_inverse ?l_inverse ?c_inverse ?k_inverse ?a_line_of ?l_line_of ?c_line_of ?k_line_of ?a_number_of ?l_number_of ?c_number_of ?k_number_of ?a_through ?l_through ?c_through ?k_through ?a_lies ?l_lies ?c_lies ?k_lies ?a_set_of ?l_set_of ?c_set_of ?k_set_of ?a_shared ?l_shared ?c_shared ?k_shared ?a_holding ?l_holding ?c_holding ?k_holding ?a_free ?l_free ?c_free ?k_free ?a_plane ?l_plane ?c_plane ?k_plane ?a__law_wide ?l__law_wide ?c__law_wide ?k__law_wide ?a__law_take ?l__law_take ?c__law_take ?k__law_take ?a__law_whole ?l__law_whole ?c__law_whole ?k__law_whole ?a__law_is_set ?l__law_is_set ?c__law_is_set ?k__law_is_set ?a__law_is_prime ?l__law_is_prime ?c__law_is_prime ?k__law_is_prime ?a__law_prime ?l__law_prime ?c__law_prime ?k__law_prime ?a__law_number ?l__law_number ?c__law_number ?k__law_number ?a__law_call ?l__law_call ?c__law_call ?k__law_call ?a__law_met ?l__law_met ?c__law_met ?k__law_met ?a__law_due ?l__law_due ?c__law_due ?k__law_due ?a__law_set_right ?l__law_set_right ?c__law_set_right ?k__law_set_right ?a_law ?l_law ?c_law ?k_law ?a_GREATEST ?a_LISTED ?z_ArithmeticError ?z_ValueError ?z_bool ?z_divmod ?z_int ?z_isinstance ?z_len ?z_list ?z_max ?z_min ?z_range ?z_sum ?z_tuple
    (case a_SoleError => k_is)
    (case a_NoSeat => k_is)
    (case a_NoFamily => k_is)
    (case a_TooMany => k_is)
    (case a_NoSet => k_is)
    (case a_NoShape => k_is)
    (case a_Apart => k_is)
    (case a_TooManyFallen => k_is)
    (case a_NotPrime => k_is)
    (case is_NotPrime => k_is)
    (case ty_NotPrime => k_is)
    (case ex_NotPrime => k_is)
    (case is_NoSeat => k_is)
    (case ty_NoSeat => k_is)
    (case ex_NoSeat => k_is)
    (case is_NoSet => k_is)
    (case ty_NoSet => k_is)
    (case ex_NoSet => k_is)
    (case is_TooManyFallen => k_is)
    (case ty_TooManyFallen => k_is)
    (case ex_TooManyFallen => k_is)
    (case is_TooMany => k_is)
    (case ty_TooMany => k_is)
    (case ex_TooMany => k_is)
    (case is_SoleError => k_is)
    (case ty_SoleError => k_is)
    (case ex_SoleError => k_is)
    (case is_Apart => k_is)
    (case ty_Apart => k_is)
    (case ex_Apart => k_is)
    (case is_NoFamily => k_is)
    (case ty_NoFamily => k_is)
    (case ex_NoFamily => k_is)
    (case is_NoShape => k_is)
    (case ty_NoShape => k_is)
    (case ex_NoShape => k_is)
    (case hn_ => k_is)
    (case ht_ => k_is)
    (case xL_NotPrime => k_is)
    (case sa_NotPrime => k_is)
    (case ga_NotPrime => k_is)
    (case gg_NotPrime => k_is)
    (case kc_NotPrime => k_is)
    (case hd_NotPrime => k_is)
    (case ca_NotPrime => k_is)
    (case hm_NotPrime => k_is)
    (case n_NotPrime_number => k_is)
    (case s_NotPrime_NotPrime => first | rfl | k_is)
    (case s_NotPrime_SoleError => first | rfl | k_is)
    (case s_NotPrime_NoSeat => first | rfl | k_is)
    (case s_NotPrime_NoSet => first | rfl | k_is)
    (case s_NotPrime_TooMany => first | rfl | k_is)
    (case s_NotPrime_TooManyFallen => first | rfl | k_is)
    (case s_NotPrime_Apart => first | rfl | k_is)
    (case s_NotPrime_NoFamily => first | rfl | k_is)
    (case s_NotPrime_NoShape => first | rfl | k_is)
    (case s_NotPrime_ValueError => first | rfl | k_is)
    (case s_NotPrime_ArithmeticError => first | rfl | k_is)
    (case xL_NoSeat => k_is)
    (case sa_NoSeat => k_is)
    (case ga_NoSeat => k_is)
    (case gg_NoSeat => k_is)
    (case kc_NoSeat => k_is)
    (case hd_NoSeat => k_is)
    (case ca_NoSeat => k_is)
    (case hm_NoSeat => k_is)
    (case n_NoSeat_seat => k_is)
    (case s_NoSeat_NoSeat => first | rfl | k_is)
    (case s_NoSeat_SoleError => first | rfl | k_is)
    (case s_NoSeat_NoSet => first | rfl | k_is)
    (case s_NoSeat_TooMany => first | rfl | k_is)
    (case s_NoSeat_TooManyFallen => first | rfl | k_is)
    (case s_NoSeat_Apart => first | rfl | k_is)
    (case s_NoSeat_NoFamily => first | rfl | k_is)
    (case s_NoSeat_NoShape => first | rfl | k_is)
    (case s_NoSeat_NotPrime => first | rfl | k_is)
    (case s_NoSeat_ValueError => first | rfl | k_is)
    (case s_NoSeat_ArithmeticError => first | rfl | k_is)
    (case xL_NoSet => k_is)
    (case sa_NoSet => k_is)
    (case ga_NoSet => k_is)
    (case gg_NoSet => k_is)
    (case kc_NoSet => k_is)
    (case hd_NoSet => k_is)
    (case ca_NoSet => k_is)
    (case hm_NoSet => k_is)
    (case n_NoSet_number => k_is)
    (case s_NoSet_NoSet => first | rfl | k_is)
    (case s_NoSet_SoleError => first | rfl | k_is)
    (case s_NoSet_NoSeat => first | rfl | k_is)
    (case s_NoSet_TooMany => first | rfl | k_is)
    (case s_NoSet_TooManyFallen => first | rfl | k_is)
    (case s_NoSet_Apart => first | rfl | k_is)
    (case s_NoSet_NoFamily => first | rfl | k_is)
    (case s_NoSet_NoShape => first | rfl | k_is)
    (case s_NoSet_NotPrime => first | rfl | k_is)
    (case s_NoSet_ValueError => first | rfl | k_is)
    (case s_NoSet_ArithmeticError => first | rfl | k_is)
    (case xL_TooManyFallen => k_is)
    (case sa_TooManyFallen => k_is)
    (case ga_TooManyFallen => k_is)
    (case gg_TooManyFallen => k_is)
    (case kc_TooManyFallen => k_is)
    (case hd_TooManyFallen => k_is)
    (case ca_TooManyFallen => k_is)
    (case hm_TooManyFallen => k_is)
    (case n_TooManyFallen_many => k_is)
    (case s_TooManyFallen_TooManyFallen => first | rfl | k_is)
    (case s_TooManyFallen_SoleError => first | rfl | k_is)
    (case s_TooManyFallen_NoSeat => first | rfl | k_is)
    (case s_TooManyFallen_NoSet => first | rfl | k_is)
    (case s_TooManyFallen_TooMany => first | rfl | k_is)
    (case s_TooManyFallen_Apart => first | rfl | k_is)
    (case s_TooManyFallen_NoFamily => first | rfl | k_is)
    (case s_TooManyFallen_NoShape => first | rfl | k_is)
    (case s_TooManyFallen_NotPrime => first | rfl | k_is)
    (case s_TooManyFallen_ValueError => first | rfl | k_is)
    (case s_TooManyFallen_ArithmeticError => first | rfl | k_is)
    (case xL_TooMany => k_is)
    (case sa_TooMany => k_is)
    (case ga_TooMany => k_is)
    (case gg_TooMany => k_is)
    (case kc_TooMany => k_is)
    (case hd_TooMany => k_is)
    (case ca_TooMany => k_is)
    (case hm_TooMany => k_is)
    (case n_TooMany_what => k_is)
    (case s_TooMany_TooMany => first | rfl | k_is)
    (case s_TooMany_SoleError => first | rfl | k_is)
    (case s_TooMany_NoSeat => first | rfl | k_is)
    (case s_TooMany_NoSet => first | rfl | k_is)
    (case s_TooMany_TooManyFallen => first | rfl | k_is)
    (case s_TooMany_Apart => first | rfl | k_is)
    (case s_TooMany_NoFamily => first | rfl | k_is)
    (case s_TooMany_NoShape => first | rfl | k_is)
    (case s_TooMany_NotPrime => first | rfl | k_is)
    (case s_TooMany_ValueError => first | rfl | k_is)
    (case s_TooMany_ArithmeticError => first | rfl | k_is)
    (case rd_SoleError => k_is)
    (case sg_SoleError => k_is)
    (case vi_SoleError => k_is)
    (case a_NoSeat___init__ => k_is)
    (case t_NoSeat___init__ => k_is)
    (case l_NoSeat___init__ => k_is)
    (case c_NoSeat___init__ => k_is)
    (case k_NoSeat___init__ => k_is)
    (case a_TooMany___init__ => k_is)
    (case t_TooMany___init__ => k_is)
    (case l_TooMany___init__ => k_is)
    (case c_TooMany___init__ => k_is)
    (case k_TooMany___init__ => k_is)
    (case a_NoSet___init__ => k_is)
    (case t_NoSet___init__ => k_is)
    (case l_NoSet___init__ => k_is)
    (case c_NoSet___init__ => k_is)
    (case k_NoSet___init__ => k_is)
    (case a_TooManyFallen___init__ => k_is)
    (case t_TooManyFallen___init__ => k_is)
    (case l_TooManyFallen___init__ => k_is)
    (case c_TooManyFallen___init__ => k_is)
    (case k_TooManyFallen___init__ => k_is)
    (case a_NotPrime___init__ => k_is)
    (case t_NotPrime___init__ => k_is)
    (case l_NotPrime___init__ => k_is)
    (case c_NotPrime___init__ => k_is)
    (case k_NotPrime___init__ => k_is)
    (case a_seats_of => k_is)
    (case l_seats_of => k_is)
    (case c_seats_of => k_is)
    (case k_seats_of => k_is)
    (case a_seats_looked => k_is)
    (case l_seats_looked => k_is)
    (case c_seats_looked => k_is)
    (case k_seats_looked => k_is)
    (case a_sets_looked => k_is)
    (case l_sets_looked => k_is)
    (case c_sets_looked => k_is)
    (case k_sets_looked => k_is)
    (case a_inverse => k_is)
    (case l_inverse => k_is)
    (case c_inverse => k_is)
    (case k_inverse => k_is)
    (case a_line_of => k_is)
    (case l_line_of => k_is)
    (case c_line_of => k_is)
    (case k_line_of => k_is)
    (case a_number_of => k_is)
    (case l_number_of => k_is)
    (case c_number_of => k_is)
    (case k_number_of => k_is)
    (case a_through => k_is)
    (case l_through => k_is)
    (case c_through => k_is)
    (case k_through => k_is)
    (case a_lies => k_is)
    (case l_lies => k_is)
    (case c_lies => k_is)
    (case k_lies => k_is)
    (case a_set_of => k_is)
    (case l_set_of => k_is)
    (case c_set_of => k_is)
    (case k_set_of => k_is)
    (case a_shared => k_is)
    (case l_shared => k_is)
    (case c_shared => k_is)
    (case k_shared => k_is)
    (case a_holding => k_is)
    (case l_holding => k_is)
    (case c_holding => k_is)
    (case k_holding => k_is)
    (case a_free => k_is)
    (case l_free => k_is)
    (case c_free => k_is)
    (case k_free => k_is)
    (case a_plane => k_is)
    (case l_plane => k_is)
    (case c_plane => k_is)
    (case k_plane => k_is)
    (case a__law_wide => k_is)
    (case l__law_wide => k_is)
    (case c__law_wide => k_is)
    (case k__law_wide => k_is)
    (case a__law_take => k_is)
    (case l__law_take => k_is)
    (case c__law_take => k_is)
    (case k__law_take => k_is)
    (case a__law_whole => k_is)
    (case l__law_whole => k_is)
    (case c__law_whole => k_is)
    (case k__law_whole => k_is)
    (case a__law_is_set => k_is)
    (case l__law_is_set => k_is)
    (case c__law_is_set => k_is)
    (case k__law_is_set => k_is)
    (case a__law_is_prime => k_is)
    (case l__law_is_prime => k_is)
    (case c__law_is_prime => k_is)
    (case k__law_is_prime => k_is)
    (case a__law_prime => k_is)
    (case l__law_prime => k_is)
    (case c__law_prime => k_is)
    (case k__law_prime => k_is)
    (case a__law_number => k_is)
    (case l__law_number => k_is)
    (case c__law_number => k_is)
    (case k__law_number => k_is)
    (case a__law_call => k_is)
    (case l__law_call => k_is)
    (case c__law_call => k_is)
    (case k__law_call => k_is)
    (case a__law_met => k_is)
    (case l__law_met => k_is)
    (case c__law_met => k_is)
    (case k__law_met => k_is)
    (case a__law_due => k_is)
    (case l__law_due => k_is)
    (case c__law_due => k_is)
    (case k__law_due => k_is)
    (case a__law_set_right => k_is)
    (case l__law_set_right => k_is)
    (case c__law_set_right => k_is)
    (case k__law_set_right => k_is)
    (case a_law => k_is)
    (case l_law => k_is)
    (case c_law => k_is)
    (case k_law => k_is)
    (case a_GREATEST => k_is)
    (case a_LISTED => k_is)
    (case z_ArithmeticError => k_is)
    (case z_ValueError => k_is)
    (case z_bool => k_is)
    (case z_divmod => k_is)
    (case z_int => k_is)
    (case z_isinstance => k_is)
    (case z_len => k_is)
    (case z_list => k_is)
    (case z_max => k_is)
    (case z_min => k_is)
    (case z_range => k_is)
    (case z_sum => k_is)
    (case z_tuple => k_is)

