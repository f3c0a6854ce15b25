import PyProof.Rows.All
import Wide.All
import OpenK.AllK
import Wide.FinOn
import HandS.ForMost
import HandS.SetFor
import HandS.Strs
import HandS.Wide
import HandS.WideBits
import HandS.Deep
import HandS.IsInst
import HandS.TupAny
import HandS.Evl
import HandS.Flow
import HandS.More
import HandS.SortInts
import HandS.Style
import HandS.Conv
import HandS.TryOnly
import HandS.SortOrd
import HandS.NamedTupSort
import HandS.Call
import HandS.Text
import OpenK.KOps
import PyProof.Rows.RuleB_pow
import HandS.EndBits
import PyProof.TupleOfSeq
import HandS.SortKw
import KE.DataMinMax
import PySem.Challenge.RW_soleseat_k62_whole_desk
set_option Elab.async false
set_option linter.all false
set_option maxRecDepth 100000
set_option maxHeartbeats 8000000
/-! Zset: set(list of ints) as a value, and sorted of it. -/
namespace Z
open PySem PySem.Spec PySem.Calls L2
open PyProof.Rows hiding St
def Fresh (H : Hp) (p : Addr) : Prop := H p = none
section
variable {P : Program} {w : World} {A : Around} {E : Value → Shared → Prop} {s : Shared}
abbrev mS (w : World) : Obj := { cls := .type "set", dict := none, data := .set #[] 0 (.fresh 0 0 (!w.params.followText "set-order")) }
abbrev hS1 (w : World) (s : Shared) : Heap := s.heap.push (mS w)
theorem set_of_list {l : Addr} {zs : Array Value} (ns : List Int) {Q : Value → Shared → Prop} (quiet : A.handled = none) (isl : s.heap.IsList l zs) (allI : IntsAre zs.toList ns) (few : ns.length + 1 < scanBound)
    (fin : ∀ (h2 : Heap) (tk c : Nat), SetR w h2 s.heap.objs.size (fun j => decide (j ∈ ns)) c → c ≤ ns.length →
      (∀ b o, s.heap.get? b = some o → h2.get? b = some o) → Q (.ref s.heap.objs.size) { s with heap := h2, toks := tk }) : wpAny (model P w) A (call (.type "set") [.ref l]) Q E s := by
  have hn : zs.size = ns.length := by
    have e := IntsAre.length allI
    rwa [Array.length_toList] at e
  obtain ⟨c, tl, hmro⟩ := F.called_set.mro
  have hmade := F.called_set.made
  have hsub := F.called_set.sub
  refine wpAny_call (codeAny_of_tree ?_)
  show wpAny _ _ (callAny (.type "set") _) _ _ _
  refine wpAny_pure ⟨Code.quiet_builtin _ (by decide +kernel), codeAny_builtin F.entry_type_call ?_⟩
  rw [Around.under_plain (weight_type_call_type "set" [.ref l] []) rfl]
  have a1 := F.called_set.notType
  have a2 := F.called_set.canCreate
  have a3 := F.typeCall_set_1 (.ref l)
  repeat (any_goals (first | assumption | wp_step))
  refine codeAny_mono (code_set_led1 (.ref l) (E := E) (Q₁ := fun ob s1 => ob = .ref s.heap.objs.size ∧ s1 = { s with heap := hS1 w s }) ⟨rfl, rfl⟩) fun r s1 hr => ?_
  cases r with
  | error e => exact hr
  | ok fl => cases fl with
    | ret ob =>
      obtain ⟨rfl, rfl⟩ := hr
      have g0 : (hS1 w s).get? s.heap.objs.size = some (mS w) := Heap.get?_push_size _ rfl
      have g1 : Shared.TypeIs { s with heap := hS1 w s } (.ref s.heap.objs.size) "set" := ⟨_, g0, rfl⟩
      have a4 := F.called_set.init.lookup
      have a5 := F.called_set.init.bind (.ref s.heap.objs.size)
      repeat (any_goals (first | assumption | wp_step))
      refine codeAny_mono (codeAny_call_builtin (R := wants (fun v s2 => v = .none ∧ ∃ h2 tk c, s2 = { s with heap := h2, toks := tk } ∧
        SetR w h2 s.heap.objs.size (fun j => decide (j ∈ ns)) c ∧ c ≤ ns.length ∧ ∀ b o, s.heap.get? b = some o → h2.get? b = some o) E)
        F.called_set.init.plain F.entry_set_init (check_set_init_1 g1 ?_)) fun r2 s2 hr2 => ?_
      · obtain ⟨ol, e1, e2, nl, e4⟩ := isl
        obtain ⟨oc, od, oda, osl⟩ := ol
        simp only at e2 e4
        subst e2; subst e4
        have g2 := Heap.get?_push_of_some (h := s.heap) (mS w) e1
        have u1 := F.sub_list_set
        have u2 := F.sub_list_frozenset
        have u3 : (Value.type "list" == Value.type "dict") = false := by decide
        have isl1 : (hS1 w s).IsList l zs := ⟨_, g2, rfl, nl, rfl⟩
        unfold Builtin.«set.__init__» noKeywords Builtin.Frozenset.updateFrom
        generalize hPI : pyIter = PI
        wp_walk
        subst hPI
        refine wpAny_pyIter_list isl1 ?_
        refine wpAny_bind (wpAny_runValue ?_)
        have l0 : l < s.heap.objs.size := Heap.lt_size e1
        have q3 : A.in1.in1.in1.handled = none := by simp [quiet]
        have z1 : (hS1 w s).objs.size = s.heap.objs.size + 1 := Heap.size_push ..
        have lI : l ≠ (hS1 w s).objs.size := by
          rw [z1]
          exact Nat.ne_of_lt (Nat.lt_succ_of_lt l0)
        have sf : s.heap.objs.size ∉ [(hS1 w s).objs.size, l] := fun z => by
          rw [z1] at z
          rcases List.mem_cons.mp z with z | z
          · exact Nat.ne_of_lt (Nat.lt_succ_self _) z
          · exact Nat.ne_of_gt l0 (List.mem_singleton.mp z)
        have vals : ∀ (i : Nat) (v : Value), zs[i]? = some v → ∃ k t, ns[i]? = some k ∧ v = .int k t := fun i v hv => by
          have hi : i < ns.length := hn ▸ (Array.getElem?_eq_some_iff.mp hv).1
          obtain ⟨t, e⟩ := IntsAre.int_at allI i v (by rw [Array.getElem?_toList]; exact hv)
          refine ⟨ns[i], t, List.getElem?_eq_getElem hi, e.trans ?_⟩
          rw [List.getD_eq_getElem?_getD, List.getElem?_eq_getElem hi]
          rfl
        refine set_update_ints ((Walks.list q3 _ l lI zs).toS) s.heap.objs.size sf ns hn few vals (zs.size - 0) 0 _ (by omega) (Nat.zero_le _)
          ⟨⟨_, Heap.get?_push_size _ rfl, rfl, rfl⟩, isl1.push _⟩ ⟨0, Nat.le_refl 0, setR_new_at (Heap.get?_push_of_some _ g0)⟩ fun s3 c3 mv hc3 hR => ?_
        obtain ⟨h3, g3, d3, t3, o3⟩ := s3
        obtain rfl : g3 = s.gens := mv.gens
        obtain rfl : d3 = s.drawn := mv.drawn
        obtain rfl : o3 = s.os := mv.os
        show wpAny _ _ _ _ _ _
        refine wpAny_pure ?_
        show wpAny _ _ (ret Value.none) _ _ _
        rw [hn] at hc3
        refine wpAny_pure ⟨rfl, h3, t3, c3, rfl, hR, hc3, fun b o e => ?_⟩
        have b0 : b < s.heap.objs.size := Heap.lt_size e
        refine mv.heap b o (fun z => ?_) (Heap.get?_push_of_some _ (Heap.get?_push_of_some _ e))
        rcases List.mem_cons.mp z with z | z
        · exact Nat.ne_of_lt b0 z
        · have z := List.mem_singleton.mp z
          rw [z1] at z
          exact Nat.ne_of_lt (Nat.lt_succ_of_lt b0) z
      · cases r2 with
        | error e => exact hr2
        | ok f2 => cases f2 with
          | ret v =>
            obtain ⟨rfl, h3, tk, c3, rfl, hR, hc3, hk⟩ := hr2
            repeat (any_goals (first | assumption | wp_step))
            exact fin _ _ _ hR hc3 hk
          | _ => exact hr2.elim
    | _ => exact hr.elim
end
section
variable {X : Cx}
/-- set(l), l a list or a tuple of ints -/
def zSet (K : PySem.W.Frag) (w : World) : List V → Hp → VK → Prop := fun xs H Q => ∃ (l : Addr) (ns : List Int), xs = [V.ref l] ∧ (SqL K H l (ns.map V.int) ∨ SqT K H l (ns.map V.int)) ∧ ns.length ≤ 1000 ∧
  ∀ (p : Addr) (c : Nat), c ≤ ns.length → Fresh H p → Q (.ref p) (upd H p (SetO w p (fun j => decide (j ∈ ns)) c))
theorem cr_zSet (quiet : X.calm = true) : CallR X (.type "set") (zSet X.K X.w) := by
  intro pins s σ H xs us Q I r h
  obtain ⟨l, ns, rfl, hl, few, q⟩ := h
  rw [Vals.ref1 r]
  have bnd : ns.length + 1 < scanBound := by
    unfold scanBound
    omega
  have new : H s.heap.objs.size = none := I.hok.fresh (Nat.le_refl _)
  rcases hl with hl | hl
  · obtain ⟨its, rv, pl, _⟩ := I.list hl
    exact set_of_list ns (I.ok.hd quiet) pl.isList (by simpa using ints_of_vals rv) bnd fun h2 tk c R hc k =>
      ⟨.ref _, _, I.laid (t' := tk) k (Nat.le_refl _) (setO_new R), rfl, q _ c hc new⟩
  · obtain ⟨its, rv, pl, _⟩ := I.tuple hl
    exact call_set_tupI ns (I.ok.hd quiet) pl (by simpa using ints_of_vals rv) bnd fun h2 tk c R hc k =>
      ⟨.ref _, _, I.laid (t' := tk) k (Nat.le_refl _) (setO_new R), rfl, q _ c hc new⟩
end
end Z

/-! Zp: joined operators (the kind is found as the walk goes), one lemma a step, tactics that walk. -/
namespace Z
open PySem PySem.Spec L2
open PyProof.Rows hiding St

/-! ### heaps -/
structure Gr (M : Addr → Prop) (F H F' H' : Hp) : Prop where
  ff : Same F F'
  fh : Same F' H'
  hh : ∀ b o, ¬ M b → H b = some o → H' b = some o
  nw : ∀ b o, H b = some o → F b = none → F' b = none
abbrev M0 : Addr → Prop := fun _ => False
abbrev M1 (p : Addr) : Addr → Prop := fun b => b = p
section
variable {M M' : Addr → Prop} {F H F' H' F'' H'' : Hp} {p q a b : Addr} {o u : HO} {K : PySem.W.Frag} {xs : List V}
theorem Gr.refl (h : Same F H) : Gr M F H F H := ⟨Same.refl _, h, fun _ _ _ e => e, fun _ _ _ e => e⟩
theorem Gr.trans (g : Gr M F H F' H') (k : Gr M F' H' F'' H'') (hM : ∀ b, M b → ∃ o, H b = some o) (hM' : ∀ b, M b → F b = none) (hk : ∀ b, M b → ∃ o, H' b = some o) : Gr M F H F'' H'' :=
  ⟨g.ff.trans k.ff, k.fh, fun b o n e => k.hh b o n (g.hh b o n e), fun b o e f => by
    have f' := g.nw b o e f
    by_cases hb : M b
    · obtain ⟨o', e'⟩ := hk b hb
      exact k.nw b o' e' f'
    · exact k.nw b o (g.hh b o hb e) f'⟩
theorem Gr.trans0 (g : Gr M0 F H F' H') (k : Gr M F' H' F'' H'') : Gr M F H F'' H'' :=
  ⟨g.ff.trans k.ff, k.fh, fun b o n e => k.hh b o n (g.hh b o (fun z => z) e), fun b o e f => k.nw b o (g.hh b o (fun z => z) e) (g.nw b o e f)⟩
theorem Gr.tr0 (g : Gr M F H F' H') (k : Gr M0 F' H' F'' H'') (hk : ∀ b, M b → ∃ o, H' b = some o) : Gr M F H F'' H'' :=
  ⟨g.ff.trans k.ff, k.fh, fun b o n e => k.hh b o (fun z => z) (g.hh b o n e), fun b o e f => by
    have f' := g.nw b o e f
    by_cases hb : M b
    · obtain ⟨o', e'⟩ := hk b hb
      exact k.nw b o' e' f'
    · exact k.nw b o (g.hh b o hb e) f'⟩
theorem Gr.tr1 (g : Gr (M1 p) F H F' H') (k : Gr (M1 p) F' H' F'' H'') (hp : H' p = some o) : Gr (M1 p) F H F'' H'' :=
  ⟨g.ff.trans k.ff, k.fh, fun b o n e => k.hh b o n (g.hh b o n e), fun b o' e f => by
    have f' := g.nw b o' e f
    by_cases hb : b = p
    · subst hb
      exact k.nw b o hp f'
    · exact k.nw b o' (g.hh b o' hb e) f'⟩
theorem Gr.up (g : Gr M0 F H F' H') : Gr M F H F' H' := ⟨g.ff, g.fh, fun b o _ e => g.hh b o (fun z => z) e, g.nw⟩
theorem same_new (h : Same F H) (hp : Fresh H p) : Same F (upd H p o) := fun b u e => by
  rw [upd_ne (ne_of_none (h b u e) hp)]
  exact h b u e
theorem same_mut (h : Same F H) (hp : F p = none) : Same F (upd H p o) := fun b u e => by
  rw [upd_ne (ne_of_none e hp)]
  exact h b u e
/-- a new object, not frozen -/
theorem Gr.new (h : Same F H) (hp : Fresh H p) : Gr M F H F (upd H p o) := ⟨Same.refl _, same_new h hp, fun b u _ e => by
  rw [upd_ne (ne_of_none e hp)]
  exact e, fun _ _ _ e => e⟩
/-- a new object, frozen at once -/
theorem Gr.newF (h : Same F H) (hp : Fresh H p) : Gr M F H (upd F p o) (upd H p o) :=
  ⟨fun b u e => by
    rw [upd_ne (ne_of_none (h b u e) hp)]
    exact e, fun b u e => by
    by_cases hb : b = p
    · subst hb
      rw [upd_same] at e ⊢
      exact e
    · rw [upd_ne hb] at e ⊢
      exact h b u e, fun b u _ e => by
    rw [upd_ne (ne_of_none e hp)]
    exact e, fun b u e f => by
    rw [upd_ne (ne_of_none e hp)]
    exact f⟩
/-- a change -/
theorem Gr.mut (h : Same F H) (hp : F p = none) (hM : M p) : Gr M F H F (upd H p o) := ⟨Same.refl _, same_mut h hp, fun b u n e => by
  rw [upd_ne (fun z => n (by rw [z]; exact hM))]
  exact e, fun _ _ _ e => e⟩
/-- an object that came since is frozen from now on -/
theorem Gr.frz (g : Gr M F H F' H') (hn : H p = none) (hp : H' p = some o) (hf : F' p = none) : Gr M F H (upd F' p o) H' :=
  ⟨fun b u e => by
    have e' := g.ff b u e
    rw [upd_ne (ne_of_none e' hf)]
    exact e', fun b u e => by
    by_cases hb : b = p
    · subst hb
      rw [upd_same] at e
      rw [hp]
      exact e
    · rw [upd_ne hb] at e
      exact g.fh b u e, g.hh, fun b u e f => by
    rw [upd_ne (ne_of_none e hn)]
    exact g.nw b u e f⟩
theorem Gr.put (g : Gr M F H F' H') (hf : F' p = none) (hM : M p) : Gr M F H F' (upd H' p o) := ⟨g.ff, same_mut g.fh hf, fun b u n e => by
  rw [upd_ne (fun z => n (by rw [z]; exact hM))]
  exact g.hh b u n e, g.nw⟩
theorem Gr.put1 (g : Gr (M1 p) F H F' H') (hf : F' p = none) : Gr (M1 p) F H F' (upd H' p o) := g.put hf rfl
theorem Gr.add (g : Gr M F H F' H') (hn : Fresh H' p) : Gr M F H F' (upd H' p o) := ⟨g.ff, same_new g.fh hn, fun b u n e => by
  have e' := g.hh b u n e
  rw [upd_ne (ne_of_none e' hn)]
  exact e', g.nw⟩
theorem Gr.addF (g : Gr M F H F' H') (hn : Fresh H' p) (hm : ¬ M p) : Gr M F H (upd F' p o) (upd H' p o) := by
  have k := Gr.newF (M := M) (o := o) g.fh hn
  refine ⟨g.ff.trans k.ff, k.fh, fun b u n e => k.hh b u n (g.hh b u n e), fun b u e f => ?_⟩
  have f' := g.nw b u e f
  by_cases hb : b = p
  · subst hb
    rw [Fresh, g.hh b u hm e] at hn
    cases hn
  · rw [upd_ne hb]
    exact f'
theorem Gr.same (g : Gr M0 F H F' H') : Same H H' := fun b o e => g.hh b o (fun z => z) e
/-- a change of what came since -/
theorem Gr.own (g : Gr M F H F' H') (hf : F' p = none) (hn : H p = none) : Gr M F H F' (upd H' p o) := ⟨g.ff, same_mut g.fh hf, fun b u n e => by
  rw [upd_ne (ne_of_none e hn)]
  exact g.hh b u n e, g.nw⟩
theorem Gr.nof (g : Gr M F H F' H') (h : F p = none) (h2 : H p = some o) : F' p = none := g.nw p o h2 h
theorem Gr.fresh (g : Gr M F H F' H') (hn : Fresh H' p) (hM : ∀ b, M b → ∃ o, H' b = some o) : Fresh H p := by
  unfold Fresh at *
  cases e : H p with
  | none => rfl
  | some u =>
    by_cases hb : M p
    · obtain ⟨o', e'⟩ := hM p hb
      rw [hn] at e'
      cases e'
    · rw [g.hh p u hb e] at hn
      cases hn
theorem Gr.fr1 (g : Gr (M1 p) F H F' H') (hp : H' p = some o) (hn : Fresh H' q) : Fresh H q := g.fresh hn fun b hb => ⟨o, by rw [show b = p from hb]; exact hp⟩
theorem Gr.fr0 (g : Gr M0 F H F' H') (hn : Fresh H' q) : Fresh H q := g.fresh hn fun b hb => hb.elim
theorem fresh_ne (hn : Fresh H q) (hp : H p = some o) : q ≠ p := fun e => by
  subst e
  rw [Fresh, hp] at hn
  cases hn
theorem ne_fresh (hn : Fresh H q) (hp : H p = some o) : p ≠ q := (fresh_ne hn hp).symm
theorem fresh_upd (hn : Fresh (upd H p o) q) : Fresh H q ∧ q ≠ p := by
  by_cases e : q = p
  · subst e
    rw [Fresh, upd_same] at hn
    cases hn
  · rw [Fresh, upd_ne e] at hn
    exact ⟨hn, e⟩
theorem fresh_F (h : Same F H) (hn : Fresh H p) : F p = none := by
  cases e : F p with
  | none => rfl
  | some u =>
    rw [Fresh, h p u e] at hn
    cases hn
/-- behind a part that changed p alone, p new since the beginning -/
theorem Gr.drop (g : Gr (M1 p) F H F' H') (hn : H p = none) : Gr M F H F' H' := ⟨g.ff, g.fh, fun b o _ e => g.hh b o (ne_of_none e hn) e, g.nw⟩
theorem Same.seqT (e : Same H H') (h : SqT K H a xs) : SqT K H' a xs := by
  rcases h with (h | ⟨o, h⟩) | h
  · exact .inl (.inl (e _ _ h))
  · exact .inl (.inr ⟨o, e _ _ h⟩)
  · exact .inr h
mutual
theorem Dp.mono (e : Same H H') : ∀ (d : PyData) (v : V), Dp K H v d → Dp K H' v d
  | .none, _, h => by cases h; exact .non
  | .bool _, _, h => by cases h; exact .bl _
  | .int _, _, h => by cases h; exact .int _
  | .str _, _, h => by cases h; exact .str _
  | .list ds, _, h => by
    cases h with
    | lst h1 h2 => exact .lst (e.seq h1) (DpAll.mono e ds _ h2)
  | .tuple ds, _, h => by
    cases h with
    | tup h1 h2 => exact .tup (Same.seqT e h1) (DpAll.mono e ds _ h2)
  | .dict _, _, h => by cases h
theorem DpAll.mono (e : Same H H') : ∀ (ds : List PyData) (vs : List V), DpAll K H vs ds → DpAll K H' vs ds
  | [], _, h => by cases h; exact .nil
  | d :: ds, _, h => by
    cases h with
    | cons h1 h2 => exact .cons (Dp.mono e d _ h1) (DpAll.mono e ds _ h2)
end
end

/-! ### operators of any kind -/
section
variable {X : Cx} {f : Value → Value → Sem Value} {r r' : R2}
def orR (r r' : R2) : R2 := fun x y H Q => r x y H Q ∨ r' x y H Q
theorem op_or2 (h : OpR X f r) (h' : OpR X f r') : OpR X f (orR r r') := fun pins s σ H x y v u Q I rx ry q => q.elim (h pins s σ H x y v u Q I rx ry) (h' pins s σ H x y v u Q I rx ry)
theorem ix_or2 (h : IxR X r) (h' : IxR X r') : IxR X (orR r r') := fun a b pins s σ H x y v u Q I rx ry q => q.elim (h a b pins s σ H x y v u Q I rx ry) (h' a b pins s σ H x y v u Q I rx ry)
def orC (r r' : List V → Hp → VK → Prop) : List V → Hp → VK → Prop := fun xs H Q => r xs H Q ∨ r' xs H Q
theorem cr_or2 {f : Value} {r r' : List V → Hp → VK → Prop} (h : CallR X f r) (h' : CallR X f r') : CallR X f (orC r r') := fun pins s σ H xs us Q I rx q => q.elim (h pins s σ H xs us Q I rx) (h' pins s σ H xs us Q I rx)

def zAddI : R2 := rI0 fun i j => .int (i + j)
def zAddS : R2 := fun x y H Q => ∃ i j, x = .str i ∧ y = .str j ∧ i.length + j.length ≤ sizeLine ∧ Q (.str (i ++ j)) H
def zAdd (K : PySem.W.Frag) : R2 := orR zAddI (orR zAddS (orR rCat (rCatA K)))
theorem op_zAdd : OpR X (binaryOp .Add) (zAdd X.K) := op_or2 op_add (op_or2 op_add_str (op_or2 op_cat op_catA))
def zSub : R2 := rI0 fun i j => .int (i - j)
theorem op_zSub : OpR X (binaryOp .Sub) zSub := op_sub
def zMulI : R2 := rI CMul fun i j => .int (i * j)
def zMulW : R2 := rI CMulW fun i j => .int (i * j)
def zMul : R2 := orR zMulI (orR zMulW rRep)
theorem op_zMul : OpR X (binaryOp .Mult) zMul := op_or2 op_mul (op_or2 op_mulW op_rep)
def zMod : R2 := rI (fun _ j => 0 < j) fun i j => .int (i % j)
theorem op_zMod : OpR X (binaryOp .Mod) zMod := op_mod
def zDivS : R2 := rI CDiv fun i j => .int (i / j)
def zDivW : R2 := rI CDivW fun i j => .int (i / j)
def zDiv : R2 := orR zDivS zDivW
theorem op_zDiv : OpR X (binaryOp .FloorDiv) zDiv := op_or2 op_fdiv op_fdivW
def zPow : R2 := rI CPow fun i j => .int (i ^ j.toNat)
theorem op_zPow : OpR X (binaryOp .Pow) zPow := op_pow
def zShl : R2 := rI CPow fun i j => .int (i * 2 ^ j.toNat)
theorem op_zShl : OpR X (binaryOp .LShift) zShl := op_shl
def zShr : R2 := rI (fun _ j => 0 ≤ j) fun i j => .int (i / 2 ^ j.toNat)
theorem op_zShr : OpR X (binaryOp .RShift) zShr := op_shr
def zAnd : R2 := rI0 fun i j => .int (Builtin.bitAnd i j)
theorem op_zAnd : OpR X (binaryOp .BitAnd) zAnd := op_and
def zOr : R2 := rI0 fun i j => .int (Builtin.bitOr i j)
theorem op_zOr : OpR X (binaryOp .BitOr) zOr := op_or
def zEq (K : PySem.W.Frag) : R2 := orR rEq (rEqD K)
theorem op_zEq (hu : X.A.units + 64 < cLine) : OpR X (compareOp .Eq) (zEq X.K) := op_or2 op_eq (op_eqD hu)
def zNe (K : PySem.W.Frag) : R2 := orR rNe (rNeD K)
theorem op_zNe (hu : X.A.units + 64 < cLine) : OpR X (compareOp .NotEq) (zNe X.K) := op_or2 op_ne (op_neD hu)
def zLtI : R2 := rI0 fun i j => .bl (decide (i < j))
def zLt (K : PySem.W.Frag) : R2 := orR zLtI (rLtT K)
theorem op_zLt (hu : X.A.units < cLine) : OpR X (compareOp .Lt) (zLt X.K) := op_or2 op_lt (op_ltT hu)
def zLe : R2 := rI0 fun i j => .bl (decide (i ≤ j))
theorem op_zLe : OpR X (compareOp .LtE) zLe := op_le
def zGt : R2 := rI0 fun i j => .bl (decide (j < i))
theorem op_zGt : OpR X (compareOp .Gt) zGt := op_gt
def zGe : R2 := rI0 fun i j => .bl (decide (j ≤ i))
theorem op_zGe : OpR X (compareOp .GtE) zGe := op_ge
def zIn (K : PySem.W.Frag) : R2 := orR (rIn K false) (orR (rInD K) fun x y H Q => ∃ i j, x = .str i ∧ y = .str j ∧ Q (.bl (!(Builtin.Str.occurrences j i 0 j.length 1).isEmpty)) H)
theorem op_zIn (hu : X.A.units + 65 < cLine) : OpR X (compareOp .In) (zIn X.K) := op_or2 op_in_seq (op_or2 (op_inD hu) op_in_str)
def zNotIn (K : PySem.W.Frag) : R2 := orR (rIn K true) (orR (rNotInD K) fun x y H Q => ∃ i j, x = .str i ∧ y = .str j ∧ Q (.bl (!(!(Builtin.Str.occurrences j i 0 j.length 1).isEmpty))) H)
theorem op_zNotIn (hu : X.A.units + 65 < cLine) : OpR X (compareOp .NotIn) (zNotIn X.K) := op_or2 op_notIn_seq (op_or2 (op_notInD hu) op_notin_str)
def zIsN : R2 := fun x y H Q => y = .non ∧ Q (.bl (decide (x = .non))) H
theorem op_zIsN : OpR X (compareOp .Is) zIsN := op_isN
def zNotN : R2 := fun x y H Q => y = .non ∧ Q (.bl (!decide (x = .non))) H
theorem op_zNotN : OpR X (compareOp .IsNot) zNotN := op_notN
def zLen (K : PySem.W.Frag) : List V → Hp → VK → Prop := fun xs H Q => ∃ x n, xs = [x] ∧ LenV K x H n ∧ Q (.int n) H
theorem cr_zLen : CallR X (.builtin "len") (zLen X.K) := call_len
def zList (K : PySem.W.Frag) : List V → Hp → VK → Prop := fun xs H Q => ∃ p ys, xs = [.ref p] ∧ (SqL K H p ys ∨ SqT K H p ys) ∧ ∀ l, H l = none → Q (.ref l) (upd H l (.lst ys))
theorem cr_zList : CallR X (.type "list") (zList X.K) := call_list_of
def zTuple (K : PySem.W.Frag) : List V → Hp → VK → Prop := fun xs H Q => ∃ p ys, xs = [.ref p] ∧ ((SqL K H p ys ∧ ∀ l, H l = none → Q (.ref l) (upd H l (.tup ys))) ∨ (SqT K H p ys ∧ Q (.ref p) H))
theorem cr_zTuple : CallR X (.type "tuple") (zTuple X.K) := call_tuple_of
theorem _root_.L2.Room.units65 {k : Nat} {A : Around} (r : Room k A) : A.units + 65 < cLine := by
  have := r.un
  omega
def zInt1 : List V → Hp → VK → Prop := fun xs H Q => (∃ i, xs = [.int i] ∧ Q (.int i) H) ∨ ∃ k, xs = [.bl k] ∧ Q (.int (if k then 1 else 0)) H
def zAbs : List V → Hp → VK → Prop := fun xs H Q => ∃ i, xs = [.int i] ∧ Q (.int (if i < 0 then -i else i)) H
def zMax2 : List V → Hp → VK → Prop := fun xs H Q => ∃ i j, xs = [.int i, .int j] ∧ Q (.int (if j > i then j else i)) H
def zMin2 : List V → Hp → VK → Prop := fun xs H Q => ∃ i j, xs = [.int i, .int j] ∧ Q (.int (if j < i then j else i)) H
def zSl (K : PySem.W.Frag) : V → Option Int → Option Int → Hp → VK → Prop := fun x lo hi H Q => rSlL K x lo hi H Q ∨ rSlA K x lo hi H Q
theorem sl_z : SlR X (zSl X.K) := SlR.or sl_list sl_tupA
def zTru (K : PySem.W.Frag) (ta : TE) : TT := fun σ H Q => ta σ H fun x H' => ∃ k, TruV K x H' k ∧ Q k H'
end

/-! ### one lemma a step -/
section
variable {K : PySem.W.Frag} {σ : St} {H : Hp} {D : Ends} {t u : TS} {ta tb tc te : TE} {c c' : TT} {v w x y z : V} {Q : VK} {QB : Bool → Hp → Prop} {QA : List V → Hp → Prop} {i j : Nat} {r r' : R2} {g : TG} {p q a b : Addr} {xs ys : List V} {tA tR : TA} {m n : Int} {k : Bool}
theorem s_seq (h : t { D with nx := u D } σ H) : tSeq t u D σ H := h
theorem s_asgN (h : te σ H fun v H1 => D.nx (σ.set i (some v)) H1) : tAsg te (gName i) D σ H := h
theorem s_asgS (h : te σ H fun v H1 => ta σ H1 fun o H1 => tb σ H1 fun i H2 => rSetL o i v H2 fun H3 => D.nx σ H3) : tAsg te (gSub ta tb rSetL) D σ H := h
theorem s_asgT {n : Nat} {ts : TGs} (h : te σ H fun v H1 => gTup K n ts v σ H1 D.nx) : tAsg te (gTup K n ts) D σ H := h
theorem s_drop (h : te σ H fun _ H1 => D.nx σ H1) : tDrop te D σ H := h
theorem s_ret (h : te σ H fun v H1 => D.rt v H1) : tRet te D σ H := h
theorem s_retN (h : D.rt .non H) : tRetN D σ H := h
theorem s_ifS (h : c σ H fun b H1 => if b = true then t D σ H1 else u D σ H1) : tIfS c t u D σ H := h
theorem s_next (h : D.nx σ H) : tNext D σ H := h
theorem s_break (h : D.bk σ H) : tBreak D σ H := h
theorem s_cont (h : D.ct σ H) : tCont D σ H := h
theorem s_aug {ti : TIp} (h1 : σ[i]? = some (some x)) (h : te σ H fun y H1 => ti x y H1 fun z H2 => D.nx (σ.set i (some z)) H2) : tAug i te ti D σ H := ⟨x, h1, h⟩
theorem e_var (h1 : σ[i]? = some (some v)) (h : Q v H) : tVar i σ H Q := ⟨v, h1, h⟩
theorem e_c (h : Q v H) : tC v σ H Q := h
theorem e_op (h : ta σ H fun x H1 => tb σ H1 fun y H2 => r x y H2 Q) : tOp r ta tb σ H Q := h
theorem e_un {r : V → Hp → VK → Prop} (h : ta σ H fun x H1 => r x H1 Q) : tUn r ta σ H Q := h
theorem e_chain (h : ta σ H fun x H1 => tb σ H1 fun y H2 => r x y H2 fun z H3 => ∃ k, z = .bl k ∧ (if k = true then tc σ H3 fun w' H4 => r' y w' H4 Q else Q (.bl false) H3)) : tChain r r' ta tb tc σ H Q := h
theorem e_cb {r : List V → Hp → VK → Prop} (h : tA σ H fun vs H1 => r vs H1 Q) : tCB r tA σ H Q := h
theorem e_call {sp : Sp} {E : XK} (h : tA σ H fun vs H1 => sp (vs ++ []) H1 Q E) : tCall sp [] E tA σ H Q := h
theorem a_nil (h : QA [] H) : tNil σ H QA := h
theorem a_cons (h : ta σ H fun x H1 => tR σ H1 fun xs H2 => QA (x :: xs) H2) : tCons ta tR σ H QA := h
theorem e_if (h : c σ H fun b H1 => if b = true then ta σ H1 Q else tb σ H1 Q) : tIf c ta tb σ H Q := h
theorem e_andV (h : ta σ H fun x H1 => ∃ c, x = .bl c ∧ if c = true then tb σ H1 Q else Q (.bl false) H1) : tAndV ta tb σ H Q := h
theorem e_orV (h : ta σ H fun x H1 => ∃ c, x = .bl c ∧ if c = true then Q (.bl true) H1 else tb σ H1 Q) : tOrV ta tb σ H Q := h
theorem e_notV (h : ta σ H fun x H1 => ∃ c, x = .bl c ∧ Q (.bl (!c)) H1) : tNotV ta σ H Q := h
theorem c_test (h : ta σ H fun x H1 => ∃ k, x = .bl k ∧ QB k H1) : tTest ta σ H QB := h
theorem c_B (h : ta σ H fun x H1 => ∃ k, x = .bl k ∧ QB k H1) : tB ta σ H QB := h
theorem c_and (h : c σ H fun b H1 => if b = true then c' σ H1 QB else QB false H1) : tAnd c c' σ H QB := h
theorem c_or (h : c σ H fun b H1 => if b = true then QB true H1 else c' σ H1 QB) : tOr c c' σ H QB := h
theorem c_not (h : c σ H fun b H1 => QB (!b) H1) : tNot c σ H QB := h
theorem c_tru (h : ta σ H fun x H' => ∃ k, TruV K x H' k ∧ QB k H') : zTru K ta σ H QB := h
theorem bl_ (h : QB k H) : ∃ k', V.bl k = .bl k' ∧ QB k' H := ⟨k, rfl, h⟩
theorem if_dec {p A B : Prop} {_inst : Decidable p} (h1 : p → A) (h2 : ¬ p → B) : if decide p = true then A else B := by
  by_cases h : p
  · rw [decide_eq_true h]
    exact iteT (h1 h)
  · rw [decide_eq_false h]
    exact iteF (h2 h)
theorem if_ndec {p A B : Prop} {_inst : Decidable p} (h1 : ¬ p → A) (h2 : p → B) : if (!decide p) = true then A else B := by
  by_cases h : p
  · rw [decide_eq_true h]
    exact iteF (h2 h)
  · rw [decide_eq_false h]
    exact iteT (h1 h)
theorem if_t {p A B : Prop} {_inst : Decidable p} (h : p) (h1 : A) : if decide p = true then A else B := if_dec (fun _ => h1) fun z => absurd h z
theorem if_f {p A B : Prop} {_inst : Decidable p} (h : ¬ p) (h1 : B) : if decide p = true then A else B := if_dec (fun z => absurd z h) fun _ => h1
theorem if_nt {p A B : Prop} {_inst : Decidable p} (h : ¬ p) (h1 : A) : if (!decide p) = true then A else B := if_ndec (fun _ => h1) fun z => absurd z h
theorem if_nf {p A B : Prop} {_inst : Decidable p} (h : p) (h1 : B) : if (!decide p) = true then A else B := if_ndec (fun z => absurd h z) fun _ => h1
theorem ref_ne {a : Addr} : ¬ (V.ref a = V.non) := fun h => by cases h
theorem int_ne {i : Int} : ¬ (V.int i = V.non) := fun h => by cases h
theorem str_ne {z : Str} : ¬ (V.str z = V.non) := fun h => by cases h
theorem if_b {b : Bool} {A B : Prop} (h1 : b = true → A) (h2 : b = false → B) : if b = true then A else B := by
  cases b with
  | true => exact iteT (h1 rfl)
  | false => exact iteF (h2 rfl)
theorem if_nb {b : Bool} {A B : Prop} (h1 : b = false → A) (h2 : b = true → B) : if (!b) = true then A else B := by
  cases b with
  | true => exact iteF (h2 rfl)
  | false => exact iteT (h1 rfl)
theorem iteNT {A B : Prop} (h : B) : if (!true) = true then A else B := iteF h
theorem iteNF {A B : Prop} (h : A) : if (!false) = true then A else B := iteT h
theorem o_isNr {a : Addr} {H : Hp} {Q : VK} (h : Q (.bl false) H) : zIsN (.ref a) .non H Q := ⟨rfl, h⟩
theorem o_isNi {i : Int} {H : Hp} {Q : VK} (h : Q (.bl false) H) : zIsN (.int i) .non H Q := ⟨rfl, h⟩
theorem o_isNs {i : Str} {H : Hp} {Q : VK} (h : Q (.bl false) H) : zIsN (.str i) .non H Q := ⟨rfl, h⟩
theorem o_isNn {H : Hp} {Q : VK} (h : Q (.bl true) H) : zIsN .non .non H Q := ⟨rfl, h⟩
theorem o_notNr {a : Addr} {H : Hp} {Q : VK} (h : Q (.bl true) H) : zNotN (.ref a) .non H Q := ⟨rfl, h⟩
theorem o_notNi {i : Int} {H : Hp} {Q : VK} (h : Q (.bl true) H) : zNotN (.int i) .non H Q := ⟨rfl, h⟩
theorem o_notNs {i : Str} {H : Hp} {Q : VK} (h : Q (.bl true) H) : zNotN (.str i) .non H Q := ⟨rfl, h⟩
theorem o_notNn {H : Hp} {Q : VK} (h : Q (.bl false) H) : zNotN .non .non H Q := ⟨rfl, h⟩
theorem t_bl {K : PySem.W.Frag} {b : Bool} {H : Hp} {QB : Bool → Hp → Prop} (h : QB b H) : ∃ k, TruV K (.bl b) H k ∧ QB k H := ⟨b, rfl, h⟩
theorem t_int {K : PySem.W.Frag} {i : Int} {H : Hp} {QB : Bool → Hp → Prop} (h : QB (i != 0) H) : ∃ k, TruV K (.int i) H k ∧ QB k H := ⟨_, rfl, h⟩
theorem t_lst {K : PySem.W.Frag} {a : Addr} {xs : List V} {H : Hp} {QB : Bool → Hp → Prop} (hs : SqL K H a xs) (h : QB (!xs.isEmpty) H) : ∃ k, TruV K (.ref a) H k ∧ QB k H := ⟨_, .inl ⟨xs, hs, rfl⟩, h⟩
theorem bl_if {k : Bool} {P : Bool → Prop} (h : P k) : ∃ k', V.bl k = .bl k' ∧ P k' := ⟨k, rfl, h⟩
theorem e_tup (h : tA σ H fun xs H1 => xs.length ≤ sizeLine ∧ ∀ p, H1 p = none → Q (.ref p) (upd H1 p (.tup xs))) : tTup tA σ H Q := h
theorem e_lst (h : tA σ H fun xs H1 => xs.length ≤ sizeLine ∧ ∀ p, H1 p = none → Q (.ref p) (upd H1 p (.lst xs))) : tLst tA σ H Q := h
theorem g_tup {n : Nat} {ts : TGs} {QS : St → Hp → Prop} (h : SqT K H a xs) (hn : xs.length = n) (k : ts xs σ H QS) : gTup K n ts (.ref a) σ H QS := ⟨a, xs, rfl, h, hn, k⟩
theorem g_name {QS : St → Hp → Prop} (h : QS (σ.set i (some v)) H) : gName i v σ H QS := h
theorem g_cons {ts : TGs} {QS : St → Hp → Prop} (h : g v σ H fun σ' H' => ts xs σ' H' QS) : gCons g ts (v :: xs) σ H QS := ⟨v, xs, rfl, h⟩
theorem g_nil {QS : St → Hp → Prop} (h : QS σ H) : gNil [] σ H QS := ⟨rfl, h⟩
-- operators by values
theorem o_add (h : Q (.int (m + n)) H) : zAdd K (.int m) (.int n) H Q := .inl ⟨m, n, rfl, rfl, h⟩
theorem o_addS {m n : Str} (hl : m.length + n.length ≤ sizeLine) (h : Q (.str (m ++ n)) H) : zAdd K (.str m) (.str n) H Q := .inr (.inl ⟨m, n, rfl, rfl, hl, h⟩)
theorem o_addL (ha : H a = some (.lst xs)) (hb : H b = some (.lst ys)) (hl : xs.length + ys.length ≤ sizeLine) (h : ∀ p, Fresh H p → Q (.ref p) (upd H p (.lst (xs ++ ys)))) : zAdd K (.ref a) (.ref b) H Q := .inr (.inr (.inl ⟨a, b, xs, ys, rfl, rfl, ha, hb, hl, h⟩))
theorem o_addT (ha : SqT K H a xs) (hb : SqT K H b ys) (hl : xs.length + ys.length ≤ sizeLine) (h1 : xs = [] → Q (.ref b) H) (h2 : xs ≠ [] → ys = [] → Q (.ref a) H) (h : xs ≠ [] → ys ≠ [] → ∀ p, Fresh H p → Q (.ref p) (upd H p (.tup (xs ++ ys)))) :
    zAdd K (.ref a) (.ref b) H Q := .inr (.inr (.inr ⟨a, b, xs, ys, rfl, rfl, ha, hb, hl, h1, h2, h⟩))
theorem o_sub (h : Q (.int (m - n)) H) : zSub (.int m) (.int n) H Q := ⟨m, n, rfl, rfl, h⟩
theorem o_mul (hc : CMul m n) (h : Q (.int (m * n)) H) : zMul (.int m) (.int n) H Q := .inl ⟨m, n, rfl, rfl, hc, h⟩
theorem o_mulW (hc : CMulW m n) (h : Q (.int (m * n)) H) : zMul (.int m) (.int n) H Q := .inr (.inl ⟨m, n, rfl, rfl, hc, h⟩)
theorem o_rep (ha : H a = some (.lst xs)) (h1 : -(2 ^ 63) ≤ n) (h2 : n < 2 ^ 63) (hl : xs.length * n.toNat ≤ sizeLine) (h : rRep (.ref a) (.int n) H Q) : zMul (.ref a) (.int n) H Q := .inr (.inr h)
theorem o_mod (hc : 0 < n) (h : Q (.int (m % n)) H) : zMod (.int m) (.int n) H Q := ⟨m, n, rfl, rfl, hc, h⟩
theorem o_div (hc : 0 < n) (hn : n < 1073741824) (h : Q (.int (m / n)) H) : zDiv (.int m) (.int n) H Q := .inl ⟨m, n, rfl, rfl, ⟨hc, hn⟩, h⟩
theorem o_divW (hc : CDivW m n) (h : Q (.int (m / n)) H) : zDiv (.int m) (.int n) H Q := .inr ⟨m, n, rfl, rfl, hc, h⟩
theorem o_pow (hc : CPow m n) (h : Q (.int (m ^ n.toNat)) H) : zPow (.int m) (.int n) H Q := ⟨m, n, rfl, rfl, hc, h⟩
theorem o_lt (h : Q (.bl (decide (m < n))) H) : zLt K (.int m) (.int n) H Q := .inl ⟨m, n, rfl, rfl, h⟩
theorem o_ltT {ms ns : List Int} (ha : SqT K H a (ms.map V.int)) (hb : SqT K H b (ns.map V.int)) (h : Q (.bl (HT.lexLt ms ns)) H) : zLt K (.ref a) (.ref b) H Q := .inr ⟨a, b, ms, ns, rfl, rfl, ha, hb, h⟩
theorem o_le (h : Q (.bl (decide (m ≤ n))) H) : zLe (.int m) (.int n) H Q := ⟨m, n, rfl, rfl, h⟩
theorem o_gt (h : Q (.bl (decide (n < m))) H) : zGt (.int m) (.int n) H Q := ⟨m, n, rfl, rfl, h⟩
theorem o_ge (h : Q (.bl (decide (n ≤ m))) H) : zGe (.int m) (.int n) H Q := ⟨m, n, rfl, rfl, h⟩
theorem o_eq (hs : scal x y = true) (h : Q (.bl (decide (x = y))) H) : zEq K x y H Q := .inl ⟨hs, h⟩
theorem o_ne (hs : scal x y = true) (h : Q (.bl (!decide (x = y))) H) : zNe K x y H Q := .inl ⟨hs, h⟩
theorem o_eqI (h : Q (.bl (decide (m = n))) H) : zEq K (.int m) (.int n) H Q := .inl ⟨rfl, (decide_eq_decide.mpr ⟨fun e => V.int.inj e, fun e => by rw [e]⟩ : decide (V.int m = V.int n) = decide (m = n)) ▸ h⟩
theorem o_neI (h : Q (.bl (!decide (m = n))) H) : zNe K (.int m) (.int n) H Q := .inl ⟨rfl, (decide_eq_decide.mpr ⟨fun e => V.int.inj e, fun e => by rw [e]⟩ : decide (V.int m = V.int n) = decide (m = n)) ▸ h⟩
theorem o_eqD {d e : PyData} (hx : Dp K H x d) (hy : Dp K H y e) (sd : SeqAt.shaped d = true) (se : SeqAt.shaped e = true) (h : Q (.bl (PyData.eqv d e)) H) : zEq K x y H Q := .inr ⟨d, e, hx, hy, sd, se, h⟩
theorem o_neD {d e : PyData} (hx : Dp K H x d) (hy : Dp K H y e) (sd : SeqAt.shaped d = true) (se : SeqAt.shaped e = true) (h : Q (.bl (!PyData.eqv d e)) H) : zNe K x y H Q := .inr ⟨d, e, hx, hy, sd, se, h⟩
theorem o_isN (h : Q (.bl (decide (x = .non))) H) : zIsN x .non H Q := ⟨rfl, h⟩
theorem o_notN (h : Q (.bl (!decide (x = .non))) H) : zNotN x .non H Q := ⟨rfl, h⟩
theorem o_neg (h : Q (.int (-m)) H) : rU (fun i => .int (-i)) (.int m) H Q := ⟨m, rfl, h⟩
theorem o_ixL (hl : SqL K H a xs) (hi : atI xs m = some v) (h : Q v H) : rIx K (.ref a) (.int m) H Q := .inl ⟨a, xs, m, v, rfl, rfl, hl, hi, h⟩
theorem o_ixT (hl : SqT K H a xs) (hi : atI xs m = some v) (h : Q v H) : rIx K (.ref a) (.int m) H Q := .inr (.inl ⟨a, xs, m, v, rfl, rfl, hl, hi, h⟩)
theorem o_setL (hl : H a = some (.lst xs)) (hi : ixN xs.length m = some j) {QH : Hp → Prop} (h : QH (upd H a (.lst (xs.set j v)))) : rSetL (.ref a) (.int m) v H QH := ⟨a, xs, m, j, rfl, rfl, hl, hi, h⟩
theorem o_lenL (hl : SqL K H a xs) (h : Q (.int xs.length) H) : zLen K [.ref a] H Q := ⟨_, _, rfl, .inl ⟨xs, hl, rfl⟩, h⟩
theorem o_lenT (hl : SqT K H a xs) (h : Q (.int xs.length) H) : zLen K [.ref a] H Q := ⟨_, _, rfl, .inr ⟨xs, hl, rfl⟩, h⟩
theorem o_lenS {m : Str} (hl : m.length ≤ sizeLine) (h : Q (.int m.length) H) : zLen K [.str m] H Q := ⟨_, _, rfl, ⟨hl, rfl⟩, h⟩
theorem o_listL (hl : SqL K H a xs) (h : ∀ p, Fresh H p → Q (.ref p) (upd H p (.lst xs))) : zList K [.ref a] H Q := ⟨a, xs, rfl, .inl hl, h⟩
theorem o_listT (hl : SqT K H a xs) (h : ∀ p, Fresh H p → Q (.ref p) (upd H p (.lst xs))) : zList K [.ref a] H Q := ⟨a, xs, rfl, .inr hl, h⟩
theorem o_tupleL (hl : SqL K H a xs) (h : ∀ p, Fresh H p → Q (.ref p) (upd H p (.tup xs))) : zTuple K [.ref a] H Q := ⟨a, xs, rfl, .inl ⟨hl, h⟩⟩
theorem o_tupleT (hl : SqT K H a xs) (h : Q (.ref a) H) : zTuple K [.ref a] H Q := ⟨a, xs, rfl, .inr ⟨hl, h⟩⟩
theorem o_sum {ns : List Int} (hl : SqL K H a (ns.map V.int)) (h : Q (.int ns.sum) H) : rSum K [.ref a] H Q := ⟨a, ns, rfl, hl, h⟩
theorem o_ipI {f : Int → Int → Int} (h : Q (.int (f m n)) H) : ipI f (.int m) (.int n) H Q := ⟨m, n, rfl, rfl, h⟩
theorem m_app (hl : H a = some (.lst xs)) (hz : xs.length < sizeLine) (h : Q .non (upd H a (.lst (xs ++ [v])))) : rAppend (.ref a) [v] H Q := ⟨a, xs, v, rfl, rfl, hl, hz, h⟩
theorem e_bm {T : String} {r : V → List V → Hp → VK → Prop} (h : ta σ H fun x H1 => tyV K T x H1 ∧ tA σ H1 fun xs H2 => r x xs H2 Q) : tBM K T r ta tA σ H Q := h
theorem e_bm0 {T : String} {r : V → List V → Hp → VK → Prop} (h : ta σ H fun x H1 => tyV K T x H1 ∧ r x [] H1 Q) : tBM0 K T r ta σ H Q := h
theorem ty_list (hl : SqL K H a xs) : tyV K "list" (.ref a) H := .inl ⟨rfl, xs, hl⟩
-- loops
def LpW (J : It) (g : TG) (t : TS) (D : Ends) (σ : St) (H : Hp) : Prop := ∃ W : Nat → Nat → St → Hp → Prop, (∃ m, W 0 m σ H) ∧ ∀ i m σ' H', W i m σ' H' →
  (J.stop i H' ∧ D.nx σ' H') ∨ (J.go i H' ∧ ∃ N : St → Hp → Prop, (∀ σ2 H2, N σ2 H2 → ∃ m', m' < m ∧ W (i + 1) m' σ2 H2) ∧ ∀ x H2, J.yld i H' x H2 → g x σ' H2 fun σ3 H3 => t { D with nx := N, ct := N, bk := D.nx } σ3 H3)
def LpL (K : PySem.W.Frag) (g : TG) (t : TS) (D : Ends) (σ : St) (x : V) (H : Hp) : Prop := ∃ a, x = .ref a ∧ (∃ xs, SqL K H a xs) ∧ LpW (Itl K a) g t D σ H
def LpT (K : PySem.W.Frag) (g : TG) (t : TS) (D : Ends) (σ : St) (x : V) (H : Hp) : Prop := ∃ a, x = .ref a ∧ (∃ xs, SqT K H a xs) ∧ LpW (Itt K a) g t D σ H
def LpR1 (g : TG) (t : TS) (D : Ends) (σ : St) (x : V) (H : Hp) : Prop := ∃ j : Int, [x] = [V.int j] ∧ -(2 ^ 62) ≤ j ∧ j < 2 ^ 62 ∧ LpW (Itr 0 j.toNat) g t D σ H
def LpR2 (g : TG) (t : TS) (D : Ends) (σ : St) (x y : V) (H : Hp) : Prop := ∃ i j : Int, [x, y] = [V.int i, V.int j] ∧ (-(2 ^ 62) ≤ i ∧ i < 2 ^ 62 ∧ -(2 ^ 62) ≤ j ∧ j < 2 ^ 62) ∧ LpW (Itr i (j - i).toNat) g t D σ H
def LpE (K : PySem.W.Frag) (g : TG) (t : TS) (D : Ends) (σ : St) (x : V) (H : Hp) : Prop := ∃ a xs, [x] = [V.ref a] ∧ SqL K H a xs ∧ LpW (Ite K a) g t D σ H
theorem s_forL (h : ta σ H fun x H1 => LpL K g t D σ x H1) : tFor (iList K ta) g t D σ H := h
theorem s_forT (h : ta σ H fun x H1 => LpT K g t D σ x H1) : tFor (iTup K ta) g t D σ H := h
theorem s_forR1 (h : ta σ H fun x H1 => LpR1 g t D σ x H1) : tFor (iRng1 (tCons ta tNil)) g t D σ H := h
theorem s_forR2 (h : ta σ H fun x H1 => tb σ H1 fun y H2 => LpR2 g t D σ x y H2) : tFor (iRng2 (tCons ta (tCons tb tNil))) g t D σ H := h
theorem s_forE (h : ta σ H fun x H1 => LpE K g t D σ x H1) : tFor (iEnum K (tCons ta tNil)) g t D σ H := h
theorem lp_list (hs : SqL K H a xs) (Pv : Nat → St → Hp → Prop) (h0 : Pv 0 σ H) (hl : ∀ i σ' H', i ≤ xs.length → Pv i σ' H' → SqL K H' a xs)
    (hb : ∀ i x σ' H', xs[i]? = some x → Pv i σ' H' → g x σ' H' fun σ2 H2 => t { D with nx := Pv (i + 1), ct := Pv (i + 1), bk := D.nx } σ2 H2) (hd : ∀ σ' H', Pv xs.length σ' H' → D.nx σ' H') : LpL K g t D σ (.ref a) H :=
  ⟨a, rfl, ⟨xs, hs⟩, for_list Pv h0 hl hb hd⟩
theorem lp_tup (hs : SqT K H a xs) (Pv : Nat → St → Hp → Prop) (h0 : Pv 0 σ H) (hl : ∀ i σ' H', i ≤ xs.length → Pv i σ' H' → SqT K H' a xs)
    (hb : ∀ i x σ' H', xs[i]? = some x → Pv i σ' H' → g x σ' H' fun σ2 H2 => t { D with nx := Pv (i + 1), ct := Pv (i + 1), bk := D.nx } σ2 H2) (hd : ∀ σ' H', Pv xs.length σ' H' → D.nx σ' H') : LpT K g t D σ (.ref a) H :=
  ⟨a, rfl, ⟨xs, hs⟩, for_tup Pv h0 hl hb hd⟩
theorem lp_range1 (hr : -(2 ^ 62) ≤ n ∧ n < 2 ^ 62) (Pv : Nat → St → Hp → Prop) (h0 : Pv 0 σ H)
    (hb : ∀ (i : Nat) σ' H', (i : Int) < n → Pv i σ' H' → g (.int (i : Int)) σ' H' fun σ2 H2 => t { D with nx := Pv (i + 1), ct := Pv (i + 1), bk := D.nx } σ2 H2) (hd : ∀ σ' H', Pv n.toNat σ' H' → D.nx σ' H') : LpR1 g t D σ (.int n) H :=
  ⟨n, rfl, hr.1, hr.2, for_range (lo := 0) Pv h0 (fun i σ' H' hi p => by
    have e : (0 : Int) + (i : Int) = (i : Int) := Int.zero_add _
    rw [e]
    exact hb i σ' H' (by omega) p) hd⟩
theorem lp_range2 (hr : -(2 ^ 62) ≤ m ∧ m < 2 ^ 62 ∧ -(2 ^ 62) ≤ n ∧ n < 2 ^ 62) (Pv : Nat → St → Hp → Prop) (h0 : Pv 0 σ H)
    (hb : ∀ (i : Nat) σ' H', m + (i : Int) < n → Pv i σ' H' → g (.int (m + i)) σ' H' fun σ2 H2 => t { D with nx := Pv (i + 1), ct := Pv (i + 1), bk := D.nx } σ2 H2) (hd : ∀ σ' H', Pv (n - m).toNat σ' H' → D.nx σ' H') : LpR2 g t D σ (.int m) (.int n) H :=
  ⟨m, n, rfl, hr, for_range Pv h0 (fun i σ' H' hi p => hb i σ' H' (by
    have h : i < (n - m).toNat := hi
    omega) p) hd⟩
theorem lp_enum (hs : SqL K H a xs) (Pv : Nat → St → Hp → Prop) (h0 : Pv 0 σ H) (hl : ∀ i σ' H', i ≤ xs.length → Pv i σ' H' → SqL K H' a xs)
    (hb : ∀ i x σ' H' q, xs[i]? = some x → Pv i σ' H' → Fresh H' q → g (.ref q) σ' (upd H' q (.tup [.int (i : Int), x])) fun σ2 H2 => t { D with nx := Pv (i + 1), ct := Pv (i + 1), bk := D.nx } σ2 H2)
    (hd : ∀ σ' H', Pv xs.length σ' H' → D.nx σ' H') : LpE K g t D σ (.ref a) H := by
  refine ⟨a, xs, rfl, hs, fun i m σ' H' => m = xs.length - i ∧ i ≤ xs.length ∧ Pv i σ' H', ⟨xs.length, by simp, Nat.zero_le _, h0⟩, ?_⟩
  rintro i m σ' H' ⟨rfl, hi, pv⟩
  have sq := hl i σ' H' hi pv
  by_cases c : i < xs.length
  · refine .inr ⟨⟨xs, xs[i], sq, List.getElem?_eq_getElem c⟩, Pv (i + 1), fun σ2 H2 p2 => ⟨xs.length - (i + 1), by omega, rfl, c, p2⟩, fun x H2 y => ?_⟩
    obtain ⟨q, z, rfl, nq, rfl, f⟩ := y
    exact hb i z σ' H' q (f xs sq) pv nq
  · have e : i = xs.length := by omega
    subst e
    exact .inl ⟨⟨xs, sq, Nat.le_refl _⟩, hd σ' H' pv⟩
end

end Z

/-! Zd: plain data (no truth, no dict): == is equality; tuples of ints. -/
namespace Z
open PySem PySem.Spec L2
open PyProof.Rows hiding St
mutual
def nob : PyData → Bool
  | .none | .int _ | .str _ => true
  | .bool _ | .dict _ => false
  | .list xs | .tuple xs => nobAll xs
def nobAll : List PyData → Bool
  | [] => true
  | x :: xs => nob x && nobAll xs
end
structure Pl (n : Nat) (d : PyData) : Prop where
  lay : d.canLay0 = true
  dep : d.depth ≤ n
  nob : nob d = true
theorem all_iff {f : PyData → Bool} {g : List PyData → Bool} (h0 : g [] = true) (h1 : ∀ x xs, g (x :: xs) = (f x && g xs)) : ∀ xs, (∀ x ∈ xs, f x = true) → g xs = true
  | [], _ => h0
  | x :: xs, h => by
    rw [h1, h x List.mem_cons_self, all_iff h0 h1 xs fun y hy => h y (List.mem_cons_of_mem _ hy)]
    rfl
theorem depthAll_le {n : Nat} : ∀ xs : List PyData, (∀ x ∈ xs, x.depth ≤ n) → PyData.depthAll xs ≤ n
  | [], _ => Nat.zero_le _
  | x :: xs, h => by
    show max x.depth (PyData.depthAll xs) ≤ n
    have a := h x List.mem_cons_self
    have b := depthAll_le xs fun y hy => h y (List.mem_cons_of_mem _ hy)
    omega
theorem pl_none {n : Nat} : Pl n .none := ⟨rfl, Nat.zero_le _, rfl⟩
theorem pl_int {n : Nat} {i : Int} : Pl n (.int i) := ⟨rfl, Nat.zero_le _, rfl⟩
theorem pl_str {n : Nat} {x : Str} (h : PyData.canLay0 (.str x) = true := by decide +kernel) : Pl n (.str x) := ⟨h, Nat.zero_le _, rfl⟩
theorem pl_tup {n : Nat} {ds : List PyData} (h : ∀ d ∈ ds, Pl n d) : Pl (n + 1) (.tuple ds) :=
  ⟨all_iff (f := PyData.canLay0) (g := PyData.canLayAll0) rfl (fun _ _ => rfl) ds fun d hd => (h d hd).lay, Nat.succ_le_succ (depthAll_le ds fun d hd => (h d hd).dep), all_iff (f := nob) (g := nobAll) rfl (fun _ _ => rfl) ds fun d hd => (h d hd).nob⟩
theorem pl_lst {n : Nat} {ds : List PyData} (h : ∀ d ∈ ds, Pl n d) : Pl (n + 1) (.list ds) :=
  ⟨all_iff (f := PyData.canLay0) (g := PyData.canLayAll0) rfl (fun _ _ => rfl) ds fun d hd => (h d hd).lay, Nat.succ_le_succ (depthAll_le ds fun d hd => (h d hd).dep), all_iff (f := nob) (g := nobAll) rfl (fun _ _ => rfl) ds fun d hd => (h d hd).nob⟩
theorem Pl.shaped {n : Nat} {d : PyData} (h : Pl n d) (hn : n ≤ 64) : SeqAt.shaped d = true := by
  unfold SeqAt.shaped
  rw [h.lay, Bool.true_and]
  exact decide_eq_true (Nat.le_trans h.dep hn)
mutual
theorem eqv_iff : ∀ d e : PyData, nob d = true → nob e = true → (PyData.eqv d e = true ↔ d = e)
  | .none, e, _, he => by cases e <;> simp_all [PyData.eqv, nob]
  | .bool _, _, hd, _ => by cases hd
  | .int i, e, _, he => by cases e <;> simp_all [PyData.eqv, nob]
  | .str x, e, _, he => by cases e <;> simp_all [PyData.eqv, nob]
  | .list xs, e, hd, he => by
    cases e with
    | list ys =>
      have h := eqvAll_iff xs ys hd he
      show PyData.eqvAll xs ys = true ↔ _
      rw [h]
      exact ⟨fun z => by rw [z], fun z => by cases z; rfl⟩
    | bool _ => cases he
    | dict _ => cases he
    | none => simp [PyData.eqv]
    | int _ => simp [PyData.eqv]
    | str _ => simp [PyData.eqv]
    | tuple _ => simp [PyData.eqv]
  | .tuple xs, e, hd, he => by
    cases e with
    | tuple ys =>
      have h := eqvAll_iff xs ys hd he
      show PyData.eqvAll xs ys = true ↔ _
      rw [h]
      exact ⟨fun z => by rw [z], fun z => by cases z; rfl⟩
    | bool _ => cases he
    | dict _ => cases he
    | none => simp [PyData.eqv]
    | int _ => simp [PyData.eqv]
    | str _ => simp [PyData.eqv]
    | list _ => simp [PyData.eqv]
  | .dict _, _, hd, _ => by cases hd
theorem eqvAll_iff : ∀ xs ys : List PyData, nobAll xs = true → nobAll ys = true → (PyData.eqvAll xs ys = true ↔ xs = ys)
  | [], [], _, _ => by simp [PyData.eqvAll]
  | [], _ :: _, _, _ => by simp [PyData.eqvAll]
  | _ :: _, [], _, _ => by simp [PyData.eqvAll]
  | x :: xs, y :: ys, h1, h2 => by
    have a := Bool.and_eq_true_iff.mp (show (nob x && nobAll xs) = true from h1)
    have b := Bool.and_eq_true_iff.mp (show (nob y && nobAll ys) = true from h2)
    show (PyData.eqv x y && PyData.eqvAll xs ys) = true ↔ _
    rw [Bool.and_eq_true_iff, eqv_iff x y a.1 b.1, eqvAll_iff xs ys a.2 b.2, List.cons.injEq]
end
theorem Pl.eqv {n m : Nat} {d e : PyData} (a : Pl n d) (b : Pl m e) {p : Prop} [Decidable p] (h : d = e ↔ p) : PyData.eqv d e = decide p := by
  have q := (eqv_iff d e a.nob b.nob).trans h
  by_cases hp : p
  · rw [decide_eq_true hp]
    exact q.mpr hp
  · rw [decide_eq_false hp]
    exact Bool.eq_false_iff.mpr fun z => hp (q.mp z)
theorem Pl.refl {n : Nat} {d : PyData} (a : Pl n d) : PyData.eqv d d = true := (eqv_iff d d a.nob a.nob).mpr rfl

/-! ### tuples of ints -/
abbrev dI (ns : List Int) : PyData := .tuple (ns.map .int)
abbrev dLI (dss : List (List Int)) : PyData := .list (dss.map dI)
theorem pl_dI {ns : List Int} : Pl 1 (dI ns) := pl_tup fun d hd => by
  obtain ⟨i, _, rfl⟩ := List.mem_map.mp hd
  exact pl_int
theorem pl_dLI {dss : List (List Int)} : Pl 2 (dLI dss) := pl_lst fun d hd => by
  obtain ⟨i, _, rfl⟩ := List.mem_map.mp hd
  exact pl_dI
theorem map_int_inj : ∀ {a b : List Int}, a.map PyData.int = b.map PyData.int → a = b
  | [], [], _ => rfl
  | [], _ :: _, h => by cases h
  | _ :: _, [], h => by cases h
  | x :: a, y :: b, h => by
    rw [List.map_cons, List.map_cons, List.cons.injEq] at h
    rw [PyData.int.inj h.1, map_int_inj h.2]
theorem dI_inj {a b : List Int} : dI a = dI b ↔ a = b := ⟨fun h => map_int_inj (PyData.tuple.inj h), fun h => by rw [h]⟩
theorem map_V_inj : ∀ {a b : List Int}, a.map V.int = b.map V.int → a = b
  | [], [], _ => rfl
  | [], _ :: _, h => by cases h
  | _ :: _, [], h => by cases h
  | x :: a, y :: b, h => by
    rw [List.map_cons, List.map_cons, List.cons.injEq] at h
    rw [V.int.inj h.1, map_V_inj h.2]
section
variable {K : PySem.W.Frag} {H H' F : Hp}
theorem dpAll_ints : ∀ ns : List Int, DpAll K H (ns.map V.int) (ns.map PyData.int)
  | [] => .nil
  | n :: ns => .cons (.int n) (dpAll_ints ns)
/-- v is a tuple of the ints ns -/
def TI (H : Hp) (v : V) (ns : List Int) : Prop := ∃ t, v = .ref t ∧ H t = some (.tup (ns.map V.int))
theorem TI.mono (e : Same H H') {v : V} {ns : List Int} (h : TI H v ns) : TI H' v ns := by
  obtain ⟨t, rfl, h⟩ := h
  exact ⟨t, rfl, e _ _ h⟩
theorem TI.dp {v : V} {ns : List Int} (h : TI H v ns) : Dp K H v (dI ns) := by
  obtain ⟨t, rfl, h⟩ := h
  exact .tup (SqT.of h) (dpAll_ints ns)
abbrev TIs (H : Hp) : List V → List (List Int) → Prop := Paired (TI H)
theorem TIs.mono (e : Same H H') {vs : List V} {nss : List (List Int)} (h : TIs H vs nss) : TIs H' vs nss := Paired.mono (fun _ _ => TI.mono e) h
theorem TIs.dp : ∀ {vs : List V} {nss : List (List Int)}, TIs H vs nss → DpAll K H vs (nss.map dI)
  | _, _, .nil => .nil
  | _, _, .cons h t => .cons h.dp (TIs.dp t)
theorem TIs.get : ∀ {vs : List V} {nss : List (List Int)} {i : Nat} {v : V}, TIs H vs nss → vs[i]? = some v → ∃ ns, nss[i]? = some ns ∧ TI H v ns
  | _, _, 0, _, .cons h _, e => by
    rw [List.getElem?_cons_zero] at e
    cases e
    exact ⟨_, rfl, h⟩
  | _, _, i + 1, _, .cons _ t, e => by
    rw [List.getElem?_cons_succ] at e ⊢
    exact TIs.get t e
theorem TIs.app {vs ws : List V} {nss mss : List (List Int)} (h : TIs H vs nss) (k : TIs H ws mss) : TIs H (vs ++ ws) (nss ++ mss) := by
  induction h with
  | nil => exact k
  | cons a _ ih => exact .cons a ih
theorem TIs.take : ∀ {vs : List V} {nss : List (List Int)} (n : Nat), TIs H vs nss → TIs H (vs.take n) (nss.take n)
  | _, _, 0, _ => .nil
  | _, _, _ + 1, .nil => .nil
  | _, _, n + 1, .cons h t => .cons h (TIs.take n t)
theorem TIs.drop : ∀ {vs : List V} {nss : List (List Int)} (n : Nat), TIs H vs nss → TIs H (vs.drop n) (nss.drop n)
  | _, _, 0, h => h
  | _, _, _ + 1, .nil => .nil
  | _, _, n + 1, .cons _ t => TIs.drop n t
theorem TIs.set {v : V} {ns : List Int} (h : TI H v ns) : ∀ {vs : List V} {nss : List (List Int)} (i : Nat), TIs H vs nss → TIs H (vs.set i v) (nss.set i ns)
  | _, _, _, .nil => .nil
  | _, _, 0, .cons _ t => .cons h t
  | _, _, i + 1, .cons a t => .cons a (TIs.set h i t)
theorem TIs.erase : ∀ {vs : List V} {nss : List (List Int)} (i : Nat), TIs H vs nss → TIs H (vs.eraseIdx i) (nss.eraseIdx i)
  | _, _, _, .nil => .nil
  | _, _, 0, .cons _ t => t
  | _, _, i + 1, .cons a t => .cons a (TIs.erase i t)
theorem any_dI {ns : List Int} : ∀ dss : List (List Int), ((dss.map dI).any fun z => PyData.eqv z (dI ns)) = decide (ns ∈ dss)
  | [] => by simp
  | d :: dss => by
    rw [List.map_cons, List.any_cons, any_dI dss, pl_dI.eqv pl_dI (p := ns = d) (dI_inj.trans ⟨Eq.symm, Eq.symm⟩)]
    rw [show decide (ns ∈ d :: dss) = decide (ns = d ∨ ns ∈ dss) from decide_eq_decide.mpr List.mem_cons, Bool.decide_or]
end
end Z

/-! Zq: steps: pairs, dicts, slices, comprehensions, sorted, isinstance. -/
namespace Z
open PySem PySem.Spec L2
open PyProof.Rows hiding St
section
variable {X : Cx}
def rInsert : V → List V → Hp → VK → Prop := fun x vs H Q => ∃ (l : Addr) (xs : List V) (i : Int) (y : V), x = .ref l ∧ vs = [.int i, y] ∧ H l = some (.lst xs) ∧ xs.length < sizeLine ∧ 0 ≤ i ∧ i < 2 ^ 63 ∧
  Q .non (upd H l (.lst (xs.take i.toNat ++ [y] ++ xs.drop i.toNat)))
theorem mt_zInsert : MtR X "list.insert" rInsert := mt_insert
def zSorted (K : PySem.W.Frag) (w : World) : List V → Hp → VK → Prop := orC (rSortedSet w) (rSortedI K)
theorem cr_zSorted (hc : X.calm = true) : CallR X (.builtin "sorted") (zSorted X.K X.w) := cr_or2 (cr_sortedSet hc) cr_sortedI
end
section
variable {K : PySem.W.Frag} {w0 : World} {σ : St} {H : Hp} {D : Ends} {t u : TS} {ta tb tc te tl : TE} {to' tl' th' : TO} {c c' : TT} {v w x y z : V} {Q : VK} {QH : Hp → Prop} {QS : St → Hp → Prop} {QB : Bool → Hp → Prop} {QO : Option Int → Hp → Prop} {i j : Nat} {g : TG} {p q a b l : Addr} {xs ys : List V} {tA : TA} {m n : Int} {vs : List Nat} {ns : List Int}
theorem s_par (h : ta σ H fun x H1 => tb σ H1 fun y H2 => ∃ v w, [x, y] = [v, w] ∧ D.nx ((σ.set i (some v)).set j (some w)) H2) : tPar i j (tCons ta (tCons tb tNil)) D σ H := h
theorem par_ {P : V → V → Prop} (h : P x y) : ∃ v w, [x, y] = [v, w] ∧ P v w := ⟨x, y, rfl, h⟩
theorem s_dput (h : tc σ H fun v H1 => ta σ H1 fun x H2 => tb σ H2 fun y H3 => ∃ a H4, x = .ref a ∧ DPut H3 a y v H4 ∧ D.nx σ H4) : sDPut ta tb tc D σ H := h
theorem dput_T {ks : List Key} {kvs : List (List Key × V)} (ha : H a = some (.dT kvs)) (hb : H b = some (.tup (ks.map kV))) (hl : kvs.length < sizeLine) (h : QH (upd H a (.dT (putK kvs ks v)))) :
    ∃ a' H4, V.ref a = .ref a' ∧ DPut H a' (.ref b) v H4 ∧ QH H4 := ⟨a, _, rfl, DPut.t ha hb hl, h⟩
theorem e_din (h : ta σ H fun y H1 => tb σ H1 fun x H2 => ∃ a o, x = .ref a ∧ DGet H2 a y o ∧ Q (.bl o.isSome) H2) : tDIn ta tb σ H Q := h
theorem din_T {ks : List Key} {kvs : List (List Key × V)} {P : Option V → Prop} (ha : H a = some (.dT kvs)) (hb : H b = some (.tup (ks.map kV))) (h : P (valV kvs ks)) : ∃ a' o, V.ref a = .ref a' ∧ DGet H a' (.ref b) o ∧ P o :=
  ⟨a, _, rfl, DGet.t ha hb, h⟩
theorem e_dnewT (h : ∀ p, Fresh H p → Q (.ref p) (upd H p (.dT []))) : tDNewT σ H Q := h
theorem e_dnewK (h : ∀ p, Fresh H p → Q (.ref p) (upd H p (.dK []))) : tDNewK σ H Q := h
theorem kv_ints (ns : List Int) : (ns.map (Sum.inl : Int → Key)).map kV = ns.map V.int := by
  rw [List.map_map]
  rfl
theorem e_sl {r : V → Option Int → Option Int → Hp → VK → Prop} (h : te σ H fun x H1 => tl' σ H1 fun l H2 => th' σ H2 fun u H3 => r x l u H3 Q) : tSl r te tl' th' σ H Q := h
theorem p_none (h : QO none H) : tNoPart σ H QO := h
theorem p_some (h : te σ H fun x H1 => ∃ i, x = .int i ∧ QO (some i) H1) : tPart te σ H QO := h
theorem p_int {P : Int → Prop} (h : P m) : ∃ i, V.int m = .int i ∧ P i := ⟨m, rfl, h⟩
theorem sl_L {lo hi : Option Int} (hs : SqL K H a xs) (h : ∀ p, Fresh H p → Q (.ref p) (upd H p (.lst (cutV xs lo hi)))) : zSl K (.ref a) lo hi H Q := .inl ⟨a, xs, rfl, hs, h⟩
theorem sl_T {lo hi : Option Int} (hs : SqT K H a xs) (h1 : HT.sIx xs.length 0 lo = 0 ∧ HT.sIx xs.length xs.length hi = xs.length → Q (.ref a) H)
    (h2 : ¬ (HT.sIx xs.length 0 lo = 0 ∧ HT.sIx xs.length xs.length hi = xs.length) → ∀ p, Fresh H p → Q (.ref p) (upd H p (.tup (cutV xs lo hi)))) : zSl K (.ref a) lo hi H Q := .inr ⟨a, xs, rfl, hs, h1, h2⟩
/-- a slice of a tuple, the same or a new one: what is known of it -/
theorem sl_Tk {lo hi : Option Int} (hs : SqT K H a xs) (h : ∀ p H', Same H H' → (H' = H ∨ Fresh H p ∧ H' = upd H p (.tup (cutV xs lo hi))) → SqT K H' p (cutV xs lo hi) → Q (.ref p) H') : zSl K (.ref a) lo hi H Q :=
  sl_T hs (fun ⟨e1, e2⟩ => h a H (Same.refl H) (.inl rfl) (by
    have e : cutV xs lo hi = xs := by
      unfold cutV
      rw [e1, e2, List.drop_zero, Nat.sub_zero, List.take_length]
    rw [e]
    exact hs)) fun _ p np => h p _ (fun b o e => by
      rw [upd_ne (ne_of_none e np)]
      exact e) (.inr ⟨np, rfl⟩) (SqT.of upd_same)
theorem cut_lo (xs : List V) (k : Nat) : cutV xs none (some (k : Int)) = xs.take k := by
  unfold cutV
  rw [HT.sIx_none, HT.sIx_nat, List.drop_zero, Nat.sub_zero]
  rcases Nat.le_total k xs.length with h | h
  · rw [Nat.min_eq_left h]
  · rw [Nat.min_eq_right h, List.take_length, List.take_of_length_le h]
theorem cut_hi (xs : List V) (k : Nat) : cutV xs (some (k : Int)) none = xs.drop k := by
  unfold cutV
  rw [HT.sIx_none, HT.sIx_nat]
  rcases Nat.le_total k xs.length with h | h
  · rw [Nat.min_eq_left h, List.take_of_length_le (by rw [List.length_drop]; omega)]
  · rw [Nat.min_eq_right h, List.drop_eq_nil_of_le (Nat.le_refl _), List.drop_eq_nil_of_le h]
    simp
-- comprehensions
def LcW (J : It) (g : TG) (tt : TT) (te : TE) (vs : List Nat) (σ : St) (H : Hp) (Q : VK) : Prop := ∀ D, H D = none → ∃ W : Nat → Nat → Hp → Prop, (∃ m, W 0 m (upd H D (.lst []))) ∧ ∀ i m H', W i m H' →
  (J.stop i H' ∧ Q (.ref D) H') ∨ (J.go i H' ∧ ∃ Nx : Hp → Prop, (∀ H2, Nx H2 → ∃ m', m' < m ∧ W (i + 1) m' H2) ∧ ∀ x H2, J.yld i H' x H2 → g x (wipe σ vs) H2 fun σ2 H3 => wipe σ2 vs = wipe σ vs ∧ tt σ2 H3 fun b H4 =>
    if b = true then te σ2 H4 fun y H5 => ∃ acc, H5 D = some (.lst acc) ∧ acc.length < sizeLine ∧ Nx (upd H5 D (.lst (acc ++ [y]))) else Nx H4)
def LcL (K : PySem.W.Frag) (g : TG) (tt : TT) (te : TE) (vs : List Nat) (σ : St) (x : V) (H : Hp) (Q : VK) : Prop := ∃ a, x = .ref a ∧ (∃ xs, SqL K H a xs) ∧ LcW (Itl K a) g tt te vs σ H Q
def LcT (K : PySem.W.Frag) (g : TG) (tt : TT) (te : TE) (vs : List Nat) (σ : St) (x : V) (H : Hp) (Q : VK) : Prop := ∃ a, x = .ref a ∧ (∃ xs, SqT K H a xs) ∧ LcW (Itt K a) g tt te vs σ H Q
def LcR1 (g : TG) (tt : TT) (te : TE) (vs : List Nat) (σ : St) (x : V) (H : Hp) (Q : VK) : Prop := ∃ j : Int, [x] = [V.int j] ∧ -(2 ^ 62) ≤ j ∧ j < 2 ^ 62 ∧ LcW (Itr 0 j.toNat) g tt te vs σ H Q
def LcR2 (g : TG) (tt : TT) (te : TE) (vs : List Nat) (σ : St) (x y : V) (H : Hp) (Q : VK) : Prop := ∃ i j : Int, [x, y] = [V.int i, V.int j] ∧ (-(2 ^ 62) ≤ i ∧ i < 2 ^ 62 ∧ -(2 ^ 62) ≤ j ∧ j < 2 ^ 62) ∧ LcW (Itr i (j - i).toNat) g tt te vs σ H Q
theorem e_lcL (h : tl σ H fun x H1 => LcL K g c te vs σ x H1 Q) : tLc (iList K tl) g c te vs σ H Q := h
theorem e_lcT (h : tl σ H fun x H1 => LcT K g c te vs σ x H1 Q) : tLc (iTup K tl) g c te vs σ H Q := h
theorem e_lcR1 (h : tl σ H fun x H1 => LcR1 g c te vs σ x H1 Q) : tLc (iRng1 (tCons tl tNil)) g c te vs σ H Q := h
theorem e_lcR2 (h : tl σ H fun x H1 => tb σ H1 fun y H2 => LcR2 g c te vs σ x y H2 Q) : tLc (iRng2 (tCons tl (tCons tb tNil))) g c te vs σ H Q := h
theorem c_yes (h : QB true H) : tYes σ H QB := h
theorem lc_L (hs : SqL K H a xs) (Pv : Addr → Nat → Hp → Prop) (h0 : ∀ D, Fresh H D → Pv D 0 (upd H D (.lst []))) (hl : ∀ D i H', i ≤ xs.length → Pv D i H' → SqL K H' a xs)
    (hb : ∀ D i x H', Fresh H D → xs[i]? = some x → Pv D i H' → g x (wipe σ vs) H' fun σ2 H3 => wipe σ2 vs = wipe σ vs ∧ c σ2 H3 fun b H4 =>
      if b = true then te σ2 H4 fun y H5 => ∃ acc, H5 D = some (.lst acc) ∧ acc.length < sizeLine ∧ Pv D (i + 1) (upd H5 D (.lst (acc ++ [y]))) else Pv D (i + 1) H4)
    (hd : ∀ D H', Fresh H D → Pv D xs.length H' → Q (.ref D) H') : LcL K g c te vs σ (.ref a) H Q := ⟨a, rfl, ⟨xs, hs⟩, fun D nD => lc_list (Pv D) (h0 D nD) (hl D) (fun i x H' => hb D i x H' nD) (fun H' => hd D H' nD)⟩
theorem lc_T (hs : SqT K H a xs) (Pv : Addr → Nat → Hp → Prop) (h0 : ∀ D, Fresh H D → Pv D 0 (upd H D (.lst []))) (hl : ∀ D i H', i ≤ xs.length → Pv D i H' → SqT K H' a xs)
    (hb : ∀ D i x H', Fresh H D → xs[i]? = some x → Pv D i H' → g x (wipe σ vs) H' fun σ2 H3 => wipe σ2 vs = wipe σ vs ∧ c σ2 H3 fun b H4 =>
      if b = true then te σ2 H4 fun y H5 => ∃ acc, H5 D = some (.lst acc) ∧ acc.length < sizeLine ∧ Pv D (i + 1) (upd H5 D (.lst (acc ++ [y]))) else Pv D (i + 1) H4)
    (hd : ∀ D H', Fresh H D → Pv D xs.length H' → Q (.ref D) H') : LcT K g c te vs σ (.ref a) H Q := ⟨a, rfl, ⟨xs, hs⟩, fun D nD => lc_tup (Pv D) (h0 D nD) (hl D) (fun i x H' => hb D i x H' nD) (fun H' => hd D H' nD)⟩
theorem lc_R1 (hr : -(2 ^ 62) ≤ n ∧ n < 2 ^ 62) (Pv : Addr → Nat → Hp → Prop) (h0 : ∀ D, Fresh H D → Pv D 0 (upd H D (.lst [])))
    (hb : ∀ D (i : Nat) H', Fresh H D → (i : Int) < n → Pv D i H' → g (.int (i : Int)) (wipe σ vs) H' fun σ2 H3 => wipe σ2 vs = wipe σ vs ∧ c σ2 H3 fun b H4 =>
      if b = true then te σ2 H4 fun y H5 => ∃ acc, H5 D = some (.lst acc) ∧ acc.length < sizeLine ∧ Pv D (i + 1) (upd H5 D (.lst (acc ++ [y]))) else Pv D (i + 1) H4)
    (hd : ∀ D H', Fresh H D → Pv D n.toNat H' → Q (.ref D) H') : LcR1 g c te vs σ (.int n) H Q := ⟨n, rfl, hr.1, hr.2, fun D nD => lc_range (lo := 0) (Pv D) (h0 D nD) (fun i H' hi p => by
    have e : (0 : Int) + (i : Int) = (i : Int) := Int.zero_add _
    rw [e]
    exact hb D i H' nD (by omega) p) (fun H' => hd D H' nD)⟩
theorem lc_R2 (hr : -(2 ^ 62) ≤ m ∧ m < 2 ^ 62 ∧ -(2 ^ 62) ≤ n ∧ n < 2 ^ 62) (Pv : Addr → Nat → Hp → Prop) (h0 : ∀ D, Fresh H D → Pv D 0 (upd H D (.lst [])))
    (hb : ∀ D (i : Nat) H', Fresh H D → m + (i : Int) < n → Pv D i H' → g (.int (m + i)) (wipe σ vs) H' fun σ2 H3 => wipe σ2 vs = wipe σ vs ∧ c σ2 H3 fun b H4 =>
      if b = true then te σ2 H4 fun y H5 => ∃ acc, H5 D = some (.lst acc) ∧ acc.length < sizeLine ∧ Pv D (i + 1) (upd H5 D (.lst (acc ++ [y]))) else Pv D (i + 1) H4)
    (hd : ∀ D H', Fresh H D → Pv D (n - m).toNat H' → Q (.ref D) H') : LcR2 g c te vs σ (.int m) (.int n) H Q := ⟨m, n, rfl, hr, fun D nD => lc_range (Pv D) (h0 D nD) (fun i H' hi p => hb D i H' nD (by omega) p) (fun H' => hd D H' nD)⟩
theorem w_split {σ2 : St} {R : Prop} (h1 : wipe σ2 vs = wipe σ vs) (h2 : R) : wipe σ2 vs = wipe σ vs ∧ R := ⟨h1, h2⟩
-- built-in methods of lists
theorem m_ext {zs : List V} (hl : H a = some (.lst xs)) (hb : H b = some (.lst zs)) (hz : xs.length + zs.length ≤ sizeLine) (h : Q .non (upd H a (.lst (xs ++ zs)))) : rExtend (.ref a) [.ref b] H Q := ⟨a, b, xs, zs, rfl, rfl, hl, hb, hz, h⟩
theorem m_popN (hl : H a = some (.lst xs)) {k : Nat} (hk : xs[k]? = some y) (hz : xs.length ≤ sizeLine) (h : Q y (upd H a (.lst (xs.eraseIdx k)))) : rPopAt (.ref a) [.int (k : Int)] H Q := by
  have e := (List.getElem?_eq_some_iff.mp hk).1
  refine ⟨a, xs, (k : Int), k, y, rfl, rfl, hl, by omega, by rw [sizeLine_eq] at hz; omega, (ixN_seq (Evl.ixN_nat e)).1, hk, h⟩
theorem m_pop (hl : H a = some (.lst xs)) (hk : xs[xs.length - 1]? = some y) (h : Q y (upd H a (.lst xs.dropLast))) : rPop (.ref a) [] H Q := ⟨a, xs, y, rfl, rfl, hl, hk, h⟩
theorem m_ins {k : Nat} (hl : H a = some (.lst xs)) (hz : xs.length < sizeLine) (hk : (k : Int) < 2 ^ 63) (h : Q .non (upd H a (.lst (xs.take k ++ [y] ++ xs.drop k)))) : rInsert (.ref a) [.int (k : Int), y] H Q :=
  ⟨a, xs, (k : Int), y, rfl, rfl, hl, hz, by omega, hk, h⟩
-- sorted, set
theorem o_setL' (hs : SqL K H a (ns.map V.int)) (hl : ns.length ≤ 1000) (h : ∀ p c, c ≤ ns.length → Fresh H p → Q (.ref p) (upd H p (SetO w0 p (fun j => decide (j ∈ ns)) c))) : zSet K w0 [.ref a] H Q := ⟨a, ns, rfl, .inl hs, hl, h⟩
theorem o_setT' (hs : SqT K H a (ns.map V.int)) (hl : ns.length ≤ 1000) (h : ∀ p c, c ≤ ns.length → Fresh H p → Q (.ref p) (upd H p (SetO w0 p (fun j => decide (j ∈ ns)) c))) : zSet K w0 [.ref a] H Q := ⟨a, ns, rfl, .inr hs, hl, h⟩
theorem o_sortSet {S : Int → Bool} {k : Nat} (hs : H a = some (SetO w0 a S k)) (hk : k < 64) (h : ∀ (ns : List Int) (p : Addr), ns.Pairwise (· < ·) → (∀ k : Int, k ∈ ns ↔ S k = true) → ns.length = k → Fresh H p → Q (.ref p) (upd H p (.lst (ns.map V.int)))) :
    zSorted K w0 [.ref a] H Q := .inl ⟨a, S, k, rfl, hs, hk, h⟩
theorem o_sortI (hs : SqL K H a (ns.map V.int)) (h : ∀ (ns' : List Int) (p : Addr), ns'.Perm ns → ns'.Pairwise (· ≤ ·) → Fresh H p → Q (.ref p) (upd H p (.lst (ns'.map V.int)))) : zSorted K w0 [.ref a] H Q := .inr ⟨a, ns, rfl, hs, h⟩
-- isinstance
theorem ty_L (h : SqL K H a xs) : TyX K H (.ref a) (.type "list") := by
  rcases h with (h | ⟨o, h⟩) | ⟨o, its, k, e, c, _⟩
  · exact .base (.lst h)
  · exact .base (.frz h)
  · exact .kList e c
theorem ty_T (h : SqT K H a xs) : TyX K H (.ref a) (.type "tuple") := by
  rcases h with (h | ⟨o, h⟩) | ⟨o, its, k, e, c, _⟩
  · exact .base (.tup h)
  · exact .fTuple h
  · exact .kTuple e c
theorem isi {A B : String} {r : Bool} (ht : TyX K H x (.type A)) (hk : kitB A B = some r) (h : Q (.bl r) H) : rIsi K [x, .ty B] H Q := ⟨x, .ty B, .type A, .type B, r, rfl, .ty B, ht, kit_ty hk, h⟩
theorem i_int_int (h : Q (.bl true) H) : rIsi K [.int m, .ty "int"] H Q := isi (.base (.int m)) (by decide +kernel) h
theorem i_int_bool (h : Q (.bl false) H) : rIsi K [.int m, .ty "bool"] H Q := isi (.base (.int m)) (by decide +kernel) h
theorem i_int_str (h : Q (.bl false) H) : rIsi K [.int m, .ty "str"] H Q := isi (.base (.int m)) (by decide +kernel) h
theorem i_int_tuple (h : Q (.bl false) H) : rIsi K [.int m, .ty "tuple"] H Q := isi (.base (.int m)) (by decide +kernel) h
theorem i_int_list (h : Q (.bl false) H) : rIsi K [.int m, .ty "list"] H Q := isi (.base (.int m)) (by decide +kernel) h
theorem i_bl_int {k : Bool} (h : Q (.bl true) H) : rIsi K [.bl k, .ty "int"] H Q := isi (.base (.bl k)) (by decide +kernel) h
theorem i_bl_bool {k : Bool} (h : Q (.bl true) H) : rIsi K [.bl k, .ty "bool"] H Q := isi (.base (.bl k)) (by decide +kernel) h
theorem i_bl_str {k : Bool} (h : Q (.bl false) H) : rIsi K [.bl k, .ty "str"] H Q := isi (.base (.bl k)) (by decide +kernel) h
theorem i_bl_tuple {k : Bool} (h : Q (.bl false) H) : rIsi K [.bl k, .ty "tuple"] H Q := isi (.base (.bl k)) (by decide +kernel) h
theorem i_bl_list {k : Bool} (h : Q (.bl false) H) : rIsi K [.bl k, .ty "list"] H Q := isi (.base (.bl k)) (by decide +kernel) h
theorem i_str_int {k : Str} (h : Q (.bl false) H) : rIsi K [.str k, .ty "int"] H Q := isi (.base (.str k)) (by decide +kernel) h
theorem i_str_bool {k : Str} (h : Q (.bl false) H) : rIsi K [.str k, .ty "bool"] H Q := isi (.base (.str k)) (by decide +kernel) h
theorem i_str_str {k : Str} (h : Q (.bl true) H) : rIsi K [.str k, .ty "str"] H Q := isi (.base (.str k)) (by decide +kernel) h
theorem i_str_tuple {k : Str} (h : Q (.bl false) H) : rIsi K [.str k, .ty "tuple"] H Q := isi (.base (.str k)) (by decide +kernel) h
theorem i_str_list {k : Str} (h : Q (.bl false) H) : rIsi K [.str k, .ty "list"] H Q := isi (.base (.str k)) (by decide +kernel) h
theorem i_non_int (h : Q (.bl false) H) : rIsi K [.non, .ty "int"] H Q := isi (.base .non) (by decide +kernel) h
theorem i_non_bool (h : Q (.bl false) H) : rIsi K [.non, .ty "bool"] H Q := isi (.base .non) (by decide +kernel) h
theorem i_non_str (h : Q (.bl false) H) : rIsi K [.non, .ty "str"] H Q := isi (.base .non) (by decide +kernel) h
theorem i_non_tuple (h : Q (.bl false) H) : rIsi K [.non, .ty "tuple"] H Q := isi (.base .non) (by decide +kernel) h
theorem i_non_list (h : Q (.bl false) H) : rIsi K [.non, .ty "list"] H Q := isi (.base .non) (by decide +kernel) h
theorem i_T_int (hs : SqT K H a xs) (h : Q (.bl false) H) : rIsi K [.ref a, .ty "int"] H Q := isi (ty_T hs) (by decide +kernel) h
theorem i_T_bool (hs : SqT K H a xs) (h : Q (.bl false) H) : rIsi K [.ref a, .ty "bool"] H Q := isi (ty_T hs) (by decide +kernel) h
theorem i_T_str (hs : SqT K H a xs) (h : Q (.bl false) H) : rIsi K [.ref a, .ty "str"] H Q := isi (ty_T hs) (by decide +kernel) h
theorem i_T_tuple (hs : SqT K H a xs) (h : Q (.bl true) H) : rIsi K [.ref a, .ty "tuple"] H Q := isi (ty_T hs) (by decide +kernel) h
theorem i_T_list (hs : SqT K H a xs) (h : Q (.bl false) H) : rIsi K [.ref a, .ty "list"] H Q := isi (ty_T hs) (by decide +kernel) h
theorem i_L_int (hs : SqL K H a xs) (h : Q (.bl false) H) : rIsi K [.ref a, .ty "int"] H Q := isi (ty_L hs) (by decide +kernel) h
theorem i_L_bool (hs : SqL K H a xs) (h : Q (.bl false) H) : rIsi K [.ref a, .ty "bool"] H Q := isi (ty_L hs) (by decide +kernel) h
theorem i_L_str (hs : SqL K H a xs) (h : Q (.bl false) H) : rIsi K [.ref a, .ty "str"] H Q := isi (ty_L hs) (by decide +kernel) h
theorem i_L_tuple (hs : SqL K H a xs) (h : Q (.bl false) H) : rIsi K [.ref a, .ty "tuple"] H Q := isi (ty_L hs) (by decide +kernel) h
theorem i_L_list (hs : SqL K H a xs) (h : Q (.bl true) H) : rIsi K [.ref a, .ty "list"] H Q := isi (ty_L hs) (by decide +kernel) h
-- deep == and in
theorem o_inD {d : PyData} {ds : List PyData} (hx : Dp K H x d) (hy : Dp K H y (.list ds)) (sd : SeqAt.shaped d = true) (se : SeqAt.shaped (.list ds) = true) (h : Q (.bl (ds.any fun z => PyData.eqv z d)) H) : zIn K x y H Q := .inr (.inl ⟨d, ds, hx, hy, sd, se, h⟩)
theorem o_notInD {d : PyData} {ds : List PyData} (hx : Dp K H x d) (hy : Dp K H y (.list ds)) (sd : SeqAt.shaped d = true) (se : SeqAt.shaped (.list ds) = true) (h : Q (.bl (!ds.any fun z => PyData.eqv z d)) H) : zNotIn K x y H Q := .inr (.inl ⟨d, ds, hx, hy, sd, se, h⟩)
theorem eqV_int (m n : Int) : eqV (.int m) (.int n) = decide (m = n) := by
  unfold eqV
  first | rfl | (simp [BEq.beq]) | simp
theorem inV_ints : ∀ (m : Int) (ns : List Int), inV (.int m) (ns.map V.int) = decide (m ∈ ns)
  | m, [] => by simp [inV]
  | m, n :: ns => by
    have ih := inV_ints m ns
    unfold inV at ih ⊢
    rw [List.map_cons, List.any_cons, ih, eqV_int, show decide (m ∈ n :: ns) = decide (m = n ∨ m ∈ ns) from decide_eq_decide.mpr List.mem_cons, Bool.decide_or]
    congr 1
    exact decide_eq_decide.mpr ⟨Eq.symm, Eq.symm⟩
theorem flat_ints : ∀ ns : List Int, (ns.map V.int).all flatV = true
  | [] => rfl
  | n :: ns => by
    rw [List.map_cons, List.all_cons, flat_ints ns]
    rfl
theorem o_inI (hs : SqL K H a (ns.map V.int) ∨ SqT K H a (ns.map V.int)) (h : Q (.bl (decide (m ∈ ns))) H) : zIn K (.int m) (.ref a) H Q := .inl ⟨a, _, rfl, hs, rfl, flat_ints ns, by
  rw [inV_ints, if_neg Bool.false_ne_true]
  exact h⟩
theorem o_notInI (hs : SqL K H a (ns.map V.int) ∨ SqT K H a (ns.map V.int)) (h : Q (.bl (!decide (m ∈ ns))) H) : zNotIn K (.int m) (.ref a) H Q := .inl ⟨a, _, rfl, hs, rfl, flat_ints ns, by
  rw [inV_ints, if_pos rfl]
  exact h⟩
theorem e_notT (h : ta σ H fun x H1 => ∃ k, TruV K x H1 k ∧ Q (.bl (!k)) H1) : tNotT K ta σ H Q := h
theorem g_sub {to ti : TE} {ts : TSet} (h : to σ H fun o H1 => ti σ H1 fun i H2 => ts o i v H2 fun H3 => QS σ H3) : gSub to ti ts v σ H QS := h
theorem o_setN (hl : H a = some (.lst xs)) {k : Nat} (hk : k < xs.length) (h : QH (upd H a (.lst (xs.set k v)))) : rSetL (.ref a) (.int (k : Int)) v H QH := o_setL hl (Evl.ixN_nat hk) h
theorem z_int1 (h : Q (.int m) H) : zInt1 [.int m] H Q := .inl ⟨m, rfl, h⟩
theorem z_int1b {k : Bool} (h : Q (.int (if k then 1 else 0)) H) : zInt1 [.bl k] H Q := .inr ⟨k, rfl, h⟩
theorem z_abs (h : Q (.int (if m < 0 then -m else m)) H) : zAbs [.int m] H Q := ⟨m, rfl, h⟩
theorem z_max2 (h : Q (.int (if n > m then n else m)) H) : zMax2 [.int m, .int n] H Q := ⟨m, n, rfl, h⟩
theorem z_min2 (h : Q (.int (if n < m then n else m)) H) : zMin2 [.int m, .int n] H Q := ⟨m, n, rfl, h⟩
end
abbrev dL (ns : List Int) : PyData := .list (ns.map .int)
theorem pl_dL {ns : List Int} : Pl 1 (dL ns) := pl_lst fun d hd => by
  obtain ⟨i, _, rfl⟩ := List.mem_map.mp hd
  exact pl_int
theorem dL_inj {a b : List Int} : dL a = dL b ↔ a = b := ⟨fun h => map_int_inj (PyData.list.inj h), fun h => by rw [h]⟩
section
variable {K : PySem.W.Frag} {H : Hp} {a b : Addr} {ns ms : List Int} {Q : VK}
theorem o_neIL (ha : SqL K H a (ns.map V.int)) (hb : SqL K H b (ms.map V.int)) (h : Q (.bl (!decide (ns = ms))) H) : zNe K (.ref a) (.ref b) H Q :=
  o_neD (.lst ha (dpAll_ints ns)) (.lst hb (dpAll_ints ms)) (pl_dL.shaped (by decide)) (pl_dL.shaped (by decide)) (by rw [pl_dL.eqv pl_dL dL_inj]; exact h)
theorem o_eqIL (ha : SqL K H a (ns.map V.int)) (hb : SqL K H b (ms.map V.int)) (h : Q (.bl (decide (ns = ms))) H) : zEq K (.ref a) (.ref b) H Q :=
  o_eqD (.lst ha (dpAll_ints ns)) (.lst hb (dpAll_ints ms)) (pl_dL.shaped (by decide)) (pl_dL.shaped (by decide)) (by rw [pl_dL.eqv pl_dL dL_inj]; exact h)
theorem o_neIT (ha : SqT K H a (ns.map V.int)) (hb : SqT K H b (ms.map V.int)) (h : Q (.bl (!decide (ns = ms))) H) : zNe K (.ref a) (.ref b) H Q :=
  o_neD (.tup ha (dpAll_ints ns)) (.tup hb (dpAll_ints ms)) (pl_dI.shaped (by decide)) (pl_dI.shaped (by decide)) (by rw [pl_dI.eqv pl_dI dI_inj]; exact h)
theorem o_eqIT (ha : SqT K H a (ns.map V.int)) (hb : SqT K H b (ms.map V.int)) (h : Q (.bl (decide (ns = ms))) H) : zEq K (.ref a) (.ref b) H Q :=
  o_eqD (.tup ha (dpAll_ints ns)) (.tup hb (dpAll_ints ms)) (pl_dI.shaped (by decide)) (pl_dI.shaped (by decide)) (by rw [pl_dI.eqv pl_dI dI_inj]; exact h)
end
theorem divW70 {m n : Int} (h : 0 < n) (h2 : n ≤ 10 ^ 70) : CDivW m n := wide_div (b := 240) h (by
  have : n.toNat ≤ 10 ^ 70 := by omega
  have e : n.natAbs = n.toNat := by omega
  rw [e]
  exact Nat.lt_of_le_of_lt this (by decide)) (by decide) (by decide)
theorem o_div70 {m n : Int} {H : Hp} {Q : VK} (h : 0 < n) (h2 : n ≤ 10 ^ 70) (k : Q (.int (m / n)) H) : zDiv (.int m) (.int n) H Q := o_divW (divW70 h h2) k
theorem o_new {n : Nat} {H : Hp} {P : Addr → Prop} (h1 : n ≤ sizeLine) (h2 : ∀ p, Fresh H p → P p) : n ≤ sizeLine ∧ ∀ p, H p = none → P p := ⟨h1, h2⟩
theorem s_cut {t u : TS} {D : Ends} {σ : St} {H : Hp} (Mid : St → Hp → Prop) (h1 : t { D with nx := Mid } σ H) (h2 : ∀ σ' H', Mid σ' H' → u D σ' H') : Evl.tCut t u D σ H := ⟨Mid, h1, h2⟩
/-! ### tuples that are known: new since H, or frozen -/
structure Tk (F H H' : Hp) (p : Addr) (xs : List V) : Prop where
  at' : H' p = some (.tup xs)
  own : H p = none ∨ F p = some (.tup xs)
section
variable {K : PySem.W.Frag} {F H F1 H1 H2 : Hp} {a b p r : Addr} {o : HO} {xs ys : List V} {Q : VK}
theorem Tk.keep (h : Tk F H H1 p xs) (k : ∀ q o, H1 q = some o → H2 q = some o) : Tk F H H2 p xs := ⟨k _ _ h.at', h.own⟩
theorem Tk.gr (h : Tk F H H1 p xs) (g : Gr (M1 r) F1 H1 F1 H2) (n : p ≠ r) : Tk F H H2 p xs := ⟨g.hh _ _ n h.at', h.own⟩
theorem Tk.old (hF : Same F H1) (h : F p = some (.tup xs)) : Tk F H H1 p xs := ⟨hF _ _ h, .inr h⟩
theorem Tk.new (g : Gr (M1 r) F H F1 H1) (hr : H1 r = some o) (hn : Fresh H1 p) : Tk F H (upd H1 p (.tup xs)) p xs := ⟨upd_same, .inl (g.fr1 hr hn)⟩
theorem up_keep (hn : Fresh H1 p) : ∀ q u, H1 q = some u → (upd H1 p o) q = some u := fun q u e => (upd_ne (ne_of_none e hn)).trans e
theorem add_tk (g : Gr (M1 r) F H F1 H1) (hr : H1 r = some o) (ha : Tk F H H1 a xs) (hb : Tk F H H1 b ys) (hl : xs.length + ys.length ≤ sizeLine)
    (k : ∀ p H2, Gr (M1 r) F H F1 H2 → (∀ q o, H1 q = some o → H2 q = some o) → Tk F H H2 p (xs ++ ys) → Q (.ref p) H2) : zAdd K (.ref a) (.ref b) H1 Q :=
  o_addT (SqT.of ha.at') (SqT.of hb.at') hl (fun e => k _ _ g (fun _ _ h => h) (by rw [e]; exact hb)) (fun _ e => k _ _ g (fun _ _ h => h) (by rw [e, List.append_nil]; exact ha))
    fun _ _ p hn => k p _ (g.add hn) (up_keep hn) (.new g hr hn)
theorem sl_tk {lo hi : Option Int} (g : Gr (M1 r) F H F1 H1) (hr : H1 r = some o) (ha : Tk F H H1 a xs)
    (k : ∀ p H2, Gr (M1 r) F H F1 H2 → (∀ q o, H1 q = some o → H2 q = some o) → Tk F H H2 p (cutV xs lo hi) → Q (.ref p) H2) : zSl K (.ref a) lo hi H1 Q :=
  sl_T (SqT.of ha.at') (fun ⟨e1, e2⟩ => k _ _ g (fun _ _ h => h) (by
    have e : cutV xs lo hi = xs := by
      unfold cutV
      rw [e1, e2, List.drop_zero, Nat.sub_zero, List.take_length]
    rw [e]
    exact ha)) fun _ p hn => k p _ (g.add hn) (up_keep hn) (.new g hr hn)
/-- frozen from now on -/
theorem Gr.hold {M : Addr → Prop} (g : Gr M F H F1 H1) (h : Tk F H H1 p xs) : Gr M F H (upd F1 p (.tup xs)) H1 := by
  refine ⟨fun b u e => ?_, fun b u e => ?_, g.hh, fun b u e f => ?_⟩
  · by_cases hb : b = p
    · subst hb
      have e1 := g.fh _ _ (g.ff _ _ e)
      rw [h.at'] at e1
      rw [upd_same]
      exact e1
    · rw [upd_ne hb]
      exact g.ff _ _ e
  · by_cases hb : b = p
    · subst hb
      rw [upd_same] at e
      rw [h.at']
      exact e
    · rw [upd_ne hb] at e
      exact g.fh _ _ e
  · by_cases hb : b = p
    · subst hb
      rcases h.own with z | z
      · rw [z] at e
        cases e
      · rw [z] at f
        cases f
    · rw [upd_ne hb]
      exact g.nw _ _ e f
end
/-! ### [1 for x in .. if test], the test changing nothing -/
section
variable {K : PySem.W.Frag} {σ : St} {H : Hp} {a : Addr} {xs : List V} {vs : List Nat} {j : Nat} {tt : TT} {p : Nat → Bool} {Q : VK} {n : Int}
def ones (c : Nat) : HO := .lst ((List.replicate c (1 : Int)).map V.int)
def OnesAt (p : Nat → Bool) (H : Hp) (D : Addr) (i : Nat) (H' : Hp) : Prop := ∃ c, c ≤ i ∧ (c = 0 ↔ ∀ k, k < i → p k = false) ∧ H' = upd H D (ones c)
theorem ones_turn {D : Addr} {i : Nat} {σ1 : St} {H' : Hp} (hD : Fresh H D) (hi : i < 100000) (h : OnesAt p H D i H') (ht : ∀ H2 (QB : Bool → Hp → Prop), Same H H2 → QB (p i) H2 → tt σ1 H2 QB) :
    tt σ1 H' fun b H4 => if b = true then tC (.int 1) σ1 H4 fun y H5 => ∃ acc, H5 D = some (.lst acc) ∧ acc.length < sizeLine ∧ OnesAt p H D (i + 1) (upd H5 D (.lst (acc ++ [y]))) else OnesAt p H D (i + 1) H4 := by
  obtain ⟨c, hc, e, rfl⟩ := h
  refine ht _ _ (fun b o e => (upd_ne (ne_of_none e hD)).trans e) ?_
  cases hp : p i with
  | true =>
    refine iteT ⟨_, upd_same, ?_, c + 1, by omega, ⟨fun z => by omega, fun z => ?_⟩, ?_⟩
    · rw [List.length_map, List.length_replicate, sizeLine_eq]
      omega
    · rw [z i (Nat.lt_succ_self i)] at hp
      cases hp
    · rw [upd_upd]
      unfold ones
      rw [List.replicate_succ', List.map_append]
      rfl
  | false =>
    refine iteF ⟨c, by omega, e.trans ⟨fun z k hk => ?_, fun z k hk => z k (by omega)⟩, rfl⟩
    by_cases hk' : k = i
    · rw [hk']
      exact hp
    · exact z k (by omega)
theorem ones_start {D : Addr} : OnesAt p H D 0 (upd H D (.lst [])) := ⟨0, Nat.le_refl _, ⟨fun _ k hk => absurd hk (Nat.not_lt_zero _), fun _ => rfl⟩, rfl⟩
theorem lcT_ones (p : Nat → Bool) (hs : SqT K H a xs) (hz : xs.length ≤ 10000) (ht : ∀ i x H2 (QB : Bool → Hp → Prop), xs[i]? = some x → Same H H2 → QB (p i) H2 → tt ((wipe σ vs).set j (some x)) H2 QB)
    (k : ∀ D c, Fresh H D → (c = 0 ↔ ∀ i, i < xs.length → p i = false) → Q (.ref D) (upd H D (ones c))) (hw : ∀ x, wipe ((wipe σ vs).set j (some x)) vs = wipe σ vs := by intro _; rfl) : LcT K (gName j) tt (tC (.int 1)) vs σ (.ref a) H Q :=
  lc_T hs (fun D i H' => OnesAt p H D i H' ∧ Fresh H D) (fun D hD => ⟨ones_start, hD⟩) (fun D i H' _ ⟨⟨c, _, _, e⟩, hD⟩ => by
    rw [e]
    exact Same.seqT (fun b o e => (upd_ne (ne_of_none e hD)).trans e) hs) (fun D i x H' hD hx h => ⟨hw x, by
      have hi := (List.getElem?_eq_some_iff.mp hx).1
      have := ones_turn (tt := tt) (σ1 := (wipe σ vs).set j (some x)) hD (by omega) h.1 (fun H2 QB hs q => ht i x H2 QB hx hs q)
      simpa only [hD, and_true] using this⟩) fun D H' hD ⟨⟨c, _, e, eH⟩, _⟩ => by
    rw [eH]
    exact k D c hD e
theorem lcL_ones (p : Nat → Bool) (hs : SqL K H a xs) (hz : xs.length ≤ 10000) (ht : ∀ i x H2 (QB : Bool → Hp → Prop), xs[i]? = some x → Same H H2 → QB (p i) H2 → tt ((wipe σ vs).set j (some x)) H2 QB)
    (k : ∀ D c, Fresh H D → (c = 0 ↔ ∀ i, i < xs.length → p i = false) → Q (.ref D) (upd H D (ones c))) (hw : ∀ x, wipe ((wipe σ vs).set j (some x)) vs = wipe σ vs := by intro _; rfl) : LcL K (gName j) tt (tC (.int 1)) vs σ (.ref a) H Q :=
  lc_L hs (fun D i H' => OnesAt p H D i H' ∧ Fresh H D) (fun D hD => ⟨ones_start, hD⟩) (fun D i H' _ ⟨⟨c, _, _, e⟩, hD⟩ => by
    rw [e]
    exact Same.seq (fun b o e => (upd_ne (ne_of_none e hD)).trans e) hs) (fun D i x H' hD hx h => ⟨hw x, by
      have hi := (List.getElem?_eq_some_iff.mp hx).1
      have := ones_turn (tt := tt) (σ1 := (wipe σ vs).set j (some x)) hD (by omega) h.1 (fun H2 QB hs q => ht i x H2 QB hx hs q)
      simpa only [hD, and_true] using this⟩) fun D H' hD ⟨⟨c, _, e, eH⟩, _⟩ => by
    rw [eH]
    exact k D c hD e
theorem lcR_ones (p : Nat → Bool) (hz : -(2 ^ 62) ≤ n ∧ n ≤ 10000) (ht : ∀ (i : Nat) H2 (QB : Bool → Hp → Prop), (i : Int) < n → Same H H2 → QB (p i) H2 → tt ((wipe σ vs).set j (some (.int (i : Int)))) H2 QB)
    (k : ∀ D c, Fresh H D → (c = 0 ↔ ∀ i : Nat, (i : Int) < n → p i = false) → Q (.ref D) (upd H D (ones c))) (hw : ∀ x, wipe ((wipe σ vs).set j (some x)) vs = wipe σ vs := by intro _; rfl) : LcR1 (gName j) tt (tC (.int 1)) vs σ (.int n) H Q :=
  lc_R1 (by omega) (fun D i H' => OnesAt p H D i H') (fun D hD => ones_start) (fun D i H' hD hi h => ⟨hw _, ones_turn (tt := tt) hD (by omega) h (fun H2 QB hs q => ht i H2 QB hi hs q)⟩) fun D H' hD ⟨c, _, e, eH⟩ => by
    rw [eH]
    exact k D c hD (e.trans ⟨fun z i hi => z i (by omega), fun z i hi => z i (by omega)⟩)
theorem o_neOnes {b : Addr} {c : Nat} (ha : H a = some (ones c)) (hb : H b = some (.lst [])) (h : Q (.bl (!decide (c = 0))) H) : zNe K (.ref a) (.ref b) H Q :=
  o_neIL (ns := List.replicate c 1) (ms := []) (SqL.of ha) (SqL.of hb) (by
    have : decide (List.replicate c (1 : Int) = []) = decide (c = 0) := decide_eq_decide.mpr ⟨fun z => by simpa using congrArg List.length z, fun z => by rw [z]; rfl⟩
    rw [this]
    exact h)
theorem o_eqOnes {b : Addr} {c : Nat} (ha : H a = some (ones c)) (hb : H b = some (.lst [])) (h : Q (.bl (decide (c = 0))) H) : zEq K (.ref a) (.ref b) H Q :=
  o_eqIL (ns := List.replicate c 1) (ms := []) (SqL.of ha) (SqL.of hb) (by
    have : decide (List.replicate c (1 : Int) = []) = decide (c = 0) := decide_eq_decide.mpr ⟨fun z => by simpa using congrArg List.length z, fun z => by rw [z]; rfl⟩
    rw [this]
    exact h)
end
/-! ### the law -/
def spLaw (K : PySem.W.Frag) : Sp := fun vs H Q _ => ∃ (a : Addr) (ns : List Int), vs = [.ref a] ∧ ns.length ≤ 63 ∧ SqL K H a (ns.map V.int) ∧ ∀ H', Q (.bl true) H'
theorem spLaw_in {K : PySem.W.Frag} {H : Hp} {a : Addr} {ns : List Int} {E : XK} (hl : ns.length ≤ 63) (hS : SqL K H a (ns.map V.int)) : spLaw K [.ref a] H (fun v _ => v = .bl true) E := ⟨a, ns, rfl, hl, hS, fun _ => rfl⟩
theorem atI_ints {ns : List Int} {j : Nat} {x : Int} (h : ns[j]? = some x) : atI (ns.map V.int) (j : Int) = some (.int x) := atI_nat (by rw [List.getElem?_map, h]; rfl)
end Z

/-! Zr: more steps. -/
namespace Z
open PySem PySem.Spec L2
open PyProof.Rows hiding St
theorem Pl.up {n m : Nat} {d : PyData} (h : Pl n d) (hn : n ≤ m := by omega) : Pl m d := ⟨h.lay, Nat.le_trans h.dep hn, h.nob⟩
section
variable {K : PySem.W.Frag} {σ : St} {H : Hp} {te : TE} {Q : VK} {a : Addr} {xs : List V} {ns : List Int} {vs : List Nat} {j : Nat} {tt : TT} {m n : Int}
theorem e_revL (h : te σ H fun x H1 => ∃ a xs, x = .ref a ∧ SqL K H1 a xs ∧ ∀ p, H1 p = none → Q (.ref p) (upd H1 p (.lst xs.reverse))) : tRevL K te σ H Q := h
theorem rev_V {k : Nat} (h1 : σ[k]? = some (some (.ref a))) (hs : SqL K H a xs) (h : ∀ p, Fresh H p → Q (.ref p) (upd H p (.lst xs.reverse))) : tRevL K (tVar k) σ H Q := ⟨_, h1, a, xs, rfl, hs, h⟩
theorem o_min (hs : SqL K H a (ns.map V.int)) (h0 : m ∈ ns) (h1 : ∀ y ∈ ns, m ≤ y) (h : Q (.int m) H) : rMin K [.ref a] H Q := ⟨a, ns, rfl, hs, List.length_pos_of_mem h0, fun m' a1 a2 => by
  have e : m' = m := Int.le_antisymm (a2 m h0) (h1 m' a1)
  rw [e]
  exact h⟩
theorem o_max (hs : SqL K H a (ns.map V.int)) (h0 : m ∈ ns) (h1 : ∀ y ∈ ns, y ≤ m) (h : Q (.int m) H) : rMax K [.ref a] H Q := ⟨a, ns, rfl, hs, List.length_pos_of_mem h0, fun m' a1 a2 => by
  have e : m' = m := Int.le_antisymm (h1 m' a1) (a2 m h0)
  rw [e]
  exact h⟩
theorem atI_z {x : V} (h : xs[0]? = some x) : atI xs 0 = some x := atI_nat (j := 0) h
theorem atI_zi {x : Int} (h : ns[0]? = some x) : atI (ns.map V.int) 0 = some (.int x) := atI_z (by rw [List.getElem?_map, h]; rfl)
theorem o_eqS {x y : Str} (h : Q (.bl (decide (x = y))) H) : zEq K (.str x) (.str y) H Q := .inl ⟨rfl, (decide_eq_decide.mpr ⟨fun e => V.str.inj e, fun e => by rw [e]⟩ : decide (V.str x = V.str y) = decide (x = y)) ▸ h⟩
theorem o_neS {x y : Str} (h : Q (.bl (!decide (x = y))) H) : zNe K (.str x) (.str y) H Q := .inl ⟨rfl, (decide_eq_decide.mpr ⟨fun e => V.str.inj e, fun e => by rw [e]⟩ : decide (V.str x = V.str y) = decide (x = y)) ▸ h⟩
theorem o_neB {x y : Bool} (h : Q (.bl (!decide (x = y))) H) : zNe K (.bl x) (.bl y) H Q := .inl ⟨rfl, (decide_eq_decide.mpr ⟨fun e => V.bl.inj e, fun e => by rw [e]⟩ : decide (V.bl x = V.bl y) = decide (x = y)) ▸ h⟩
theorem o_eqB {x y : Bool} (h : Q (.bl (decide (x = y))) H) : zEq K (.bl x) (.bl y) H Q := .inl ⟨rfl, (decide_eq_decide.mpr ⟨fun e => V.bl.inj e, fun e => by rw [e]⟩ : decide (V.bl x = V.bl y) = decide (x = y)) ▸ h⟩
theorem o_isT {x : Bool} (h : Q (.bl x) H) : rIsB (.bl x) (.bl true) H Q := ⟨x, true, rfl, rfl, by simpa using h⟩
theorem o_isF {x : Bool} (h : Q (.bl (!x)) H) : rIsB (.bl x) (.bl false) H Q := ⟨x, false, rfl, rfl, by cases x <;> simpa using h⟩
def zDm : List V → Hp → VK → Prop := fun xs H Q => ∃ i j, xs = [.int i, .int j] ∧ CDivP i j ∧ ∀ p, H p = none → Q (.ref p) (upd H p (.tup [.int (i / j), .int (i % j)]))
theorem o_divmod (h0 : 0 < n) (hm : m.natAbs < 2 ^ 240) (h : ∀ p, Fresh H p → Q (.ref p) (upd H p (.tup [.int (m / n), .int (m % n)]))) : zDm [.int m, .int n] H Q := ⟨m, n, rfl, divp_ok h0 (by
  have := PyProof.Rows.intBits_le hm
  omega), h⟩
theorem e_tupRg1 {ta : TE} (h : ta σ H fun x H1 => ∃ n, x = .int n ∧ RgOk 0 n ∧ ∀ q, H1 q = none → Q (.ref q) (upd H1 q (.tup (rgV 0 n)))) : tTupRg (tRg1 ta) σ H Q := h
theorem e_tupRg2 {ta tb : TE} (h : ta σ H fun x H1 => tb σ H1 fun y H2 => ∃ i j, x = .int i ∧ y = .int j ∧ RgOk i j ∧ ∀ q, H2 q = none → Q (.ref q) (upd H2 q (.tup (rgV i j)))) : tTupRg (tRg2 ta tb) σ H Q := h
theorem e_lstRg1 {ta : TE} (h : ta σ H fun x H1 => ∃ n, x = .int n ∧ RgOk 0 n ∧ ∀ q, H1 q = none → Q (.ref q) (upd H1 q (.lst (rgV 0 n)))) : tLstRg (tRg1 ta) σ H Q := h
theorem e_lstRg2 {ta tb : TE} (h : ta σ H fun x H1 => tb σ H1 fun y H2 => ∃ i j, x = .int i ∧ y = .int j ∧ RgOk i j ∧ ∀ q, H2 q = none → Q (.ref q) (upd H2 q (.lst (rgV i j)))) : tLstRg (tRg2 ta tb) σ H Q := h
theorem rg1_ {P : Int → Hp → Addr → Prop} (h0 : RgOk 0 n) (h : ∀ q, Fresh H q → P n (upd H q (.tup (rgV 0 n))) q) : ∃ n', V.int n = .int n' ∧ RgOk 0 n' ∧ ∀ q, H q = none → P n' (upd H q (.tup (rgV 0 n'))) q := ⟨n, rfl, h0, h⟩
theorem s_while {c : TT} {t : TS} {D : Ends} (W : Nat → St → Hp → Prop) (m0 : Nat) (h0 : W m0 σ H) (hs : ∀ m σ' H', W m σ' H' → c σ' H' fun b H1 => if b = true then ∃ N : St → Hp → Prop, (∀ σ2 H2, N σ2 H2 → ∃ m', m' < m ∧ W m' σ2 H2) ∧ t { D with nx := N, ct := N, bk := D.nx } σ' H1 else D.nx σ' H1) :
    tWhile c t D σ H := ⟨W, ⟨m0, h0⟩, hs⟩
theorem w_turn {t : TS} {D : Ends} {W : Nat → St → Hp → Prop} {k : Nat} (h : t { D with nx := fun σ2 H2 => ∃ m', m' < k ∧ W m' σ2 H2, ct := fun σ2 H2 => ∃ m', m' < k ∧ W m' σ2 H2, bk := D.nx } σ H) : ∃ N : St → Hp → Prop, (∀ σ2 H2, N σ2 H2 → ∃ m', m' < k ∧ W m' σ2 H2) ∧ t { D with nx := N, ct := N, bk := D.nx } σ H :=
  ⟨_, fun _ _ h => h, h⟩
/-! ### [f x for x in xs if p x], test and element changing nothing -/
def FilAt (p : V → Bool) (f : V → V) (xs : List V) (H : Hp) (D : Addr) (i : Nat) (H' : Hp) : Prop := H' = upd H D (.lst (((xs.take i).filter p).map f))
theorem fil_turn {p : V → Bool} {f : V → V} {D : Addr} {i : Nat} {σ1 : St} {H' : Hp} {x : V} (hD : Fresh H D) (hx : xs[i]? = some x) (hi : xs.length ≤ 10000) (h : FilAt p f xs H D i H') (ht : ∀ H2 (QB : Bool → Hp → Prop), Same H H2 → QB (p x) H2 → tt σ1 H2 QB)
    (he : ∀ H2 (Q : VK), Same H H2 → p x = true → Q (f x) H2 → te σ1 H2 Q) :
    tt σ1 H' fun b H4 => if b = true then te σ1 H4 fun y H5 => ∃ acc, H5 D = some (.lst acc) ∧ acc.length < sizeLine ∧ FilAt p f xs H D (i + 1) (upd H5 D (.lst (acc ++ [y]))) else FilAt p f xs H D (i + 1) H4 := by
  subst h
  have il := (List.getElem?_eq_some_iff.mp hx).1
  have sm : ∀ o, Same H (upd H D o) := fun o b u e => (upd_ne (ne_of_none e hD)).trans e
  have tk : xs.take (i + 1) = xs.take i ++ [x] := by
    rw [List.take_add_one, hx]
    rfl
  refine ht _ _ (sm _) ?_
  cases hp : p x with
  | true =>
    refine iteT (he _ _ (sm _) hp ⟨_, upd_same, ?_, ?_⟩)
    · rw [List.length_map, sizeLine_eq]
      have := List.length_filter_le p (xs.take i)
      rw [List.length_take] at this
      omega
    · show upd (upd H D _) D _ = _
      rw [upd_upd, tk, List.filter_append, List.map_append, List.filter_cons_of_pos hp]
      rfl
  | false =>
    refine iteF ?_
    show upd H D _ = _
    rw [tk, List.filter_append, List.filter_cons_of_neg (by rw [hp]; exact Bool.false_ne_true), List.filter_nil, List.append_nil]
theorem lcT_fil (p : V → Bool) (f : V → V) (hs : SqT K H a xs) (hz : xs.length ≤ 10000) (ht : ∀ x ∈ xs, ∀ H2 (QB : Bool → Hp → Prop), Same H H2 → QB (p x) H2 → tt ((wipe σ vs).set j (some x)) H2 QB)
    (he : ∀ x ∈ xs, ∀ H2 (Q : VK), Same H H2 → p x = true → Q (f x) H2 → te ((wipe σ vs).set j (some x)) H2 Q)
    (k : ∀ D, Fresh H D → Q (.ref D) (upd H D (.lst ((xs.filter p).map f)))) (hw : ∀ x, wipe ((wipe σ vs).set j (some x)) vs = wipe σ vs := by intro _; rfl) : LcT K (gName j) tt te vs σ (.ref a) H Q :=
  lc_T hs (fun D i H' => FilAt p f xs H D i H' ∧ Fresh H D) (fun D hD => ⟨rfl, hD⟩) (fun D i H' _ ⟨e, hD⟩ => by
    rw [e]
    exact Same.seqT (fun b o e => (upd_ne (ne_of_none e hD)).trans e) hs) (fun D i x H' hD hx h => ⟨hw x, by
      have hm := List.mem_of_getElem? hx
      have := fil_turn (tt := tt) (te := te) (σ1 := (wipe σ vs).set j (some x)) hD hx hz h.1 (fun H2 QB hs q => ht x hm H2 QB hs q) (fun H2 Q hs hp q => he x hm H2 Q hs hp q)
      simpa only [hD, and_true] using this⟩) fun D H' hD ⟨e, _⟩ => by
    rw [e, List.take_length]
    exact k D hD
theorem lcL_fil (p : V → Bool) (f : V → V) (hs : SqL K H a xs) (hz : xs.length ≤ 10000) (ht : ∀ x ∈ xs, ∀ H2 (QB : Bool → Hp → Prop), Same H H2 → QB (p x) H2 → tt ((wipe σ vs).set j (some x)) H2 QB)
    (he : ∀ x ∈ xs, ∀ H2 (Q : VK), Same H H2 → p x = true → Q (f x) H2 → te ((wipe σ vs).set j (some x)) H2 Q)
    (k : ∀ D, Fresh H D → Q (.ref D) (upd H D (.lst ((xs.filter p).map f)))) (hw : ∀ x, wipe ((wipe σ vs).set j (some x)) vs = wipe σ vs := by intro _; rfl) : LcL K (gName j) tt te vs σ (.ref a) H Q :=
  lc_L hs (fun D i H' => FilAt p f xs H D i H' ∧ Fresh H D) (fun D hD => ⟨rfl, hD⟩) (fun D i H' _ ⟨e, hD⟩ => by
    rw [e]
    exact Same.seq (fun b o e => (upd_ne (ne_of_none e hD)).trans e) hs) (fun D i x H' hD hx h => ⟨hw x, by
      have hm := List.mem_of_getElem? hx
      have := fil_turn (tt := tt) (te := te) (σ1 := (wipe σ vs).set j (some x)) hD hx hz h.1 (fun H2 QB hs q => ht x hm H2 QB hs q) (fun H2 Q hs hp q => he x hm H2 Q hs hp q)
      simpa only [hD, and_true] using this⟩) fun D H' hD ⟨e, _⟩ => by
    rw [e, List.take_length]
    exact k D hD
/-- ints through a test, to values -/
def onI (p : Int → Bool) : V → Bool
  | .int z => p z
  | _ => false
def mapI (f : Int → V) : V → V
  | .int z => f z
  | v => v
theorem fil_ints (p : Int → Bool) (f : Int → V) : ∀ ns : List Int, ((ns.map V.int).filter (onI p)).map (mapI f) = (ns.filter p).map f
  | [] => rfl
  | n :: ns => by
    have ih := fil_ints p f ns
    rw [List.map_cons, List.filter_cons, List.filter_cons]
    show ((if onI p (.int n) = true then _ else _) : List V).map _ = _
    show ((if p n = true then _ else _) : List V).map _ = _
    cases hp : p n with
    | true => rw [if_pos rfl, if_pos rfl, List.map_cons, List.map_cons, ih]; rfl
    | false => rw [if_neg Bool.false_ne_true, if_neg Bool.false_ne_true, ih]
theorem lcT_int (p : Int → Bool) (f : Int → V) (hs : SqT K H a (ns.map V.int)) (hz : ns.length ≤ 10000) (ht : ∀ x ∈ ns, ∀ H2 (QB : Bool → Hp → Prop), Same H H2 → QB (p x) H2 → tt ((wipe σ vs).set j (some (.int x))) H2 QB)
    (he : ∀ x ∈ ns, ∀ H2 (Q : VK), Same H H2 → p x = true → Q (f x) H2 → te ((wipe σ vs).set j (some (.int x))) H2 Q)
    (k : ∀ D, Fresh H D → Q (.ref D) (upd H D (.lst ((ns.filter p).map f)))) (hw : ∀ x, wipe ((wipe σ vs).set j (some x)) vs = wipe σ vs := by intro _; rfl) : LcT K (gName j) tt te vs σ (.ref a) H Q :=
  lcT_fil (onI p) (mapI f) hs (by rw [List.length_map]; exact hz) (fun x hx H2 QB hs q => by
    obtain ⟨z, hz, rfl⟩ := List.mem_map.mp hx
    exact ht z hz H2 QB hs q) (fun x hx H2 Q hs hp q => by
    obtain ⟨z, hz, rfl⟩ := List.mem_map.mp hx
    exact he z hz H2 Q hs hp q) (fun D hD => by
    rw [fil_ints]
    exact k D hD) hw
theorem lcL_int (p : Int → Bool) (f : Int → V) (hs : SqL K H a (ns.map V.int)) (hz : ns.length ≤ 10000) (ht : ∀ x ∈ ns, ∀ H2 (QB : Bool → Hp → Prop), Same H H2 → QB (p x) H2 → tt ((wipe σ vs).set j (some (.int x))) H2 QB)
    (he : ∀ x ∈ ns, ∀ H2 (Q : VK), Same H H2 → p x = true → Q (f x) H2 → te ((wipe σ vs).set j (some (.int x))) H2 Q)
    (k : ∀ D, Fresh H D → Q (.ref D) (upd H D (.lst ((ns.filter p).map f)))) (hw : ∀ x, wipe ((wipe σ vs).set j (some x)) vs = wipe σ vs := by intro _; rfl) : LcL K (gName j) tt te vs σ (.ref a) H Q :=
  lcL_fil (onI p) (mapI f) hs (by rw [List.length_map]; exact hz) (fun x hx H2 QB hs q => by
    obtain ⟨z, hz, rfl⟩ := List.mem_map.mp hx
    exact ht z hz H2 QB hs q) (fun x hx H2 Q hs hp q => by
    obtain ⟨z, hz, rfl⟩ := List.mem_map.mp hx
    exact he z hz H2 Q hs hp q) (fun D hD => by
    rw [fil_ints]
    exact k D hD) hw
/-! ### the same, test and element making new things -/
def GrowAt (l : List V) (H : Hp) (D : Addr) (H' : Hp) : Prop := Same H H' ∧ H' D = some (.lst l)
theorem grow_turn {b : Bool} {y : V} {l l' : List V} {D : Addr} {σ1 : St} {H' : Hp} (hD : Fresh H D) (hz : l.length < sizeLine) (h : GrowAt l H D H') (hl : l' = if b = true then l ++ [y] else l) (ht : ∀ H2 (QB : Bool → Hp → Prop), Same H H2 → (∀ H3, Same H2 H3 → QB b H3) → tt σ1 H2 QB)
    (he : ∀ H2 (Q : VK), Same H H2 → b = true → (∀ H3, Same H2 H3 → Q y H3) → te σ1 H2 Q) :
    tt σ1 H' fun b H4 => if b = true then te σ1 H4 fun y H5 => ∃ acc, H5 D = some (.lst acc) ∧ acc.length < sizeLine ∧ GrowAt l' H D (upd H5 D (.lst (acc ++ [y]))) else GrowAt l' H D H4 := by
  refine ht _ _ h.1 fun H3 s3 => ?_
  have S3 := h.1.trans s3
  cases b with
  | true =>
    rw [if_pos rfl] at hl
    refine iteT (he _ _ S3 rfl fun H4 s4 => ⟨l, s4 _ _ (s3 _ _ h.2), hz, fun a o e => ?_, ?_⟩)
    · rw [upd_ne (ne_of_none e hD)]
      exact s4 _ _ (S3 _ _ e)
    · rw [upd_same, hl]
  | false =>
    rw [if_neg Bool.false_ne_true] at hl
    refine iteF ⟨S3, ?_⟩
    rw [hl]
    exact s3 _ _ h.2
theorem fil_take {p : V → Bool} {f : V → V} {x : V} {i : Nat} (hx : xs[i]? = some x) : ((xs.take (i + 1)).filter p).map f = if p x = true then ((xs.take i).filter p).map f ++ [f x] else ((xs.take i).filter p).map f := by
  have tk : xs.take (i + 1) = xs.take i ++ [x] := by
    rw [List.take_add_one, hx]
    rfl
  rw [tk, List.filter_append, List.map_append]
  by_cases h : p x = true
  · rw [if_pos h, List.filter_cons_of_pos h]
    rfl
  · rw [if_neg h, List.filter_cons_of_neg h, List.filter_nil, List.map_nil, List.append_nil]
theorem fil_short {p : V → Bool} {f : V → V} {i : Nat} (hz : xs.length ≤ 10000) : (((xs.take i).filter p).map f).length < sizeLine := by
  have := List.length_filter_le p (xs.take i)
  rw [List.length_take] at this
  rw [List.length_map, sizeLine_eq]
  omega
theorem lcT_grow (p : V → Bool) (f : V → V) (hs : SqT K H a xs) (hz : xs.length ≤ 10000) (ht : ∀ x ∈ xs, ∀ H2 (QB : Bool → Hp → Prop), Same H H2 → (∀ H3, Same H2 H3 → QB (p x) H3) → tt ((wipe σ vs).set j (some x)) H2 QB)
    (he : ∀ x ∈ xs, ∀ H2 (Q : VK), Same H H2 → p x = true → (∀ H3, Same H2 H3 → Q (f x) H3) → te ((wipe σ vs).set j (some x)) H2 Q)
    (k : ∀ D H', Fresh H D → Same H H' → H' D = some (.lst ((xs.filter p).map f)) → Q (.ref D) H') (hw : ∀ x, wipe ((wipe σ vs).set j (some x)) vs = wipe σ vs := by intro _; rfl) : LcT K (gName j) tt te vs σ (.ref a) H Q :=
  lc_T hs (fun D i H' => GrowAt (((xs.take i).filter p).map f) H D H') (fun D hD => ⟨fun b u e => (upd_ne (ne_of_none e hD)).trans e, upd_same⟩) (fun D i H' _ h => Same.seqT h.1 hs) (fun D i x H' hD hx h => ⟨hw x, by
    have hm := List.mem_of_getElem? hx
    exact grow_turn (b := p x) (y := f x) hD (fil_short hz) h (fil_take hx) (fun H2 QB hs q => ht x hm H2 QB hs q) (fun H2 Q hs hp q => he x hm H2 Q hs hp q)⟩) fun D H' hD h => by
    rw [List.take_length] at h
    exact k D H' hD h.1 h.2
theorem lcL_grow (p : V → Bool) (f : V → V) (hs : SqL K H a xs) (hz : xs.length ≤ 10000) (ht : ∀ x ∈ xs, ∀ H2 (QB : Bool → Hp → Prop), Same H H2 → (∀ H3, Same H2 H3 → QB (p x) H3) → tt ((wipe σ vs).set j (some x)) H2 QB)
    (he : ∀ x ∈ xs, ∀ H2 (Q : VK), Same H H2 → p x = true → (∀ H3, Same H2 H3 → Q (f x) H3) → te ((wipe σ vs).set j (some x)) H2 Q)
    (k : ∀ D H', Fresh H D → Same H H' → H' D = some (.lst ((xs.filter p).map f)) → Q (.ref D) H') (hw : ∀ x, wipe ((wipe σ vs).set j (some x)) vs = wipe σ vs := by intro _; rfl) : LcL K (gName j) tt te vs σ (.ref a) H Q :=
  lc_L hs (fun D i H' => GrowAt (((xs.take i).filter p).map f) H D H') (fun D hD => ⟨fun b u e => (upd_ne (ne_of_none e hD)).trans e, upd_same⟩) (fun D i H' _ h => Same.seq h.1 hs) (fun D i x H' hD hx h => ⟨hw x, by
    have hm := List.mem_of_getElem? hx
    exact grow_turn (b := p x) (y := f x) hD (fil_short hz) h (fil_take hx) (fun H2 QB hs q => ht x hm H2 QB hs q) (fun H2 Q hs hp q => he x hm H2 Q hs hp q)⟩) fun D H' hD h => by
    rw [List.take_length] at h
    exact k D H' hD h.1 h.2
theorem lcT_igrow (p : Int → Bool) (f : Int → V) (hs : SqT K H a (ns.map V.int)) (hz : ns.length ≤ 10000) (ht : ∀ x ∈ ns, ∀ H2 (QB : Bool → Hp → Prop), Same H H2 → (∀ H3, Same H2 H3 → QB (p x) H3) → tt ((wipe σ vs).set j (some (.int x))) H2 QB)
    (he : ∀ x ∈ ns, ∀ H2 (Q : VK), Same H H2 → p x = true → (∀ H3, Same H2 H3 → Q (f x) H3) → te ((wipe σ vs).set j (some (.int x))) H2 Q)
    (k : ∀ D H', Fresh H D → Same H H' → H' D = some (.lst ((ns.filter p).map f)) → Q (.ref D) H') (hw : ∀ x, wipe ((wipe σ vs).set j (some x)) vs = wipe σ vs := by intro _; rfl) : LcT K (gName j) tt te vs σ (.ref a) H Q :=
  lcT_grow (onI p) (mapI f) hs (by rw [List.length_map]; exact hz) (fun x hx H2 QB hs q => by
    obtain ⟨z, hz, rfl⟩ := List.mem_map.mp hx
    exact ht z hz H2 QB hs q) (fun x hx H2 Q hs hp q => by
    obtain ⟨z, hz, rfl⟩ := List.mem_map.mp hx
    exact he z hz H2 Q hs hp q) (fun D H' hD hS e => by
    rw [fil_ints] at e
    exact k D H' hD hS e) hw
theorem lcR_grow (p : Nat → Bool) (f : Nat → V) (hz : -(2 ^ 62) ≤ n ∧ n ≤ 10000) (ht : ∀ i : Nat, (i : Int) < n → ∀ H2 (QB : Bool → Hp → Prop), Same H H2 → (∀ H3, Same H2 H3 → QB (p i) H3) → tt ((wipe σ vs).set j (some (.int (i : Int)))) H2 QB)
    (he : ∀ i : Nat, (i : Int) < n → ∀ H2 (Q : VK), Same H H2 → p i = true → (∀ H3, Same H2 H3 → Q (f i) H3) → te ((wipe σ vs).set j (some (.int (i : Int)))) H2 Q)
    (k : ∀ D H', Fresh H D → Same H H' → H' D = some (.lst (((List.range n.toNat).filter p).map f)) → Q (.ref D) H') (hw : ∀ x, wipe ((wipe σ vs).set j (some x)) vs = wipe σ vs := by intro _; rfl) : LcR1 (gName j) tt te vs σ (.int n) H Q :=
  lc_R1 (by omega) (fun D i H' => GrowAt (((List.range i).filter p).map f) H D H') (fun D hD => ⟨fun b u e => (upd_ne (ne_of_none e hD)).trans e, upd_same⟩) (fun D i H' hD hi h => ⟨hw _, by
    refine grow_turn (b := p i) (y := f i) hD ?_ h ?_ (fun H2 QB hs q => ht i hi H2 QB hs q) (fun H2 Q hs hp q => he i hi H2 Q hs hp q)
    · have := List.length_filter_le p (List.range i)
      rw [List.length_range] at this
      rw [List.length_map, sizeLine_eq]
      omega
    · rw [List.range_succ, List.filter_append, List.map_append]
      by_cases h : p i = true
      · rw [if_pos h, List.filter_cons_of_pos h]
        rfl
      · rw [if_neg h, List.filter_cons_of_neg h, List.filter_nil, List.map_nil, List.append_nil]⟩) fun D H' hD h => k D H' hD h.1 h.2
end
end Z

/-! Zb: bits: numbers as sets of seats. -/
namespace Z
open PySem PySem.Spec L2
open PyProof.Rows hiding St
section
variable {X : Cx}
theorem ip_or : PIp X .BitOr (ipI fun i j => Builtin.bitOr i j) := by
  intro pins s σ H x y v u Q I r1 r2 h
  obtain ⟨i, j, e1, e2, q⟩ := h
  subst e1; subst e2
  obtain ⟨t, rfl⟩ := r1
  obtain ⟨t', rfl⟩ := r2
  exact ior_int ⟨.int _, _, I.tok _, ⟨_, rfl⟩, q⟩
end
/-! ### the words over Nat -/
theorem and_nat (a b : Nat) : Builtin.bitAnd (a : Int) (b : Int) = ((a &&& b : Nat) : Int) := bitAnd_pp (Int.natCast_nonneg a) (Int.natCast_nonneg b)
theorem not_not (x : Int) : Builtin.bitNot (Builtin.bitNot x) = x := by
  unfold Builtin.bitNot
  omega
theorem or_nat (a b : Nat) : Builtin.bitOr (a : Int) (b : Int) = ((a ||| b : Nat) : Int) := by
  have h : ∀ n : Nat, ¬ 0 ≤ Builtin.bitNot (n : Int) := fun n => by
    unfold Builtin.bitNot
    omega
  show Builtin.bitNot (Builtin.bitAnd (Builtin.bitNot a) (Builtin.bitNot b)) = _
  rw [bitAnd_nn (h a) (h b), not_not, not_not, not_not]
  rfl
theorem shl_one (k : Nat) : (1 : Int) * 2 ^ ((k : Int)).toNat = ((2 ^ k : Nat) : Int) := by
  rw [Int.toNat_natCast, Int.one_mul, Int.natCast_pow]
  rfl
theorem shr_nat (a k : Nat) : (a : Int) / 2 ^ ((k : Int)).toNat = ((a >>> k : Nat) : Int) := by
  rw [Int.toNat_natCast, Nat.shiftRight_eq_div_pow, Int.natCast_ediv, Int.natCast_pow]
  rfl
theorem bits_nat (a : Nat) : Builtin.Int.intBits (a : Int) = if a = 0 then 0 else a.log2 + 1 := by
  unfold Builtin.Int.intBits
  by_cases h : a = 0
  · subst h
    rfl
  · rw [if_neg h, if_neg (by simpa using h), Int.natAbs_natCast]
/-- the least bit -/
theorem low_nat (a : Nat) (h : 0 < a) : Builtin.bitAnd (a : Int) (-(a : Int)) = ((a - (a &&& (a - 1)) : Nat) : Int) := by
  have e : Builtin.bitNot (-(a : Int)) = ((a - 1 : Nat) : Int) := by
    unfold Builtin.bitNot
    omega
  rw [bitAnd_pn (by omega) (by omega), e, Int.toNat_natCast, Int.toNat_natCast]
  have : a &&& (a - 1) ≤ a := Nat.and_le_left
  omega
/-! ### sets of seats as numbers -/
def bitsN : List Int → Nat
  | [] => 0
  | d :: r => 2 ^ d.toNat ||| bitsN r
theorem bitsN_app : ∀ a b : List Int, bitsN (a ++ b) = bitsN a ||| bitsN b
  | [], b => (Nat.zero_or _).symm
  | d :: a, b => by
    rw [List.cons_append, bitsN, bitsN, bitsN_app a b, Nat.or_assoc]
theorem bitsN_test : ∀ {l : List Int}, (∀ d ∈ l, 0 ≤ d) → ∀ i : Nat, (bitsN l).testBit i = decide ((i : Int) ∈ l)
  | [], _, i => by
    rw [bitsN, Nat.zero_testBit]
    simp
  | d :: r, h, i => by
    rw [bitsN, Nat.testBit_or, bitsN_test (fun x hx => h x (List.mem_cons_of_mem _ hx)), Nat.testBit_two_pow]
    have h0 := h d List.mem_cons_self
    rw [show decide ((i : Int) ∈ d :: r) = decide ((i : Int) = d ∨ (i : Int) ∈ r) from decide_eq_decide.mpr List.mem_cons, Bool.decide_or]
    congr 1
    exact decide_eq_decide.mpr ⟨fun e => by omega, fun e => by omega⟩
theorem bitsN_lt {m : Nat} : ∀ {l : List Int}, (∀ d ∈ l, 0 ≤ d ∧ d < m) → bitsN l < 2 ^ m
  | [], _ => Nat.two_pow_pos m
  | d :: r, h => by
    have h0 := h d List.mem_cons_self
    rw [bitsN]
    exact Nat.or_lt_two_pow (Nat.pow_lt_pow_right (by decide) (by omega)) (bitsN_lt fun x hx => h x (List.mem_cons_of_mem _ hx))
theorem pw_ext : ∀ {a b : List Int}, a.Pairwise (· < ·) → b.Pairwise (· < ·) → (∀ x, x ∈ a ↔ x ∈ b) → a = b
  | [], [], _, _, _ => rfl
  | [], y :: b, _, _, h => absurd ((h y).mpr List.mem_cons_self) List.not_mem_nil
  | x :: a, [], _, _, h => absurd ((h x).mp List.mem_cons_self) List.not_mem_nil
  | x :: a, y :: b, ha, hb, h => by
    have ha' := List.pairwise_cons.mp ha
    have hb' := List.pairwise_cons.mp hb
    have e : x = y := by
      rcases List.mem_cons.mp ((h x).mp List.mem_cons_self) with e | hx
      · exact e
      rcases List.mem_cons.mp ((h y).mpr List.mem_cons_self) with e | hy
      · exact e.symm
      have := ha'.1 y hy
      have := hb'.1 x hx
      omega
    subst e
    rw [pw_ext ha'.2 hb'.2 fun z => ⟨fun hz => by
      rcases List.mem_cons.mp ((h z).mp (List.mem_cons_of_mem _ hz)) with e | hz'
      · have := ha'.1 z hz
        omega
      · exact hz', fun hz => by
      rcases List.mem_cons.mp ((h z).mpr (List.mem_cons_of_mem _ hz)) with e | hz'
      · have := hb'.1 z hz
        omega
      · exact hz'⟩]
/-- the seats of a number -/
def seatsN (n : Nat) : List Int := ((List.range (Builtin.Int.intBits (n : Int))).filter fun i => n.testBit i).map fun (i : Nat) => (i : Int)
theorem seatsN_mem (n : Nat) (x : Int) : x ∈ seatsN n ↔ 0 ≤ x ∧ n.testBit x.toNat = true := by
  unfold seatsN
  rw [List.mem_map]
  constructor
  · rintro ⟨i, hi, rfl⟩
    have := (List.mem_filter.mp hi).2
    exact ⟨by omega, by rw [Int.toNat_natCast]; exact this⟩
  · rintro ⟨h0, h1⟩
    refine ⟨x.toNat, List.mem_filter.mpr ⟨List.mem_range.mpr ?_, h1⟩, by omega⟩
    rw [bits_nat]
    split
    · rename_i e
      rw [e, Nat.zero_testBit] at h1
      cases h1
    · have := Nat.ge_two_pow_of_testBit h1
      rcases Nat.lt_or_ge x.toNat (n.log2 + 1) with hl | hl
      · exact hl
      · have a : n < 2 ^ (n.log2 + 1) := Nat.lt_log2_self
        have b : 2 ^ (n.log2 + 1) ≤ 2 ^ x.toNat := Nat.pow_le_pow_right (by decide) hl
        omega
theorem seatsN_up (n : Nat) : (seatsN n).Pairwise (· < ·) := by
  unfold seatsN
  rw [List.pairwise_map]
  exact (List.pairwise_lt_range.filter _).imp fun h => by omega
theorem seats_bits {l : List Int} (up : l.Pairwise (· < ·)) (h : ∀ d ∈ l, 0 ≤ d) : seatsN (bitsN l) = l := pw_ext (seatsN_up _) up fun x => by
  rw [seatsN_mem]
  constructor
  · rintro ⟨h0, h1⟩
    rw [bitsN_test h] at h1
    have := of_decide_eq_true h1
    rw [Int.toNat_of_nonneg h0] at this
    exact this
  · intro hx
    refine ⟨h x hx, ?_⟩
    rw [bitsN_test h, Int.toNat_of_nonneg (h x hx)]
    exact decide_eq_true hx
theorem bitsN_and {a b : List Int} (ha : ∀ d ∈ a, 0 ≤ d) (hb : ∀ d ∈ b, 0 ≤ d) (i : Nat) : (bitsN a &&& bitsN b).testBit i = decide ((i : Int) ∈ a ∧ (i : Int) ∈ b) := by
  rw [Nat.testBit_and, bitsN_test ha, bitsN_test hb, Bool.decide_and]
theorem bitsN_inj {a b : List Int} (ua : a.Pairwise (· < ·)) (ub : b.Pairwise (· < ·)) (ha : ∀ d ∈ a, 0 ≤ d) (hb : ∀ d ∈ b, 0 ≤ d) : bitsN a = bitsN b ↔ a = b :=
  ⟨fun e => by rw [← seats_bits ua ha, e, seats_bits ub hb], fun e => by rw [e]⟩
/-- other & one == other -/
theorem bitsN_sub {a b : List Int} (ha : ∀ d ∈ a, 0 ≤ d) (hb : ∀ d ∈ b, 0 ≤ d) : bitsN a &&& bitsN b = bitsN a ↔ ∀ x ∈ a, x ∈ b := by
  constructor
  · intro e x hx
    have h0 := ha x hx
    have q : (bitsN a &&& bitsN b).testBit x.toNat = (bitsN a).testBit x.toNat := by rw [e]
    rw [bitsN_and ha hb, bitsN_test ha, Int.toNat_of_nonneg h0] at q
    have : decide (x ∈ a) = true := decide_eq_true hx
    rw [this] at q
    exact (of_decide_eq_true q).2
  · intro h
    refine Nat.eq_of_testBit_eq fun i => ?_
    rw [bitsN_and ha hb, bitsN_test ha]
    exact decide_eq_decide.mpr ⟨fun z => z.1, fun z => ⟨z, h _ z⟩⟩
theorem bitsN_apart {a b : List Int} (ha : ∀ d ∈ a, 0 ≤ d) (hb : ∀ d ∈ b, 0 ≤ d) : bitsN a &&& bitsN b = 0 ↔ ∀ x ∈ a, x ∉ b := by
  constructor
  · intro e x hx hx'
    have h0 := ha x hx
    have q : (bitsN a &&& bitsN b).testBit x.toNat = false := by rw [e, Nat.zero_testBit]
    rw [bitsN_and ha hb, Int.toNat_of_nonneg h0] at q
    exact of_decide_eq_false q ⟨hx, hx'⟩
  · intro h
    refine Nat.eq_of_testBit_eq fun i => ?_
    rw [bitsN_and ha hb, Nat.zero_testBit]
    exact decide_eq_false fun z => h _ z.1 z.2
/-- n & -n is the power of the least bit -/
theorem low_bit {n i : Nat} (hi : n.testBit i = true) (hl : ∀ j, j < i → n.testBit j = false) : n - (n &&& (n - 1)) = 2 ^ i := by
  obtain ⟨q, hq⟩ : ∃ q, n = q * 2 ^ (i + 1) + 2 ^ i := by
    refine ⟨n / 2 ^ (i + 1), ?_⟩
    have e : n % 2 ^ (i + 1) = 2 ^ i := by
      refine Nat.eq_of_testBit_eq fun j => ?_
      rw [Nat.testBit_mod_two_pow, Nat.testBit_two_pow]
      by_cases h : j = i
      · subst h
        simp [hi]
      · by_cases h2 : j < i
        · rw [hl j h2]
          simp [Ne.symm h]
        · simp [Ne.symm h]
          omega
    have := Nat.div_add_mod n (2 ^ (i + 1))
    rw [e, Nat.mul_comm] at this
    exact this.symm
  have p : 0 < 2 ^ i := Nat.two_pow_pos i
  have e2 : n - 1 = q * 2 ^ (i + 1) + (2 ^ i - 1) := by omega
  have e3 : n &&& (n - 1) = q * 2 ^ (i + 1) := by
    refine Nat.eq_of_testBit_eq fun j => ?_
    rw [Nat.testBit_and, e2, hq, Nat.mul_comm q, Nat.testBit_two_pow_mul_add _ (by rw [Nat.pow_succ]; omega), Nat.testBit_two_pow_mul_add _ (by rw [Nat.pow_succ]; omega), Nat.testBit_two_pow_mul]
    by_cases h : j < i + 1
    · rw [if_pos h, if_pos h, Nat.testBit_two_pow, Nat.testBit_two_pow_sub_one]
      have : decide (j ≥ i + 1) = false := decide_eq_false (by omega)
      rw [this, Bool.false_and, Bool.and_eq_false_iff]
      by_cases h2 : i = j
      · exact .inr (decide_eq_false (by omega))
      · exact .inl (decide_eq_false h2)
    · rw [if_neg h, if_neg h, Bool.and_self]
      have : decide (j ≥ i + 1) = true := decide_eq_true (by omega)
      rw [this, Bool.true_and]
  rw [e3, hq]
  omega
theorem bits_pow (i : Nat) : Builtin.Int.intBits ((2 ^ i : Nat) : Int) = i + 1 := by
  rw [bits_nat, if_neg (Nat.ne_of_gt (Nat.two_pow_pos i)), Nat.log2_two_pow]
/-! ### steps -/
section
variable {K : PySem.W.Frag} {σ : St} {H : Hp} {Q : VK} {QB : Bool → Hp → Prop} {ta : TE} {x : V} {a b k : Nat} {m : Int}
theorem o_shl1 (hk : k ≤ 1000) (h : Q (.int ((2 ^ k : Nat) : Int)) H) : zShl (.int 1) (.int (k : Int)) H Q := ⟨1, (k : Int), rfl, rfl, by
  refine ⟨by omega, ?_, ?_⟩ <;> first | decide | omega, by dsimp only; rw [shl_one]; exact h⟩
theorem o_shr (h : Q (.int ((a >>> k : Nat) : Int)) H) : zShr (.int (a : Int)) (.int (k : Int)) H Q := ⟨(a : Int), (k : Int), rfl, rfl, by omega, by dsimp only; rw [shr_nat]; exact h⟩
theorem o_and (h : Q (.int ((a &&& b : Nat) : Int)) H) : zAnd (.int (a : Int)) (.int (b : Int)) H Q := ⟨(a : Int), (b : Int), rfl, rfl, by dsimp only; rw [and_nat]; exact h⟩
theorem o_or (h : Q (.int ((a ||| b : Nat) : Int)) H) : zOr (.int (a : Int)) (.int (b : Int)) H Q := ⟨(a : Int), (b : Int), rfl, rfl, by dsimp only; rw [or_nat]; exact h⟩
theorem o_and1 (h : Q (.int ((a % 2 : Nat) : Int)) H) : zAnd (.int (a : Int)) (.int 1) H Q := ⟨(a : Int), 1, rfl, rfl, by
  dsimp only
  rw [show (1 : Int) = ((1 : Nat) : Int) from rfl, and_nat, Nat.and_one_is_mod]
  exact h⟩
theorem o_low (ha : 0 < a) (h : Q (.int ((a - (a &&& (a - 1)) : Nat) : Int)) H) : zAnd (.int (a : Int)) (.int (-(a : Int))) H Q := ⟨(a : Int), -(a : Int), rfl, rfl, by dsimp only; rw [low_nat a ha]; exact h⟩
theorem o_ipOr (h : Q (.int ((a ||| b : Nat) : Int)) H) : ipI (fun i j => Builtin.bitOr i j) (.int (a : Int)) (.int (b : Int)) H Q := ⟨(a : Int), (b : Int), rfl, rfl, by dsimp only; rw [or_nat]; exact h⟩
theorem g_lst {n : Nat} {ts : TGs} {c : Addr} {xs : List V} {QS : St → Hp → Prop} (h : SqL K H c xs) (hn : xs.length = n) (k : ts xs σ H QS) : gLst K n ts (.ref c) σ H QS := ⟨c, xs, rfl, h, hn, k⟩
theorem dLI_inj {a b : List (List Int)} : dLI a = dLI b ↔ a = b := by
  refine ⟨fun h => ?_, fun h => by rw [h]⟩
  have : ∀ {a b : List (List Int)}, a.map dI = b.map dI → a = b := fun {a} => by
    induction a with
    | nil => intro b h; cases b with
      | nil => rfl
      | cons _ _ => cases h
    | cons x a ih => intro b h; cases b with
      | nil => cases h
      | cons y b =>
        rw [List.map_cons, List.map_cons, List.cons.injEq] at h
        rw [dI_inj.mp h.1, ih h.2]
  exact this (PyData.list.inj h)
/-- lists of tuples of ints -/
theorem o_neLI {c d : Addr} {us ws : List V} {as bs : List (List Int)} (ha : SqL K H c us) (hb : SqL K H d ws) (ta : TIs H us as) (tb : TIs H ws bs) (h : Q (.bl (!decide (as = bs))) H) : zNe K (.ref c) (.ref d) H Q :=
  o_neD (.lst ha ta.dp) (.lst hb tb.dp) (pl_dLI.shaped (by decide)) (pl_dLI.shaped (by decide)) (by rw [pl_dLI.eqv pl_dLI dLI_inj]; exact h)
theorem o_eqLI {c d : Addr} {us ws : List V} {as bs : List (List Int)} (ha : SqL K H c us) (hb : SqL K H d ws) (ta : TIs H us as) (tb : TIs H ws bs) (h : Q (.bl (decide (as = bs))) H) : zEq K (.ref c) (.ref d) H Q :=
  o_eqD (.lst ha ta.dp) (.lst hb tb.dp) (pl_dLI.shaped (by decide)) (pl_dLI.shaped (by decide)) (by rw [pl_dLI.eqv pl_dLI dLI_inj]; exact h)
theorem s_asgU {n : Nat} {ts : TGs} {D : Ends} {te : TE} (h : te σ H fun v H1 => gLst K n ts v σ H1 D.nx) : tAsg te (gLst K n ts) D σ H := h
theorem e_bits (h : ta σ H fun x H1 => ∃ i, x = .int i ∧ Q (.int (Builtin.Int.intBits i : Nat)) H1) : tBits ta σ H Q := h
theorem bits_ {P : V → Prop} (h : P (.int (Builtin.Int.intBits m : Nat))) : ∃ i, V.int m = .int i ∧ P (.int (Builtin.Int.intBits i : Nat)) := ⟨m, rfl, h⟩
theorem t_bit (h : QB (a.testBit k) H) : ∃ q, TruV K (.int ((a >>> k % 2 : Nat) : Int)) H q ∧ QB q H := by
  refine t_int ?_
  have e : ((((a >>> k) % 2 : Nat) : Int) != 0) = a.testBit k := by
    rw [Nat.testBit_eq_decide_div_mod_eq, Nat.shiftRight_eq_div_pow]
    rcases Nat.mod_two_eq_zero_or_one (a / 2 ^ k) with z | z
    · rw [z]
      rfl
    · rw [z]
      rfl
  have e2 : ((((a >>> k % 2 : Nat)) : Int) != 0) = a.testBit k := e
  rw [e2]
  exact h
end
/-! ### what a part made, frozen -/
theorem gr_of_same {F H H' : Hp} {D : Addr} (hF : Same F H) (s : Same H H') (hD : Fresh H D) : ∃ F', Gr M0 F H F' H' ∧ F' D = none ∧ ∀ b o, H b = none → b ≠ D → H' b = some o → F' b = some o := by
  refine ⟨fun b => if ((H b).isNone && decide (b ≠ D)) = true then H' b else F b, ⟨fun b u e => ?_, fun b u e => ?_, fun b o _ e => s b o e, fun b o e f => ?_⟩, ?_, fun b o e1 e2 e3 => ?_⟩
  · rw [hF b u e, if_neg (by simp)]
    exact e
  · split at e
    · exact e
    · exact s b u (hF b u e)
  · show (if _ then _ else _) = _
    rw [e, if_neg (by simp)]
    exact f
  · show (if _ then _ else _) = _
    rw [if_neg (by simp)]
    exact fresh_F hF hD
  · show (if _ then _ else _) = _
    rw [e1, if_pos (by simp [e2])]
    exact e3
section
variable {K : PySem.W.Frag} {σ : St} {H : Hp} {tl te : TE} {c : TT} {Q : VK} {i j : Nat} {g : TG} {a : Addr} {xs : List V} {vs : List Nat} {ns : List Int}
def LcE (K : PySem.W.Frag) (g : TG) (tt : TT) (te : TE) (vs : List Nat) (σ : St) (x : V) (H : Hp) (Q : VK) : Prop := ∃ a xs, [x] = [V.ref a] ∧ SqL K H a xs ∧ LcW (Ite K a) g tt te vs σ H Q
theorem e_lcE (h : tl σ H fun x H1 => LcE K g c te vs σ x H1 Q) : tLc (iEnum K (tCons tl tNil)) g c te vs σ H Q := h
theorem lc_E (hs : SqL K H a xs) (Pv : Addr → Nat → Hp → Prop) (h0 : ∀ D, Fresh H D → Pv D 0 (upd H D (.lst []))) (hl : ∀ D i H', i ≤ xs.length → Pv D i H' → SqL K H' a xs)
    (hb : ∀ D i x H' q, Fresh H D → xs[i]? = some x → Pv D i H' → Fresh H' q → g (.ref q) (wipe σ vs) (upd H' q (.tup [.int (i : Int), x])) fun σ2 H3 => wipe σ2 vs = wipe σ vs ∧ c σ2 H3 fun b H4 =>
      if b = true then te σ2 H4 fun y H5 => ∃ acc, H5 D = some (.lst acc) ∧ acc.length < sizeLine ∧ Pv D (i + 1) (upd H5 D (.lst (acc ++ [y]))) else Pv D (i + 1) H4)
    (hd : ∀ D H', Fresh H D → Pv D xs.length H' → Q (.ref D) H') : LcE K g c te vs σ (.ref a) H Q := by
  refine ⟨a, xs, rfl, hs, fun D nD => ⟨fun i m H' => m = xs.length - i ∧ i ≤ xs.length ∧ Pv D i H', ⟨xs.length, by simp, Nat.zero_le _, h0 D nD⟩, ?_⟩⟩
  rintro i m H' ⟨rfl, hi, pv⟩
  have sq := hl D i H' hi pv
  by_cases cc : i < xs.length
  · refine .inr ⟨⟨xs, xs[i], sq, List.getElem?_eq_getElem cc⟩, Pv D (i + 1), fun H2 p2 => ⟨xs.length - (i + 1), by omega, rfl, cc, p2⟩, fun x H2 y => ?_⟩
    obtain ⟨q, z, rfl, nq, rfl, f⟩ := y
    exact hb D i z H' q nD (f xs sq) pv nq
  · have e : i = xs.length := by omega
    subst e
    exact .inl ⟨⟨xs, sq, Nat.le_refl _⟩, hd D H' nD pv⟩
/-- what the turns of a comprehension have made -/
def RelAt (R : Nat → V → Hp → Prop) (H : Hp) (D : Addr) (i : Nat) (H' : Hp) : Prop := Same H H' ∧ ∃ ys, H' D = some (.lst ys) ∧ ys.length = i ∧ ∀ j y, ys[j]? = some y → R j y H' ∧ y ≠ .ref D
/-- what a relation of made values must bear -/
structure Stab (R : Nat → V → Hp → Prop) : Prop where
  mono : ∀ i y H1 H2, Same H1 H2 → R i y H1 → R i y H2
  put : ∀ i y H1 D acc acc', H1 D = some (.lst acc) → y ≠ .ref D → R i y H1 → R i y (upd H1 D (.lst acc'))
theorem rel_turn {R : Nat → V → Hp → Prop} (S : Stab R) {D : Addr} {n : Nat} {H' H2 : Hp} {te : TE} {σ1 : St} (nD : Fresh H D) (hz : n ≤ 10000) (h : RelAt R H D n H') (s2 : Same H' H2)
    (he : ∀ (Q : VK), (∀ y H3, Same H2 H3 → (∀ b, y = .ref b → Fresh H2 b ∨ ∃ o, H b = some o) → R n y H3 → Q y H3) → te σ1 H2 Q) :
    te σ1 H2 fun y H5 => ∃ acc, H5 D = some (.lst acc) ∧ acc.length < sizeLine ∧ RelAt R H D (n + 1) (upd H5 D (.lst (acc ++ [y]))) := by
  obtain ⟨sH, ys, eD, ly, hy⟩ := h
  refine he _ fun y H3 s3 fr r => ?_
  have eD3 := s3 _ _ (s2 _ _ eD)
  have ny : y ≠ .ref D := fun e => by
    rcases fr D e with f | ⟨o, f⟩
    · rw [Fresh, s2 _ _ eD] at f
      cases f
    · rw [Fresh, f] at nD
      cases nD
  refine ⟨ys, eD3, by rw [sizeLine_eq]; omega, fun b o e => ?_, ys ++ [y], upd_same, by rw [List.length_append, ly]; rfl, fun j z ez => ?_⟩
  · rw [upd_ne (ne_of_none e nD)]
    exact s3 _ _ (s2 _ _ (sH _ _ e))
  · rcases Nat.lt_or_ge j ys.length with l | l
    · rw [List.getElem?_append_left l] at ez
      have q := hy j z ez
      exact ⟨S.put _ _ _ _ _ _ eD3 q.2 (S.mono _ _ _ _ (s2.trans s3) q.1), q.2⟩
    · rw [List.getElem?_append_right l] at ez
      have l0 : j - ys.length = 0 := by
        have := (List.getElem?_eq_some_iff.mp ez).1
        simp only [List.length_singleton] at this
        omega
      rw [l0, List.getElem?_cons_zero] at ez
      obtain rfl : y = z := Option.some.inj ez
      rw [show j = n by omega]
      exact ⟨S.put _ _ _ _ _ _ eD3 ny r, ny⟩
theorem rel_start {R : Nat → V → Hp → Prop} {D : Addr} (nD : Fresh H D) : RelAt R H D 0 (upd H D (.lst [])) := ⟨fun b o e => (upd_ne (ne_of_none e nD)).trans e, [], upd_same, rfl, fun j y h => by cases h⟩
theorem lcL_rel (R : Nat → V → Hp → Prop) (S : Stab R) (hs : SqL K H a xs) (hz : xs.length ≤ 10000)
    (he : ∀ i x, xs[i]? = some x → ∀ H2 (Q : VK), Same H H2 → (∀ y H3, Same H2 H3 → (∀ b, y = .ref b → Fresh H2 b ∨ ∃ o, H b = some o) → R i y H3 → Q y H3) → te ((wipe σ vs).set j (some x)) H2 Q)
    (k : ∀ D H' ys, Fresh H D → Same H H' → H' D = some (.lst ys) → ys.length = xs.length → (∀ i y, ys[i]? = some y → R i y H') → Q (.ref D) H') (hw : ∀ x, wipe ((wipe σ vs).set j (some x)) vs = wipe σ vs := by intro _; rfl) : LcL K (gName j) tYes te vs σ (.ref a) H Q :=
  lc_L hs (fun D i H' => RelAt R H D i H') (fun D nD => rel_start nD) (fun D i H' _ h => Same.seq h.1 hs) (fun D i x H' nD hx h => ⟨hw x, c_yes (iteT (rel_turn S nD (by have := (List.getElem?_eq_some_iff.mp hx).1; omega) h (Same.refl _) fun Q q => he i x hx H' Q h.1 q))⟩)
    fun D H' nD ⟨sH, ys, eD, ly, hy⟩ => k D H' ys nD sH eD ly fun i y e => (hy i y e).1
theorem lcT_rel (R : Nat → V → Hp → Prop) (S : Stab R) (hs : SqT K H a xs) (hz : xs.length ≤ 10000)
    (he : ∀ i x, xs[i]? = some x → ∀ H2 (Q : VK), Same H H2 → (∀ y H3, Same H2 H3 → (∀ b, y = .ref b → Fresh H2 b ∨ ∃ o, H b = some o) → R i y H3 → Q y H3) → te ((wipe σ vs).set j (some x)) H2 Q)
    (k : ∀ D H' ys, Fresh H D → Same H H' → H' D = some (.lst ys) → ys.length = xs.length → (∀ i y, ys[i]? = some y → R i y H') → Q (.ref D) H') (hw : ∀ x, wipe ((wipe σ vs).set j (some x)) vs = wipe σ vs := by intro _; rfl) : LcT K (gName j) tYes te vs σ (.ref a) H Q :=
  lc_T hs (fun D i H' => RelAt R H D i H') (fun D nD => rel_start nD) (fun D i H' _ h => Same.seqT h.1 hs) (fun D i x H' nD hx h => ⟨hw x, c_yes (iteT (rel_turn S nD (by have := (List.getElem?_eq_some_iff.mp hx).1; omega) h (Same.refl _) fun Q q => he i x hx H' Q h.1 q))⟩)
    fun D H' nD ⟨sH, ys, eD, ly, hy⟩ => k D H' ys nD sH eD ly fun i y e => (hy i y e).1
theorem lcR_rel {n : Int} (R : Nat → V → Hp → Prop) (S : Stab R) (hn : -(2 ^ 62) ≤ n ∧ n ≤ 10000)
    (he : ∀ i : Nat, (i : Int) < n → ∀ H2 (Q : VK), Same H H2 → (∀ y H3, Same H2 H3 → (∀ b, y = .ref b → Fresh H2 b ∨ ∃ o, H b = some o) → R i y H3 → Q y H3) → te ((wipe σ vs).set j (some (.int (i : Int)))) H2 Q)
    (k : ∀ D H' ys, Fresh H D → Same H H' → H' D = some (.lst ys) → ys.length = n.toNat → (∀ i y, ys[i]? = some y → R i y H') → Q (.ref D) H') (hw : ∀ x, wipe ((wipe σ vs).set j (some x)) vs = wipe σ vs := by intro _; rfl) : LcR1 (gName j) tYes te vs σ (.int n) H Q :=
  lc_R1 (by omega) (fun D i H' => RelAt R H D i H') (fun D nD => rel_start nD) (fun D i H' nD hi h => ⟨hw _, c_yes (iteT (rel_turn S nD (by omega) h (Same.refl _) fun Q q => he i hi H' Q h.1 q))⟩)
    fun D H' nD ⟨sH, ys, eD, ly, hy⟩ => k D H' ys nD sH eD ly fun i y e => (hy i y e).1
theorem lcE_rel (R : Nat → V → Hp → Prop) (S : Stab R) (hs : SqL K H a xs) (hz : xs.length ≤ 10000)
    (he : ∀ n x, xs[n]? = some x → ∀ H2 (Q : VK), Same H H2 → (∀ y H3, Same H2 H3 → (∀ b, y = .ref b → Fresh H2 b ∨ ∃ o, H b = some o) → R n y H3 → Q y H3) → te (((wipe σ vs).set i (some (.int (n : Int)))).set j (some x)) H2 Q)
    (k : ∀ D H' ys, Fresh H D → Same H H' → H' D = some (.lst ys) → ys.length = xs.length → (∀ i y, ys[i]? = some y → R i y H') → Q (.ref D) H')
    (hw : ∀ x y, wipe (((wipe σ vs).set i (some x)).set j (some y)) vs = wipe σ vs := by intro _ _; rfl) : LcE K (gTup K 2 (gCons (gName i) (gCons (gName j) gNil))) tYes te vs σ (.ref a) H Q :=
  lc_E hs (fun D i H' => RelAt R H D i H') (fun D nD => rel_start nD) (fun D i H' _ h => Same.seq h.1 hs) (fun D n x H' q nD hx h nq => by
    have s2 : Same H' (upd H' q (.tup [.int (n : Int), x])) := fun b o e => (upd_ne (ne_of_none e nq)).trans e
    refine g_tup (SqT.of upd_same) rfl (g_cons (g_name (g_cons (g_name (g_nil ⟨hw _ _, c_yes (iteT ?_)⟩)))))
    exact rel_turn S nD (by have := (List.getElem?_eq_some_iff.mp hx).1; omega) h s2 fun Q q => he n x hx _ Q (h.1.trans s2) q)
    fun D H' nD ⟨sH, ys, eD, ly, hy⟩ => k D H' ys nD sH eD ly fun i y e => (hy i y e).1
theorem stab_val {f : Nat → V → Prop} : Stab fun i y _ => f i y := ⟨fun _ _ _ _ _ h => h, fun _ _ _ _ _ _ _ _ h => h⟩
theorem stab_TI {f : Nat → List Int → Prop} : Stab fun i y H => ∃ ns, f i ns ∧ TI H y ns := ⟨fun _ _ _ _ s ⟨ns, h, t⟩ => ⟨ns, h, t.mono s⟩, fun i y H1 D acc acc' e _ ⟨ns, h, t, e1, e2⟩ => ⟨ns, h, t, e1, by
  rw [upd_ne]
  · exact e2
  · intro z
    rw [z, e] at e2
    cases e2⟩⟩
theorem lcL_igrow (p : Int → Bool) (f : Int → V) (hs : SqL K H a (ns.map V.int)) (hz : ns.length ≤ 10000) {tt : TT} (ht : ∀ x ∈ ns, ∀ H2 (QB : Bool → Hp → Prop), Same H H2 → (∀ H3, Same H2 H3 → QB (p x) H3) → tt ((wipe σ vs).set j (some (.int x))) H2 QB)
    (he : ∀ x ∈ ns, ∀ H2 (Q : VK), Same H H2 → p x = true → (∀ H3, Same H2 H3 → Q (f x) H3) → te ((wipe σ vs).set j (some (.int x))) H2 Q)
    (k : ∀ D H', Fresh H D → Same H H' → H' D = some (.lst ((ns.filter p).map f)) → Q (.ref D) H') (hw : ∀ x, wipe ((wipe σ vs).set j (some x)) vs = wipe σ vs := by intro _; rfl) : LcL K (gName j) tt te vs σ (.ref a) H Q :=
  lcL_grow (onI p) (mapI f) hs (by rw [List.length_map]; exact hz) (fun x hx H2 QB hs q => by
    obtain ⟨z, hz, rfl⟩ := List.mem_map.mp hx
    exact ht z hz H2 QB hs q) (fun x hx H2 Q hs hp q => by
    obtain ⟨z, hz, rfl⟩ := List.mem_map.mp hx
    exact he z hz H2 Q hs hp q) (fun D H' hD hS e => by
    rw [fil_ints] at e
    exact k D H' hD hS e) hw
/-! ### filters by place, growing -/
theorem rng_step (p : Nat → Bool) (f : Nat → V) (i : Nat) : ((List.range (i + 1)).filter p).map f = if p i = true then ((List.range i).filter p).map f ++ [f i] else ((List.range i).filter p).map f := by
  rw [List.range_succ, List.filter_append, List.map_append]
  by_cases h : p i = true
  · rw [if_pos h, List.filter_cons_of_pos h]
    rfl
  · rw [if_neg h, List.filter_cons_of_neg h, List.filter_nil, List.map_nil, List.append_nil]
theorem rng_short (p : Nat → Bool) (f : Nat → V) {i : Nat} (h : i ≤ 10000) : (((List.range i).filter p).map f).length < sizeLine := by
  have := List.length_filter_le p (List.range i)
  rw [List.length_range] at this
  rw [List.length_map, sizeLine_eq]
  omega
theorem lcL_ig {tt : TT} (p : Nat → Bool) (f : Nat → V) (hs : SqL K H a xs) (hz : xs.length ≤ 10000) (ht : ∀ i x, xs[i]? = some x → ∀ H2 (QB : Bool → Hp → Prop), Same H H2 → (∀ H3, Same H2 H3 → QB (p i) H3) → tt ((wipe σ vs).set j (some x)) H2 QB)
    (he : ∀ i x, xs[i]? = some x → ∀ H2 (Q : VK), Same H H2 → p i = true → (∀ H3, Same H2 H3 → Q (f i) H3) → te ((wipe σ vs).set j (some x)) H2 Q)
    (k : ∀ D H', Fresh H D → Same H H' → H' D = some (.lst (((List.range xs.length).filter p).map f)) → Q (.ref D) H') (hw : ∀ x, wipe ((wipe σ vs).set j (some x)) vs = wipe σ vs := by intro _; rfl) : LcL K (gName j) tt te vs σ (.ref a) H Q :=
  lc_L hs (fun D i H' => GrowAt (((List.range i).filter p).map f) H D H') (fun D hD => ⟨fun b u e => (upd_ne (ne_of_none e hD)).trans e, upd_same⟩) (fun D i H' _ h => Same.seq h.1 hs) (fun D i x H' hD hx h => ⟨hw x,
    grow_turn (b := p i) (y := f i) hD (rng_short p f (by have := (List.getElem?_eq_some_iff.mp hx).1; omega)) h (rng_step p f i) (fun H2 QB hs q => ht i x hx H2 QB hs q) (fun H2 Q hs hp q => he i x hx H2 Q hs hp q)⟩) fun D H' hD h => k D H' hD h.1 h.2
theorem lcT_ig {tt : TT} (p : Nat → Bool) (f : Nat → V) (hs : SqT K H a xs) (hz : xs.length ≤ 10000) (ht : ∀ i x, xs[i]? = some x → ∀ H2 (QB : Bool → Hp → Prop), Same H H2 → (∀ H3, Same H2 H3 → QB (p i) H3) → tt ((wipe σ vs).set j (some x)) H2 QB)
    (he : ∀ i x, xs[i]? = some x → ∀ H2 (Q : VK), Same H H2 → p i = true → (∀ H3, Same H2 H3 → Q (f i) H3) → te ((wipe σ vs).set j (some x)) H2 Q)
    (k : ∀ D H', Fresh H D → Same H H' → H' D = some (.lst (((List.range xs.length).filter p).map f)) → Q (.ref D) H') (hw : ∀ x, wipe ((wipe σ vs).set j (some x)) vs = wipe σ vs := by intro _; rfl) : LcT K (gName j) tt te vs σ (.ref a) H Q :=
  lc_T hs (fun D i H' => GrowAt (((List.range i).filter p).map f) H D H') (fun D hD => ⟨fun b u e => (upd_ne (ne_of_none e hD)).trans e, upd_same⟩) (fun D i H' _ h => Same.seqT h.1 hs) (fun D i x H' hD hx h => ⟨hw x,
    grow_turn (b := p i) (y := f i) hD (rng_short p f (by have := (List.getElem?_eq_some_iff.mp hx).1; omega)) h (rng_step p f i) (fun H2 QB hs q => ht i x hx H2 QB hs q) (fun H2 Q hs hp q => he i x hx H2 Q hs hp q)⟩) fun D H' hD h => k D H' hD h.1 h.2
theorem ones_of (p : Nat → Bool) (n : Nat) : HO.lst (((List.range n).filter p).map fun _ => V.int 1) = ones ((List.range n).filter p).length ∧ (((List.range n).filter p).length = 0 ↔ ∀ i, i < n → p i = false) := by
  constructor
  · unfold ones
    congr 1
    rw [List.map_replicate]
    exact List.map_const'
  · rw [List.length_eq_zero_iff, List.filter_eq_nil_iff]
    exact ⟨fun h i hi => Bool.eq_false_iff.mpr (h i (List.mem_range.mpr hi)), fun h i hi => Bool.eq_false_iff.mp (h i (List.mem_range.mp hi))⟩
/-- [1 for x in xs if ..], the test making new things -/
theorem lcL_onesG {tt : TT} (p : Nat → Bool) (hs : SqL K H a xs) (hz : xs.length ≤ 10000) (ht : ∀ i x, xs[i]? = some x → ∀ H2 (QB : Bool → Hp → Prop), Same H H2 → (∀ H3, Same H2 H3 → QB (p i) H3) → tt ((wipe σ vs).set j (some x)) H2 QB)
    (k : ∀ D c H', Fresh H D → Same H H' → H' D = some (ones c) → (c = 0 ↔ ∀ i, i < xs.length → p i = false) → Q (.ref D) H') (hw : ∀ x, wipe ((wipe σ vs).set j (some x)) vs = wipe σ vs := by intro _; rfl) : LcL K (gName j) tt (tC (.int 1)) vs σ (.ref a) H Q :=
  lcL_ig p (fun _ => .int 1) hs hz ht (fun i x hx H2 Q s hp q => q _ (Same.refl _)) (fun D H' nD s e => k D _ H' nD s (e.trans (congrArg some (ones_of p _).1)) (ones_of p _).2) hw
theorem lcT_onesG {tt : TT} (p : Nat → Bool) (hs : SqT K H a xs) (hz : xs.length ≤ 10000) (ht : ∀ i x, xs[i]? = some x → ∀ H2 (QB : Bool → Hp → Prop), Same H H2 → (∀ H3, Same H2 H3 → QB (p i) H3) → tt ((wipe σ vs).set j (some x)) H2 QB)
    (k : ∀ D c H', Fresh H D → Same H H' → H' D = some (ones c) → (c = 0 ↔ ∀ i, i < xs.length → p i = false) → Q (.ref D) H') (hw : ∀ x, wipe ((wipe σ vs).set j (some x)) vs = wipe σ vs := by intro _; rfl) : LcT K (gName j) tt (tC (.int 1)) vs σ (.ref a) H Q :=
  lcT_ig p (fun _ => .int 1) hs hz ht (fun i x hx H2 Q s hp q => q _ (Same.refl _)) (fun D H' nD s e => k D _ H' nD s (e.trans (congrArg some (ones_of p _).1)) (ones_of p _).2) hw
/-! ### lists by place; lists of ints -/
theorem paired_of {α β : Type} {R : α → β → Prop} : ∀ {ws : List α} {ns : List β}, ws.length = ns.length → (∀ (i : Nat) (y : α), ws[i]? = some y → ∃ n, ns[i]? = some n ∧ R y n) → Paired R ws ns
  | [], [], _, _ => .nil
  | [], _ :: _, h, _ => by cases h
  | _ :: _, [], h, _ => by cases h
  | w :: ws, n :: ns, l, h => .cons (by
      obtain ⟨m, e, r⟩ := h 0 w rfl
      cases e
      exact r) (paired_of (by simpa using l) fun i y e => h (i + 1) y e)
theorem paired_get {α β : Type} {R : α → β → Prop} : ∀ {ws : List α} {ns : List β} {i : Nat} {y : α}, Paired R ws ns → ws[i]? = some y → ∃ n, ns[i]? = some n ∧ R y n
  | _, _, 0, _, .cons h _, e => by
    rw [List.getElem?_cons_zero] at e
    cases e
    exact ⟨_, rfl, h⟩
  | _, _, i + 1, _, .cons _ t, e => by
    rw [List.getElem?_cons_succ] at e ⊢
    exact paired_get t e
theorem ys_of {ys zs : List V} (l : ys.length = zs.length) (h : ∀ (i : Nat) (y : V), ys[i]? = some y → zs[i]? = some y) : ys = zs := List.ext_getElem? fun i => by
  cases e : ys[i]? with
  | some y => exact (h i y e).symm
  | none =>
    rw [List.getElem?_eq_none_iff] at e
    exact (List.getElem?_eq_none_iff.mpr (by omega)).symm
/-- v is a list of the ints ns -/
def LI (H : Hp) (v : V) (ns : List Int) : Prop := ∃ t, v = .ref t ∧ H t = some (.lst (ns.map V.int))
theorem LI.mono {H' : Hp} (e : Same H H') {v : V} {ns : List Int} (h : LI H v ns) : LI H' v ns := by
  obtain ⟨t, rfl, h⟩ := h
  exact ⟨t, rfl, e _ _ h⟩
theorem LI.dp {v : V} {ns : List Int} (h : LI H v ns) : Dp K H v (dL ns) := by
  obtain ⟨t, rfl, h⟩ := h
  exact .lst (SqL.of h) (dpAll_ints ns)
abbrev LIs (H : Hp) : List V → List (List Int) → Prop := Paired (LI H)
theorem LIs.mono {H' : Hp} (e : Same H H') {vs : List V} {nss : List (List Int)} (h : LIs H vs nss) : LIs H' vs nss := Paired.mono (fun _ _ => LI.mono e) h
theorem LIs.dp : ∀ {vs : List V} {nss : List (List Int)}, LIs H vs nss → DpAll K H vs (nss.map dL)
  | _, _, .nil => .nil
  | _, _, .cons h t => .cons h.dp (LIs.dp t)
theorem stab_LI {f : Nat → List Int → Prop} : Stab fun i y H => ∃ ns, f i ns ∧ LI H y ns := ⟨fun _ _ _ _ s ⟨ns, h, t⟩ => ⟨ns, h, t.mono s⟩, fun i y H1 D acc acc' e ny ⟨ns, h, t, e1, e2⟩ => ⟨ns, h, t, e1, by
  rw [upd_ne]
  · exact e2
  · intro z
    rw [e1, z] at ny
    exact ny rfl⟩⟩
theorem fresh_back {H' : Hp} {p : Addr} (s : Same H H') (h : Fresh H' p) : Fresh H p := by
  cases e : H p with
  | none => exact e
  | some o =>
    rw [Fresh, s _ _ e] at h
    cases h
/-- tuples stay when a list is changed -/
theorem ti_put {c : Addr} {us as : List V} {nss : List (List Int)} (h : TIs H us nss) (e : H c = some (.lst as)) {bs : List V} : TIs (upd H c (.lst bs)) us nss := Paired.mono (fun v ns h => by
  obtain ⟨t, rfl, h⟩ := h
  refine ⟨t, rfl, ?_⟩
  rw [upd_ne]
  · exact h
  · intro z
    rw [z, e] at h
    cases h) h
theorem li_put {c : Addr} {us bs : List V} {nss : List (List Int)} (h : LIs H us nss) (e : ∀ u ∈ us, u ≠ .ref c) : LIs (upd H c (.lst bs)) us nss := paired_of h.length fun i y ey => by
  obtain ⟨n, hn, t, rfl, ht⟩ := paired_get h ey
  refine ⟨n, hn, t, rfl, ?_⟩
  rw [upd_ne]
  · exact ht
  · exact fun z => e _ (List.mem_of_getElem? ey) (by rw [z])
theorem li_app {us ws : List V} {as bs : List (List Int)} (h : LIs H us as) (k : LIs H ws bs) : LIs H (us ++ ws) (as ++ bs) := by
  induction h with
  | nil => exact k
  | cons a _ ih => exact .cons a ih
theorem gr_same0 {F H' : Hp} (hF : Same F H) (s : Same H H') : Gr M0 F H F H' := ⟨Same.refl _, hF.trans s, fun b o _ e => s b o e, fun _ _ _ e => e⟩
end
end Z

/-! Zs: sorted(t), t a tuple. -/
namespace PySem
open PyProof.Rows
section
variable {prog : Program} {w : World} {A : Around} {E : Value → Shared → Prop} {s : Shared}
theorem z_collect_tup {l : Addr} {o : Obj} {n : Nat} {vs : List Value} {Q : List Value → Shared → Prop} (ho : s.heap.get? l = some o) (hc : o.cls = .type "tuple") (hd : o.data = .seq vs.toArray n)
    (h : Q vs { s with heap := (s.heap.push (seqObj "list" #[] 0)).update s.heap.objs.size (Obj.mapSeq (· ++ vs.toArray)) }) (hsz : vs.length ≤ sizeLine) :
    wpAny (model prog w) A (collect (.ref l)) Q E s := by
  unfold collect
  refine wpAny_bind (wpAny_runValue (codeAny_builtin entry_proto_collect' ?_))
  show wpAny _ _ (do again (.builtin "list.__iadd__" ⟨[← newList [], .ref l], []⟩)) _ _ s
  refine wpAny_bind (wpAny_newList (wpAny_pure ⟨Code.quiet_builtin _ (by decide +kernel), codeAny_builtin entry_list_iadd' ?_⟩))
  show wpAny _ _ (Builtin.List.listExtendWith (.ref s.heap.objs.size) (.ref l) (.ref s.heap.objs.size)) _ _ { s with heap := s.heap.push (seqObj "list" #[] 0) }
  unfold Builtin.List.listExtendWith
  have ho' : (s.heap.push (seqObj "list" #[] 0)).get? l = some o := Heap.get?_push_of_some _ ho
  refine wpAny_bind (wpAny_typeOf (T := "tuple") ⟨o, ho', hc⟩ ?_)
  have ht : (Value.type "tuple" == Value.type "tuple") = true := by rfl
  rw [if_pos (by rw [ht]; simp)]
  refine wpAny_bind (listItems_at ho' hd ?_)
  refine wpAny_bind (listItems_at (xs := #[]) (n := 0) (Heap.get?_push_size _ rfl) rfl ?_)
  rw [if_neg (by simp)]
  refine wpAny_bind (listUpdate_at (xs := #[]) (n := 0) (Heap.get?_push_size _ rfl) rfl ?_ (Nat.zero_le _) (by show (#[] ++ vs.toArray).size ≤ sizeLine + 1; simp only [Array.size_append, List.size_toArray, List.length_nil]; omega))
  refine wpAny_pure ?_
  show wpAny (model prog w) A (do
      let o ← load s.heap.objs.size
      match o.data with
      | .seq xs _ => pure xs.toList
      | _ => unsupported "internal:collect") Q E { s with heap := (s.heap.push (seqObj "list" #[] 0)).update s.heap.objs.size (Obj.mapSeq (· ++ vs.toArray)) }
  refine wpAny_bind (wpAny_load (get?_update_seq (Heap.get?_push_size _ rfl) _) ?_)
  show wpAny _ _ (pure ((#[] : Array Value) ++ vs.toArray).toList) Q E _
  rw [show ((#[] : Array Value) ++ vs.toArray).toList = vs by simp]
  exact wpAny_pure h
end
end PySem
namespace SrtO
open PySem PyProof.Rows
section
variable {prog : Program} {w : World} {A : Around} {E : Value → Shared → Prop} {s : Shared}
theorem z_sorted_ordT {l : Addr} {o : Obj} {n : Nat} {vs : List Value} {ltv : Value → Value → Bool} {Q : Value → Shared → Prop} (O : Swo ltv) (ho : s.heap.get? l = some o) (hc : o.cls = .type "tuple") (hd : o.data = .seq vs.toArray n) (hz : vs.length ≤ sizeLine)
    (hS : 2 ≤ vs.length → ∀ (h₁ : Heap) (a : Addr), h₁.get? a = some (seqObj "list" vs.toArray 0) → (∀ b o, s.heap.get? b = some o → b ≠ a ∧ h₁.get? b = some o) → SortableO prog w A.in1.in1 { s with heap := h₁ } a vs ltv)
    (h : ∀ out : List Value, Srtd ltv out → Stb ltv out vs → Q (.ref (s.heap.objs.size + 1)) { s with heap := sortedAll s.heap vs out.toArray }) :
    wpAny (model prog w) A (call (.builtin "sorted") [.ref l]) Q E s := by
  refine Calls.call_function_entry kind_sorted plain_sorted entry_sorted (args_sorted1 _) ?_
  unfold Builtin.«sorted»
  refine wpAny_bind (m := checkCount "sorted" 1 1 _) (wpAny_pure ?_)
  refine wpAny_bind (z_collect_tup ho hc hd ?_ hz)
  refine wpAny_bind (wpAny_newList ?_ hz)
  have hsz : ((s.heap.push (seqObj "list" #[] 0)).update s.heap.objs.size (Obj.mapSeq (· ++ vs.toArray))).objs.size = s.heap.objs.size + 1 := by
    rw [Heap.size_update, size_push']
  have hoL : (((s.heap.push (seqObj "list" #[] 0)).update s.heap.objs.size (Obj.mapSeq (· ++ vs.toArray))).push (seqObj "list" vs.toArray 0)).get? (s.heap.objs.size + 1) = some (seqObj "list" vs.toArray 0) := by
    rw [← hsz]; exact Heap.get?_push_size _ rfl
  have keep : ∀ b o, s.heap.get? b = some o → b ≠ s.heap.objs.size + 1 ∧ (((s.heap.push (seqObj "list" #[] 0)).update s.heap.objs.size (Obj.mapSeq (· ++ vs.toArray))).push (seqObj "list" vs.toArray 0)).get? b = some o := fun b o q => by
    have hlt : b < s.heap.objs.size := Heap.lt_size q
    refine ⟨Nat.ne_of_lt (Nat.lt_succ_of_lt hlt), Heap.get?_push_of_some _ ?_⟩
    rw [Heap.get?_update_ne _ _ _ _ (Nat.ne_of_lt hlt)]
    exact Heap.get?_push_of_some _ q
  show wpAny _ _ _ _ _ { s with heap := ((s.heap.push (seqObj "list" #[] 0)).update s.heap.objs.size (Obj.mapSeq (· ++ vs.toArray))).push (seqObj "list" vs.toArray 0) }
  rw [hsz]
  refine wpAny_bind (wpAny_holding (wpAny_call_entry slot_list_sort ⟨_, hoL, rfl⟩ entry_list_sort (list_sort_ord O hoL hz (fun h2 => hS h2 _ _ hoL keep) fun out hs hb => ⟨_, rfl, ?_⟩) (args_list_sort _)))
  exact wpAny_pure ⟨_, rfl, h out hs hb⟩
end
end SrtO
namespace Z
open PySem PySem.Spec L2
open PyProof.Rows hiding St
/-- sorted(t), t a tuple of ints -/
def rSortedIT (K : PySem.W.Frag) : List V → Hp → VK → Prop := fun vs H Q => ∃ (a : Addr) (ns : List Int), vs = [V.ref a] ∧ SqT K H a (ns.map V.int) ∧ ∀ (ns' : List Int) (p : Addr), ns'.Perm ns → ns'.Pairwise (· ≤ ·) → H p = none → Q (.ref p) (upd H p (.lst (ns'.map V.int)))
section
variable {X : Cx}
theorem cr_sortedIT : CallR X (.builtin "sorted") (rSortedIT X.K) := by
  intro pins s σ H vs us Q I r h
  obtain ⟨a, ns, rfl, hs, q⟩ := h
  obtain ⟨its, rv, ⟨o, ho, hc, n, hd⟩, hz⟩ := I.tuple hs
  rw [Vals.ref1 r]
  have hi := rv.ints
  refine SrtO.z_sorted_ordT SrtO.swo_int ho hc hd (by rw [← rv.length]; exact hz) (fun h2 h₁ a' _ _ => SrtO.ints_sortable hi h2) fun out h1 h2 => ?_
  obtain ⟨k1, k2, k3⟩ := SrtO.ints_out hi h1 h2
  obtain ⟨ep, he'⟩ := PyProof.Rows.sortedAll_at s.heap its out.toArray
  have hlen : ((out.map SrtO.iv).map V.int).length ≤ sizeLine := by
    rw [List.length_map, k2.length_eq]
    rw [List.length_map] at hz
    exact hz
  exact ⟨.ref _, upd H (s.heap.objs.size + 1) (.lst ((out.map SrtO.iv).map V.int)), I.laid (t' := s.toks) (fun _ _ => PyProof.Rows.sortedAll_old) (Nat.le_succ _) ⟨hlen, out, ep, vals_of_ints k1, he'⟩, rfl, q _ _ k2 k3 (I.hok.fresh (Nat.le_succ _))⟩
def zSortedT (K : PySem.W.Frag) (w : World) : List V → Hp → VK → Prop := orC (zSorted K w) (rSortedIT K)
theorem cr_zSortedT (hc : X.calm = true) : CallR X (.builtin "sorted") (zSortedT X.K X.w) := cr_or2 (cr_zSorted hc) cr_sortedIT
end
section
variable {K : PySem.W.Frag} {w0 : World} {σ : L2.St} {H : Hp} {Q : VK} {a b : Addr} {ta tb : TE} {v : V} {ns : List Int}
theorem o_sortIT (hs : SqT K H a (ns.map V.int)) (h : ∀ (ns' : List Int) (p : Addr), ns'.Perm ns → ns'.Pairwise (· ≤ ·) → Fresh H p → Q (.ref p) (upd H p (.lst (ns'.map V.int)))) : zSortedT K w0 [.ref a] H Q := .inr ⟨a, ns, rfl, hs, h⟩
theorem e_dget (h : ta σ H fun x H1 => tb σ H1 fun y H2 => ∃ a v, x = .ref a ∧ DGet H2 a y (some v) ∧ Q v H2) : tDGet ta tb σ H Q := h
theorem dget_T {P : V → Prop} {ks : List Key} {kvs : List (List Key × V)} (ha : H a = some (.dT kvs)) (hb : H b = some (.tup (ks.map kV))) (hv : valV kvs ks = some v) (h : P v) : ∃ a' v', V.ref a = .ref a' ∧ DGet H a' (.ref b) (some v') ∧ P v' := ⟨a, v, rfl, by rw [← hv]; exact DGet.t ha hb, h⟩
theorem e_dnin' {ta tb : TE} (h : ta σ H fun y H1 => tb σ H1 fun x H2 => ∃ a o, x = .ref a ∧ DGet H2 a y o ∧ Q (.bl (!o.isSome)) H2) : tDNotIn ta tb σ H Q := h
end
end Z

/-! Zt: sorted(xs), xs a list of tuples of ints, none of them empty. -/
namespace SrtO
open PySem PyProof.Rows Srt
section
variable {prog : Program} {w : World} {A : Around} {E : Value → Shared → Prop} {s : Shared}
def lexD (D : Bool) : List Int → List Int → Bool
  | x :: xs, y :: ys => if x = y then lexD D xs ys else decide (x < y)
  | _, _ => D
theorem lexD_eq : ∀ ns ms : List Int, HT.lexLt ns ms = lexD (decide (ns.length < ms.length)) ns ms
  | [], [] => rfl
  | [], _ :: _ => by simp [HT.lexLt, lexD]
  | _ :: _, [] => by simp [HT.lexLt, lexD]
  | x :: xs, y :: ys => by
    rw [HT.lexLt_cons, lexD, lexD_eq xs ys]
    have : decide ((x :: xs).length < (y :: ys).length) = decide (xs.length < ys.length) := decide_eq_decide.mpr (by simp)
    rw [this]
theorem lexD_ints {D b : Bool} {Q : Bool → Shared → Prop} {xs ys : List Value} {ns ms : List Int} (hx : IntsAre xs ns) (hy : IntsAre ys ms) (i : Nat) (h : Q (lexD D ns ms) s) : PySem.W.KatLex prog w A b D Q (xs.zip ys) i s := by
  induction hx generalizing ys ms i with
  | nil =>
    have e : lexD D [] ms = D := by cases ms <;> rfl
    rw [e] at h
    exact PySem.W.kat_nil h
  | @cons p t xs ns hx ih =>
    cases hy with
    | nil => exact PySem.W.kat_nil h
    | @cons q u ys ms hy =>
      show PySem.W.KatLex prog w A b D Q ((Value.int p t, Value.int q u) :: xs.zip ys) i s
      refine PySem.W.kat_cons (wpAny_eqBool_int ?_)
      by_cases e : p = q
      · subst e
        rw [beq_self_eq_true]
        have d : lexD D (p :: ns) (p :: ms) = lexD D ns ms := by rw [lexD, if_pos rfl]
        rw [d] at h
        exact PySem.W.kat_yes (ih hy (i + 1) h)
      · rw [show (p == q) = false from beq_eq_false_iff_ne.mpr e]
        refine PySem.W.kat_no (TS.oneLt_ints _ ?_)
        have d : lexD D (p :: ns) (q :: ms) = decide (p < q) := by rw [lexD, if_neg e]
        rw [d] at h
        exact h
theorem ti_cmp {vs : List Value} {k : Value → List Int} (hp : ∀ v ∈ vs, TS.TupInts s.heap v (k v)) : Cmp prog w A s (tuples' true) (fun p => p.1 ∈ vs) (lt2 fun v u => HT.lexLt (k v) (k u)) := by
  intro p q hm hm'
  show wpAny (model prog w) A (keyLt' (tuples' true) p.1 q.1) (fun r s' => s' = s ∧ r = HT.lexLt (k p.1) (k q.1)) (fun _ _ => False) s
  obtain ⟨a, xs, e1, ⟨o, ho, hc, n, hdt⟩, i⟩ := hp _ hm
  obtain ⟨a', ys, e2, ⟨o', ho', hc', n', hdt'⟩, i'⟩ := hp _ hm'
  generalize k p.1 = ns at i ⊢
  generalize k q.1 = ms at i' ⊢
  rw [e1, e2]
  refine PySem.W.kat_lt ho hdt ho' hdt' ?_
  have sz : decide (xs.size < ys.size) = decide (ns.length < ms.length) := by
    have l1 := i.length
    have l2 := i'.length
    rw [Array.length_toList] at l1 l2
    rw [l1, l2]
  rw [sz]
  exact lexD_ints i i' 0 ⟨rfl, (lexD_eq ns ms).symm⟩
theorem ti_firsts {h : Heap} {k : Value → List Int} : ∀ vs : List Value, (∀ v ∈ vs, TS.TupInts h v (k v) ∧ k v ≠ []) → ∃ fs, PySem.W.KatTups h vs fs ∧ fs.length = vs.length ∧ ∀ f, f ∈ fs → ∃ n t, f = Value.int n t
  | [], _ => ⟨[], PySem.W.KatTups.nil, rfl, fun f hf => by simp at hf⟩
  | v :: vs, x => by
    obtain ⟨fs, kt, hl, hi⟩ := ti_firsts vs fun u hu => x u (List.mem_cons_of_mem _ hu)
    obtain ⟨⟨a, xs, rfl, ⟨o, ho, hc, n, hdt⟩, i⟩, hn⟩ := x v (List.mem_cons_self ..)
    obtain ⟨y, ys, e⟩ : ∃ y ys, xs.toList = y :: ys := by
      cases q : xs.toList with
      | nil =>
        rw [q] at i
        have l := i.length
        rw [List.length_nil] at l
        exact absurd (List.length_eq_zero_iff.mp l.symm) hn
      | cons y ys => exact ⟨y, ys, rfl⟩
    obtain ⟨m, t, hy⟩ := i.all y (by rw [e]; exact List.mem_cons_self ..)
    refine ⟨y :: fs, PySem.W.KatTups.cons ho hc hdt ?_ kt, by simp [hl], ?_⟩
    · have z := congrArg (fun l : List Value => l[0]?) e
      simpa using z
    · intro f hf
      rcases List.mem_cons.mp hf with rfl | hf
      · exact ⟨m, t, hy⟩
      · exact hi f hf
theorem ti_sortable {a : Addr} {vs : List Value} {k : Value → List Int} (h0 : 0 < vs.length) (hp : ∀ v ∈ vs, TS.TupInts s.heap v (k v) ∧ k v ≠ []) (ha : ∀ o, s.heap.get? a = some o → o.cls ≠ .type "tuple") : SortableO prog w A s a vs fun v u => HT.lexLt (k v) (k u) := by
  intro h' keep
  have hp' : ∀ v ∈ vs, TS.TupInts h' v (k v) ∧ k v ≠ [] := fun v hm => ⟨(hp v hm).1.keeps fun b o e c => keep b o (fun z => by subst z; exact ha o e c) e, (hp v hm).2⟩
  obtain ⟨fs, h1, h2, h3⟩ := ti_firsts vs hp'
  refine ⟨tuples' true, fun Q E hq => ?_, ti_cmp fun v hm => (hp' v hm).1⟩
  refine PySem.W.kat_kind (T := .type "int") h1 (by omega) (fun f hm => ?_) (by rfl) ?_
  · obtain ⟨x, t, rfl⟩ := h3 f hm
    exact PySem.W.Looks.now
  · have e : (Value.type "int" != Value.type "tuple") = true := by first | decide +kernel | rfl | decide
    rw [e]
    exact hq
end
end SrtO
namespace Z
open PySem PySem.Spec L2
open PyProof.Rows hiding St
/-- sorted(xs), xs tuples of ints, none empty -/
def rSortedTI (K : PySem.W.Frag) : List V → Hp → VK → Prop := fun vs H Q => ∃ (a : Addr) (xs : List V) (dss : List (List Int)), vs = [V.ref a] ∧ SqL K H a xs ∧ TIs H xs dss ∧ (∀ d ∈ dss, d ≠ []) ∧
  ∀ ys ess p, TIs H ys ess → ys.Perm xs → ess.Perm dss → ess.Pairwise (fun d e => HT.lexLt e d = false) → H p = none → Q (.ref p) (upd H p (.lst ys))
theorem pair_map {α β : Type} {R : α → β → Prop} (f : α → β) : ∀ {xs : List α} {ds : List β}, Paired R xs ds → (∀ x d, x ∈ xs → R x d → f x = d) → ds = xs.map f
  | _, _, .nil, _ => rfl
  | _, _, .cons a r, hf => by rw [List.map_cons, hf _ _ (List.mem_cons_self ..) a, ← pair_map f r fun x d hx r => hf x d (List.mem_cons_of_mem _ hx) r]
theorem pair_all {α β γ : Type} {R : γ → β → Prop} (g : α → γ) (f : α → β) : ∀ {ys : List α}, (∀ y ∈ ys, R (g y) (f y)) → Paired R (ys.map g) (ys.map f)
  | [], _ => .nil
  | y :: ys, h => .cons (h y (List.mem_cons_self ..)) (pair_all g f fun z hz => h z (List.mem_cons_of_mem _ hz))
theorem pair_back {α β γ : Type} {R : γ → β → Prop} (g : α → γ) : ∀ {xs : List α} {ds : List β}, Paired R (xs.map g) ds → Paired (fun v d => R (g v) d) xs ds
  | [], _, .nil => .nil
  | _ :: _, _, .cons a r => .cons a (pair_back g r)
section
variable {X : Cx}
theorem cr_sortedTI : CallR X (.builtin "sorted") (rSortedTI X.K) := by
  intro pins s σ H vs us Q I r h
  obtain ⟨a, xs, dss, rfl, hs, ht, hn, q⟩ := h
  obtain ⟨its, rv, hl, hz⟩ := I.list hs
  obtain ⟨u, rfl, ru⟩ := vals1 r
  obtain rfl : u = Value.ref a := ru
  obtain ⟨e1, e2⟩ := refs_back rv fun x m => by
    obtain ⟨j, hj, rfl⟩ := List.getElem_of_mem m
    obtain ⟨d, _, t, e, _⟩ := ht.get (List.getElem?_eq_getElem hj)
    exact ⟨t, e⟩
  have tup : ∀ v ∈ its, TS.TupInts s.heap v (TS.intsOf s.heap v) ∧ TS.intsOf s.heap v ≠ [] ∧ TI H (backV v) (TS.intsOf s.heap v) := fun v hv => by
    obtain ⟨t, rfl⟩ := e2 v hv
    have hm : V.ref t ∈ xs := by rw [e1]; exact List.mem_map.mpr ⟨_, hv, rfl⟩
    obtain ⟨j, hj, ej⟩ := List.getElem_of_mem hm
    obtain ⟨d, hd, t', e, et⟩ := ht.get (List.getElem?_eq_getElem hj)
    rw [ej] at e
    cases e
    obtain ⟨_, its2, r2, o, ho, hc, n, hdt⟩ := I.hok _ _ et
    have ti : TS.TupInts s.heap (.ref t) d := ⟨t, its2.toArray, rfl, ⟨o, ho, hc, n, hdt⟩, r2.ints⟩
    rw [ti.ints]
    exact ⟨ti, hn d (List.mem_of_getElem? hd), t, rfl, et⟩
  have hzs : its.length ≤ sizeLine := by rw [← rv.length]; exact hz
  refine SrtO.sorted_ord (NtL.swo_lexL (TS.intsOf s.heap)) hl.isList hzs (fun h2 h₁ a' ha kk => ?_) fun out h1 h2 => ?_
  · refine SrtO.ti_sortable (s := { s with heap := h₁ }) (by omega) (fun v hv => ⟨(tup v hv).1.keeps fun b o e _ => (kk b o e).2, (tup v hv).2.1⟩) fun o e => ?_
    have e' : some o = some (seqObj "list" its.toArray 0) := e.symm.trans ha
    cases e'
    intro c
    exact absurd (Value.type.inj c) (by decide)
  · obtain ⟨ep, he'⟩ := PyProof.Rows.sortedAll_at s.heap its out.toArray
    have hp := h2.perm
    have h3 : ∀ u ∈ out, ∃ a, u = Value.ref a := fun u hu => e2 u (hp.mem_iff.mp hu)
    have e0 : dss = its.map (TS.intsOf s.heap) := by
      have hf : ∀ x d, x ∈ its → TI H (backV x) d → TS.intsOf s.heap x = d := fun x d hx r => by
        obtain ⟨t, et, e⟩ := r
        obtain ⟨t', et', e'⟩ := (tup x hx).2.2
        rw [et] at et'
        cases et'
        rw [e] at e'
        have := Option.some.inj e'
        injection this with this
        exact ((List.map_inj_right fun a b h => by cases h; rfl).mp this).symm
      rw [e1] at ht
      exact pair_map _ (pair_back backV ht) hf
    have hlen : (out.map backV).length ≤ sizeLine := by
      rw [List.length_map, hp.length_eq]
      exact hzs
    refine ⟨.ref _, upd H (s.heap.objs.size + 1) (.lst (out.map backV)), I.laid (t' := s.toks) (fun _ _ => PyProof.Rows.sortedAll_old) (Nat.le_succ _) ⟨hlen, out, ep, vals_back h3, he'⟩, rfl, q _ (out.map (TS.intsOf s.heap)) _ (pair_all _ _ fun v hv => (tup v (hp.mem_iff.mp hv)).2.2) (by rw [e1]; exact hp.map backV) ?_ ?_ (I.hok.fresh (Nat.le_succ _))⟩
    · rw [e0]
      exact hp.map _
    · exact List.pairwise_map.mpr (h1.imp fun {x y} z => z)
/-! ### two sorted lists of the same tuples are the same -/
theorem lex_tot : ∀ {a b : List Int}, HT.lexLt a b = false → HT.lexLt b a = false → a = b
  | [], [], _, _ => rfl
  | [], _ :: _, h, _ => by cases h
  | _ :: _, [], _, h => by cases h
  | x :: r, y :: t, h1, h2 => by
    rw [HT.lexLt_cons] at h1 h2
    by_cases e : x = y
    · subst e
      rw [if_pos rfl] at h1 h2
      rw [lex_tot h1 h2]
    · rw [if_neg e, decide_eq_false_iff_not] at h1
      rw [if_neg (fun z => e z.symm), decide_eq_false_iff_not] at h2
      omega
theorem sorted_one {a b : List (List Int)} (ha : a.Pairwise fun d e => HT.lexLt e d = false) (hb : b.Pairwise fun d e => HT.lexLt e d = false) (p : a.Perm b) : a = b := p.eq_of_pairwise (fun _ _ _ _ h1 h2 => lex_tot h2 h1) ha hb
theorem o_sortTI {a : Addr} {xs : List V} {dss : List (List Int)} {K : PySem.W.Frag} {H : Hp} {Q : VK} (hs : SqL K H a xs) (ht : TIs H xs dss) (hn : ∀ d ∈ dss, d ≠ []) (h : ∀ ys ess p, TIs H ys ess → ys.Perm xs → ess.Perm dss → ess.Pairwise (fun d e => HT.lexLt e d = false) → H p = none → Q (.ref p) (upd H p (.lst ys))) : rSortedTI K [.ref a] H Q := ⟨a, xs, dss, rfl, hs, ht, hn, h⟩
end
end Z

/-! Zc: own classes: fields, stores, methods, making, len of an object with its own __len__; powers of wide numbers. -/
namespace Z
open PySem PySem.Spec L2
open PyProof.Rows hiding St
section
variable {K : PySem.W.Frag} {σ : L2.St} {H : Hp} {Q : VK} {D : Ends} {ta tv : TE} {t : TA} {f m : Str} {C a dx : Addr} {fs : List (Str × V)} {v y : V} {sp : Sp} {dvs : List V} {E : XK}
/-! ### fields -/
def RFld (K : PySem.W.Frag) (f : Str) (x : V) (H : Hp) (Q : VK) : Prop := ∃ a C dx fs v, x = .ref a ∧ H a = some (.ins C dx fs) ∧ Cls K C ∧ NoAttr K C f ∧ fs.lookup f = some v ∧ Q v H
theorem e_fld (h : ta σ H fun x H1 => RFld K f x H1 Q) : tFld K ta f σ H Q := h
theorem o_fld (e : H a = some (.ins C dx fs)) (c : Cls K C) (n : NoAttr K C f) (l : fs.lookup f = some v) (h : Q v H) : RFld K f (.ref a) H Q := ⟨a, C, dx, fs, v, rfl, e, c, n, l, h⟩
def RSet (K : PySem.W.Frag) (f : Str) (y x : V) (H : Hp) (QH : Hp → Prop) : Prop := ∃ a C dx fs, x = .ref a ∧ H a = some (.ins C dx fs) ∧ Cls K C ∧ NoAttr K C f ∧ fs.length < 1000 ∧ QH (upd H a (.ins C dx (putF f y fs)))
theorem s_fld (h : tv σ H fun y H1 => ta σ H1 fun x H2 => RSet K f y x H2 (D.nx σ)) : sFld K ta tv f D σ H := h
theorem o_fset {QH : Hp → Prop} {gs : List (Str × V)} (e : H a = some (.ins C dx fs)) (c : Cls K C) (n : NoAttr K C f) (l : fs.length < 1000) (g : putF f y fs = gs) (h : QH (upd H a (.ins C dx gs))) : RSet K f y (.ref a) H QH :=
  ⟨a, C, dx, fs, rfl, e, c, n, l, by rw [g]; exact h⟩
theorem lk_here {k : Str} {v : V} {r : List (Str × V)} : List.lookup k ((k, v) :: r) = some v := by
  have e : (k == k) = true := beq_self_eq_true k
  simp only [List.lookup, e]
theorem lk_past {k g : Str} {v : V} {r : List (Str × V)} {o : Option V} (h : (k == g) = false) (t : List.lookup k r = o) : List.lookup k ((g, v) :: r) = o := by
  simp only [List.lookup, h]
  exact t
theorem lk_nil {k : Str} : List.lookup k ([] : List (Str × V)) = none := rfl
theorem put_here {f : Str} {v x : V} {r : List (Str × V)} : putF f v ((f, x) :: r) = (f, v) :: r := if_pos rfl
theorem put_past {f g : Str} {v x : V} {r s : List (Str × V)} (h : ¬ g = f) (t : putF f v r = s) : putF f v ((g, x) :: r) = (g, x) :: s := (if_neg h).trans (congrArg _ t)
theorem put_nil {f : Str} {v : V} : putF f v [] = [(f, v)] := rfl
/-! ### methods, making -/
def RMe (C : Addr) (m : Str) (x : V) (H : Hp) (P : Prop) : Prop := ∃ a dx fs, x = .ref a ∧ H a = some (.ins C dx fs) ∧ fs.lookup m = none ∧ P
theorem e_meth (h : ta σ H fun x H1 => RMe C m x H1 (t σ H1 fun vs H2 => sp (x :: (vs ++ dvs)) H2 Q E)) : tMeth C m sp dvs E ta t σ H Q := by
  revert h
  have : (fun x H1 => RMe C m x H1 (t σ H1 fun vs H2 => sp (x :: (vs ++ dvs)) H2 Q E)) = fun x H1 => ∃ a dx fs, x = .ref a ∧ H1 a = some (.ins C dx fs) ∧ fs.lookup m = none ∧ t σ H1 fun vs H2 => sp (x :: (vs ++ dvs)) H2 Q E := rfl
  rw [this]
  exact fun h => h
theorem o_me {P : Prop} (e : H a = some (.ins C dx fs)) (l : fs.lookup m = none) (h : P) : RMe C m (.ref a) H P := ⟨a, dx, fs, rfl, e, l, h⟩
def RMk (C : Addr) (sp : Sp) (vs : List V) (E : XK) (H : Hp) (Q : VK) : Prop := ∀ x dx, H x = none → H dx = none → dx ≠ x → sp (.ref x :: vs) (upd (upd H dx (.own x)) x (.ins C dx [])) (fun v H2 => v = .non ∧ Q (.ref x) H2) E
theorem e_make (h : t σ H fun vs H1 => RMk C sp (vs ++ dvs) E H1 Q) : tMake C sp dvs E t σ H Q := h
/-- what stands behind a new instance -/
theorem made_same {x : Addr} (nx : H x = none) (nd : H dx = none) {o p : HO} : Same H (upd (upd H dx o) x p) := fun b u e => by
  rw [upd_ne (ne_of_none e nx), upd_ne (ne_of_none e nd)]
  exact e
/-! ### len of an own object -/
def rLenO (C : Addr) (sp : Sp) : List V → Hp → VK → Prop := fun xs H Q => ∃ a dx fs, xs = [V.ref a] ∧ H a = some (.ins C dx fs) ∧ sp [V.ref a] H (fun v H2 => ∃ n : Nat, v = .int n ∧ (n : Int) < 2 ^ 62 ∧ Q (.int n) H2) E0
theorem o_lenO (e : H a = some (.ins C dx fs)) (h : sp [V.ref a] H (fun v H2 => ∃ n : Nat, v = .int n ∧ (n : Int) < 2 ^ 62 ∧ Q (.int n) H2) E0) : rLenO C sp [.ref a] H Q := ⟨a, dx, fs, rfl, e, h⟩
end
theorem cr_lenO {X : Cx} {k : Nat} {f C : Addr} {fd : FuncData} {sp : Sp} (F : FnOk X.prog X.w X.K X.mg X.base CX0 k f fd ["self"] sp) (hr : Room (k + 1) X.A) (hb : Binds X.K fd ["self"] []) (hm : Meth X.K C "__len__" f) : CallR X (.builtin "len") (rLenO C sp) := by
  intro pins s σ H xs us Q I r h
  obtain ⟨a, dx, fs, rfl, ea, q⟩ := h
  obtain ⟨u, rfl, ru⟩ := vals1 r
  obtain rfl : u = Value.ref a := ru
  obtain ⟨mA, O, _⟩ := ins_get I.hok ea
  obtain ⟨od, J, _⟩ := O.look
  obtain ⟨m, Fm⟩ := I.fr
  refine PySem.W.len_K Fm I.ok.mod.kin J hm.at_ hm.fn ?_
  have rv : Vals [V.ref a] [Value.ref a] := .cons rfl .nil
  refine wpAny_call (codeAny_mono (F.run X.A.in1 X.stack s H ⟨[.ref a], []⟩ [.ref a] [.ref a] _ E0 hr.in1 I.env0.in1 (hb s [.ref a] I.kIn rfl) rv q) fun r s' hq => ?_)
  cases r with
  | error e => exact hq.elim
  | ok fl =>
    cases fl with
    | ret u =>
      obtain ⟨v, H2, I2, rv, n, rfl, hn, q2⟩ := I.after hq
      obtain ⟨t, rfl⟩ := rv
      exact ⟨⟨by omega, by omega⟩, .int n, H2, I2.tok _, ⟨_, rfl⟩, q2⟩
    | next => exact False.elim hq
    | brk => exact False.elim hq
    | cont => exact False.elim hq
/-! ### x.f, *rest = a tuple -/
def gFld (K : PySem.W.Frag) (f : Str) (to : TE) : TG := fun v σ H Q => to σ H fun x H1 => RSet K f v x H1 (Q σ)
theorem g_fld {K : PySem.W.Frag} {σ : L2.St} {H : Hp} {Q : L2.St → Hp → Prop} {f : Str} {to : TE} {v : V} (h : to σ H fun x H1 => RSet K f v x H1 (Q σ)) : gFld K f to v σ H Q := h
theorem pg_fld {X : Cx} {o : Expr} {f : Str} {pos : Pos} {to : TE} (ho : PE X o to) : PG X (.Attribute o f pos) (gFld X.K f to) := by
  refine ⟨fun pins s σ H v u Q I r h => ?_⟩
  rw [arm_assign_Attribute]
  refine wpAny_bind (wpAny_holding (thn (ho.run pins s σ H _ I h) fun ov s1 ⟨x, H1, I1, rx, a, C, dx, fs, ex, ea, c, n, l, q⟩ => ?_))
  subst ex
  obtain rfl : ov = Value.ref a := rx
  refine wpAny_bind (wpAny_standAt (wpAny_bind (wpAny_holding (setattr_ok I1 ea c n l r fun s3 I3 => wpAny_release ⟨σ, _, I3, q⟩))))
theorem Walks.tail {prog : Program} {w : World} {A : Around} {I : Addr} {fp wr : List Addr} {n : Nat} {P : Nat → Value → Prop} {St : Nat → Heap → Prop} (W : Walks prog w A I fp wr (n + 1) P St) : Walks prog w A I fp wr n (fun i => P (i + 1)) (fun i => St (i + 1)) where
  sub := W.sub
  frame := fun i h h' => W.frame (i + 1) h h'
  item := fun i s Q E hi st hQ => W.item (i + 1) s Q E (by omega) st hQ
  done := fun s Q E st hQ => W.done s Q E st hQ
  self := fun i s Q E st hQ => W.self (i + 1) s Q E st hQ
theorem unpackStar {prog : Program} {w : World} {A : Around} {E : Value → Shared → Prop} {s : Shared} {t : Addr} {x : Value} {xs : List Value} {Q : List Value → Shared → Prop} (hh : A.handled = none) (ht : s.heap.IsTuple t (x :: xs).toArray) (hz : xs.length ≤ sizeLine)
    (hQ : ∀ (h' : Heap) tk, (∀ b o, s.heap.get? b = some o → h'.get? b = some o) → Q [x, .ref h'.objs.size] { s with heap := h'.push { cls := .type "list", data := .seq xs.toArray }, toks := tk }) : wpAny (model prog w) A (unpackItems (.ref t) 2 (some 1)) Q E s := by
  have hlt : t < s.heap.objs.size := by
    obtain ⟨o, ho, _⟩ := ht
    exact Heap.lt_size ho
  unfold unpackItems
  refine wpAny_bind ?_
  unfold notIterableAtAll
  refine wpAny_bind (wpAny_specialOf ht.typeIs F.slot_tuple_iter.lookup ?_)
  refine wpAny_pure ?_
  simp only [Bool.false_eq_true, if_false]
  refine wpAny_bind (wpAny_holding (wpAny_pyIter_tuple ht ?_))
  have hne : t ≠ s.heap.objs.size := Nat.ne_of_lt hlt
  refine wpAny_bind (wpAny_holding (wpAny_draw_tuple hne 1 0 _ _ ⟨_, Heap.get?_push_size _ rfl, rfl, rfl⟩ (ht.push _) (by simp) fun h₁ hit₁ hs₁ => ?_))
  have ht₁ : h₁.IsTuple t (x :: xs).toArray := (ht.push _).extBut hs₁.extBut hne
  rw [if_neg (by simp)]
  have W : Walks prog w A.in1 s.heap.objs.size [s.heap.objs.size, t] [s.heap.objs.size] (xs.length + 1) (fun i v => (x :: xs).toArray[i]? = some v) (fun i h => h.IsTupleIter s.heap.objs.size t i ∧ h.IsTuple t (x :: xs).toArray) :=
    Walks.tuple (A := A.in1) hh s.heap.objs.size t hne (x :: xs).toArray
  have keep₁ : ∀ b o, s.heap.get? b = some o → h₁.get? b = some o := fun b o e => hs₁.extBut b o (Nat.ne_of_lt (Heap.lt_size e)) (Heap.get?_push_of_some _ e)
  have sz₁ : s.heap.objs.size < h₁.objs.size := by
    obtain ⟨o, ho, _⟩ := hit₁
    exact Heap.lt_size ho
  refine wpAny_bind (wpAny_holding (wpAny_collect_iter (T := "tuple_iterator") (.inr (.inr (.inr rfl))) (Walks.tail W).toS (fun i s' st => st.1.typeIs) ⟨hit₁, ht₁⟩ (fun b hb => ?_) (by simp) (fun s' acc mv it => ?_) hz))
  · rcases List.mem_cons.mp hb with rfl | hb
    · exact sz₁
    · rw [List.mem_singleton.mp hb]
      exact Nat.lt_trans hlt sz₁
  · have el : acc.toList = xs := by
      refine List.ext_getElem? fun j => ?_
      have sz := it.1
      rcases Nat.lt_or_ge j xs.length with h | h
      · obtain ⟨v, hv⟩ : ∃ v, acc[j]? = some v := ⟨_, Array.getElem?_eq_getElem (by omega)⟩
        have := it.2 j v hv
        rw [Array.getElem?_toList, hv, ← this]
        simp
      · rw [List.getElem?_eq_none h, List.getElem?_eq_none (by simpa [sz] using h)]
    rw [el]
    have es : s' = { s with heap := s'.heap, toks := s'.toks } := by
      obtain ⟨h9, g9, d9, t9, o9⟩ := s'
      obtain rfl : g9 = s.gens := mv.gens
      obtain rfl : d9 = s.drawn := mv.drawn
      obtain rfl : o9 = s.os := mv.os
      rfl
    have keep₂ : ∀ b o, s.heap.get? b = some o → s'.heap.get? b = some o := fun b o e => mv.heap b o (by
      rw [List.mem_singleton]
      exact Nat.ne_of_lt (Heap.lt_size e)) (keep₁ b o e)
    have tk : List.take (xs.length - (2 - 1 - 1)) xs = xs := List.take_of_length_le (by omega)
    have dr : List.drop (xs.length - (2 - 1 - 1)) xs = [] := List.drop_of_length_le (by omega)
    rw [if_neg (by omega)]
    rw [tk, dr]
    refine wpAny_bind (wpAny_newList (wpAny_pure ?_) hz)
    show Q [x, .ref s'.heap.objs.size] _
    rw [es]
    exact hQ s'.heap s'.toks keep₂
/-- t of the first one and of a new list of the others -/
def gStar (K : PySem.W.Frag) (t : TGs) : TG := fun v σ H Q => ∃ a x xs, v = .ref a ∧ SqT K H a (x :: xs) ∧ ∀ q, H q = none → t [x, .ref q] σ (upd H q (.lst xs)) Q
theorem pg_star {X : Cx} {e0 e1 : Expr} {p : Pos} {k : Nat} {pos : Pos} {t : TGs} (hc : X.calm = true) (h : PGs X [e0, e1] t)
    (hs : assignEach [e0, .Starred e1 p] X.env = [(false, assign e0 X.env), (true, assign e1 X.env)] := by rfl) (hs' : (assignEach [e0, e1] X.env).map (·.2) = [assign e0 X.env, assign e1 X.env] := by rfl) : PG X (.Tuple [e0, .Starred e1 p] k pos) (gStar X.K t) := by
  refine ⟨fun pins s σ H v u Q I r hw => ?_⟩
  obtain ⟨a, x, xs, rfl, hq, hw⟩ := hw
  obtain rfl : u = Value.ref a := r
  obtain ⟨its, rv, ht, hz⟩ := I.tuple hq
  cases rv with
  | @cons _ y _ ys r1 r2 =>
    rw [arm_assign_Tuple]
    refine wpAny_bind (wpAny_standAt ?_)
    rw [hs]
    unfold unpack
    have hys : ys.length ≤ sizeLine := by
      have := r2.length
      rw [List.length_cons] at hz
      omega
    refine wpAny_bind (wpAny_holding (unpackStar (I.ok.hd hc) ht hys fun h' tk keep => ?_))
    have I0 : Inv X pins σ H { s with heap := h', toks := tk } := I.kept keep
    have nq := I0.hok.fresh (Nat.le_refl _)
    have I1 : Inv X pins σ (upd H h'.objs.size (.lst xs)) { s with heap := h'.push { cls := .type "list", data := .seq ys.toArray }, toks := tk } :=
      I0.laid (fun b o e => Heap.get?_push_of_some _ e) (Nat.le_refl _) ⟨by rw [List.length_cons] at hz; omega, ys, 0, r2, Heap.get?_push_size _ rfl⟩
    have := h.run pins _ σ _ [x, .ref h'.objs.size] [y, .ref h'.objs.size] Q I1 (.cons r1 (.cons rfl .nil)) (hw _ nq)
    rw [hs'] at this
    exact this
theorem g_star {K : PySem.W.Frag} {σ : L2.St} {H : Hp} {Q : L2.St → Hp → Prop} {t : TGs} {a : Addr} {x : V} {xs : List V} (hq : SqT K H a (x :: xs)) (h : ∀ q, H q = none → t [x, .ref q] σ (upd H q (.lst xs)) Q) : gStar K t (.ref a) σ H Q := ⟨a, x, xs, rfl, hq, h⟩
theorem s_asgStar {K : PySem.W.Frag} {σ : L2.St} {H : Hp} {t : TGs} {D : Ends} {te : TE} (h : te σ H fun v H1 => gStar K t v σ H1 D.nx) : tAsg te (gStar K t) D σ H := h
end Z

/-! Zu: sorted of a tuple of tuples of ints; powers of wide numbers; the law's script with its bits. -/
namespace SrtO
open PySem PyProof.Rows Srt
section
variable {prog : Program} {w : World} {A : Around} {E : Value → Shared → Prop} {s : Shared}
theorem sorted_ordT {l : Addr} {vs : List Value} {ltv : Value → Value → Bool} {Q : Value → Shared → Prop} (O : Swo ltv) (hl : IsTup s.heap l vs.toArray) (hz : vs.length ≤ sizeLine)
    (hS : 2 ≤ vs.length → ∀ (h₁ : Heap) (a : Addr), h₁.get? a = some (seqObj "list" vs.toArray 0) → (∀ b o, s.heap.get? b = some o → b ≠ a ∧ h₁.get? b = some o) → SortableO prog w A.in1.in1 { s with heap := h₁ } a vs ltv)
    (h : ∀ (out : List Value) (h₁ : Heap), Srtd ltv out → Stb ltv out vs → (∀ b o, s.heap.get? b = some o → h₁.get? b = some o) → Q (.ref h₁.objs.size) { s with heap := sortedHeap (h₁.push (seqObj "list" vs.toArray 0)) h₁.objs.size vs out.toArray }) :
    wpAny (model prog w) A (call (.builtin "sorted") [.ref l]) Q E s := by
  obtain ⟨o, ho, hc, n, hd⟩ := hl
  refine Calls.call_function_entry kind_sorted plain_sorted entry_sorted (args_sorted1 _) ?_
  unfold Builtin.«sorted»
  refine wpAny_bind (m := checkCount "sorted" 1 1 _) (wpAny_pure ?_)
  refine wpAny_bind (wpAny_collect_seq l (.inr rfl) ho hc hd (fun h₁ k₁ => ?_) (by simpa using hz))
  refine wpAny_bind (wpAny_newList ?_ (by simpa using hz))
  have hoL : (h₁.push (seqObj "list" vs.toArray 0)).get? h₁.objs.size = some (seqObj "list" vs.toArray 0) := Heap.get?_push_size _ rfl
  have keep : ∀ b o, s.heap.get? b = some o → b ≠ h₁.objs.size ∧ (h₁.push (seqObj "list" vs.toArray 0)).get? b = some o := fun b o q =>
    ⟨Nat.ne_of_lt (Heap.lt_size (k₁ b o q)), Heap.get?_push_of_some _ (k₁ b o q)⟩
  show wpAny _ _ _ _ _ { s with heap := h₁.push (seqObj "list" vs.toArray 0) }
  refine wpAny_bind (wpAny_holding (wpAny_call_entry slot_list_sort ⟨_, hoL, rfl⟩ entry_list_sort (list_sort_ord O hoL hz (fun h2 => hS h2 _ _ hoL keep) fun out hs hb => ⟨_, rfl, ?_⟩) (args_list_sort _)))
  exact wpAny_pure ⟨_, rfl, h out h₁ hs hb k₁⟩
end
end SrtO
namespace Z
open PySem PySem.Spec L2
open PyProof.Rows hiding St
/-- sorted(t), t a tuple of tuples of ints, none empty -/
def rSortedTT (K : PySem.W.Frag) : List V → Hp → VK → Prop := fun vs H Q => ∃ (a : Addr) (xs : List V) (dss : List (List Int)), vs = [V.ref a] ∧ SqT K H a xs ∧ TIs H xs dss ∧ (∀ d ∈ dss, d ≠ []) ∧
  ∀ ys ess p, TIs H ys ess → ys.Perm xs → ess.Perm dss → ess.Pairwise (fun d e => HT.lexLt e d = false) → H p = none → Q (.ref p) (upd H p (.lst ys))
section
variable {X : Cx}
theorem cr_sortedTT : CallR X (.builtin "sorted") (rSortedTT X.K) := by
  intro pins s σ H vs us Q I r h
  obtain ⟨a, xs, dss, rfl, hs, ht, hn, q⟩ := h
  obtain ⟨its, rv, hl, hz⟩ := I.tuple hs
  obtain ⟨u, rfl, ru⟩ := vals1 r
  obtain rfl : u = Value.ref a := ru
  obtain ⟨e1, e2⟩ := refs_back rv fun x m => by
    obtain ⟨j, hj, rfl⟩ := List.getElem_of_mem m
    obtain ⟨d, _, t, e, _⟩ := ht.get (List.getElem?_eq_getElem hj)
    exact ⟨t, e⟩
  have tup : ∀ v ∈ its, TS.TupInts s.heap v (TS.intsOf s.heap v) ∧ TS.intsOf s.heap v ≠ [] ∧ TI H (backV v) (TS.intsOf s.heap v) := fun v hv => by
    obtain ⟨t, rfl⟩ := e2 v hv
    have hm : V.ref t ∈ xs := by rw [e1]; exact List.mem_map.mpr ⟨_, hv, rfl⟩
    obtain ⟨j, hj, ej⟩ := List.getElem_of_mem hm
    obtain ⟨d, hd, t', e, et⟩ := ht.get (List.getElem?_eq_getElem hj)
    rw [ej] at e
    cases e
    obtain ⟨_, its2, r2, o, ho, hc, n, hdt⟩ := I.hok _ _ et
    have ti : TS.TupInts s.heap (.ref t) d := ⟨t, its2.toArray, rfl, ⟨o, ho, hc, n, hdt⟩, r2.ints⟩
    rw [ti.ints]
    exact ⟨ti, hn d (List.mem_of_getElem? hd), t, rfl, et⟩
  have hzs : its.length ≤ sizeLine := by rw [← rv.length]; exact hz
  refine SrtO.sorted_ordT (NtL.swo_lexL (TS.intsOf s.heap)) hl hzs (fun h2 h₁ a' ha kk => ?_) fun out h₁ h1 h2 k₁ => ?_
  · refine SrtO.ti_sortable (s := { s with heap := h₁ }) (by omega) (fun v hv => ⟨(tup v hv).1.keeps fun b o e _ => (kk b o e).2, (tup v hv).2.1⟩) fun o e => ?_
    have e' : some o = some (seqObj "list" its.toArray 0) := e.symm.trans ha
    cases e'
    intro c
    exact absurd (Value.type.inj c) (by decide)
  · have hp := h2.perm
    have h3 : ∀ u ∈ out, ∃ a, u = Value.ref a := fun u hu => e2 u (hp.mem_iff.mp hu)
    have e0 : dss = its.map (TS.intsOf s.heap) := by
      have hf : ∀ x d, x ∈ its → TI H (backV x) d → TS.intsOf s.heap x = d := fun x d hx r => by
        obtain ⟨t, et, e⟩ := r
        obtain ⟨t', et', e'⟩ := (tup x hx).2.2
        rw [et] at et'
        cases et'
        rw [e] at e'
        have := Option.some.inj e'
        injection this with this
        exact ((List.map_inj_right fun a b h => by cases h; rfl).mp this).symm
      rw [e1] at ht
      exact pair_map _ (pair_back backV ht) hf
    have hlen : (out.map backV).length ≤ sizeLine := by
      rw [List.length_map, hp.length_eq]
      exact hzs
    have I1 : Inv X pins σ H { s with heap := h₁ } := I.kept (t' := s.toks) k₁
    have hoL : (h₁.push (seqObj "list" its.toArray 0)).get? h₁.objs.size = some (seqObj "list" its.toArray 0) := Heap.get?_push_size _ rfl
    obtain ⟨ep, he'⟩ := PyProof.Rows.sortedHeap_at (h := h₁.push (seqObj "list" its.toArray 0)) (a := h₁.objs.size) (vs := its) (n := 0) (out := out.toArray) hoL
    have k2 : ∀ b o, h₁.get? b = some o → (sortedHeap (h₁.push (seqObj "list" its.toArray 0)) h₁.objs.size its out.toArray).get? b = some o := fun b o e => by
      have lt := Heap.lt_size e
      rw [PyProof.Rows.sortedHeap_old (Nat.ne_of_lt lt) (by rw [size_push']; exact Nat.lt_succ_of_lt lt)]
      exact Heap.get?_push_of_some _ e
    refine ⟨.ref _, upd H h₁.objs.size (.lst (out.map backV)), I1.laid (t' := s.toks) k2 (Nat.le_refl _) ⟨hlen, out, ep, vals_back h3, he'⟩, rfl, q _ (out.map (TS.intsOf s.heap)) _ (pair_all _ _ fun v hv => ((tup v (hp.mem_iff.mp hv)).2.2)) ?_ ?_ ?_ (I1.hok.fresh (Nat.le_refl _))⟩
    · rw [e1]
      exact hp.map _
    · rw [e0]
      exact hp.map _
    · exact List.pairwise_map.mpr (h1.imp fun {x y} z => z)
theorem o_sortTT {a : Addr} {xs : List V} {dss : List (List Int)} {K : PySem.W.Frag} {H : Hp} {Q : VK} (hs : SqT K H a xs) (ht : TIs H xs dss) (hn : ∀ d ∈ dss, d ≠ []) (h : ∀ ys ess p, TIs H ys ess → ys.Perm xs → ess.Perm dss → ess.Pairwise (fun d e => HT.lexLt e d = false) → H p = none → Q (.ref p) (upd H p (.lst ys))) : rSortedTT K [.ref a] H Q := ⟨a, xs, dss, rfl, hs, ht, hn, h⟩
/-! ### powers of wide numbers -/
def zPowW : R2 := rI (fun i j => 0 ≤ j ∧ (Builtin.Int.intBits i : Int) * j ≤ 2 ^ 27) fun i j => .int (i ^ j.toNat)
theorem op_powW : OpR X (binaryOp .Pow) zPowW := opI fun _ _ _ _ _ _ _ hc q => pow_int hc.1 hc.2 q
theorem o_powW {m n : Int} {H : Hp} {Q : VK} (h0 : 0 ≤ n) (hc : (Builtin.Int.intBits m : Int) * n ≤ 2 ^ 27) (h : Q (.int (m ^ n.toNat)) H) : zPowW (.int m) (.int n) H Q := ⟨m, n, rfl, rfl, ⟨h0, hc⟩, h⟩
end
/-! ### the law's own promise, with the bits of the script -/
def spLawB (K : PySem.W.Frag) : Sp := fun vs H Q _ => ∃ (a : Addr) (ns : List Int), vs = [.ref a] ∧ ns.length ≤ 63 ∧ (∀ z ∈ ns, Builtin.Int.intBits z ≤ 1048576) ∧ SqL K H a (ns.map V.int) ∧ ∀ H', Q (.bl true) H'
theorem spLawB_in {K : PySem.W.Frag} {H : Hp} {a : Addr} {ns : List Int} {E : XK} (hl : ns.length ≤ 63) (hb : ∀ z ∈ ns, Builtin.Int.intBits z ≤ 1048576) (hS : SqL K H a (ns.map V.int)) : spLawB K [.ref a] H (fun v _ => v = .bl true) E := ⟨a, ns, rfl, hl, hb, hS, fun _ => rfl⟩
end Z

/-! Zw: min(list of tuples of ints, default=d). -/
namespace Z
open PySem PySem.Spec L2
open PyProof.Rows hiding St
open PySem.W (keyToks keyToksAll alike alikeAll dataLt AlikeAll iter_listW moved_old cmpIn_lt)
theorem toks_lex : ∀ a b : List Int, PyProof.Rows.lexLt itemOrd (keyToksAll (a.map PyData.int)) (keyToksAll (b.map PyData.int)) = HT.lexLt a b
  | [], [] => by
    show PyProof.Rows.lexLt itemOrd [.inl 0] [.inl 0] = false
    rw [PyProof.Rows.lex_self (O := itemOrd)]
    rfl
  | [], y :: ys => by
    show PyProof.Rows.lexLt itemOrd [.inl 0] (.inl 1 :: _) = true
    rw [PyProof.Rows.lex_diff (O := itemOrd) (by intro h; injection h with h; omega)]
    rfl
  | x :: xs, [] => by
    show PyProof.Rows.lexLt itemOrd (.inl 1 :: _) [.inl 0] = false
    rw [PyProof.Rows.lex_diff (O := itemOrd) (by intro h; injection h with h; omega)]
    rfl
  | x :: xs, y :: ys => by
    show PyProof.Rows.lexLt itemOrd (.inl 1 :: .inl x :: keyToksAll (xs.map PyData.int)) (.inl 1 :: .inl y :: keyToksAll (ys.map PyData.int)) = (if x = y then HT.lexLt xs ys else decide (x < y))
    rw [PyProof.Rows.lex_self (O := itemOrd)]
    by_cases e : x = y
    · subst e
      rw [PyProof.Rows.lex_self (O := itemOrd), if_pos rfl, toks_lex xs ys]
    · rw [PyProof.Rows.lex_diff (O := itemOrd) (by intro h; injection h with h; exact e h), if_neg e]
      rfl
theorem lex_irr : ∀ a : List Int, HT.lexLt a a = false
  | [] => rfl
  | x :: xs => by rw [HT.lexLt_cons, if_pos rfl, lex_irr xs]
theorem lex_tr : ∀ a b c : List Int, HT.lexLt a b = true → HT.lexLt b c = true → HT.lexLt a c = true
  | [], [], _, h, _ => by cases h
  | [], _ :: _, [], _, h => by cases h
  | [], _ :: _, _ :: _, _, _ => rfl
  | _ :: _, [], _, h, _ => by cases h
  | _ :: _, _ :: _, [], _, h => by cases h
  | x :: xs, y :: ys, z :: zs, h1, h2 => by
    rw [HT.lexLt_cons] at h1 h2 ⊢
    by_cases e : x = y
    · subst e
      rw [if_pos rfl] at h1
      by_cases f : x = z
      · subst f
        rw [if_pos rfl] at h2 ⊢
        exact lex_tr xs ys zs h1 h2
      · rw [if_neg f] at h2 ⊢
        exact h2
    · rw [if_neg e] at h1
      have h1 := of_decide_eq_true h1
      by_cases f : y = z
      · subst f
        rw [if_neg e]
        exact decide_eq_true h1
      · rw [if_neg f] at h2
        have h2 := of_decide_eq_true h2
        rw [if_neg (by omega)]
        exact decide_eq_true (by omega)
theorem best_least (f : Nat → List Int) : ∀ k, argBest (fun i j => HT.lexLt (f i) (f j)) k ≤ k ∧ ∀ j, j ≤ k → HT.lexLt (f j) (f (argBest (fun i j => HT.lexLt (f i) (f j)) k)) = false
  | 0 => ⟨Nat.le_refl _, fun j hj => by
    rw [Nat.le_zero.mp hj]
    exact lex_irr _⟩
  | k + 1 => by
    obtain ⟨h1, h2⟩ := best_least f k
    show (if HT.lexLt (f (k + 1)) (f (argBest _ k)) = true then k + 1 else argBest _ k) ≤ k + 1 ∧ ∀ j, j ≤ k + 1 → HT.lexLt (f j) (f (if HT.lexLt (f (k + 1)) (f (argBest _ k)) = true then k + 1 else argBest _ k)) = false
    by_cases c : HT.lexLt (f (k + 1)) (f (argBest (fun i j => HT.lexLt (f i) (f j)) k)) = true
    · rw [if_pos c]
      refine ⟨Nat.le_refl _, fun j hj => ?_⟩
      rcases Nat.lt_or_ge j (k + 1) with h | h
      · refine Bool.eq_false_iff.mpr fun t => ?_
        have := h2 j (by omega)
        rw [lex_tr _ _ _ t c] at this
        cases this
      · rw [show j = k + 1 by omega]
        exact lex_irr _
    · rw [if_neg c]
      refine ⟨by omega, fun j hj => ?_⟩
      rcases Nat.lt_or_ge j (k + 1) with h | h
      · exact h2 j (by omega)
      · rw [show j = k + 1 by omega]
        exact Bool.eq_false_iff.mpr c
def rMinTD (K : PySem.W.Frag) : List V → List V → Hp → VK → Prop := fun xs zs H Q => ∃ (a : Addr) (vs : List V) (dss : List (List Int)) (dv : V), xs = [V.ref a] ∧ zs = [dv] ∧ SqL K H a vs ∧ TIs H vs dss ∧ (vs = [] → Q dv H) ∧
  ∀ v m, v ∈ vs → TI H v m → m ∈ dss → (∀ e ∈ dss, HT.lexLt e m = false) → Q v H
theorem alike_ints {n : Nat} : ∀ {a b : List Int}, alikeAll (a.map PyData.int) (b.map PyData.int) = true
  | [], _ => by
    show alikeAll [] _ = true
    rw [alikeAll]
  | _ :: _, [] => by
    show alikeAll (_ :: _) [] = true
    rw [alikeAll]
  | x :: xs, y :: ys => by
    show alikeAll (.int x :: xs.map PyData.int) (.int y :: ys.map PyData.int) = true
    rw [alikeAll, alike, alike_ints (n := n)]
    rfl
theorem cr_minTD {X : Cx} {k : Nat} (hcalm : X.calm = true) (hr : Room k X.A) : CallRK X (.builtin "min") ["default"] (rMinTD X.K) := by
  intro pins s σ H xs zs us ws Q I r rz h
  obtain ⟨a, vs, dss, dv, rfl, rfl, hs, ht, h0, h1⟩ := h
  obtain ⟨its, rv, hl, hz⟩ := I.list hs
  obtain ⟨u, rfl, ru⟩ := vals1 r
  obtain rfl : u = Value.ref a := ru
  obtain ⟨d, rfl, rd⟩ := vals1 rz
  have hh : X.A.in1.handled = none := I.ok.hd hcalm
  obtain ⟨as, hr'⟩ := Dp.readsAll I (dss.map dI) vs its ht.dp rv
  have hd1 : PyData.depthAll (dss.map dI) ≤ 2 := depthAll_le _ fun x hx => by
    obtain ⟨e, _, rfl⟩ := List.mem_map.mp hx
    exact Nat.le_trans (pl_dI (ns := e)).dep (by decide)
  have ha : AlikeAll (dss.map dI) := ⟨fun x hx y hy => by
    obtain ⟨e, _, rfl⟩ := List.mem_map.mp hx
    obtain ⟨f, _, rfl⟩ := List.mem_map.mp hy
    show alike (.tuple _) (.tuple _) = true
    rw [alike]
    exact alike_ints (n := 0), fun x hx => by
    obtain ⟨e, _, rfl⟩ := List.mem_map.mp hx
    intro z
    cases z⟩
  have hu := hr.units
  have ln : its.length = vs.length := rv.length.symm
  have ld : vs.length = dss.length := ht.length
  show wpAny _ _ (call (.builtin "min") [.ref a] [(Str.ofString "default", d)]) _ _ s
  refine call_min_walkD (iter_listW (A := X.A.in1) hh hl.isList fun s₂ e W st hfp hw hk => ?_)
  have fx : ∀ i, i < dss.length → (dss.map dI).getD i PyData.none = dI (dss.getD i []) := fun i hi => by
    rw [List.getD_eq_getElem?_getD, List.getD_eq_getElem?_getD, List.getElem?_map, List.getElem?_eq_getElem hi]
    rfl
  refine ⟨_, _, _, _, _, _, _, s.heap, (fun i j => dataLt ((dss.map dI).getD i .none) ((dss.map dI).getD j .none)), rfl, W, st, hfp, hw, hk, fun hz s' m => ?_, fun hp => ⟨cmpIn_lt (A := X.A.in1) hr' ha (by show X.A.units + 1 + _ < _; omega), fun v s' hP m => ?_⟩⟩
  · obtain ⟨h', tk, rfl, hk'⟩ := moved_old e rfl m
    rw [List.size_toArray] at hz
    exact ⟨dv, H, I.kept hk', rd, h0 (List.eq_nil_of_length_eq_zero (by omega))⟩
  · obtain ⟨h', tk, rfl, hk'⟩ := moved_old e rfl m
    rw [List.size_toArray] at hP hp
    have same : ∀ k, k < dss.length → argBest (fun i j => dataLt ((dss.map dI).getD i .none) ((dss.map dI).getD j .none)) k = argBest (fun i j => HT.lexLt (dss.getD i []) (dss.getD j [])) k := by
      intro k
      induction k with
      | zero => intro _; rfl
      | succ k ih =>
        intro hk2
        have ih := ih (by omega)
        have bl := (best_least (fun i => dss.getD i []) k).1
        show (if dataLt _ ((dss.map dI).getD (argBest _ k) .none) = true then k + 1 else argBest _ k) = if HT.lexLt (dss.getD (k + 1) []) (dss.getD (argBest _ k) []) = true then k + 1 else argBest _ k
        rw [ih, fx (k + 1) hk2, fx _ (by omega), show dataLt (dI (dss.getD (k + 1) [])) (dI (dss.getD (argBest (fun i j => HT.lexLt (dss.getD i []) (dss.getD j [])) k) [])) = HT.lexLt (dss.getD (k + 1) []) (dss.getD (argBest (fun i j => HT.lexLt (dss.getD i []) (dss.getD j [])) k) []) from toks_lex _ _]
    obtain ⟨b1, b2⟩ := best_least (fun i => dss.getD i []) (its.length - 1)
    rw [same _ (by omega)] at hP
    generalize argBest (fun i j => HT.lexLt (dss.getD i []) (dss.getD j [])) (its.length - 1) = b at *
    have bl : b < dss.length := by omega
    have hv : its[b]? = some v := by simpa using hP
    obtain ⟨w, hw'⟩ : ∃ w, vs[b]? = some w := ⟨_, List.getElem?_eq_getElem (by omega)⟩
    obtain ⟨v', hv', rw'⟩ := rv.get hw'
    obtain rfl : v' = v := Option.some.inj (hv'.symm.trans hv)
    obtain ⟨m', hm, tm⟩ := ht.get hw'
    have em : dss.getD b [] = m' := by
      rw [List.getD_eq_getElem?_getD, hm]
      rfl
    refine ⟨w, H, I.kept hk', rw', h1 w m' (List.mem_of_getElem? hw') tm (List.mem_of_getElem? hm) fun e he => ?_⟩
    obtain ⟨j, hj, rfl⟩ := List.getElem_of_mem he
    have := b2 j (by omega)
    rw [em, List.getD_eq_getElem?_getD, List.getElem?_eq_getElem hj] at this
    exact this
theorem e_ckw {σ : L2.St} {H : Hp} {Q : VK} {r : List V → List V → Hp → VK → Prop} {t tk : TA} (h : t σ H fun vs H1 => tk σ H1 fun zs H2 => r vs zs H2 Q) : tCKw r t tk σ H Q := h
theorem o_minTD {K : PySem.W.Frag} {H : Hp} {Q : VK} {a : Addr} {vs : List V} {dss : List (List Int)} {dv : V} (hs : SqL K H a vs) (ht : TIs H vs dss) (h0 : vs = [] → Q dv H) (h1 : ∀ v m, v ∈ vs → TI H v m → m ∈ dss → (∀ e ∈ dss, HT.lexLt e m = false) → Q v H) : rMinTD K [.ref a] [dv] H Q := ⟨a, vs, dss, dv, rfl, rfl, hs, ht, h0, h1⟩
end Z

open PySem PySem.Spec L2
open PyProof.Rows hiding St
local macro_rules | `(tactic| walk_at "ne") => `(tactic| first
  | with_reducible assumption
  | (refine Ne.symm ?_; with_reducible assumption)
  | exact Z.ne_fresh (by assumption) (by walk_at "at")
  | exact Z.fresh_ne (by assumption) (by walk_at "at"))
local macro_rules | `(tactic| walk_at "at") => `(tactic| first
  | with_reducible assumption
  | exact upd_same
  | exact Eq.trans (upd_ne (by walk_at "ne")) (by walk_at "at")
  | exact Z.Gr.hh (by assumption) _ _ (by first | (intro hh; exact hh) | walk_at "ne") (by walk_at "at")
  | (exact Z.Gr.fh (by assumption) _ _ (by assumption)))
local macro_rules | `(tactic| walk_at "same") => `(tactic| first
  | with_reducible assumption
  | with_reducible exact Same.refl _
  | exact Z.Gr.fh (by assumption)
  | exact Z.Gr.same (by assumption)
  | (refine Z.same_new ?_ (by assumption); walk_at "same")
  | (refine Z.same_mut ?_ (by assumption); walk_at "same"))
local macro_rules | `(tactic| walk_at "sqL") => `(tactic| first
  | with_reducible assumption
  | exact SqL.of (by walk_at "at")
  | ((refine Same.seq ?_ (by with_reducible assumption)); · walk_at "same"))
local macro_rules | `(tactic| walk_at "sqT") => `(tactic| first
  | with_reducible assumption
  | exact SqT.of (by walk_at "at")
  | ((refine Z.Same.seqT ?_ (by with_reducible assumption)); · walk_at "same"))
local macro_rules | `(tactic| walk_at "len") => `(tactic| first
  | assumption
  | omega
  | (simp only [List.length_append, List.length_cons, List.length_nil, List.length_map, List.length_set, List.length_replicate, List.length_range, sizeLine_eq]; omega)
  | (simp only [sizeLine_eq]; omega))
local macro_rules | `(tactic| walk_at "side") => `(tactic| first
  | rfl
  | assumption
  | omega
  | exact Or.inl ⟨by omega, by omega⟩
  | exact Or.inr ⟨by omega, by omega⟩
  | walk_at "len")
local macro_rules | `(tactic| walk_at "s1") => `(tactic| first
  | with_reducible apply Z.e_var rfl
  | with_reducible apply Z.e_c
  | with_reducible apply Z.e_op
  | with_reducible apply Z.s_seq
  | with_reducible apply Z.s_asgN
  | with_reducible apply Z.s_ifS
  | with_reducible apply Z.a_cons
  | with_reducible apply Z.a_nil
  | with_reducible apply Z.c_test
  | with_reducible apply Z.bl_if
  | with_reducible apply Z.o_eqI
  | with_reducible apply Z.o_neI
  | with_reducible apply Z.o_eqS
  | with_reducible apply Z.o_neS
  | with_reducible apply Z.o_neB
  | with_reducible apply Z.o_eqB
  | with_reducible apply Z.o_isT
  | with_reducible apply Z.s_aug rfl
  | with_reducible apply Z.o_ipOr
  | with_reducible apply Z.o_ipI
  | with_reducible apply Z.o_and1
  | with_reducible apply Z.o_and
  | with_reducible apply Z.o_or
  | with_reducible apply Z.o_shr
  | with_reducible apply Z.e_bits
  | with_reducible apply Z.bits_
  | with_reducible apply Z.e_lcE
  | with_reducible apply Z.e_tupRg2
  | with_reducible apply Z.e_tupRg1
  | with_reducible apply Z.e_lstRg2
  | with_reducible apply Z.e_lstRg1
  | with_reducible apply Z.o_lt
  | with_reducible apply Z.o_le
  | with_reducible apply Z.o_gt
  | with_reducible apply Z.o_ge
  | with_reducible apply Z.o_add
  | with_reducible apply Z.o_sub
  | ((with_reducible refine Z.o_pow ?_ ?_); (· exact ⟨by decide, by decide, by decide⟩); (try simp only [Int.reduceToNat, Int.reducePow]))
  | ((with_reducible refine Z.o_powW ?_ ?_ ?_); (· decide); (· decide +kernel); (try simp only [Int.reduceToNat, Int.reducePow]))
  | ((with_reducible refine Z.o_mod ?_ ?_); · walk_at "side")
  | ((with_reducible refine Z.o_div ?_ ?_ ?_); iterate 2 (· walk_at "side"))
  | ((with_reducible refine Z.o_div70 ?_ ?_ ?_); iterate 2 (· walk_at "side"))
  | ((with_reducible refine Z.o_mul ?_ ?_); · walk_at "side")
  | with_reducible apply Z.e_cb
  | ((with_reducible apply Z.o_lenL); · walk_at "sqL")
  | ((with_reducible apply Z.o_lenT); · walk_at "sqT")
  | ((with_reducible apply Z.o_ixL); (· walk_at "sqL"); (· rfl))
  | ((with_reducible apply Z.o_ixT); (· walk_at "sqT"); (· rfl))
  | ((with_reducible apply Z.o_setL); (· walk_at "at"); (· rfl))
  | ((with_reducible apply Z.o_sum); (· walk_at "sqL"))
  | with_reducible apply Z.s_ret
  | with_reducible apply Z.s_retN
  | with_reducible apply Z.s_next
  | with_reducible apply Z.s_drop
  | with_reducible apply Z.c_and
  | with_reducible apply Z.c_or
  | with_reducible apply Z.c_not
  | with_reducible apply Z.c_tru
  | with_reducible apply Z.c_B
  | with_reducible apply Z.e_un
  | with_reducible apply Z.o_neg
  | with_reducible apply Z.e_if
  | with_reducible apply Z.e_call
  | with_reducible apply Z.e_callD
  | with_reducible apply Z.e_fld
  | with_reducible apply Z.s_fld
  | with_reducible apply Z.e_meth
  | with_reducible apply Z.e_make
  | with_reducible apply Z.g_fld
  | with_reducible apply Z.e_ckw
  | with_reducible apply Z.s_asgStar
  | walk_at "fld"
  | with_reducible apply Z.e_callN
  | with_reducible apply Z.e_callNS
  | with_reducible refine Z.kw_go rfl rfl ?_
  | with_reducible apply Z.e_tup
  | with_reducible apply Z.e_lst
  | with_reducible apply Z.e_chain
  | with_reducible apply Z.s_asgS
  | with_reducible apply Z.s_asgT
  | with_reducible apply Z.s_asgU
  | with_reducible apply Z.s_forL
  | with_reducible apply Z.s_forV
  | with_reducible apply Z.e_lc2TL
  | with_reducible apply Z.s_forT
  | with_reducible apply Z.s_forR1
  | with_reducible apply Z.s_forR2
  | with_reducible apply Z.s_forE
  | with_reducible apply Z.e_lcL
  | with_reducible apply Z.e_lcT
  | with_reducible apply Z.e_lcR1
  | with_reducible apply Z.e_lcR2
  | with_reducible apply Z.c_yes
  | with_reducible apply Z.s_break
  | with_reducible apply Z.s_cont
  | with_reducible apply Z.o_isNr
  | with_reducible apply Z.o_isNi
  | with_reducible apply Z.o_isNs
  | with_reducible apply Z.o_isNn
  | with_reducible apply Z.o_notNr
  | with_reducible apply Z.o_notNi
  | with_reducible apply Z.o_notNs
  | with_reducible apply Z.o_notNn
  | with_reducible apply Z.t_bl
  | with_reducible apply Z.o_isN
  | with_reducible apply Z.o_notN
  | with_reducible apply Z.e_bm
  | with_reducible apply Z.e_bm0
  | with_reducible apply Z.g_name
  | with_reducible apply Z.g_cons
  | with_reducible apply Z.g_nil
  | with_reducible apply Z.g_sub
  | with_reducible apply Z.e_andV
  | with_reducible apply Z.e_orV
  | with_reducible apply Z.e_notV
  | with_reducible apply Z.e_notT
  | ((with_reducible apply Z.g_tup); (· walk_at "sqT"); (· rfl))
  | ((with_reducible apply Z.g_lst); (· walk_at "sqL"); (· rfl))
  | with_reducible apply Z.e_dget
  | with_reducible apply Z.e_dnin'
  | with_reducible apply Z.e_dcL
  | with_reducible apply Z.e_dnin
  | with_reducible apply Z.o_nisF
  | with_reducible apply Z.o_nisT
  | with_reducible apply Z.s_raise
  | with_reducible apply Z.e_mkO
  | with_reducible apply Z.e_callS
  | with_reducible apply Z.e_veI
  | with_reducible apply Z.s_ost
  | with_reducible apply Z.e_xfA
  | with_reducible apply Z.s_try
  | with_reducible apply Z.e_dnewT
  | with_reducible apply Z.e_dnewK
  | with_reducible apply Z.s_par
  | with_reducible apply Z.par_
  | with_reducible apply Z.s_dput
  | with_reducible apply Z.e_din
  | with_reducible apply Z.e_sl
  | with_reducible apply Z.p_none
  | with_reducible apply Z.p_some
  | with_reducible apply Z.p_int
  | with_reducible apply Z.z_int1
  | with_reducible apply Z.z_int1b
  | with_reducible apply Z.z_abs
  | with_reducible apply Z.z_max2
  | with_reducible apply Z.z_min2
  | ((with_reducible refine Z.w_split ?_ ?_); · rfl)
  | with_reducible apply Z.i_int_int
  | ((with_reducible apply Z.i_T_tuple); · walk_at "sqT")
  | ((with_reducible apply Z.i_L_tuple); · walk_at "sqL")
  | ((with_reducible apply Z.i_T_list); · walk_at "sqT")
  | ((with_reducible apply Z.i_L_list); · walk_at "sqL")
  | ((with_reducible apply Z.i_T_int); · walk_at "sqT")
  | ((with_reducible apply Z.i_L_int); · walk_at "sqL")
  | ((with_reducible apply Z.i_T_bool); · walk_at "sqT")
  | ((with_reducible apply Z.i_L_bool); · walk_at "sqL")
  | ((with_reducible apply Z.i_T_str); · walk_at "sqT")
  | ((with_reducible apply Z.i_L_str); · walk_at "sqL")
  | with_reducible apply Z.i_int_bool
  | with_reducible apply Z.i_int_str
  | with_reducible apply Z.i_int_tuple
  | with_reducible apply Z.i_int_list
  | with_reducible apply Z.i_str_str
  | with_reducible apply Z.i_str_tuple
  | with_reducible apply Z.i_str_list
  | with_reducible apply Z.i_str_int
  | with_reducible apply Z.i_str_bool
  | with_reducible apply Z.i_bl_int
  | with_reducible apply Z.i_bl_bool
  | with_reducible apply Z.i_bl_str
  | with_reducible apply Z.i_bl_tuple
  | with_reducible apply Z.i_bl_list
  | with_reducible apply Z.i_non_int
  | with_reducible apply Z.i_non_bool
  | with_reducible apply Z.i_non_str
  | with_reducible apply Z.i_non_tuple
  | with_reducible apply Z.i_non_list)
local macro_rules | `(tactic| walk_at "dec") => `(tactic| first | assumption | with_reducible rfl | omega | exact Z.ref_ne | exact Z.int_ne | exact Z.str_ne | (simp only [List.length_nil, List.length_cons]; omega) | decide)
local macro_rules | `(tactic| walk_at "s2") => `(tactic| first
  | with_reducible refine iteT ?_
  | with_reducible refine iteF ?_
  | with_reducible refine Z.iteNT ?_
  | with_reducible refine Z.iteNF ?_
  | ((with_reducible refine Z.if_t ?_ ?_); (· walk_at "dec"))
  | ((with_reducible refine Z.if_f ?_ ?_); (· walk_at "dec"))
  | ((with_reducible refine Z.if_nt ?_ ?_); (· walk_at "dec"))
  | ((with_reducible refine Z.if_nf ?_ ?_); (· walk_at "dec")))
local macro_rules | `(tactic| walk_at "rd") => `(tactic| repeat (first | walk_at "s1" | walk_at "s2"))
local macro_rules | `(tactic| walk_at "if") => `(tactic| first
  | with_reducible refine Z.if_dec (fun h => ?_) (fun h => ?_)
  | with_reducible refine Z.if_ndec (fun h => ?_) (fun h => ?_)
  | with_reducible refine Z.if_nb (fun h => ?_) (fun h => ?_)
  | with_reducible refine Z.if_b (fun h => ?_) (fun h => ?_))

namespace Y
open PySem PySem.Spec L2 Z
open PyProof.Rows hiding St
structure Ad where
  P : Program
  w : World
  Desk : Addr
structure Oc (K : PySem.W.Frag) (ad : Ad) : Prop where
  cl_Desk : Cls K ad.Desk
  n_Desk_holder : NoAttr K ad.Desk "holder"
  n_Desk_queue : NoAttr K ad.Desk "queue"
  n_Desk_called : NoAttr K ad.Desk "called"
def dk_Desk (ad : Ad) (dx : Addr) (v0 v1 v2 : V) : HO := .ins ad.Desk dx [("holder", v0), ("queue", v1), ("called", v2)]
theorem f_Desk_holder {K : PySem.W.Frag} {ad : Ad} {a dx : Addr} {v0 v1 v2 : V} {H : Hp} {Q : VK} (O : Oc K ad) (e : H a = some (dk_Desk ad dx v0 v1 v2)) (h : Q v0 H) : RFld K "holder" (.ref a) H Q := o_fld e O.cl_Desk O.n_Desk_holder lk_here h
theorem s_Desk_holder {K : PySem.W.Frag} {ad : Ad} {a dx : Addr} {v0 v1 v2 : V} {y : V} {H : Hp} {QH : Hp → Prop} (O : Oc K ad) (e : H a = some (dk_Desk ad dx v0 v1 v2)) (h : QH (upd H a (dk_Desk ad dx y v1 v2))) : RSet K "holder" y (.ref a) H QH := o_fset e O.cl_Desk O.n_Desk_holder (Nat.lt_of_lt_of_le (show 3 < 1000 by decide) (Nat.le_refl _)) put_here h
theorem i_Desk_holder {K : PySem.W.Frag} {ad : Ad} {a dx : Addr} {y : V} {H : Hp} {QH : Hp → Prop} (O : Oc K ad) (e : H a = some (.ins ad.Desk dx [])) (h : QH (upd H a (.ins ad.Desk dx [("holder", y)]))) : RSet K "holder" y (.ref a) H QH := o_fset e O.cl_Desk O.n_Desk_holder (Nat.lt_of_lt_of_le (show 0 < 1000 by decide) (Nat.le_refl _)) put_nil h
theorem f_Desk_queue {K : PySem.W.Frag} {ad : Ad} {a dx : Addr} {v0 v1 v2 : V} {H : Hp} {Q : VK} (O : Oc K ad) (e : H a = some (dk_Desk ad dx v0 v1 v2)) (h : Q v1 H) : RFld K "queue" (.ref a) H Q := o_fld e O.cl_Desk O.n_Desk_queue (lk_past (by decide +kernel) lk_here) h
theorem s_Desk_queue {K : PySem.W.Frag} {ad : Ad} {a dx : Addr} {v0 v1 v2 : V} {y : V} {H : Hp} {QH : Hp → Prop} (O : Oc K ad) (e : H a = some (dk_Desk ad dx v0 v1 v2)) (h : QH (upd H a (dk_Desk ad dx v0 y v2))) : RSet K "queue" y (.ref a) H QH := o_fset e O.cl_Desk O.n_Desk_queue (Nat.lt_of_lt_of_le (show 3 < 1000 by decide) (Nat.le_refl _)) (put_past (by decide +kernel) put_here) h
theorem i_Desk_queue {K : PySem.W.Frag} {ad : Ad} {a dx : Addr} {v0 : V} {y : V} {H : Hp} {QH : Hp → Prop} (O : Oc K ad) (e : H a = some (.ins ad.Desk dx [("holder", v0)])) (h : QH (upd H a (.ins ad.Desk dx [("holder", v0), ("queue", y)]))) : RSet K "queue" y (.ref a) H QH := o_fset e O.cl_Desk O.n_Desk_queue (Nat.lt_of_lt_of_le (show 1 < 1000 by decide) (Nat.le_refl _)) (put_past (by decide +kernel) put_nil) h
theorem f_Desk_called {K : PySem.W.Frag} {ad : Ad} {a dx : Addr} {v0 v1 v2 : V} {H : Hp} {Q : VK} (O : Oc K ad) (e : H a = some (dk_Desk ad dx v0 v1 v2)) (h : Q v2 H) : RFld K "called" (.ref a) H Q := o_fld e O.cl_Desk O.n_Desk_called (lk_past (by decide +kernel) (lk_past (by decide +kernel) lk_here)) h
theorem s_Desk_called {K : PySem.W.Frag} {ad : Ad} {a dx : Addr} {v0 v1 v2 : V} {y : V} {H : Hp} {QH : Hp → Prop} (O : Oc K ad) (e : H a = some (dk_Desk ad dx v0 v1 v2)) (h : QH (upd H a (dk_Desk ad dx v0 v1 y))) : RSet K "called" y (.ref a) H QH := o_fset e O.cl_Desk O.n_Desk_called (Nat.lt_of_lt_of_le (show 3 < 1000 by decide) (Nat.le_refl _)) (put_past (by decide +kernel) (put_past (by decide +kernel) put_here)) h
theorem i_Desk_called {K : PySem.W.Frag} {ad : Ad} {a dx : Addr} {v0 v1 : V} {y : V} {H : Hp} {QH : Hp → Prop} (O : Oc K ad) (e : H a = some (.ins ad.Desk dx [("holder", v0), ("queue", v1)])) (h : QH (upd H a (dk_Desk ad dx v0 v1 y))) : RSet K "called" y (.ref a) H QH := o_fset e O.cl_Desk O.n_Desk_called (Nat.lt_of_lt_of_le (show 2 < 1000 by decide) (Nat.le_refl _)) (put_past (by decide +kernel) (put_past (by decide +kernel) put_nil)) h
theorem m_Desk_take_ask {ad : Ad} {a dx : Addr} {v0 v1 v2 : V} {H : Hp} {P : Prop} (e : H a = some (dk_Desk ad dx v0 v1 v2)) (h : P) : RMe ad.Desk "take_ask" (.ref a) H P := o_me e (lk_past (by decide +kernel) (lk_past (by decide +kernel) (lk_past (by decide +kernel) lk_nil))) h
theorem m_Desk_take_given {ad : Ad} {a dx : Addr} {v0 v1 v2 : V} {H : Hp} {P : Prop} (e : H a = some (dk_Desk ad dx v0 v1 v2)) (h : P) : RMe ad.Desk "take_given" (.ref a) H P := o_me e (lk_past (by decide +kernel) (lk_past (by decide +kernel) (lk_past (by decide +kernel) lk_nil))) h
theorem m_Desk_take_done {ad : Ad} {a dx : Addr} {v0 v1 v2 : V} {H : Hp} {P : Prop} (e : H a = some (dk_Desk ad dx v0 v1 v2)) (h : P) : RMe ad.Desk "take_done" (.ref a) H P := o_me e (lk_past (by decide +kernel) (lk_past (by decide +kernel) (lk_past (by decide +kernel) lk_nil))) h
theorem m_Desk_take_gone {ad : Ad} {a dx : Addr} {v0 v1 v2 : V} {H : Hp} {P : Prop} (e : H a = some (dk_Desk ad dx v0 v1 v2)) (h : P) : RMe ad.Desk "take_gone" (.ref a) H P := o_me e (lk_past (by decide +kernel) (lk_past (by decide +kernel) (lk_past (by decide +kernel) lk_nil))) h
theorem m_Desk_settle {ad : Ad} {a dx : Addr} {v0 v1 v2 : V} {H : Hp} {P : Prop} (e : H a = some (dk_Desk ad dx v0 v1 v2)) (h : P) : RMe ad.Desk "settle" (.ref a) H P := o_me e (lk_past (by decide +kernel) (lk_past (by decide +kernel) (lk_past (by decide +kernel) lk_nil))) h
local macro_rules | `(tactic| walk_at "fld") => `(tactic| first
  | with_reducible refine f_Desk_holder (by assumption) (by with_reducible assumption) ?_
  | with_reducible refine s_Desk_holder (by assumption) (by with_reducible assumption) ?_
  | with_reducible refine i_Desk_holder (by assumption) (by first | with_reducible assumption | exact upd_same) ?_
  | with_reducible refine f_Desk_queue (by assumption) (by with_reducible assumption) ?_
  | with_reducible refine s_Desk_queue (by assumption) (by with_reducible assumption) ?_
  | with_reducible refine i_Desk_queue (by assumption) (by first | with_reducible assumption | exact upd_same) ?_
  | with_reducible refine f_Desk_called (by assumption) (by with_reducible assumption) ?_
  | with_reducible refine s_Desk_called (by assumption) (by with_reducible assumption) ?_
  | with_reducible refine i_Desk_called (by assumption) (by first | with_reducible assumption | exact upd_same) ?_
  | with_reducible refine m_Desk_take_ask (by with_reducible assumption) ?_
  | with_reducible refine m_Desk_take_given (by with_reducible assumption) ?_
  | with_reducible refine m_Desk_take_done (by with_reducible assumption) ?_
  | with_reducible refine m_Desk_take_gone (by with_reducible assumption) ?_
  | with_reducible refine m_Desk_settle (by with_reducible assumption) ?_)
theorem gthn {M : Addr → Prop} {F H F' H' H'' : Hp} (g : Gr M F H F' H') (s : Same H' H'') : Gr M F H F' H'' := ⟨g.ff, g.fh.trans s, fun b o n e => s _ _ (g.hh b o n e), g.nw⟩

/-! ### the desk -/
def HoldV (F : Hp) (v : V) : Option (List Int) → Prop
  | none => v = .non
  | some d => TI F v d
theorem HoldV.mono {F F' : Hp} (s : Same F F') {v : V} : ∀ {h : Option (List Int)}, HoldV F v h → HoldV F' v h
  | none, h => h
  | some _, h => TI.mono s h
def DeskAt (ad : Ad) (F H : Hp) (p : Addr) (h : Option (List Int)) (q : List (List Int)) (c : Bool) : Prop := ∃ dx hv qa vs, H p = some (dk_Desk ad dx hv (.ref qa) (.bl c)) ∧ HoldV F hv h ∧ F qa = some (.tup vs) ∧ TIs F vs q
theorem DeskAt.mono {ad : Ad} {F F' H H' : Hp} {p : Addr} {h : Option (List Int)} {q : List (List Int)} {c : Bool} (sF : Same F F') (s : Same H H') (D : DeskAt ad F H p h q c) : DeskAt ad F' H' p h q c := by
  obtain ⟨dx, hv, qa, vs, e, hh, eq, ts⟩ := D
  exact ⟨dx, hv, qa, vs, s _ _ e, hh.mono sF, sF _ _ eq, ts.mono sF⟩
abbrev dTI (q : List (List Int)) : PyData := .tuple (q.map dI)
theorem pl_dTI {q : List (List Int)} : Pl 2 (dTI q) := pl_tup fun d hd => by
  obtain ⟨ns, _, rfl⟩ := List.mem_map.mp hd
  exact pl_dI
theorem dTI_inj {a b : List (List Int)} : dTI a = dTI b ↔ a = b := by
  constructor
  · intro h
    exact (List.map_inj_right fun x y h => dI_inj.mp h).mp (PyData.tuple.inj h)
  · intro h
    rw [h]
/-- what an ask tells -/
def dSay (w : Str) (d : List Int) : PyData := .list [.tuple [.str w, dI d]]
theorem say_dp {K : PySem.W.Frag} {H : Hp} {r t : Addr} {w : Str} {v : V} {d : List Int} (er : H r = some (.lst [.ref t])) (et : H t = some (.tup [.str w, v])) (hv : TI H v d) : Dp K H (.ref r) (dSay w d) :=
  .lst (SqL.of er) (.cons (.tup (SqT.of et) (.cons (.str w) (.cons hv.dp .nil))) .nil)
theorem o_addTS {K : PySem.W.Frag} {H : Hp} {Q : VK} {a b : Addr} {xs ys : List V} (ha : SqT K H a xs) (hb : SqT K H b ys) (hl : xs.length + ys.length ≤ sizeLine) (h : ∀ c H2, Same H H2 → SqT K H2 c (xs ++ ys) → Q (.ref c) H2) : zAdd K (.ref a) (.ref b) H Q :=
  o_addT ha hb hl (fun e => h b H (Same.refl H) (by rw [e]; exact hb)) (fun _ e => h a H (Same.refl H) (by rw [e, List.append_nil]; exact ha)) fun _ _ c nc => h c _ (up_keep nc) (SqT.of upd_same)
/-- what stands in the frozen part of the same values -/
theorem TIs.back {F H : Hp} (hF : Same F H) {zs : List V} {dss : List (List Int)} (hz : TIs F zs dss) : ∀ {ys : List V} {ess : List (List Int)}, (∀ y ∈ ys, y ∈ zs) → TIs H ys ess → TIs F ys ess
  | _, _, _, .nil => .nil
  | y :: ys, e :: ess, m, .cons h t => .cons (by
      obtain ⟨j, hj, ej⟩ := List.getElem_of_mem (m y (List.mem_cons_self ..))
      obtain ⟨d, _, u, eu, et⟩ := hz.get (List.getElem?_eq_getElem hj)
      obtain ⟨u', eu', et'⟩ := h
      rw [ej] at eu
      rw [eu] at eu'
      cases eu'
      have := (hF _ _ et).symm.trans et'
      injection this with this
      injection this with this
      refine ⟨u, eu, ?_⟩
      rw [et, this]) (TIs.back hF hz (fun y hy => m y (List.mem_cons_of_mem _ hy)) t)
inductive q_Desk___init__ (K : PySem.W.Frag) (ad : Ad) : V → Hp → VK → Prop
  | mk {p dx : Addr} {H : Hp} {Q : VK} (e : H p = some (.ins ad.Desk dx [])) (k : ∀ qa H', H qa = none → H' p = some (dk_Desk ad dx .non (.ref qa) (.bl false)) → H' qa = some (.tup []) → (∀ b o, b ≠ p → H b = some o → H' b = some o) → Q .non H') : q_Desk___init__ K ad (.ref p) H Q
def sp_Desk___init__ (K : PySem.W.Frag) (ad : Ad) : Sp := fun vs H Q _ => match vs with | [x0] => q_Desk___init__ K ad x0 H Q | _ => False
theorem c_Desk___init__ {K : PySem.W.Frag} {ad : Ad} {x0 : V} {H : Hp} {Q : VK} {E : XK} (h : q_Desk___init__ K ad x0 H Q) : sp_Desk___init__ K ad ([x0] ++ []) H Q E := h
theorem cm_Desk___init__ {K : PySem.W.Frag} {ad : Ad} {x0 : V} {H : Hp} {Q : VK} {E : XK} (h : q_Desk___init__ K ad x0 H Q) : sp_Desk___init__ K ad (x0 :: ([] ++ [])) H Q E := h
theorem cl_Desk___init__ {K : PySem.W.Frag} {ad : Ad} {x0 : V} {H : Hp} {Q : VK} {E : XK} (h : q_Desk___init__ K ad x0 H Q) : sp_Desk___init__ K ad [x0] H Q E := h
theorem n_Desk___init__ {K : PySem.W.Frag} {ad : Ad} {vs : List V} {H : Hp} {Q : VK} {E : XK} (h : sp_Desk___init__ K ad vs H Q E) : ∃ x0, vs = [x0] ∧ q_Desk___init__ K ad x0 H Q := match vs, h with | [x0], h => ⟨x0, rfl, h⟩
def t_Desk___init__ (K : PySem.W.Frag) (ad : Ad) : TS := (tSeq (sFld K (tVar 0) (tC .non) "holder")
    (tSeq (sFld K (tVar 0) (tTup tNil) "queue")
    (sFld K (tVar 0) (tC (.bl false)) "called")))
theorem w_Desk___init__ {K : PySem.W.Frag} {ad : Ad} {x0 : V} {H : Hp} {Q : VK} (O : Oc K ad) (h : q_Desk___init__ K ad x0 H Q) : t_Desk___init__ K ad ⟨fun _ H' => Q .non H', Q, fun _ _ => False, fun _ _ => False⟩ [some x0] H := by
  cases h with
  | @mk p dx _ _ e k =>
    unfold t_Desk___init__
    walk_at "rd"
    refine o_new (Nat.zero_le _) fun qa nq => ?_
    have nqp : qa ≠ p := fresh_ne nq upd_same
    have e2 : (upd (upd H p (.ins ad.Desk dx [("holder", V.non)])) qa (.tup [])) p = some (.ins ad.Desk dx [("holder", V.non)]) := (upd_ne nqp.symm).trans upd_same
    have nqH : H qa = none := (upd_ne nqp).symm.trans nq
    walk_at "rd"
    refine k qa _ nqH upd_same ?_ fun b o nb eb => ?_
    · rw [upd_ne nqp, upd_ne nqp, upd_same]
    · have nbq : b ≠ qa := fun z => by
        rw [z, nqH] at eb
        cases eb
      rw [upd_ne nb, upd_ne nb, upd_ne nbq, upd_ne nb]
      exact eb
inductive q_Desk___len__ (K : PySem.W.Frag) (ad : Ad) : V → Hp → VK → Prop
  | mk {p : Addr} {h : Option (List Int)} {q : List (List Int)} {c : Bool} {F H : Hp} {Q : VK} (hF : Same F H) (D : DeskAt ad F H p h q c) (k : Q (.int (q.length : Nat)) H) : q_Desk___len__ K ad (.ref p) H Q
def sp_Desk___len__ (K : PySem.W.Frag) (ad : Ad) : Sp := fun vs H Q _ => match vs with | [x0] => q_Desk___len__ K ad x0 H Q | _ => False
theorem c_Desk___len__ {K : PySem.W.Frag} {ad : Ad} {x0 : V} {H : Hp} {Q : VK} {E : XK} (h : q_Desk___len__ K ad x0 H Q) : sp_Desk___len__ K ad ([x0] ++ []) H Q E := h
theorem cm_Desk___len__ {K : PySem.W.Frag} {ad : Ad} {x0 : V} {H : Hp} {Q : VK} {E : XK} (h : q_Desk___len__ K ad x0 H Q) : sp_Desk___len__ K ad (x0 :: ([] ++ [])) H Q E := h
theorem cl_Desk___len__ {K : PySem.W.Frag} {ad : Ad} {x0 : V} {H : Hp} {Q : VK} {E : XK} (h : q_Desk___len__ K ad x0 H Q) : sp_Desk___len__ K ad [x0] H Q E := h
theorem n_Desk___len__ {K : PySem.W.Frag} {ad : Ad} {vs : List V} {H : Hp} {Q : VK} {E : XK} (h : sp_Desk___len__ K ad vs H Q E) : ∃ x0, vs = [x0] ∧ q_Desk___len__ K ad x0 H Q := match vs, h with | [x0], h => ⟨x0, rfl, h⟩
def t_Desk___len__ (K : PySem.W.Frag) (ad : Ad) : TS := (tRet (tCB (zLen K) (tCons (tFld K (tVar 0) "queue") tNil)))
theorem w_Desk___len__ {K : PySem.W.Frag} {ad : Ad} {x0 : V} {H : Hp} {Q : VK} (O : Oc K ad) (h : q_Desk___len__ K ad x0 H Q) : t_Desk___len__ K ad ⟨fun _ H' => Q .non H', Q, fun _ _ => False, fun _ _ => False⟩ [some x0] H := by
  cases h with
  | @mk p hh q c F _ _ hF D k =>
    obtain ⟨dx, hv, qa, vs, e, _, eq, ts⟩ := D
    have eqH := hF _ _ eq
    unfold t_Desk___len__
    walk_at "rd"
    rw [ts.length]
    exact k
inductive q_Desk_settle (K : PySem.W.Frag) (ad : Ad) : V → Hp → VK → Prop
  | held {p : Addr} {e : List Int} {q : List (List Int)} {c : Bool} {F H : Hp} {Q : VK} (hF : Same F H) (D : DeskAt ad F H p (some e) q c) (k : ∀ r H', Same H H' → H' r = some (.lst []) → Q (.ref r) H') : q_Desk_settle K ad (.ref p) H Q
  | free {p : Addr} {d : List Int} {q : List (List Int)} {c : Bool} {F H : Hp} {Q : VK} (hF : Same F H) (fp : F p = none) (D : DeskAt ad F H p none (d :: q) c) (k : ∀ r F' H', Dp K H' (.ref r) (dSay "vote" d) → DeskAt ad F' H' p (some d) q false → Gr (M1 p) F H F' H' → Q (.ref r) H') : q_Desk_settle K ad (.ref p) H Q
  | nil {p : Addr} {c : Bool} {F H : Hp} {Q : VK} (hF : Same F H) (fp : F p = none) (D : DeskAt ad F H p none [] c) (k : ∀ r H', H' r = some (.lst []) → DeskAt ad F H' p none [] false → Gr (M1 p) F H F H' → Q (.ref r) H') : q_Desk_settle K ad (.ref p) H Q
def sp_Desk_settle (K : PySem.W.Frag) (ad : Ad) : Sp := fun vs H Q _ => match vs with | [x0] => q_Desk_settle K ad x0 H Q | _ => False
theorem c_Desk_settle {K : PySem.W.Frag} {ad : Ad} {x0 : V} {H : Hp} {Q : VK} {E : XK} (h : q_Desk_settle K ad x0 H Q) : sp_Desk_settle K ad ([x0] ++ []) H Q E := h
theorem cm_Desk_settle {K : PySem.W.Frag} {ad : Ad} {x0 : V} {H : Hp} {Q : VK} {E : XK} (h : q_Desk_settle K ad x0 H Q) : sp_Desk_settle K ad (x0 :: ([] ++ [])) H Q E := h
theorem cl_Desk_settle {K : PySem.W.Frag} {ad : Ad} {x0 : V} {H : Hp} {Q : VK} {E : XK} (h : q_Desk_settle K ad x0 H Q) : sp_Desk_settle K ad [x0] H Q E := h
theorem n_Desk_settle {K : PySem.W.Frag} {ad : Ad} {vs : List V} {H : Hp} {Q : VK} {E : XK} (h : sp_Desk_settle K ad vs H Q E) : ∃ x0, vs = [x0] ∧ q_Desk_settle K ad x0 H Q := match vs, h with | [x0], h => ⟨x0, rfl, h⟩
def t_Desk_settle (K : PySem.W.Frag) (ad : Ad) : TS := (tSeq (tIfS (tTest (tOp zNotN (tFld K (tVar 0) "holder") (tC .non))) (tRet (tLst tNil)) tNext)
    (tSeq (sFld K (tVar 0) (tC (.bl false)) "called")
    (tSeq (tIfS (tTest (tOp (zEq K) (tFld K (tVar 0) "queue") (tTup tNil))) (tRet (tLst tNil)) tNext)
    (tSeq (tAsg (tFld K (tVar 0) "queue") (gStar K (gCons (gFld K "holder" (tVar 0)) (gCons (gName 1) gNil))))
    (tSeq (sFld K (tVar 0) (tCB (zTuple K) (tCons (tVar 1) tNil)) "queue")
    (tRet (tLst (tCons (tTup (tCons (tC (.str "vote")) (tCons (tFld K (tVar 0) "holder") tNil))) tNil))))))))
theorem w_Desk_settle {K : PySem.W.Frag} {ad : Ad} {x0 : V} {H : Hp} {Q : VK} (O : Oc K ad) (h : q_Desk_settle K ad x0 H Q) : t_Desk_settle K ad ⟨fun _ H' => Q .non H', Q, fun _ _ => False, fun _ _ => False⟩ [some x0, none] H := by
  cases h with
  | @held p e q c F _ _ hF D k =>
    obtain ⟨dx, hv, qa, vs, ep, ⟨t, rfl, et⟩, eq, ts⟩ := D
    unfold t_Desk_settle
    walk_at "rd"
    refine o_new (Nat.zero_le _) fun r nr => ?_
    walk_at "rd"
    exact k r _ (up_keep nr) upd_same
  | @free p d q c F _ _ hF fp D k =>
    obtain ⟨dx, hv, qa, vs, ep, rfl, eq, ts⟩ := D
    cases ts with
    | @cons v _ ws _ tv tw =>
    unfold t_Desk_settle
    walk_at "rd"
    have G1 : Gr (M1 p) F H F (upd H p (dk_Desk ad dx .non (.ref qa) (.bl false))) := (Gr.refl hF).put1 fp
    have e1 := upd_same (H := H) (a := p) (o := dk_Desk ad dx .non (.ref qa) (.bl false))
    generalize upd H p (dk_Desk ad dx .non (.ref qa) (.bl false)) = H1 at *
    walk_at "rd"
    refine o_new (Nat.zero_le _) fun z nz => ?_
    have s2 : Same H1 (upd H1 z (.tup [])) := up_keep nz
    have ez := upd_same (H := H1) (a := z) (o := .tup [])
    have G2 := gthn G1 s2
    have e2 := s2 _ _ e1
    generalize upd H1 z (.tup []) = H2 at *
    have eq2 := G2.fh _ _ eq
    refine o_eqD (d := dTI (d :: q)) (e := dTI []) (.tup (SqT.of eq2) (TIs.dp (.cons (tv.mono G2.fh) (TIs.mono G2.fh tw)))) (.tup (SqT.of ez) .nil) (pl_dTI.shaped (by decide)) (pl_dTI.shaped (by decide)) ?_
    rw [pl_dTI.eqv pl_dTI dTI_inj, decide_eq_false (by intro h; cases h)]
    walk_at "rd"
    refine g_star (SqT.of eq2) fun rest nrest => ?_
    have s3 : Same H2 (upd H2 rest (.lst ws)) := up_keep nrest
    have er := upd_same (H := H2) (a := rest) (o := .lst ws)
    have G3 := gthn G2 s3
    have e3 := s3 _ _ e2
    generalize upd H2 rest (.lst ws) = H3 at *
    walk_at "rd"
    have np : rest ≠ p := fun z => by
      rw [z, e3] at er
      cases er
    have G4 : Gr (M1 p) F H F (upd H3 p (dk_Desk ad dx v (.ref qa) (.bl false))) := G3.put1 fp
    have e4 := upd_same (H := H3) (a := p) (o := dk_Desk ad dx v (.ref qa) (.bl false))
    have er4 := (upd_ne np (o := dk_Desk ad dx v (.ref qa) (.bl false))).trans er
    generalize upd H3 p (dk_Desk ad dx v (.ref qa) (.bl false)) = H4 at *
    walk_at "rd"
    refine o_tupleL (SqL.of er4) fun qb nqb => ?_
    have nqbp : qb ≠ p := fresh_ne nqb e4
    have G5 := G4.addF nqb (o := .tup ws) nqbp
    have s5 : Same H4 (upd H4 qb (.tup ws)) := up_keep nqb
    have e5 := s5 _ _ e4
    have fqb := upd_same (H := F) (a := qb) (o := .tup ws)
    have ff : Same F (upd F qb (.tup ws)) := up_keep (fresh_F G4.fh nqb)
    have fp5 : (upd F qb (.tup ws)) p = none := (upd_ne nqbp.symm).trans fp
    generalize upd H4 qb (.tup ws) = H5 at *
    generalize upd F qb (.tup ws) = F5 at *
    walk_at "rd"
    have G6 : Gr (M1 p) F H F5 (upd H5 p (dk_Desk ad dx v (.ref qb) (.bl false))) := G5.put1 fp5
    have e6 := upd_same (H := H5) (a := p) (o := dk_Desk ad dx v (.ref qb) (.bl false))
    generalize upd H5 p (dk_Desk ad dx v (.ref qb) (.bl false)) = H6 at *
    walk_at "rd"
    refine o_new (by walk_at "len") fun t nt => ?_
    have s7 : Same H6 (upd H6 t (.tup [.str "vote", v])) := up_keep nt
    have et := upd_same (H := H6) (a := t) (o := .tup [.str "vote", v])
    have e7 := s7 _ _ e6
    generalize upd H6 t (.tup [.str "vote", v]) = H7 at *
    walk_at "rd"
    refine o_new (by walk_at "len") fun r nr => ?_
    have s8 : Same H7 (upd H7 r (.lst [.ref t])) := up_keep nr
    have er8 := upd_same (H := H7) (a := r) (o := .lst [.ref t])
    have G8 := gthn G6 (s7.trans s8)
    walk_at "rd"
    exact k r F5 _ (say_dp er8 (s8 _ _ et) ((tv.mono ff).mono G8.fh)) ⟨dx, v, qb, ws, s8 _ _ e7, tv.mono ff, fqb, TIs.mono ff tw⟩ G8
  | @nil p c F _ _ hF fp D k =>
    obtain ⟨dx, hv, qa, vs, ep, rfl, eq, ts⟩ := D
    cases ts
    unfold t_Desk_settle
    walk_at "rd"
    have G1 : Gr (M1 p) F H F (upd H p (dk_Desk ad dx .non (.ref qa) (.bl false))) := (Gr.refl hF).put1 fp
    have e1 := upd_same (H := H) (a := p) (o := dk_Desk ad dx .non (.ref qa) (.bl false))
    generalize upd H p (dk_Desk ad dx .non (.ref qa) (.bl false)) = H1 at *
    walk_at "rd"
    refine o_new (Nat.zero_le _) fun z nz => ?_
    have s2 : Same H1 (upd H1 z (.tup [])) := up_keep nz
    have ez := upd_same (H := H1) (a := z) (o := .tup [])
    have G2 := gthn G1 s2
    have e2 := s2 _ _ e1
    generalize upd H1 z (.tup []) = H2 at *
    refine o_eqD (d := dTI []) (e := dTI []) (.tup (SqT.of (G2.fh _ _ eq)) .nil) (.tup (SqT.of ez) .nil) (pl_dTI.shaped (by decide)) (pl_dTI.shaped (by decide)) ?_
    rw [(pl_dTI (q := [])).refl]
    walk_at "rd"
    refine o_new (Nat.zero_le _) fun r nr => ?_
    have s3 : Same H2 (upd H2 r (.lst [])) := up_keep nr
    walk_at "rd"
    exact k r _ upd_same ⟨dx, .non, qa, [], s3 _ _ e2, rfl, eq, .nil⟩ (gthn G2 s3)
inductive q_Desk_take_ask (K : PySem.W.Frag) (ad : Ad) : V → V → Hp → VK → Prop
  | mk {p sa : Addr} {d : List Int} {h : Option (List Int)} {q : List (List Int)} {c : Bool} {F H : Hp} {Q : VK} (hF : Same F H) (fp : F p = none) (D : DeskAt ad F H p h q c) (hd : F sa = some (.tup (d.map V.int))) (dn : d ≠ []) (qn : ∀ e ∈ q, e ≠ []) (hl : q.length ≤ 1000) (h0 : h = none → q = [])
      (k0 : h = none → ∀ r F' H', Dp K H' (.ref r) (dSay "vote" d) → DeskAt ad F' H' p (some d) [] false → Gr (M1 p) F H F' H' → Q (.ref r) H')
      (k1 : ∀ e, h = some e → HT.lexLt d e = true → c = false → ∀ r q2 F' H', q2.Perm (q ++ [d]) → q2.Pairwise (fun d e => HT.lexLt e d = false) → Dp K H' (.ref r) (dSay "back" e) → DeskAt ad F' H' p (some e) q2 true → Gr (M1 p) F H F' H' → Q (.ref r) H')
      (k2 : ∀ e, h = some e → ¬ (HT.lexLt d e = true ∧ c = false) → ∀ r q2 F' H', q2.Perm (q ++ [d]) → q2.Pairwise (fun d e => HT.lexLt e d = false) → H' r = some (.lst []) → DeskAt ad F' H' p (some e) q2 c → Gr (M1 p) F H F' H' → Q (.ref r) H') : q_Desk_take_ask K ad (.ref p) (.ref sa) H Q
def sp_Desk_take_ask (K : PySem.W.Frag) (ad : Ad) : Sp := fun vs H Q _ => match vs with | [x0, x1] => q_Desk_take_ask K ad x0 x1 H Q | _ => False
theorem c_Desk_take_ask {K : PySem.W.Frag} {ad : Ad} {x0 x1 : V} {H : Hp} {Q : VK} {E : XK} (h : q_Desk_take_ask K ad x0 x1 H Q) : sp_Desk_take_ask K ad ([x0, x1] ++ []) H Q E := h
theorem cm_Desk_take_ask {K : PySem.W.Frag} {ad : Ad} {x0 x1 : V} {H : Hp} {Q : VK} {E : XK} (h : q_Desk_take_ask K ad x0 x1 H Q) : sp_Desk_take_ask K ad (x0 :: ([x1] ++ [])) H Q E := h
theorem cl_Desk_take_ask {K : PySem.W.Frag} {ad : Ad} {x0 x1 : V} {H : Hp} {Q : VK} {E : XK} (h : q_Desk_take_ask K ad x0 x1 H Q) : sp_Desk_take_ask K ad [x0, x1] H Q E := h
theorem n_Desk_take_ask {K : PySem.W.Frag} {ad : Ad} {vs : List V} {H : Hp} {Q : VK} {E : XK} (h : sp_Desk_take_ask K ad vs H Q E) : ∃ x0 x1, vs = [x0, x1] ∧ q_Desk_take_ask K ad x0 x1 H Q := match vs, h with | [x0, x1], h => ⟨x0, x1, rfl, h⟩
def t_Desk_take_ask (K : PySem.W.Frag) (ad : Ad) : TS := (tSeq (sFld K (tVar 0) (tCB (zTuple K) (tCons (tCB (rSortedTT K) (tCons (tOp (zAdd K) (tFld K (tVar 0) "queue") (tTup (tCons (tVar 1) tNil))) tNil)) tNil)) "queue")
    (tSeq (tIfS (tAnd (tTest (tOp zNotN (tFld K (tVar 0) "holder") (tC .non))) (tAnd (tTest (tOp (zLt K) (tVar 1) (tFld K (tVar 0) "holder"))) (tNot (zTru K (tFld K (tVar 0) "called"))))) (tSeq (sFld K (tVar 0) (tC (.bl true)) "called")
    (tRet (tLst (tCons (tTup (tCons (tC (.str "back")) (tCons (tFld K (tVar 0) "holder") tNil))) tNil)))) tNext)
    (tRet (tMeth ad.Desk "settle" (sp_Desk_settle K ad) [] E0 (tVar 0) tNil))))
theorem w_Desk_take_ask {K : PySem.W.Frag} {ad : Ad} {x0 x1 : V} {H : Hp} {Q : VK} (O : Oc K ad) (h : q_Desk_take_ask K ad x0 x1 H Q) : t_Desk_take_ask K ad ⟨fun _ H' => Q .non H', Q, fun _ _ => False, fun _ _ => False⟩ [some x0, some x1] H := by
  cases h with
  | @mk p sa d hh q c F _ _ hF fp D hd dn qn hl h0 k0 k1 k2 =>
    obtain ⟨dx, hv, qa, vs, ep, hhv, eq, ts⟩ := D
    have lv := ts.length
    unfold t_Desk_take_ask
    have eqH := hF _ _ eq
    walk_at "rd"
    refine o_new (by walk_at "len") fun u nu => ?_
    have s1 : Same H (upd H u (.tup [.ref sa])) := up_keep nu
    have eu := upd_same (H := H) (a := u) (o := .tup [.ref sa])
    have eq1 := s1 _ _ eqH
    generalize upd H u (.tup [.ref sa]) = H1 at *
    refine o_addTS (SqT.of eq1) (SqT.of eu) (by rw [lv, sizeLine_eq, List.length_singleton]; omega) fun b H2 s2 eb => ?_
    have S2 := s1.trans s2
    have hF2 := hF.trans S2
    have tall : TIs F (vs ++ [.ref sa]) (q ++ [d]) := ts.app (.cons ⟨sa, rfl, hd⟩ .nil)
    walk_at "rd"
    refine o_sortTT eb (tall.mono hF2) (fun e he => ?_) fun ys ess w tys pys pess so nw => ?_
    · rcases List.mem_append.mp he with he | he
      · exact qn e he
      · rw [List.mem_singleton.mp he]
        exact dn
    have s3 : Same H2 (upd H2 w (.lst ys)) := up_keep nw
    have ew := upd_same (H := H2) (a := w) (o := .lst ys)
    generalize upd H2 w (.lst ys) = H3 at *
    have S3 := S2.trans s3
    have tysF : TIs F ys ess := TIs.back hF2 tall (fun y hy => pys.mem_iff.mp hy) tys
    have ep3 := S3 _ _ ep
    have G3 : Gr (M1 p) F H F H3 := gthn (Gr.refl hF) S3
    walk_at "rd"
    refine o_tupleL (SqL.of ew) fun qb nqb => ?_
    have nqbp : qb ≠ p := fresh_ne nqb ep3
    have G5 := G3.addF nqb (o := .tup ys) nqbp
    have s5 : Same H3 (upd H3 qb (.tup ys)) := up_keep nqb
    have ep5 := s5 _ _ ep3
    have fqb := upd_same (H := F) (a := qb) (o := .tup ys)
    have ff : Same F (upd F qb (.tup ys)) := up_keep (fresh_F G3.fh nqb)
    have fp5 : (upd F qb (.tup ys)) p = none := (upd_ne nqbp.symm).trans fp
    generalize upd H3 qb (.tup ys) = H5 at *
    generalize upd F qb (.tup ys) = F5 at *
    walk_at "rd"
    have G6 : Gr (M1 p) F H F5 (upd H5 p (dk_Desk ad dx hv (.ref qb) (.bl c))) := G5.put1 fp5
    have ep6 := upd_same (H := H5) (a := p) (o := dk_Desk ad dx hv (.ref qb) (.bl c))
    generalize upd H5 p (dk_Desk ad dx hv (.ref qb) (.bl c)) = H6 at *
    have tysF5 := tysF.mono ff
    cases hh with
    | none =>
      obtain rfl : hv = .non := hhv
      obtain rfl := h0 rfl
      have he : ess = [d] := List.perm_singleton.mp pess
      subst he
      walk_at "rd"
      apply cm_Desk_settle
      refine q_Desk_settle.free G6.fh fp5 ⟨dx, _, qb, ys, ep6, rfl, fqb, tysF5⟩ fun r F7 H7 dr D7 g7 => ?_
      walk_at "rd"
      exact k0 rfl r F7 H7 dr D7 (G6.tr1 g7 ep6)
    | some e =>
      obtain ⟨t, rfl, et⟩ := hhv
      have et6 := G6.fh _ _ (ff _ _ et)
      have et26 := G6.fh _ _ (ff _ _ hd)
      walk_at "rd"
      refine o_ltT (SqT.of et26) (SqT.of et6) ?_
      have held : ∀ c', c' = c → ¬ (HT.lexLt d e = true ∧ c = false) → q_Desk_settle K ad (.ref p) H6 Q := fun c' _ no => q_Desk_settle.held G6.fh ⟨dx, _, qb, ys, ep6, ⟨t, rfl, ff _ _ et⟩, fqb, tysF5⟩ fun r H7 s7 er => k2 e rfl no r ess F5 H7 pess so er ⟨dx, _, qb, ys, s7 _ _ ep6, ⟨t, rfl, ff _ _ et⟩, fqb, tysF5⟩ (gthn G6 s7)
      cases hlt : HT.lexLt d e with
      | false =>
        rw [hlt] at held
        walk_at "rd"
        apply cm_Desk_settle
        exact held c rfl fun h => by cases h.1
      | true =>
        walk_at "rd"
        cases c with
        | true =>
          walk_at "rd"
          apply cm_Desk_settle
          exact held true rfl fun h => by cases h.2
        | false =>
          walk_at "rd"
          have G7 : Gr (M1 p) F H F5 (upd H6 p (dk_Desk ad dx (.ref t) (.ref qb) (.bl true))) := G6.put1 fp5
          have ep7 := upd_same (H := H6) (a := p) (o := dk_Desk ad dx (.ref t) (.ref qb) (.bl true))
          generalize upd H6 p (dk_Desk ad dx (.ref t) (.ref qb) (.bl true)) = H7 at *
          walk_at "rd"
          refine o_new (by walk_at "len") fun w2 nw2 => ?_
          have s8 : Same H7 (upd H7 w2 (.tup [.str "back", .ref t])) := up_keep nw2
          have ew2 := upd_same (H := H7) (a := w2) (o := .tup [.str "back", .ref t])
          generalize upd H7 w2 (.tup [.str "back", .ref t]) = H8 at *
          walk_at "rd"
          refine o_new (by walk_at "len") fun r nr => ?_
          have s9 : Same H8 (upd H8 r (.lst [.ref w2])) := up_keep nr
          have er := upd_same (H := H8) (a := r) (o := .lst [.ref w2])
          have G9 := gthn G7 (s8.trans s9)
          walk_at "rd"
          exact k1 e rfl hlt rfl r ess F5 _ pess so (say_dp er (s9 _ _ ew2) ⟨t, rfl, G9.fh _ _ (ff _ _ et)⟩) ⟨dx, _, qb, ys, (s8.trans s9) _ _ ep7, ⟨t, rfl, ff _ _ et⟩, fqb, tysF5⟩ G9

/-! ### the vote given back, done, gone -/
inductive Settled : Option (List Int) → List (List Int) → Bool → Option (List Int) → List (List Int) → Bool → PyData → Prop
  | held (e : List Int) (q : List (List Int)) (c : Bool) : Settled (some e) q c (some e) q c (.list [])
  | free (m : List Int) (q : List (List Int)) (c : Bool) : Settled none (m :: q) c (some m) q false (dSay "vote" m)
  | nil (c : Bool) : Settled none [] c none [] false (.list [])
theorem settle_any {K : PySem.W.Frag} {ad : Ad} {p : Addr} {h : Option (List Int)} {q : List (List Int)} {c : Bool} {F H : Hp} {Q : VK} (hF : Same F H) (fp : F p = none) (D : DeskAt ad F H p h q c)
    (k : ∀ r h' q' c' say F' H', Settled h q c h' q' c' say → Dp K H' (.ref r) say → DeskAt ad F' H' p h' q' c' → Gr (M1 p) F H F' H' → Q (.ref r) H') : q_Desk_settle K ad (.ref p) H Q := by
  cases h with
  | some e => exact .held hF D fun r H' s er => k r _ _ _ _ F H' (.held e q c) (.lst (SqL.of er) .nil) (D.mono (Same.refl F) s) (gthn (Gr.refl hF) s)
  | none =>
    cases q with
    | nil => exact .nil hF fp D fun r H' er D' g => k r _ _ _ _ F H' (.nil c) (.lst (SqL.of er) .nil) D' g
    | cons m q => exact .free hF fp D fun r F' H' dr D' g => k r _ _ _ _ F' H' (.free m q c) dr D' g
theorem fil_ix {F : Hp} (P : List Int → Bool) : ∀ {vs : List V} {q : List (List Int)}, TIs F vs q → TIs F (((List.range vs.length).filter fun j => P (q.getD j [])).map fun j => vs.getD j .non) (q.filter P)
  | _, _, .nil => .nil
  | v :: vs, e :: q, .cons h t => by
    have ih := fil_ix P t
    rw [List.length_cons, List.range_succ_eq_map, List.filter_cons, List.filter_cons]
    have tail : TIs F (((List.map Nat.succ (List.range vs.length)).filter fun j => P ((e :: q).getD j [])).map fun j => (v :: vs).getD j .non) (q.filter P) := by
      rw [List.filter_map, List.map_map]
      exact ih
    show TIs F (List.map _ (if P e = true then _ else _)) (if P e = true then _ else _)
    by_cases c : P e = true
    · rw [if_pos c, if_pos c, List.map_cons]
      exact .cons h tail
    · rw [if_neg c, if_neg c]
      exact tail
theorem TI.get0 {F : Hp} {vs : List V} {q : List (List Int)} (ts : TIs F vs q) {j : Nat} {x : V} (hx : vs[j]? = some x) : ∃ t, x = .ref t ∧ F t = some (.tup ((q.getD j []).map V.int)) ∧ q.getD j [] ∈ q ∧ vs.getD j .non = x := by
  obtain ⟨d, hd, t, e, et⟩ := ts.get hx
  have : q.getD j [] = d := by
    rw [List.getD_eq_getElem?_getD, hd]
    rfl
  rw [this]
  exact ⟨t, e, et, List.mem_of_getElem? hd, by rw [List.getD_eq_getElem?_getD, hx]; rfl⟩
inductive q_Desk_take_given (K : PySem.W.Frag) (ad : Ad) : V → V → Hp → VK → Prop
  | mk {p sa : Addr} {d : List Int} {h : Option (List Int)} {q : List (List Int)} {c : Bool} {F H : Hp} {Q : VK} (hF : Same F H) (fp : F p = none) (D : DeskAt ad F H p h q c) (hd : F sa = some (.tup (d.map V.int))) (dn : d ≠ []) (qn : ∀ e ∈ q, e ≠ []) (hl : q.length ≤ 1000)
      (k0 : h = some d → ∀ r q2 h' q' c' say F' H', q2.Perm (q ++ [d]) → q2.Pairwise (fun d e => HT.lexLt e d = false) → Settled none q2 c h' q' c' say → Dp K H' (.ref r) say → DeskAt ad F' H' p h' q' c' → Gr (M1 p) F H F' H' → Q (.ref r) H')
      (k1 : h ≠ some d → ∀ r H', Same H H' → H' r = some (.lst []) → Q (.ref r) H') : q_Desk_take_given K ad (.ref p) (.ref sa) H Q
def sp_Desk_take_given (K : PySem.W.Frag) (ad : Ad) : Sp := fun vs H Q _ => match vs with | [x0, x1] => q_Desk_take_given K ad x0 x1 H Q | _ => False
theorem c_Desk_take_given {K : PySem.W.Frag} {ad : Ad} {x0 x1 : V} {H : Hp} {Q : VK} {E : XK} (h : q_Desk_take_given K ad x0 x1 H Q) : sp_Desk_take_given K ad ([x0, x1] ++ []) H Q E := h
theorem cm_Desk_take_given {K : PySem.W.Frag} {ad : Ad} {x0 x1 : V} {H : Hp} {Q : VK} {E : XK} (h : q_Desk_take_given K ad x0 x1 H Q) : sp_Desk_take_given K ad (x0 :: ([x1] ++ [])) H Q E := h
theorem cl_Desk_take_given {K : PySem.W.Frag} {ad : Ad} {x0 x1 : V} {H : Hp} {Q : VK} {E : XK} (h : q_Desk_take_given K ad x0 x1 H Q) : sp_Desk_take_given K ad [x0, x1] H Q E := h
theorem n_Desk_take_given {K : PySem.W.Frag} {ad : Ad} {vs : List V} {H : Hp} {Q : VK} {E : XK} (h : sp_Desk_take_given K ad vs H Q E) : ∃ x0 x1, vs = [x0, x1] ∧ q_Desk_take_given K ad x0 x1 H Q := match vs, h with | [x0, x1], h => ⟨x0, x1, rfl, h⟩
def t_Desk_take_given (K : PySem.W.Frag) (ad : Ad) : TS := (tSeq (tIfS (tTest (tOp (zNe K) (tFld K (tVar 0) "holder") (tVar 1))) (tRet (tLst tNil)) tNext)
    (tSeq (sFld K (tVar 0) (tC .non) "holder")
    (tSeq (sFld K (tVar 0) (tCB (zTuple K) (tCons (tCB (rSortedTT K) (tCons (tOp (zAdd K) (tFld K (tVar 0) "queue") (tTup (tCons (tVar 1) tNil))) tNil)) tNil)) "queue")
    (tRet (tMeth ad.Desk "settle" (sp_Desk_settle K ad) [] E0 (tVar 0) tNil)))))
theorem w_Desk_take_given {K : PySem.W.Frag} {ad : Ad} {x0 x1 : V} {H : Hp} {Q : VK} (O : Oc K ad) (h : q_Desk_take_given K ad x0 x1 H Q) : t_Desk_take_given K ad ⟨fun _ H' => Q .non H', Q, fun _ _ => False, fun _ _ => False⟩ [some x0, some x1] H := by
  cases h with
  | @mk p sa d hh q c F _ _ hF fp D hd dn qn hl k0 k1 =>
    obtain ⟨dx, hv, qa, vs, ep, hhv, eq, ts⟩ := D
    have lv := ts.length
    have eqH := hF _ _ eq
    have edH := hF _ _ hd
    have away : hh ≠ some d → tRet (tLst tNil) ⟨fun _ H' => Q .non H', Q, fun _ _ => False, fun _ _ => False⟩ [some (.ref p), some (.ref sa)] H := fun n => by
      walk_at "rd"
      refine o_new (Nat.zero_le _) fun r nr => ?_
      walk_at "rd"
      exact k1 n r _ (up_keep nr) upd_same
    unfold t_Desk_take_given
    walk_at "rd"
    cases hh with
    | none =>
      obtain rfl : hv = .non := hhv
      refine o_neD (d := .none) (e := dI d) .non (TI.dp ⟨sa, rfl, edH⟩) ((pl_none (n := 1)).shaped (by decide)) (pl_dI.shaped (by decide)) ?_
      rw [(pl_none (n := 1)).eqv pl_dI (p := False) ⟨fun h => (by cases h), fun h => h.elim⟩, decide_eq_false id]
      walk_at "rd"
      exact away fun h => by cases h
    | some e =>
    obtain ⟨t, rfl, et⟩ := hhv
    refine o_neIT (SqT.of (hF _ _ et)) (SqT.of edH) ?_
    walk_at "rd"
    walk_at "if"
    · rename_i hed
      exact away fun h => hed (by cases h; rfl)
    · rename_i hed
      walk_at "rd"
      subst hed
      have G1 : Gr (M1 p) F H F (upd H p (dk_Desk ad dx .non (.ref qa) (.bl c))) := (Gr.refl hF).put1 fp
      have e1 := upd_same (H := H) (a := p) (o := dk_Desk ad dx .non (.ref qa) (.bl c))
      generalize upd H p (dk_Desk ad dx .non (.ref qa) (.bl c)) = H1 at *
      have eq1 := G1.fh _ _ eq
      clear away eqH edH
      walk_at "rd"
      refine o_new (by walk_at "len") fun u nu => ?_
      have s2 : Same H1 (upd H1 u (.tup [.ref sa])) := up_keep nu
      have eu := upd_same (H := H1) (a := u) (o := .tup [.ref sa])
      have eq2 := s2 _ _ eq1
      generalize upd H1 u (.tup [.ref sa]) = H2 at *
      refine o_addTS (SqT.of eq2) (SqT.of eu) (by rw [lv, sizeLine_eq, List.length_singleton]; omega) fun b H3 s3 eb => ?_
      have S3 := s2.trans s3
      have G3 := gthn G1 S3
      have tall : TIs F (vs ++ [.ref sa]) (q ++ [e]) := ts.app (.cons ⟨sa, rfl, hd⟩ .nil)
      walk_at "rd"
      refine o_sortTT eb (TIs.mono G3.fh tall) (fun x he => ?_) fun ys ess w tys pys pess so nw => ?_
      · rcases List.mem_append.mp he with he | he
        · exact qn x he
        · rw [List.mem_singleton.mp he]
          exact dn
      have s4 : Same H3 (upd H3 w (.lst ys)) := up_keep nw
      have ew := upd_same (H := H3) (a := w) (o := .lst ys)
      have tysF : TIs F ys ess := TIs.back G3.fh tall (fun y hy => pys.mem_iff.mp hy) tys
      generalize upd H3 w (.lst ys) = H4 at *
      have G4 := gthn G3 s4
      have ep4 := (S3.trans s4) _ _ e1
      walk_at "rd"
      refine o_tupleL (SqL.of ew) fun qb nqb => ?_
      have nqbp : qb ≠ p := fresh_ne nqb ep4
      have G5 := G4.addF nqb (o := .tup ys) nqbp
      have s5 : Same H4 (upd H4 qb (.tup ys)) := up_keep nqb
      have ep5 := s5 _ _ ep4
      have fqb := upd_same (H := F) (a := qb) (o := .tup ys)
      have ff : Same F (upd F qb (.tup ys)) := up_keep (fresh_F G4.fh nqb)
      have fp5 : (upd F qb (.tup ys)) p = none := (upd_ne nqbp.symm).trans fp
      generalize upd H4 qb (.tup ys) = H5 at *
      generalize upd F qb (.tup ys) = F5 at *
      walk_at "rd"
      have G6 : Gr (M1 p) F H F5 (upd H5 p (dk_Desk ad dx .non (.ref qb) (.bl c))) := G5.put1 fp5
      have ep6 := upd_same (H := H5) (a := p) (o := dk_Desk ad dx .non (.ref qb) (.bl c))
      generalize upd H5 p (dk_Desk ad dx .non (.ref qb) (.bl c)) = H6 at *
      walk_at "rd"
      apply cm_Desk_settle
      refine settle_any (h := none) G6.fh fp5 ⟨dx, .non, qb, ys, ep6, rfl, fqb, TIs.mono ff tysF⟩ fun r h' q' c' say F7 H7 st dr D7 g7 => ?_
      walk_at "rd"
      exact k0 rfl r ess h' q' c' say F7 H7 pess so st dr D7 (G6.tr1 g7 ep6)
inductive q_Desk_take_done (K : PySem.W.Frag) (ad : Ad) : V → V → Hp → VK → Prop
  | mk {p sa : Addr} {d : List Int} {h : Option (List Int)} {q : List (List Int)} {c : Bool} {F H : Hp} {Q : VK} (hF : Same F H) (fp : F p = none) (D : DeskAt ad F H p h q c) (hd : F sa = some (.tup (d.map V.int))) (hl : q.length ≤ 1000)
      (k : ∀ r h' q' c' say F' H', Settled (if h = some d then none else h) (q.filter fun e => !decide (e = d)) c h' q' c' say → Dp K H' (.ref r) say → DeskAt ad F' H' p h' q' c' → Gr (M1 p) F H F' H' → Q (.ref r) H') : q_Desk_take_done K ad (.ref p) (.ref sa) H Q
def sp_Desk_take_done (K : PySem.W.Frag) (ad : Ad) : Sp := fun vs H Q _ => match vs with | [x0, x1] => q_Desk_take_done K ad x0 x1 H Q | _ => False
theorem c_Desk_take_done {K : PySem.W.Frag} {ad : Ad} {x0 x1 : V} {H : Hp} {Q : VK} {E : XK} (h : q_Desk_take_done K ad x0 x1 H Q) : sp_Desk_take_done K ad ([x0, x1] ++ []) H Q E := h
theorem cm_Desk_take_done {K : PySem.W.Frag} {ad : Ad} {x0 x1 : V} {H : Hp} {Q : VK} {E : XK} (h : q_Desk_take_done K ad x0 x1 H Q) : sp_Desk_take_done K ad (x0 :: ([x1] ++ [])) H Q E := h
theorem cl_Desk_take_done {K : PySem.W.Frag} {ad : Ad} {x0 x1 : V} {H : Hp} {Q : VK} {E : XK} (h : q_Desk_take_done K ad x0 x1 H Q) : sp_Desk_take_done K ad [x0, x1] H Q E := h
theorem n_Desk_take_done {K : PySem.W.Frag} {ad : Ad} {vs : List V} {H : Hp} {Q : VK} {E : XK} (h : sp_Desk_take_done K ad vs H Q E) : ∃ x0 x1, vs = [x0, x1] ∧ q_Desk_take_done K ad x0 x1 H Q := match vs, h with | [x0, x1], h => ⟨x0, x1, rfl, h⟩
def t_Desk_take_done (K : PySem.W.Frag) (ad : Ad) : TS := (Evl.tCut (tIfS (tTest (tOp (zEq K) (tFld K (tVar 0) "holder") (tVar 1))) (sFld K (tVar 0) (tC .non) "holder") tNext)
    (tSeq (sFld K (tVar 0) (tCB (zTuple K) (tCons (tLc (iTup K (tFld K (tVar 0) "queue")) (gName 2) (tTest (tOp (zNe K) (tVar 2) (tVar 1))) (tVar 2) [2]) tNil)) "queue")
    (tRet (tMeth ad.Desk "settle" (sp_Desk_settle K ad) [] E0 (tVar 0) tNil))))
theorem w_Desk_take_done {K : PySem.W.Frag} {ad : Ad} {x0 x1 : V} {H : Hp} {Q : VK} (O : Oc K ad) (h : q_Desk_take_done K ad x0 x1 H Q) : t_Desk_take_done K ad ⟨fun _ H' => Q .non H', Q, fun _ _ => False, fun _ _ => False⟩ [some x0, some x1, none] H := by
  cases h with
  | @mk p sa d hh q c F _ _ hF fp D hd hl k =>
    obtain ⟨dx, hv, qa, vs, ep, hhv, eq, ts⟩ := D
    have lv := ts.length
    unfold t_Desk_take_done
    refine s_cut (fun σ' H' => σ' = [some (.ref p), some (.ref sa), none] ∧ ∃ hv', H' p = some (dk_Desk ad dx hv' (.ref qa) (.bl c)) ∧ HoldV F hv' (if hh = some d then none else hh) ∧ Gr (M1 p) F H F H') ?_ ?_
    · have edH := hF _ _ hd
      walk_at "rd"
      cases hh with
      | none =>
        obtain rfl : hv = .non := hhv
        refine o_eqD (d := .none) (e := dI d) .non (TI.dp ⟨sa, rfl, edH⟩) ((pl_none (n := 1)).shaped (by decide)) (pl_dI.shaped (by decide)) ?_
        rw [(pl_none (n := 1)).eqv pl_dI (p := False) ⟨fun h => (by cases h), fun h => h.elim⟩, decide_eq_false id]
        walk_at "rd"
        exact ⟨rfl, .non, ep, by rw [if_neg (by intro h; cases h)]; rfl, Gr.refl hF⟩
      | some e =>
        obtain ⟨t, rfl, et⟩ := hhv
        refine o_eqIT (SqT.of (hF _ _ et)) (SqT.of edH) ?_
        walk_at "rd"
        walk_at "if"
        · rename_i hed
          walk_at "rd"
          exact ⟨rfl, .non, upd_same, by rw [if_pos (by rw [hed])]; rfl, (Gr.refl hF).put1 fp⟩
        · rename_i hed
          walk_at "rd"
          exact ⟨rfl, _, ep, by rw [if_neg (by intro h; cases h; exact hed rfl)]; exact ⟨t, rfl, et⟩, Gr.refl hF⟩
    clear ep hhv hv
    rintro σ' H1 ⟨rfl, hv, ep, hhv, G1⟩
    have eq1 := G1.fh _ _ eq
    walk_at "rd"
    refine lcT_ig (fun j => !decide (q.getD j [] = d)) (fun j => vs.getD j .non) (SqT.of eq1) (by omega) (fun j x hx H2 QB s2 qb => ?_) (fun j x hx H2 Q2 s2 _ qb => ?_) (fun w H2 nw s2 ew => ?_)
    · obtain ⟨t, rfl, et, _, _⟩ := TI.get0 ts hx
      walk_at "rd"
      refine o_neIT (SqT.of (s2 _ _ (G1.fh _ _ et))) (SqT.of (s2 _ _ (G1.fh _ _ hd))) ?_
      walk_at "rd"
      exact qb _ (Same.refl _)
    · obtain ⟨t, rfl, et, _, e⟩ := TI.get0 ts hx
      rw [e] at qb
      walk_at "rd"
      exact qb _ (Same.refl _)
    have tys := fil_ix (fun e => !decide (e = d)) ts
    generalize ((List.range vs.length).filter fun j => !decide (q.getD j [] = d)).map (fun j => vs.getD j .non) = ys at *
    generalize (q.filter fun e => !decide (e = d)) = q2 at *
    have G2 := gthn G1 s2
    have ep2 := s2 _ _ ep
    walk_at "rd"
    refine o_tupleL (SqL.of ew) fun qb nqb => ?_
    have nqbp : qb ≠ p := fresh_ne nqb ep2
    have G5 := G2.addF nqb (o := .tup ys) nqbp
    have s5 : Same H2 (upd H2 qb (.tup ys)) := up_keep nqb
    have ep5 := s5 _ _ ep2
    have fqb := upd_same (H := F) (a := qb) (o := .tup ys)
    have ff : Same F (upd F qb (.tup ys)) := up_keep (fresh_F G2.fh nqb)
    have fp5 : (upd F qb (.tup ys)) p = none := (upd_ne nqbp.symm).trans fp
    generalize upd H2 qb (.tup ys) = H5 at *
    generalize upd F qb (.tup ys) = F5 at *
    walk_at "rd"
    have G6 : Gr (M1 p) F H F5 (upd H5 p (dk_Desk ad dx hv (.ref qb) (.bl c))) := G5.put1 fp5
    have ep6 := upd_same (H := H5) (a := p) (o := dk_Desk ad dx hv (.ref qb) (.bl c))
    generalize upd H5 p (dk_Desk ad dx hv (.ref qb) (.bl c)) = H6 at *
    walk_at "rd"
    apply cm_Desk_settle
    refine settle_any G6.fh fp5 ⟨dx, hv, qb, ys, ep6, hhv.mono ff, fqb, TIs.mono ff tys⟩ fun r h' q' c' say F7 H7 sd dr D7 g7 => ?_
    walk_at "rd"
    exact k r h' q' c' say F7 H7 sd dr D7 (G6.tr1 g7 ep6)
def seatAt (e : List Int) : Int := e.getD 1 0
/-- the holder behind a seat's going -/
def goneH (z : Int) : Option (List Int) → Option (List Int)
  | none => none
  | some e => if seatAt e = z then none else some e
theorem seat_get {e : List Int} (h : e.length = 3) : atI (e.map V.int) 1 = some (.int (seatAt e)) := by
  refine atI_ints (j := 1) ?_
  rw [seatAt, List.getD_eq_getElem?_getD, List.getElem?_eq_getElem (by omega)]
  rfl
inductive q_Desk_take_gone (K : PySem.W.Frag) (ad : Ad) : V → V → Hp → VK → Prop
  | mk {p : Addr} {z : Int} {h : Option (List Int)} {q : List (List Int)} {c : Bool} {F H : Hp} {Q : VK} (hF : Same F H) (fp : F p = none) (D : DeskAt ad F H p h q c) (hl : q.length ≤ 1000) (q3 : ∀ e ∈ q, e.length = 3) (h3 : ∀ e, h = some e → e.length = 3)
      (k : ∀ r h' q' c' say F' H', Settled (goneH z h) (q.filter fun e => !decide (seatAt e = z)) c h' q' c' say → Dp K H' (.ref r) say → DeskAt ad F' H' p h' q' c' → Gr (M1 p) F H F' H' → Q (.ref r) H') : q_Desk_take_gone K ad (.ref p) (.int z) H Q
def sp_Desk_take_gone (K : PySem.W.Frag) (ad : Ad) : Sp := fun vs H Q _ => match vs with | [x0, x1] => q_Desk_take_gone K ad x0 x1 H Q | _ => False
theorem c_Desk_take_gone {K : PySem.W.Frag} {ad : Ad} {x0 x1 : V} {H : Hp} {Q : VK} {E : XK} (h : q_Desk_take_gone K ad x0 x1 H Q) : sp_Desk_take_gone K ad ([x0, x1] ++ []) H Q E := h
theorem cm_Desk_take_gone {K : PySem.W.Frag} {ad : Ad} {x0 x1 : V} {H : Hp} {Q : VK} {E : XK} (h : q_Desk_take_gone K ad x0 x1 H Q) : sp_Desk_take_gone K ad (x0 :: ([x1] ++ [])) H Q E := h
theorem cl_Desk_take_gone {K : PySem.W.Frag} {ad : Ad} {x0 x1 : V} {H : Hp} {Q : VK} {E : XK} (h : q_Desk_take_gone K ad x0 x1 H Q) : sp_Desk_take_gone K ad [x0, x1] H Q E := h
theorem n_Desk_take_gone {K : PySem.W.Frag} {ad : Ad} {vs : List V} {H : Hp} {Q : VK} {E : XK} (h : sp_Desk_take_gone K ad vs H Q E) : ∃ x0 x1, vs = [x0, x1] ∧ q_Desk_take_gone K ad x0 x1 H Q := match vs, h with | [x0, x1], h => ⟨x0, x1, rfl, h⟩
def t_Desk_take_gone (K : PySem.W.Frag) (ad : Ad) : TS := (Evl.tCut (tIfS (tAnd (tTest (tOp zNotN (tFld K (tVar 0) "holder") (tC .non))) (tTest (tOp (zEq K) (tOp (rIx K) (tFld K (tVar 0) "holder") (tC (.int 1))) (tVar 1)))) (sFld K (tVar 0) (tC .non) "holder") tNext)
    (tSeq (sFld K (tVar 0) (tCB (zTuple K) (tCons (tLc (iTup K (tFld K (tVar 0) "queue")) (gName 2) (tTest (tOp (zNe K) (tOp (rIx K) (tVar 2) (tC (.int 1))) (tVar 1))) (tVar 2) [2]) tNil)) "queue")
    (tRet (tMeth ad.Desk "settle" (sp_Desk_settle K ad) [] E0 (tVar 0) tNil))))
theorem w_Desk_take_gone {K : PySem.W.Frag} {ad : Ad} {x0 x1 : V} {H : Hp} {Q : VK} (O : Oc K ad) (h : q_Desk_take_gone K ad x0 x1 H Q) : t_Desk_take_gone K ad ⟨fun _ H' => Q .non H', Q, fun _ _ => False, fun _ _ => False⟩ [some x0, some x1, none] H := by
  cases h with
  | @mk p z hh q c F _ _ hF fp D hl q3 h3 k =>
    obtain ⟨dx, hv, qa, vs, ep, hhv, eq, ts⟩ := D
    have lv := ts.length
    unfold t_Desk_take_gone
    refine s_cut (fun σ' H' => σ' = [some (.ref p), some (.int z), none] ∧ ∃ hv', H' p = some (dk_Desk ad dx hv' (.ref qa) (.bl c)) ∧ HoldV F hv' (goneH z hh) ∧ Gr (M1 p) F H F H') ?_ ?_
    · walk_at "rd"
      cases hh with
      | none =>
        obtain rfl : hv = .non := hhv
        walk_at "rd"
        exact ⟨rfl, .non, ep, rfl, Gr.refl hF⟩
      | some e =>
        obtain ⟨t, rfl, et⟩ := hhv
        walk_at "rd"
        refine o_ixT (SqT.of (hF _ _ et)) (seat_get (h3 e rfl)) ?_
        walk_at "rd"
        walk_at "if"
        · rename_i hed
          walk_at "rd"
          exact ⟨rfl, .non, upd_same, by show HoldV F .non (if seatAt e = z then none else some e); rw [if_pos hed]; rfl, (Gr.refl hF).put1 fp⟩
        · rename_i hed
          walk_at "rd"
          exact ⟨rfl, _, ep, by show HoldV F _ (if seatAt e = z then none else some e); rw [if_neg hed]; exact ⟨t, rfl, et⟩, Gr.refl hF⟩
    clear ep hhv hv
    rintro σ' H1 ⟨rfl, hv, ep, hhv, G1⟩
    generalize (goneH z hh) = h2 at *
    have eq1 := G1.fh _ _ eq
    walk_at "rd"
    refine lcT_ig (fun j => !decide (seatAt (q.getD j []) = z)) (fun j => vs.getD j .non) (SqT.of eq1) (by omega) (fun j x hx H2 QB s2 qb => ?_) (fun j x hx H2 Q2 s2 _ qb => ?_) (fun w H2 nw s2 ew => ?_)
    · obtain ⟨t, rfl, et, hm, _⟩ := TI.get0 ts hx
      walk_at "rd"
      refine o_ixT (SqT.of (s2 _ _ (G1.fh _ _ et))) (seat_get (q3 _ hm)) ?_
      walk_at "rd"
      exact qb _ (Same.refl _)
    · obtain ⟨t, rfl, et, _, e⟩ := TI.get0 ts hx
      rw [e] at qb
      walk_at "rd"
      exact qb _ (Same.refl _)
    have tys := fil_ix (fun e => !decide (seatAt e = z)) ts
    generalize ((List.range vs.length).filter fun j => !decide (seatAt (q.getD j []) = z)).map (fun j => vs.getD j .non) = ys at *
    generalize (q.filter fun e => !decide (seatAt e = z)) = q2 at *
    have G2 := gthn G1 s2
    have ep2 := s2 _ _ ep
    walk_at "rd"
    refine o_tupleL (SqL.of ew) fun qb nqb => ?_
    have nqbp : qb ≠ p := fresh_ne nqb ep2
    have G5 := G2.addF nqb (o := .tup ys) nqbp
    have s5 : Same H2 (upd H2 qb (.tup ys)) := up_keep nqb
    have ep5 := s5 _ _ ep2
    have fqb := upd_same (H := F) (a := qb) (o := .tup ys)
    have ff : Same F (upd F qb (.tup ys)) := up_keep (fresh_F G2.fh nqb)
    have fp5 : (upd F qb (.tup ys)) p = none := (upd_ne nqbp.symm).trans fp
    generalize upd H2 qb (.tup ys) = H5 at *
    generalize upd F qb (.tup ys) = F5 at *
    walk_at "rd"
    have G6 : Gr (M1 p) F H F5 (upd H5 p (dk_Desk ad dx hv (.ref qb) (.bl c))) := G5.put1 fp5
    have ep6 := upd_same (H := H5) (a := p) (o := dk_Desk ad dx hv (.ref qb) (.bl c))
    generalize upd H5 p (dk_Desk ad dx hv (.ref qb) (.bl c)) = H6 at *
    walk_at "rd"
    apply cm_Desk_settle
    refine settle_any G6.fh fp5 ⟨dx, hv, qb, ys, ep6, hhv.mono ff, fqb, TIs.mono ff tys⟩ fun r h' q' c' say F7 H7 sd dr D7 g7 => ?_
    walk_at "rd"
    exact k r h' q' c' say F7 H7 sd dr D7 (G6.tr1 g7 ep6)

/-! ### deeds at a desk -/
inductive Deed
  | ask (d : List Int)
  | given (d : List Int)
  | done (d : List Int)
  | gone (z : Int)
def Deed.word : Deed → Str
  | .ask _ => "ask"
  | .given _ => "given"
  | .done _ => "done"
  | .gone _ => "gone"
def DeedV (F : Hp) (v : V) : Deed → Prop
  | .ask d => TI F v d
  | .given d => TI F v d
  | .done d => TI F v d
  | .gone z => v = .int z
def Deed.three : Deed → Prop
  | .ask d => d.length = 3
  | .given d => d.length = 3
  | .done d => d.length = 3
  | .gone _ => True
theorem DeedV.mono {F F' : Hp} (s : Same F F') {v : V} : ∀ {dd : Deed}, DeedV F v dd → DeedV F' v dd
  | .ask _, h => TI.mono s h
  | .given _, h => TI.mono s h
  | .done _, h => TI.mono s h
  | .gone _, h => h
def DeedAt (F : Hp) (t : Addr) (dd : Deed) : Prop := ∃ v, F t = some (.tup [.str dd.word, v]) ∧ DeedV F v dd
theorem DeedAt.mono {F F' : Hp} (s : Same F F') {t : Addr} {dd : Deed} (h : DeedAt F t dd) : DeedAt F' t dd := by
  obtain ⟨v, e, d⟩ := h
  exact ⟨v, s _ _ e, d.mono s⟩
def behind : Deed → List (List Int) → List (List Int)
  | .ask d, L => L ++ [d]
  | .given _, L => L
  | .done d, L => L.filter fun e => !decide (e = d)
  | .gone z, L => L.filter fun e => !decide (seatAt e = z)
def freed : Deed → Option (List Int) → Bool
  | _, none => true
  | .ask _, some _ => false
  | .given d, some e => decide (d = e)
  | .done d, some e => decide (d = e)
  | .gone z, some e => decide (seatAt e = z)
def early : Deed → List Int → Bool
  | .ask d, e => HT.lexLt d e
  | _, _ => false
def allOf : Option (List Int) → List (List Int) → List (List Int)
  | none, q => q
  | some e, q => e :: q
abbrev Rising (q : List (List Int)) : Prop := q.Pairwise fun d e => HT.lexLt e d = false
inductive Out (L : List (List Int)) : Option (List Int) → List (List Int) → PyData → Prop
  | nil (h : L = []) : Out L none [] (.list [])
  | vote (m : List Int) (q : List (List Int)) (p : (m :: q).Perm L) (so : Rising (m :: q)) : Out L (some m) q (dSay "vote" m)
inductive Step (h : Option (List Int)) (q : List (List Int)) (c : Bool) (dd : Deed) : Option (List Int) → List (List Int) → Bool → PyData → Prop
  | out {h' : Option (List Int)} {q' : List (List Int)} {say : PyData} (fr : freed dd h = true) (o : Out (behind dd (allOf h q)) h' q' say) : Step h q c dd h' q' false say
  | stay {e : List Int} {q' : List (List Int)} (he : h = some e) (fr : freed dd h = false) (p : (e :: q').Perm (behind dd (e :: q))) (so : Rising q') : Step h q c dd (some e) q' (c || early dd e) (if (early dd e && !c) = true then dSay "back" e else .list [])
theorem settled_out {q : List (List Int)} {c : Bool} {h' : Option (List Int)} {q' : List (List Int)} {c' : Bool} {say : PyData} {L : List (List Int)} (h : Settled none q c h' q' c' say) (p : q.Perm L) (so : Rising q) : c' = false ∧ Out L h' q' say := by
  cases h with
  | free => exact ⟨rfl, .vote _ _ p so⟩
  | nil => exact ⟨rfl, .nil p.nil_eq.symm⟩
theorem wne : ("given" : Str) ≠ "ask" ∧ ("done" : Str) ≠ "ask" ∧ ("done" : Str) ≠ "given" ∧ ("gone" : Str) ≠ "ask" ∧ ("gone" : Str) ≠ "given" ∧ ("gone" : Str) ≠ "done" ∧ ("ask" : Str) ≠ "gone" ∧ ("given" : Str) ≠ "gone" ∧ ("done" : Str) ≠ "gone" ∧ ("ask" : Str) ≠ "done" ∧ ("given" : Str) ≠ "done" := by decide +kernel
inductive q__law_told (K : PySem.W.Frag) (ad : Ad) : V → V → Hp → VK → Prop
  | mk {p t : Addr} {dd : Deed} {h : Option (List Int)} {q : List (List Int)} {c : Bool} {F H : Hp} {Q : VK} (hF : Same F H) (fp : F p = none) (D : DeskAt ad F H p h q c) (dt : DeedAt F t dd) (d3 : dd.three) (hq : h = none → q = [] ∧ c = false) (q3 : ∀ e ∈ q, e.length = 3) (h3 : ∀ e, h = some e → e.length = 3) (hl : q.length ≤ 1000) (so : Rising q)
      (k : ∀ r h' q' c' say F' H', Step h q c dd h' q' c' say → Dp K H' (.ref r) say → DeskAt ad F' H' p h' q' c' → Gr (M1 p) F H F' H' → Q (.ref r) H') : q__law_told K ad (.ref p) (.ref t) H Q
theorem three_ne {d : List Int} (h : d.length = 3) : d ≠ [] := fun z => by
  rw [z] at h
  cases h
def sp__law_told (K : PySem.W.Frag) (ad : Ad) : Sp := fun vs H Q _ => match vs with | [x0, x1] => q__law_told K ad x0 x1 H Q | _ => False
theorem c__law_told {K : PySem.W.Frag} {ad : Ad} {x0 x1 : V} {H : Hp} {Q : VK} {E : XK} (h : q__law_told K ad x0 x1 H Q) : sp__law_told K ad ([x0, x1] ++ []) H Q E := h
theorem n__law_told {K : PySem.W.Frag} {ad : Ad} {vs : List V} {H : Hp} {Q : VK} {E : XK} (h : sp__law_told K ad vs H Q E) : ∃ x0 x1, vs = [x0, x1] ∧ q__law_told K ad x0 x1 H Q := match vs, h with | [x0, x1], h => ⟨x0, x1, rfl, h⟩
def t__law_told (K : PySem.W.Frag) (ad : Ad) : TS := (tSeq (tIfS (tTest (tOp (zEq K) (tOp (rIx K) (tVar 1) (tC (.int 0))) (tC (.str "ask")))) (tRet (tMeth ad.Desk "take_ask" (sp_Desk_take_ask K ad) [] E0 (tVar 0) (tCons (tOp (rIx K) (tVar 1) (tC (.int 1))) tNil))) tNext)
    (tSeq (tIfS (tTest (tOp (zEq K) (tOp (rIx K) (tVar 1) (tC (.int 0))) (tC (.str "given")))) (tRet (tMeth ad.Desk "take_given" (sp_Desk_take_given K ad) [] E0 (tVar 0) (tCons (tOp (rIx K) (tVar 1) (tC (.int 1))) tNil))) tNext)
    (tSeq (tIfS (tTest (tOp (zEq K) (tOp (rIx K) (tVar 1) (tC (.int 0))) (tC (.str "done")))) (tRet (tMeth ad.Desk "take_done" (sp_Desk_take_done K ad) [] E0 (tVar 0) (tCons (tOp (rIx K) (tVar 1) (tC (.int 1))) tNil))) tNext)
    (tRet (tMeth ad.Desk "take_gone" (sp_Desk_take_gone K ad) [] E0 (tVar 0) (tCons (tOp (rIx K) (tVar 1) (tC (.int 1))) tNil))))))
theorem w__law_told {K : PySem.W.Frag} {ad : Ad} {x0 x1 : V} {H : Hp} {Q : VK} (O : Oc K ad) (h : q__law_told K ad x0 x1 H Q) : t__law_told K ad ⟨fun _ H' => Q .non H', Q, fun _ _ => False, fun _ _ => False⟩ [some x0, some x1] H := by
  cases h with
  | @mk p t dd h q c F _ _ hF fp D dt d3 hq q3 h3 hl so k =>
    obtain ⟨v, et, dv⟩ := dt
    have etH := hF _ _ et
    obtain ⟨w1, w2, w3, w4, w5, w6, _⟩ := wne
    have qn : ∀ e ∈ q, e ≠ [] := fun e he => three_ne (q3 e he)
    obtain ⟨dx, hv, qa, vs, ep, _⟩ := id D
    unfold t__law_told
    cases dd with
    | ask d =>
      obtain ⟨sa, rfl, es⟩ := dv
      have etH : H t = some (.tup [.str "ask", .ref sa]) := etH
      have dn := three_ne d3
      walk_at "rd"
      apply cm_Desk_take_ask
      cases h with
      | none =>
        obtain ⟨rfl, rfl⟩ := hq rfl
        refine q_Desk_take_ask.mk hF fp D es dn qn hl (fun _ => rfl) (fun _ r F' H' dr D' g => ?_) (fun _ h => by cases h) (fun _ h => by cases h)
        walk_at "rd"
        exact k r _ _ _ _ F' H' (.out rfl (.vote d [] (List.Perm.refl _) (List.pairwise_singleton ..))) dr D' g
      | some e =>
        refine q_Desk_take_ask.mk hF fp D es dn qn hl (fun h => by cases h) (fun h => by cases h) (fun e' he lt hc r q2 F' H' p2 s2 dr D' g => ?_) (fun e' he no r q2 F' H' p2 s2 er D' g => ?_)
        · cases he
          subst hc
          walk_at "rd"
          have st : Step (some e) q false (.ask d) (some e) q2 (false || early (.ask d) e) (if (early (.ask d) e && !false) = true then dSay "back" e else .list []) := .stay rfl rfl (p2.cons e) s2
          have el : early (.ask d) e = true := lt
          rw [el] at st
          exact k r _ _ _ _ F' H' st dr D' g
        · cases he
          walk_at "rd"
          have st : Step (some e) q c (.ask d) (some e) q2 (c || early (.ask d) e) (if (early (.ask d) e && !c) = true then dSay "back" e else .list []) := .stay rfl rfl (p2.cons e) s2
          have el : early (.ask d) e = HT.lexLt d e := rfl
          have c1 : (c || early (.ask d) e) = c := by
            rw [el]
            cases c with
            | true => rfl
            | false =>
              cases hlt : HT.lexLt d e with
              | false => rfl
              | true => exact absurd ⟨hlt, rfl⟩ no
          have c2 : (early (.ask d) e && !c) = false := by
            rw [el]
            cases c with
            | true => rw [Bool.not_true, Bool.and_false]
            | false =>
              cases hlt : HT.lexLt d e with
              | false => rfl
              | true => exact absurd ⟨hlt, rfl⟩ no
          rw [c1, c2, if_neg Bool.false_ne_true] at st
          exact k r _ _ _ _ F' H' st (.lst (SqL.of er) .nil) D' g
    | given d =>
      obtain ⟨sa, rfl, es⟩ := dv
      have etH : H t = some (.tup [.str "given", .ref sa]) := etH
      walk_at "rd"
      apply cm_Desk_take_given
      refine q_Desk_take_given.mk hF fp D es (three_ne d3) qn hl (fun he r q2 h' q' c' say F' H' p2 s2 sd dr D' g => ?_) (fun ne r H' s er => ?_)
      · subst he
        obtain ⟨rfl, o⟩ := settled_out (L := d :: q) sd (p2.trans List.perm_append_comm) s2
        walk_at "rd"
        exact k r _ _ _ _ F' H' (.out (by show decide (d = d) = true; exact decide_eq_true rfl) o) dr D' g
      · walk_at "rd"
        have D' := D.mono (Same.refl F) s
        have g := gthn (Gr.refl (M := M1 p) hF) s
        have dr : Dp K H' (.ref r) (.list []) := .lst (SqL.of er) .nil
        cases h with
        | none =>
          obtain ⟨rfl, rfl⟩ := hq rfl
          exact k r _ _ _ _ F H' (.out rfl (.nil rfl)) dr D' g
        | some e =>
          have fr : freed (.given d) (some e) = false := decide_eq_false fun z => ne (by rw [z])
          have st : Step (some e) q c (.given d) (some e) q (c || false) (.list []) := .stay rfl fr (List.Perm.refl _) so
          rw [Bool.or_false] at st
          exact k r _ _ _ _ F H' st dr D' g
    | done d =>
      obtain ⟨sa, rfl, es⟩ := dv
      have etH : H t = some (.tup [.str "done", .ref sa]) := etH
      walk_at "rd"
      apply cm_Desk_take_done
      refine q_Desk_take_done.mk hF fp D es hl fun r h' q' c' say F' H' sd dr D' g => ?_
      walk_at "rd"
      have sf : Rising (q.filter fun e => !decide (e = d)) := so.filter _
      cases h with
      | none =>
        obtain ⟨rfl, rfl⟩ := hq rfl
        rw [if_neg (by intro h; cases h)] at sd
        obtain ⟨rfl, o⟩ := settled_out (L := []) sd (List.Perm.refl _) sf
        exact k r _ _ _ _ F' H' (.out rfl o) dr D' g
      | some e =>
        by_cases he : e = d
        · subst he
          rw [if_pos rfl] at sd
          have pb : (q.filter fun x => !decide (x = e)).Perm (behind (.done e) (allOf (some e) q)) := by
            show List.Perm _ ((e :: q).filter fun x => !decide (x = e))
            rw [List.filter_cons, if_neg (by simp)]
          obtain ⟨rfl, o⟩ := settled_out sd pb sf
          exact k r _ _ _ _ F' H' (.out (by show decide (e = e) = true; exact decide_eq_true rfl) o) dr D' g
        · rw [if_neg (by intro h; cases h; exact he rfl)] at sd
          cases sd with
          | held =>
            have fr : freed (.done d) (some e) = false := decide_eq_false fun z => he z.symm
            have st : Step (some e) q c (.done d) (some e) (q.filter fun x => !decide (x = d)) (c || false) (.list []) := .stay rfl fr (by
              show List.Perm _ ((e :: q).filter fun x => !decide (x = d))
              rw [List.filter_cons, if_pos (by simp [he])]) sf
            rw [Bool.or_false] at st
            exact k r _ _ _ _ F' H' st dr D' g
    | gone z =>
      obtain rfl : v = .int z := dv
      have etH : H t = some (.tup [.str "gone", .int z]) := etH
      walk_at "rd"
      apply cm_Desk_take_gone
      refine q_Desk_take_gone.mk hF fp D hl q3 h3 fun r h' q' c' say F' H' sd dr D' g => ?_
      walk_at "rd"
      have sf : Rising (q.filter fun e => !decide (seatAt e = z)) := so.filter _
      cases h with
      | none =>
        obtain ⟨rfl, rfl⟩ := hq rfl
        obtain ⟨rfl, o⟩ := settled_out (L := []) sd (List.Perm.refl _) sf
        exact k r _ _ _ _ F' H' (.out rfl o) dr D' g
      | some e =>
        by_cases he : seatAt e = z
        · rw [goneH, if_pos he] at sd
          have pb : (q.filter fun x => !decide (seatAt x = z)).Perm (behind (.gone z) (allOf (some e) q)) := by
            show List.Perm _ ((e :: q).filter fun x => !decide (seatAt x = z))
            rw [List.filter_cons, if_neg (by simp [he])]
          obtain ⟨rfl, o⟩ := settled_out sd pb sf
          exact k r _ _ _ _ F' H' (.out (decide_eq_true he) o) dr D' g
        · rw [goneH, if_neg he] at sd
          cases sd with
          | held =>
            have fr : freed (.gone z) (some e) = false := decide_eq_false he
            have st : Step (some e) q c (.gone z) (some e) (q.filter fun x => !decide (seatAt x = z)) (c || false) (.list []) := .stay rfl fr (by
              show List.Perm _ ((e :: q).filter fun x => !decide (seatAt x = z))
              rw [List.filter_cons, if_pos (by simp [he])]) sf
            rw [Bool.or_false] at st
            exact k r _ _ _ _ F' H' st dr D' g
inductive q__law_live_behind (K : PySem.W.Frag) (ad : Ad) : V → V → Hp → VK → Prop
  | mk {l t : Addr} {dd : Deed} {lvs : List V} {lv : List (List Int)} {F H : Hp} {Q : VK} (hF : Same F H) (el : H l = some (.lst lvs)) (tl : TIs F lvs lv) (dt : DeedAt F t dd) (l3 : ∀ e ∈ lv, e.length = 3) (hl : lv.length ≤ 1000)
      (k : ∀ r vs H', Same H H' → (r = l ∨ H r = none) → H' r = some (.lst vs) → TIs F vs (behind dd lv) → Q (.ref r) H') : q__law_live_behind K ad (.ref l) (.ref t) H Q
def sp__law_live_behind (K : PySem.W.Frag) (ad : Ad) : Sp := fun vs H Q _ => match vs with | [x0, x1] => q__law_live_behind K ad x0 x1 H Q | _ => False
theorem c__law_live_behind {K : PySem.W.Frag} {ad : Ad} {x0 x1 : V} {H : Hp} {Q : VK} {E : XK} (h : q__law_live_behind K ad x0 x1 H Q) : sp__law_live_behind K ad ([x0, x1] ++ []) H Q E := h
theorem n__law_live_behind {K : PySem.W.Frag} {ad : Ad} {vs : List V} {H : Hp} {Q : VK} {E : XK} (h : sp__law_live_behind K ad vs H Q E) : ∃ x0 x1, vs = [x0, x1] ∧ q__law_live_behind K ad x0 x1 H Q := match vs, h with | [x0, x1], h => ⟨x0, x1, rfl, h⟩
def t__law_live_behind (K : PySem.W.Frag) (ad : Ad) : TS := (tSeq (tIfS (tTest (tOp (zEq K) (tOp (rIx K) (tVar 1) (tC (.int 0))) (tC (.str "ask")))) (tRet (tOp (zAdd K) (tVar 0) (tLst (tCons (tOp (rIx K) (tVar 1) (tC (.int 1))) tNil)))) tNext)
    (tSeq (tIfS (tTest (tOp (zEq K) (tOp (rIx K) (tVar 1) (tC (.int 0))) (tC (.str "done")))) (tRet (tLc (iList K (tVar 0)) (gName 2) (tTest (tOp (zNe K) (tVar 2) (tOp (rIx K) (tVar 1) (tC (.int 1))))) (tVar 2) [2])) tNext)
    (tSeq (tIfS (tTest (tOp (zEq K) (tOp (rIx K) (tVar 1) (tC (.int 0))) (tC (.str "gone")))) (tRet (tLc (iList K (tVar 0)) (gName 2) (tTest (tOp (zNe K) (tOp (rIx K) (tVar 2) (tC (.int 1))) (tOp (rIx K) (tVar 1) (tC (.int 1))))) (tVar 2) [2])) tNext)
    (tRet (tVar 0)))))
theorem w__law_live_behind {K : PySem.W.Frag} {ad : Ad} {x0 x1 : V} {H : Hp} {Q : VK} (h : q__law_live_behind K ad x0 x1 H Q) : t__law_live_behind K ad ⟨fun _ H' => Q .non H', Q, fun _ _ => False, fun _ _ => False⟩ [some x0, some x1, none] H := by
  cases h with
  | @mk l t dd lvs lv F _ _ hF el tl dt l3 hl k =>
    obtain ⟨v, et, dv⟩ := dt
    have etH := hF _ _ et
    have ll := tl.length
    obtain ⟨w1, w2, w3, w4, w5, w6, w7, w8, w9, w10, w11⟩ := wne
    unfold t__law_live_behind
    cases dd with
    | ask d =>
      have etH : H t = some (.tup [.str "ask", v]) := etH
      walk_at "rd"
      refine o_new (by walk_at "len") fun u nu => ?_
      have s1 : Same H (upd H u (.lst [v])) := up_keep nu
      have eu := upd_same (H := H) (a := u) (o := .lst [v])
      have el1 := s1 _ _ el
      generalize upd H u (.lst [v]) = H1 at *
      refine o_addL el1 eu (by rw [ll, sizeLine_eq, List.length_singleton]; omega) fun r nr => ?_
      walk_at "rd"
      exact k r _ _ (s1.trans (up_keep nr)) (.inr (fresh_back s1 nr)) upd_same (tl.app (.cons dv .nil))
    | given d =>
      have etH : H t = some (.tup [.str "given", v]) := etH
      walk_at "rd"
      exact k l lvs H (Same.refl H) (.inl rfl) el tl
    | done d =>
      obtain ⟨sa, rfl, es⟩ := dv
      have etH : H t = some (.tup [.str "done", .ref sa]) := etH
      walk_at "rd"
      refine lcL_ig (fun j => !decide (lv.getD j [] = d)) (fun j => lvs.getD j .non) (SqL.of el) (by omega) (fun j x hx H2 QB s2 qb => ?_) (fun j x hx H2 Q2 s2 _ qb => ?_) (fun w H2 nw s2 ew => ?_)
      · obtain ⟨t', rfl, et', _, _⟩ := TI.get0 tl hx
        have etH2 := s2 _ _ etH
        walk_at "rd"
        refine o_neIT (SqT.of (s2 _ _ (hF _ _ et'))) (SqT.of (s2 _ _ (hF _ _ es))) ?_
        walk_at "rd"
        exact qb _ (Same.refl _)
      · obtain ⟨t', rfl, et', _, e⟩ := TI.get0 tl hx
        rw [e] at qb
        walk_at "rd"
        exact qb _ (Same.refl _)
      walk_at "rd"
      exact k w _ H2 s2 (.inr nw) ew (fil_ix (fun e => !decide (e = d)) tl)
    | gone z =>
      obtain rfl : v = .int z := dv
      have etH : H t = some (.tup [.str "gone", .int z]) := etH
      walk_at "rd"
      refine lcL_ig (fun j => !decide (seatAt (lv.getD j []) = z)) (fun j => lvs.getD j .non) (SqL.of el) (by omega) (fun j x hx H2 QB s2 qb => ?_) (fun j x hx H2 Q2 s2 _ qb => ?_) (fun w H2 nw s2 ew => ?_)
      · obtain ⟨t', rfl, et', hm, _⟩ := TI.get0 tl hx
        have etH2 := s2 _ _ etH
        walk_at "rd"
        refine o_ixT (SqT.of (s2 _ _ (hF _ _ et'))) (seat_get (l3 _ hm)) ?_
        walk_at "rd"
        exact qb _ (Same.refl _)
      · obtain ⟨t', rfl, et', _, e⟩ := TI.get0 tl hx
        rw [e] at qb
        walk_at "rd"
        exact qb _ (Same.refl _)
      walk_at "rd"
      exact k w _ H2 s2 (.inr nw) ew (fil_ix (fun e => !decide (seatAt e = z)) tl)
inductive q__law_freed (K : PySem.W.Frag) (ad : Ad) : V → V → Hp → VK → Prop
  | mk {t : Addr} {hv : V} {dd : Deed} {h : Option (List Int)} {F H : Hp} {Q : VK} (hF : Same F H) (hh : HoldV F hv h) (h3 : ∀ e, h = some e → e.length = 3) (dt : DeedAt F t dd) (k : Q (.bl (freed dd h)) H) : q__law_freed K ad hv (.ref t) H Q
def sp__law_freed (K : PySem.W.Frag) (ad : Ad) : Sp := fun vs H Q _ => match vs with | [x0, x1] => q__law_freed K ad x0 x1 H Q | _ => False
theorem c__law_freed {K : PySem.W.Frag} {ad : Ad} {x0 x1 : V} {H : Hp} {Q : VK} {E : XK} (h : q__law_freed K ad x0 x1 H Q) : sp__law_freed K ad ([x0, x1] ++ []) H Q E := h
theorem n__law_freed {K : PySem.W.Frag} {ad : Ad} {vs : List V} {H : Hp} {Q : VK} {E : XK} (h : sp__law_freed K ad vs H Q E) : ∃ x0 x1, vs = [x0, x1] ∧ q__law_freed K ad x0 x1 H Q := match vs, h with | [x0, x1], h => ⟨x0, x1, rfl, h⟩
def t__law_freed (K : PySem.W.Frag) (ad : Ad) : TS := (tSeq (tIfS (tTest (tOp zIsN (tVar 0) (tC .non))) (tRet (tC (.bl true))) tNext)
    (tSeq (tIfS (tTest (tOp (zEq K) (tOp (rIx K) (tVar 1) (tC (.int 0))) (tC (.str "gone")))) (tRet (tOp (zEq K) (tOp (rIx K) (tVar 0) (tC (.int 1))) (tOp (rIx K) (tVar 1) (tC (.int 1))))) tNext)
    (tRet (tAndV (tOp (zNe K) (tOp (rIx K) (tVar 1) (tC (.int 0))) (tC (.str "ask"))) (tOp (zEq K) (tOp (rIx K) (tVar 1) (tC (.int 1))) (tVar 0))))))
theorem w__law_freed {K : PySem.W.Frag} {ad : Ad} {x0 x1 : V} {H : Hp} {Q : VK} (h : q__law_freed K ad x0 x1 H Q) : t__law_freed K ad ⟨fun _ H' => Q .non H', Q, fun _ _ => False, fun _ _ => False⟩ [some x0, some x1] H := by
  cases h with
  | @mk t hv dd h F _ _ hF hh h3 dt k =>
    obtain ⟨v, et, dv⟩ := dt
    have etH := hF _ _ et
    obtain ⟨w1, w2, w3, w4, w5, w6, w7, w8, w9, w10, w11⟩ := wne
    unfold t__law_freed
    cases h with
    | none =>
      obtain rfl : _ = V.non := hh
      have k : Q (.bl true) H := by
        have : freed dd none = true := by cases dd <;> rfl
        rwa [this] at k
      walk_at "rd"
      exact k
    | some e =>
      obtain ⟨s, rfl, es⟩ := hh
      cases dd with
      | ask d =>
        have etH : H t = some (.tup [.str "ask", v]) := etH
        walk_at "rd"
        exact k
      | given d =>
        obtain ⟨sa, rfl, ea⟩ := dv
        have etH : H t = some (.tup [.str "given", .ref sa]) := etH
        walk_at "rd"
        refine o_eqIT (SqT.of (hF _ _ ea)) (SqT.of (hF _ _ es)) ?_
        walk_at "rd"
        exact k
      | done d =>
        obtain ⟨sa, rfl, ea⟩ := dv
        have etH : H t = some (.tup [.str "done", .ref sa]) := etH
        walk_at "rd"
        refine o_eqIT (SqT.of (hF _ _ ea)) (SqT.of (hF _ _ es)) ?_
        walk_at "rd"
        exact k
      | gone z =>
        obtain rfl : v = .int z := dv
        have etH : H t = some (.tup [.str "gone", .int z]) := etH
        walk_at "rd"
        refine o_ixT (SqT.of (hF _ _ es)) (seat_get (h3 e rfl)) ?_
        walk_at "rd"
        exact k

/-! ### the same data -/
inductive Dn : Nat → PyData → Prop
  | non {n : Nat} : Dn n .none
  | bl {n : Nat} (b : Bool) : Dn n (.bool b)
  | int {n : Nat} (i : Int) : Dn n (.int i)
  | str {n : Nat} (x : Str) (h : PyData.canLay0 (.str x) = true) : Dn n (.str x)
  | tup {n : Nat} {ds : List PyData} (hl : ds.length ≤ 10000) (h : ∀ d ∈ ds, Dn n d) : Dn (n + 1) (.tuple ds)
  | lst {n : Nat} {ds : List PyData} (hl : ds.length ≤ 10000) (h : ∀ d ∈ ds, Dn n d) : Dn (n + 1) (.list ds)
theorem dpAll_len {K : PySem.W.Frag} {H : Hp} : ∀ {xs : List V} {ds : List PyData}, DpAll K H xs ds → xs.length = ds.length
  | _, _, .nil => rfl
  | _, _, .cons _ t => by rw [List.length_cons, List.length_cons, dpAll_len t]
theorem dpAll_get {K : PySem.W.Frag} {H : Hp} : ∀ {xs : List V} {ds : List PyData} {i : Nat} {d : PyData}, DpAll K H xs ds → ds[i]? = some d → ∃ x, xs[i]? = some x ∧ Dp K H x d
  | [], _, _, _, .nil, e => by cases e
  | _ :: _, _ :: _, 0, _, .cons h _, e => by
    cases e
    exact ⟨_, rfl, h⟩
  | v :: vs, _ :: ds, i + 1, d, .cons _ t, e => by
    obtain ⟨x, h1, h2⟩ := dpAll_get (i := i) t (by rw [List.getElem?_cons_succ] at e; exact e)
    exact ⟨x, by rw [List.getElem?_cons_succ]; exact h1, h2⟩
theorem dn_ints {n : Nat} {ns : List Int} (hl : ns.length ≤ 10000) : Dn (n + 1) (dI ns) := .tup (by rw [List.length_map]; exact hl) fun d hd => by
  obtain ⟨z, _, rfl⟩ := List.mem_map.mp hd
  exact .int z
inductive q__law_same (K : PySem.W.Frag) (ad : Ad) : Nat → V → V → Hp → VK → Prop
  | mk {d : Nat} {x y : V} {e : PyData} {H : Hp} {Q : VK} (hx : Dp K H x e) (hy : Dp K H y e) (hd : Dn d e) (k : Q (.bl true) H) : q__law_same K ad d x y H Q
def sp__law_same (K : PySem.W.Frag) (ad : Ad) : Nat → Sp
  | 0 => fun _ _ _ _ => False
  | d + 1 => fun vs H Q _ => match vs with | [x0, x1] => q__law_same K ad d x0 x1 H Q | _ => False
theorem c__law_same {K : PySem.W.Frag} {ad : Ad} {d : Nat} {x0 x1 : V} {H : Hp} {Q : VK} {E : XK} (h : q__law_same K ad d x0 x1 H Q) : sp__law_same K ad (d + 1) ([x0, x1] ++ []) H Q E := h
theorem n__law_same {K : PySem.W.Frag} {ad : Ad} {d : Nat} {vs : List V} {H : Hp} {Q : VK} {E : XK} (h : sp__law_same K ad (d + 1) vs H Q E) : ∃ x0 x1, vs = [x0, x1] ∧ q__law_same K ad d x0 x1 H Q := match vs, h with | [x0, x1], h => ⟨x0, x1, rfl, h⟩
def t__law_same (K : PySem.W.Frag) (ad : Ad) (d : Nat) : TS := (tSeq (tIfS (tOr (zTru K (tCB (rIsi K) (tCons (tVar 1) (tCons (tC (.ty "tuple")) tNil)))) (zTru K (tCB (rIsi K) (tCons (tVar 1) (tCons (tC (.ty "list")) tNil))))) (tSeq (tIfS (tOr (tTest (tOp (zNe K) (tCB (rIsi K) (tCons (tVar 0) (tCons (tC (.ty "tuple")) tNil))) (tCB (rIsi K) (tCons (tVar 1) (tCons (tC (.ty "tuple")) tNil))))) (tTest (tOp (zNe K) (tCB (rIsi K) (tCons (tVar 0) (tCons (tC (.ty "list")) tNil))) (tCB (rIsi K) (tCons (tVar 1) (tCons (tC (.ty "list")) tNil)))))) (tRet (tC (.bl false))) tNext)
    (tSeq (tIfS (tTest (tOp (zNe K) (tCB (zLen K) (tCons (tVar 0) tNil)) (tCB (zLen K) (tCons (tVar 1) tNil)))) (tRet (tC (.bl false))) tNext)
    (tSeq (tFor (iRng1 (tCons (tCB (zLen K) (tCons (tVar 1) tNil)) tNil)) (gName 2)
    (tIfS (tNot (zTru K (tCall (sp__law_same K ad d) [] E0 (tCons (tOp (rIx K) (tVar 0) (tVar 2)) (tCons (tOp (rIx K) (tVar 1) (tVar 2)) tNil))))) (tRet (tC (.bl false))) tNext))
    (tRet (tC (.bl true)))))) tNext)
    (tRet (tAndV (tOp (zEq K) (tCB (rIsi K) (tCons (tVar 0) (tCons (tC (.ty "bool")) tNil))) (tCB (rIsi K) (tCons (tVar 1) (tCons (tC (.ty "bool")) tNil)))) (tOp (zEq K) (tVar 0) (tVar 1)))))
theorem w__law_same {K : PySem.W.Frag} {ad : Ad} {d : Nat} {x0 x1 : V} {H : Hp} {Q : VK} (h : q__law_same K ad d x0 x1 H Q) : t__law_same K ad d ⟨fun _ H' => Q .non H', Q, fun _ _ => False, fun _ _ => False⟩ [some x0, some x1, none] H := by
  cases h with
  | @mk e _ _ hx hy hd k =>
    unfold t__law_same
    cases hd with
    | non =>
      cases hx
      cases hy
      walk_at "rd"
      refine o_eqD .non .non ((pl_none (n := 1)).shaped (by decide)) ((pl_none (n := 1)).shaped (by decide)) ?_
      rw [(pl_none (n := 1)).refl]
      exact k
    | bl b =>
      cases hx
      cases hy
      walk_at "rd"
      rw [decide_eq_true rfl]
      exact k
    | int i =>
      cases hx
      cases hy
      walk_at "rd"
      rw [decide_eq_true rfl]
      exact k
    | str x hx' =>
      cases hx
      cases hy
      walk_at "rd"
      rw [decide_eq_true rfl]
      exact k
    | @tup n ds dz hds =>
      cases hx with
      | @tup a xs _ hs ha =>
      cases hy with
      | @tup b ys _ ht hb =>
      have lx := dpAll_len ha
      have ly := dpAll_len hb
      walk_at "rd"
      rw [ly]
      refine lp_range1 (by omega) (fun i σ' H' => H' = H ∧ ∃ y2, σ' = [some (.ref a), some (.ref b), y2]) ⟨rfl, _, rfl⟩ ?_ ?_
      · rintro i σ' H' hi ⟨rfl, y2, rfl⟩
        have hi : i < ds.length := by omega
        obtain ⟨x, hx, dx⟩ := dpAll_get ha (List.getElem?_eq_getElem hi)
        obtain ⟨y, hy, dy⟩ := dpAll_get hb (List.getElem?_eq_getElem hi)
        walk_at "rd"
        refine o_ixT hs (atI_nat hx) ?_
        walk_at "rd"
        refine o_ixT ht (atI_nat hy) ?_
        walk_at "rd"
        apply c__law_same
        refine q__law_same.mk dx dy (hds _ (List.getElem_mem hi)) ?_
        walk_at "rd"
        exact ⟨rfl, _, rfl⟩
      · rintro σ' H' ⟨rfl, y2, rfl⟩
        walk_at "rd"
        exact k
    | @lst n ds dz hds =>
      cases hx with
      | @lst a xs _ hs ha =>
      cases hy with
      | @lst b ys _ ht hb =>
      have lx := dpAll_len ha
      have ly := dpAll_len hb
      walk_at "rd"
      rw [ly]
      refine lp_range1 (by omega) (fun i σ' H' => H' = H ∧ ∃ y2, σ' = [some (.ref a), some (.ref b), y2]) ⟨rfl, _, rfl⟩ ?_ ?_
      · rintro i σ' H' hi ⟨rfl, y2, rfl⟩
        have hi : i < ds.length := by omega
        obtain ⟨x, hx, dx⟩ := dpAll_get ha (List.getElem?_eq_getElem hi)
        obtain ⟨y, hy, dy⟩ := dpAll_get hb (List.getElem?_eq_getElem hi)
        walk_at "rd"
        refine o_ixL hs (atI_nat hx) ?_
        walk_at "rd"
        refine o_ixL ht (atI_nat hy) ?_
        walk_at "rd"
        apply c__law_same
        refine q__law_same.mk dx dy (hds _ (List.getElem_mem hi)) ?_
        walk_at "rd"
        exact ⟨rfl, _, rfl⟩
      · rintro σ' H' ⟨rfl, y2, rfl⟩
        walk_at "rd"
        exact k

theorem bits_lt {a : Int} {n : Nat} : Builtin.Int.intBits a ≤ n ↔ a.natAbs < 2 ^ n := by
  unfold Builtin.Int.intBits
  by_cases h : a = 0
  · subst h
    simp [Nat.two_pow_pos]
  · rw [if_neg (by simpa using h), Nat.add_one_le_iff, Nat.log2_lt (by omega)]
theorem bits_add {a b : Int} {n : Nat} (ha : Builtin.Int.intBits a ≤ n) (hb : Builtin.Int.intBits b ≤ n) : Builtin.Int.intBits (a + b) ≤ n + 1 := by
  rw [bits_lt] at *
  have := Int.natAbs_add_le a b
  rw [Nat.pow_succ]
  omega
theorem bits_small {a : Int} {n : Nat} (h : a.natAbs < 2 ^ 64) (hn : 64 ≤ n) : Builtin.Int.intBits a ≤ n := Nat.le_trans (bits_lt.mpr h) hn
inductive q__law_draws (K : PySem.W.Frag) (ad : Ad) : V → V → Hp → VK → Prop
  | mk {cell : Int} {a : Addr} {ts : List Int} {H : Hp} {Q : VK} (hc : Builtin.Int.intBits cell ≤ 1048576) (ht : SqL K H a (ts.map V.int)) (tp : ∀ t ∈ ts, 0 < t ∧ t ≤ 10 ^ 40) (tl : ts.length ≤ 100)
    (k : ∀ (r : Addr) (os : List Int) (H' : Hp), Same H H' → H r = none → H' r = some (.lst (os.map V.int)) → os.length = ts.length → (∀ (i : Nat) (o t : Int), os[i]? = some o → ts[i]? = some t → 0 ≤ o ∧ o < t) → Q (.ref r) H') : q__law_draws K ad (.int cell) (.ref a) H Q
def sp__law_draws (K : PySem.W.Frag) (ad : Ad) : Sp := fun vs H Q _ => match vs with | [x0, x1] => q__law_draws K ad x0 x1 H Q | _ => False
theorem c__law_draws {K : PySem.W.Frag} {ad : Ad} {x0 x1 : V} {H : Hp} {Q : VK} {E : XK} (h : q__law_draws K ad x0 x1 H Q) : sp__law_draws K ad ([x0, x1] ++ []) H Q E := h
theorem n__law_draws {K : PySem.W.Frag} {ad : Ad} {vs : List V} {H : Hp} {Q : VK} {E : XK} (h : sp__law_draws K ad vs H Q E) : ∃ x0 x1, vs = [x0, x1] ∧ q__law_draws K ad x0 x1 H Q := match vs, h with | [x0, x1], h => ⟨x0, x1, rfl, h⟩
def t__law_draws (K : PySem.W.Frag) (ad : Ad) : TS := (tSeq (tAsg (tLst tNil) (gName 2))
    (tSeq (tAsg (tOp zSub (tVar 0) (tOp zPowW (tC (.int 10)) (tC (.int 18)))) (gName 3))
    (tSeq (tFor (iRng1 (tCons (tCB (zLen K) (tCons (tVar 1) tNil)) tNil)) (gName 4)
    (tIfS (tTest (tOp zGe (tVar 3) (tC (.int 0)))) (tSeq (tDrop (tBM K "list" rAppend (tVar 2) (tCons (tOp zMod (tVar 3) (tOp (rIx K) (tVar 1) (tVar 4))) tNil)))
    (tAsg (tOp zDiv (tVar 3) (tOp (rIx K) (tVar 1) (tVar 4))) (gName 3))) (tSeq (tAsg (tOp zMod (tOp zPowW (tOp (zAdd K) (tVar 0) (tOp zMul (tC (.int 7919)) (tOp (zAdd K) (tVar 4) (tC (.int 1))))) (tC (.int 3))) (tC (.int 2147483629))) (gName 5))
    (tSeq (tAsg (tOp zDiv (tOp zMod (tOp zMul (tVar 5) (tOp (zAdd K) (tVar 5) (tC (.int 104729)))) (tC (.int 2147483587))) (tC (.int 8))) (gName 5))
    (tSeq (tIfS (tTest (tOp zGt (tOp (rIx K) (tVar 1) (tVar 4)) (tOp zPowW (tC (.int 10)) (tC (.int 8))))) (tAsg (tOp zPowW (tVar 5) (tC (.int 6))) (gName 5)) tNext)
    (tDrop (tBM K "list" rAppend (tVar 2) (tCons (tOp zMod (tVar 5) (tOp (rIx K) (tVar 1) (tVar 4))) tNil))))))))
    (tRet (tVar 2)))))
theorem w__law_draws {K : PySem.W.Frag} {ad : Ad} {x0 x1 : V} {H : Hp} {Q : VK} (h : q__law_draws K ad x0 x1 H Q) : t__law_draws K ad ⟨fun _ H' => Q .non H', Q, fun _ _ => False, fun _ _ => False⟩ [some x0, some x1, none, none, none, none] H := by
  cases h with
  | @mk cell a ts _ _ hc ht tp tl k =>
    unfold t__law_draws
    walk_at "rd"
    refine o_new (Nat.zero_le _) fun r nr => ?_
    have s1 : Same H (upd H r (.lst [])) := up_keep nr
    have er := upd_same (H := H) (a := r) (o := .lst [])
    generalize upd H r (.lst []) = H1 at *
    have ht1 := Same.seq s1 ht
    walk_at "rd"
    rw [List.length_map]
    refine lp_range1 (by omega) (fun i σ' H' => ∃ (rest : Int) (y4 y5 : Option V) (os : List Int), σ' = [some (.int cell), some (.ref a), some (.ref r), some (.int rest), y4, y5] ∧ Same H H' ∧ H' r = some (.lst (os.map V.int)) ∧ os.length = i ∧ (∀ (j : Nat) (o t : Int), os[j]? = some o → ts[j]? = some t → 0 ≤ o ∧ o < t)) ⟨_, _, _, [], rfl, s1, er, rfl, fun j o t h => by cases h⟩ ?_ ?_
    · rintro i σ' H2 hi ⟨rest, y4, y5, os, rfl, s2, er2, lo, ob⟩
      obtain ⟨t, hti⟩ : ∃ t, ts[i]? = some t := ⟨_, List.getElem?_eq_getElem (by omega)⟩
      have tb := tp t (List.mem_of_getElem? hti)
      have ht2 := Same.seq s2 ht
      have more : ∀ z : Int, 0 ≤ z ∧ z < t → ∀ (j : Nat) (o t' : Int), (os ++ [z])[j]? = some o → ts[j]? = some t' → 0 ≤ o ∧ o < t' := fun z hz j o t' h1 h2 => by
        rcases Nat.lt_or_ge j os.length with h | h
        · rw [List.getElem?_append_left h] at h1
          exact ob j o t' h1 h2
        · have hj : j = os.length := by
            have := (List.getElem?_eq_some_iff.mp h1).1
            rw [List.length_append, List.length_singleton] at this
            omega
          subst hj
          rw [List.getElem?_append_right (Nat.le_refl _), Nat.sub_self] at h1
          cases h1
          rw [lo, hti] at h2
          cases h2
          exact hz
      have md : ∀ z : Int, 0 ≤ z % t ∧ z % t < t := fun z => ⟨Int.emod_nonneg z (by omega), Int.emod_lt_of_pos z tb.1⟩
      have put : ∀ z : Int, Same H (upd H2 r (.lst (os.map V.int ++ [.int z]))) ∧ (upd H2 r (.lst (os.map V.int ++ [.int z]))) r = some (.lst ((os ++ [z]).map V.int)) ∧ SqL K (upd H2 r (.lst (os.map V.int ++ [.int z]))) a (ts.map V.int) := fun z => by
        have s3 : Same H (upd H2 r (.lst (os.map V.int ++ [.int z]))) := fun b o e => by
          rw [upd_ne (ne_of_none e nr)]
          exact s2 _ _ e
        refine ⟨s3, ?_, Same.seq s3 ht⟩
        rw [upd_same, List.map_append]
        rfl
      walk_at "rd"
      walk_at "if"
      · walk_at "rd"
        refine ⟨ty_list (SqL.of er2), ?_⟩
        walk_at "rd"
        refine o_ixL ht2 (atI_ints hti) ?_
        walk_at "rd"
        refine m_app er2 (by rw [List.length_map, sizeLine_eq]; omega) ?_
        obtain ⟨s3, e3, h3⟩ := put (rest % t)
        generalize upd H2 r (.lst (os.map V.int ++ [.int (rest % t)])) = H3 at *
        walk_at "rd"
        refine o_ixL h3 (atI_ints hti) ?_
        refine o_div70 tb.1 (by omega) ?_
        walk_at "rd"
        exact ⟨_, _, _, os ++ [rest % t], rfl, s3, e3, by walk_at "len", more _ (md rest)⟩
      · walk_at "rd"
        have b1 := bits_add hc (bits_small (a := 7919 * ((i : Int) + 1)) (n := 1048576) (by omega) (by decide))
        refine o_powW (by decide) (by omega) ?_
        generalize (cell + 7919 * ((i : Int) + 1)) ^ (3 : Int).toNat = big at *
        walk_at "rd"
        have c1 := Int.emod_nonneg big (b := 2147483629) (by decide)
        have c2 := Int.emod_lt_of_pos big (b := 2147483629) (by decide)
        generalize big % 2147483629 = one at *
        walk_at "rd"
        have d1 := Int.emod_nonneg (one * (one + 104729)) (b := 2147483587) (by decide)
        have d2 := Int.emod_lt_of_pos (one * (one + 104729)) (b := 2147483587) (by decide)
        generalize one * (one + 104729) % 2147483587 = two at *
        walk_at "rd"
        obtain ⟨u, hu⟩ : ∃ u, u = two / 8 := ⟨_, rfl⟩
        rw [← hu]
        have u1 : 0 ≤ u ∧ u < 2 ^ 28 := by omega
        clear hu
        walk_at "rd"
        refine o_ixL ht2 (atI_ints hti) ?_
        walk_at "rd"
        walk_at "if"
        · walk_at "rd"
          refine o_powW (by decide) ?_ ?_
          · have := bits_small (a := u) (n := 64) (by omega) (by decide)
            omega
          walk_at "rd"
          refine ⟨ty_list (SqL.of er2), ?_⟩
          walk_at "rd"
          refine o_ixL ht2 (atI_ints hti) ?_
          walk_at "rd"
          refine m_app er2 (by rw [List.length_map, sizeLine_eq]; omega) ?_
          obtain ⟨s3, e3, h3⟩ := put (u ^ (6 : Int).toNat % t)
          exact ⟨_, _, _, os ++ [u ^ (6 : Int).toNat % t], rfl, s3, e3, by walk_at "len", more _ (md _)⟩
        · walk_at "rd"
          refine ⟨ty_list (SqL.of er2), ?_⟩
          walk_at "rd"
          refine o_ixL ht2 (atI_ints hti) ?_
          walk_at "rd"
          refine m_app er2 (by rw [List.length_map, sizeLine_eq]; omega) ?_
          obtain ⟨s3, e3, h3⟩ := put (u % t)
          exact ⟨_, _, _, os ++ [u % t], rfl, s3, e3, by walk_at "len", more _ (md _)⟩
    · rintro σ' H2 ⟨rest, y4, y5, os, rfl, s2, er2, lo, ob⟩
      walk_at "rd"
      exact k r os H2 s2 nr er2 (by omega) ob

theorem cut_all (xs : List V) {k : Nat} (h : xs.length ≤ k) : cutV xs (some ((0 : Nat) : Int)) (some (k : Int)) = xs := by
  unfold cutV
  rw [HT.sIx_nat, HT.sIx_nat, Nat.zero_min, List.drop_zero, Nat.sub_zero, Nat.min_eq_right h, List.take_length]
inductive q__law_cells (K : PySem.W.Frag) (ad : Ad) : V → V → Hp → VK → Prop
  | mk {a : Addr} {ns : List Int} {H : Hp} {Q : VK} (hs : SqL K H a (ns.map V.int)) (hl : ns.length ≤ 63) (hb : ∀ z ∈ ns, Builtin.Int.intBits z ≤ 1048576)
    (k : ∀ (r : Addr) (cs : List Int) (H' : Hp), Same H H' → H r = none → H' r = some (.lst (cs.map V.int)) → cs.length ≤ 63 → (∀ z ∈ cs, Builtin.Int.intBits z ≤ 1048576) → Q (.ref r) H') : q__law_cells K ad (.ref a) (.int 0) H Q
def sp__law_cells (K : PySem.W.Frag) (ad : Ad) : Sp := fun vs H Q _ => match vs with | [x0, x1] => q__law_cells K ad x0 x1 H Q | _ => False
theorem c__law_cells {K : PySem.W.Frag} {ad : Ad} {x0 x1 : V} {H : Hp} {Q : VK} {E : XK} (h : q__law_cells K ad x0 x1 H Q) : sp__law_cells K ad ([x0, x1] ++ []) H Q E := h
theorem n__law_cells {K : PySem.W.Frag} {ad : Ad} {vs : List V} {H : Hp} {Q : VK} {E : XK} (h : sp__law_cells K ad vs H Q E) : ∃ x0 x1, vs = [x0, x1] ∧ q__law_cells K ad x0 x1 H Q := match vs, h with | [x0, x1], h => ⟨x0, x1, rfl, h⟩
def t__law_cells (K : PySem.W.Frag) (ad : Ad) : TS := (tSeq (tAsg (tCB (zList K) (tCons (tSl (zSl K) (tVar 0) (tPart (tVar 1)) (tPart (tC (.int 63)))) tNil)) (gName 2))
    (tSeq (tFor (iRng2 (tCons (tCB (zLen K) (tCons (tVar 2) tNil)) (tCons (tC (.int 20)) tNil))) (gName 3)
    (tDrop (tBM K "list" rAppend (tVar 2) (tCons (tOp (zAdd K) (tOp zMul (tOp zMod (tCB (rSum K) (tCons (tSl (zSl K) (tVar 0) tNoPart (tPart (tC (.int 63)))) tNil)) (tC (.int 1000003))) (tC (.int 48271))) (tOp zMul (tC (.int 104729)) (tOp (zAdd K) (tVar 3) (tC (.int 1))))) tNil))))
    (tRet (tVar 2))))
theorem w__law_cells {K : PySem.W.Frag} {ad : Ad} {x0 x1 : V} {H : Hp} {Q : VK} (h : q__law_cells K ad x0 x1 H Q) : t__law_cells K ad ⟨fun _ H' => Q .non H', Q, fun _ _ => False, fun _ _ => False⟩ [some x0, some x1, none, none] H := by
  cases h with
  | @mk a ns _ _ hs hl hb k =>
    unfold t__law_cells
    walk_at "rd"
    refine sl_L hs fun u nu => ?_
    have e63 : cutV (ns.map V.int) (some 0) (some 63) = ns.map V.int := cut_all _ (k := 63) (by rw [List.length_map]; exact hl)
    rw [e63]
    have s1 : Same H (upd H u (.lst (ns.map V.int))) := up_keep nu
    have eu := upd_same (H := H) (a := u) (o := .lst (ns.map V.int))
    generalize upd H u (.lst (ns.map V.int)) = H1 at *
    walk_at "rd"
    refine o_listL (SqL.of eu) fun r nr => ?_
    have s2 : Same H1 (upd H1 r (.lst (ns.map V.int))) := up_keep nr
    have er := upd_same (H := H1) (a := r) (o := .lst (ns.map V.int))
    have nrH := fresh_back s1 nr
    generalize upd H1 r (.lst (ns.map V.int)) = H2 at *
    have S2 := s1.trans s2
    walk_at "rd"
    rw [List.length_map]
    refine lp_range2 (by omega) (fun i σ' H' => ∃ (y3 : Option V) (cs : List Int), σ' = [some (.ref a), some (.int 0), some (.ref r), y3] ∧ Same H H' ∧ H' r = some (.lst (cs.map V.int)) ∧ cs.length = ns.length + i ∧ (∀ z ∈ cs, Builtin.Int.intBits z ≤ 1048576)) ⟨_, ns, rfl, S2, er, rfl, hb⟩ ?_ ?_
    · rintro i σ' H3 hi ⟨y3, cs, rfl, s3, er3, lc, cb⟩
      walk_at "rd"
      refine ⟨ty_list (SqL.of er3), ?_⟩
      walk_at "rd"
      refine sl_L (Same.seq s3 hs) fun w nw => ?_
      have e0 : cutV (ns.map V.int) none (some 63) = ns.map V.int := (cut_lo _ 63).trans (List.take_of_length_le (by rw [List.length_map]; exact hl))
      rw [e0]
      have s4 : Same H3 (upd H3 w (.lst (ns.map V.int))) := up_keep nw
      have ew := upd_same (H := H3) (a := w) (o := .lst (ns.map V.int))
      have er4 := s4 _ _ er3
      generalize upd H3 w (.lst (ns.map V.int)) = H4 at *
      walk_at "rd"
      have c1 := Int.emod_nonneg ns.sum (b := 1000003) (by decide)
      have c2 := Int.emod_lt_of_pos ns.sum (b := 1000003) (by decide)
      generalize ns.sum % 1000003 = m at *
      walk_at "rd"
      refine m_app er4 (by rw [List.length_map, sizeLine_eq]; omega) ?_
      refine ⟨_, cs ++ [m * 48271 + 104729 * ((ns.length : Int) + (i : Int) + 1)], rfl, fun b o e => ?_, ?_, by walk_at "len", fun z hz => ?_⟩
      · rw [upd_ne (ne_of_none e nrH)]
        exact s4 _ _ (s3 _ _ e)
      · rw [upd_same, List.map_append]
        rfl
      · rcases List.mem_append.mp hz with hz | hz
        · exact cb z hz
        · rw [List.mem_singleton.mp hz]
          exact bits_small (by omega) (by decide)
    · rintro σ' H3 ⟨y3, cs, rfl, s3, er3, lc, cb⟩
      walk_at "rd"
      exact k r cs H3 s3 nrH er3 (by omega) cb

def dHold : Option (List Int) → PyData
  | none => .none
  | some d => dI d
theorem dn_hold {h : Option (List Int)} (hn : ∀ d, h = some d → d.length ≤ 10000) : Dn 3 (dHold h) := by
  cases h with
  | none => exact .non
  | some d => exact dn_ints (hn d rfl)
theorem HoldV.dp {K : PySem.W.Frag} {F H : Hp} (hF : Same F H) {v : V} : ∀ {h : Option (List Int)}, HoldV F v h → Dp K H v (dHold h)
  | none, h => by
    rw [show v = .non from h]
    exact .non
  | some _, h => (TI.mono hF h).dp

inductive q__law_stamp (K : PySem.W.Frag) (ad : Ad) : V → V → V → V → Hp → VK → Prop
  | mk {low many seat turn : Int} {H : Hp} {Q : VK} (k : ∀ t (d : List Int), Fresh H t → d.length = 3 → Q (.ref t) (upd H t (.tup (d.map V.int)))) : q__law_stamp K ad (.int low) (.int many) (.int seat) (.int turn) H Q
def sp__law_stamp (K : PySem.W.Frag) (ad : Ad) : Sp := fun vs H Q _ => match vs with | [x0, x1, x2, x3] => q__law_stamp K ad x0 x1 x2 x3 H Q | _ => False
theorem c__law_stamp {K : PySem.W.Frag} {ad : Ad} {x0 x1 x2 x3 : V} {H : Hp} {Q : VK} {E : XK} (h : q__law_stamp K ad x0 x1 x2 x3 H Q) : sp__law_stamp K ad ([x0, x1, x2, x3] ++ []) H Q E := h
theorem n__law_stamp {K : PySem.W.Frag} {ad : Ad} {vs : List V} {H : Hp} {Q : VK} {E : XK} (h : sp__law_stamp K ad vs H Q E) : ∃ x0 x1 x2 x3, vs = [x0, x1, x2, x3] ∧ q__law_stamp K ad x0 x1 x2 x3 H Q := match vs, h with | [x0, x1, x2, x3], h => ⟨x0, x1, x2, x3, rfl, h⟩
def t__law_stamp (K : PySem.W.Frag) (ad : Ad) : TS := (tSeq (tIfS (tTest (tOp (zEq K) (tOp zMod (tVar 1) (tC (.int 8))) (tC (.int 0)))) (tRet (tTup (tCons (tVar 1) (tCons (tVar 2) (tCons (tVar 3) tNil))))) tNext)
    (tSeq (tIfS (tTest (tOp (zEq K) (tOp zMod (tVar 1) (tC (.int 8))) (tC (.int 1)))) (tRet (tTup (tCons (tOp (zAdd K) (tOp zPow (tC (.int 10)) (tC (.int 39))) (tVar 0)) (tCons (tVar 2) (tCons (tVar 3) tNil))))) tNext)
    (tRet (tTup (tCons (tVar 0) (tCons (tOp zMod (tVar 2) (tC (.int 5))) (tCons (tVar 3) tNil)))))))
theorem w__law_stamp {K : PySem.W.Frag} {ad : Ad} {x0 x1 x2 x3 : V} {H : Hp} {Q : VK} (h : q__law_stamp K ad x0 x1 x2 x3 H Q) : t__law_stamp K ad ⟨fun _ H' => Q .non H', Q, fun _ _ => False, fun _ _ => False⟩ [some x0, some x1, some x2, some x3] H := by
  cases h with
  | @mk low many seat turn _ _ k =>
    unfold t__law_stamp
    walk_at "rd"
    walk_at "if"
    · walk_at "rd"
      refine o_new (by walk_at "len") fun t nt => ?_
      walk_at "rd"
      exact k t [_, _, _] nt rfl
    · walk_at "rd"
      walk_at "if"
      · walk_at "rd"
        refine o_new (by walk_at "len") fun t nt => ?_
        walk_at "rd"
        exact k t [_, _, _] nt rfl
      · walk_at "rd"
        refine o_new (by walk_at "len") fun t nt => ?_
        walk_at "rd"
        exact k t [_, _, _] nt rfl
inductive q__law_desk (K : PySem.W.Frag) (ad : Ad) : V → V → V → V → Hp → VK → Prop
  | mk {p l s : Addr} {hv : V} {h : Option (List Int)} {q lv sss : List (List Int)} {c : Bool} {lvs ss : List V} {F H : Hp} {Q : VK} (hF : Same F H) (D : DeskAt ad F H p h q c) (hh : HoldV F hv h) (h3 : ∀ d, h = some d → d.length = 3) (l3 : ∀ d ∈ lv, d.length = 3) (hq : q.length ≤ 1000) (hl : lv.length ≤ 1000) (el : H l = some (.lst lvs)) (tl : TIs F lvs lv)
      (pm : lv.Perm (allOf h q)) (nd : lv.Nodup) (so : Rising q) (es : H s = some (.lst ss)) (ts : TIs F ss sss) (hs : sss = [] ↔ c = false) (hq0 : h = none → q = [])
      (k : ∀ H', Same H H' → Q (.bl true) H') : q__law_desk K ad (.ref p) hv (.ref l) (.ref s) H Q
def notHeld (h : Option (List Int)) (e : List Int) : Bool := match h with
  | none => true
  | some d => !decide (e = d)
def sp__law_desk (K : PySem.W.Frag) (ad : Ad) : Sp := fun vs H Q _ => match vs with | [x0, x1, x2, x3] => q__law_desk K ad x0 x1 x2 x3 H Q | _ => False
theorem c__law_desk {K : PySem.W.Frag} {ad : Ad} {x0 x1 x2 x3 : V} {H : Hp} {Q : VK} {E : XK} (h : q__law_desk K ad x0 x1 x2 x3 H Q) : sp__law_desk K ad ([x0, x1, x2, x3] ++ []) H Q E := h
theorem n__law_desk {K : PySem.W.Frag} {ad : Ad} {vs : List V} {H : Hp} {Q : VK} {E : XK} (h : sp__law_desk K ad vs H Q E) : ∃ x0 x1 x2 x3, vs = [x0, x1, x2, x3] ∧ q__law_desk K ad x0 x1 x2 x3 H Q := match vs, h with | [x0, x1, x2, x3], h => ⟨x0, x1, x2, x3, rfl, h⟩
def t__law_desk (K : PySem.W.Frag) (ad : Ad) : TS := (tSeq (tAsg (tLc (iList K (tCB (rSortedTI K) (tCons (tVar 2) tNil))) (gName 5) (tTest (tOp (zNe K) (tVar 5) (tVar 1))) (tVar 5) [5]) (gName 4))
    (tSeq (tIfS (tOr (tNot (zTru K (tCall (sp__law_same K ad 4) [] E0 (tCons (tFld K (tVar 0) "holder") (tCons (tVar 1) tNil))))) (tNot (zTru K (tCall (sp__law_same K ad 4) [] E0 (tCons (tFld K (tVar 0) "called") (tCons (tOp (zNe K) (tVar 3) (tLst tNil)) tNil)))))) (tRet (tC (.bl false))) tNext)
    (tRet (tAndV (tCB (rIsi K) (tCons (tFld K (tVar 0) "queue") (tCons (tC (.ty "tuple")) tNil))) (tAndV (tOp (zEq K) (tFld K (tVar 0) "queue") (tCB (zTuple K) (tCons (tVar 4) tNil))) (tOp (zEq K) (tCB (rLenO ad.Desk (sp_Desk___len__ K ad)) (tCons (tVar 0) tNil)) (tCB (zLen K) (tCons (tVar 4) tNil))))))))
theorem w__law_desk {K : PySem.W.Frag} {ad : Ad} {x0 x1 x2 x3 : V} {H : Hp} {Q : VK} (O : Oc K ad) (h : q__law_desk K ad x0 x1 x2 x3 H Q) : t__law_desk K ad ⟨fun _ H' => Q .non H', Q, fun _ _ => False, fun _ _ => False⟩ [some x0, some x1, some x2, some x3, none, none] H := by
  cases h with
  | @mk p l s _ h q lv sss c lvs ss F _ _ hF D hh h3 l3 hq hl el tl pm nd so es ts hs hq0 k =>
    obtain ⟨dx, hv, qa, vs, ep, hh2, eq, tq⟩ := id D
    have eqH := hF _ _ eq
    have dn : Dn 3 (dHold h) := dn_hold fun d hd => by
      have := h3 d hd
      omega
    unfold t__law_desk
    walk_at "rd"
    refine o_sortTI (SqL.of el) (TIs.mono hF tl) (fun d hd => three_ne (l3 d hd)) fun ys ess w tys pys pess so2 nw => ?_
    have s1 : Same H (upd H w (.lst ys)) := up_keep nw
    have ew := upd_same (H := H) (a := w) (o := .lst ys)
    have tysF : TIs F ys ess := TIs.back hF tl (fun y hy => pys.mem_iff.mp hy) tys
    generalize upd H w (.lst ys) = H1 at *
    have hF1 := hF.trans s1
    have ly := tysF.length
    have le := pess.length_eq
    clear tys
    walk_at "rd"
    refine lcL_ig (fun j => notHeld h (ess.getD j [])) (fun j => ys.getD j .non) (SqL.of ew) (by omega) (fun j x hx H2 QB s2 qb => ?_) (fun j x hx H2 Q2 s2 _ qb => ?_) (fun wt H2 nwt s2 ewt => ?_)
    · obtain ⟨t', rfl, et', _, _⟩ := TI.get0 tysF hx
      have e2 := s2 _ _ (hF1 _ _ et')
      walk_at "rd"
      cases h with
      | none =>
        obtain rfl : _ = V.non := hh
        refine o_neD (d := dI _) (e := .none) (TI.dp ⟨t', rfl, e2⟩) .non (pl_dI.shaped (by decide)) ((pl_none (n := 1)).shaped (by decide)) ?_
        rw [pl_dI.eqv (pl_none (n := 1)) (p := False) ⟨fun h => (by cases h), fun h => h.elim⟩, decide_eq_false id]
        walk_at "rd"
        exact qb _ (Same.refl _)
      | some d =>
        obtain ⟨th, rfl, eh⟩ := hh
        refine o_neIT (SqT.of e2) (SqT.of (s2 _ _ (hF1 _ _ eh))) ?_
        walk_at "rd"
        exact qb _ (Same.refl _)
    · obtain ⟨t', rfl, et', _, e⟩ := TI.get0 tysF hx
      rw [e] at qb
      walk_at "rd"
      exact qb _ (Same.refl _)
    have twt := fil_ix (fun e => notHeld h e) tysF
    have same : (ess.filter fun e => notHeld h e) = q := by
      refine sorted_one (so2.filter _) so ?_
      have p2 : (ess.filter fun e => notHeld h e).Perm ((allOf h q).filter fun e => notHeld h e) := (pess.trans pm).filter _
      refine p2.trans (List.Perm.of_eq ?_)
      cases h with
      | none => rw [hq0 rfl]; rfl
      | some d =>
        show ((d :: q).filter fun e => !decide (e = d)) = q
        have nd2 : (d :: q).Nodup := pm.nodup_iff.mp nd
        rw [List.filter_cons, if_neg (by simp), List.filter_eq_self]
        intro e he
        rw [decide_eq_false fun z => (List.nodup_cons.mp nd2).1 (by rw [← z]; exact he)]
        rfl
    rw [same] at twt
    generalize ((List.range ys.length).filter fun j => notHeld h (ess.getD j [])).map (fun j => ys.getD j .non) = wts at *
    have S2 := s1.trans s2
    have hF2 := hF.trans S2
    have D2 := D.mono (Same.refl F) S2
    have ep2 := S2 _ _ ep
    have es2 := S2 _ _ es
    have eq2 := S2 _ _ eqH
    clear s1 s2 ew
    walk_at "rd"
    apply c__law_same
    refine q__law_same.mk (hh2.dp hF2) (hh.dp hF2) dn ?_
    walk_at "rd"
    refine o_new (Nat.zero_le _) fun u nu => ?_
    have s3 : Same H2 (upd H2 u (.lst [])) := up_keep nu
    have eu := upd_same (H := H2) (a := u) (o := .lst [])
    have es3 := s3 _ _ es2
    have ep3 := s3 _ _ ep2
    have D3 := D2.mono (Same.refl F) s3
    have ewt3 := s3 _ _ ewt
    have eq3 := s3 _ _ eq2
    generalize upd H2 u (.lst []) = H3 at *
    have hF3 := hF2.trans s3
    refine o_neLI (bs := []) (SqL.of es3) (SqL.of eu) (TIs.mono hF3 ts) .nil ?_
    have cs : (!decide (sss = [])) = c := by
      cases c with
      | false => rw [decide_eq_true (hs.mpr rfl)]; rfl
      | true => rw [decide_eq_false fun z => (by have := hs.mp z; cases this)]; rfl
    rw [cs]
    walk_at "rd"
    apply c__law_same
    refine q__law_same.mk (.bl c) (.bl c) (.bl c) ?_
    walk_at "rd"
    refine o_tupleL (SqL.of ewt3) fun v nv => ?_
    have s4 : Same H3 (upd H3 v (.tup wts)) := up_keep nv
    have ev := upd_same (H := H3) (a := v) (o := .tup wts)
    have D4 := D3.mono (Same.refl F) s4
    have ep4 := s4 _ _ ep3
    have ewt4 := s4 _ _ ewt3
    generalize upd H3 v (.tup wts) = H4 at *
    have hF4 := hF3.trans s4
    refine o_eqD (d := dTI q) (e := dTI q) (.tup (SqT.of (s4 _ _ eq3)) (TIs.mono hF4 tq).dp) (.tup (SqT.of ev) (TIs.mono hF4 twt).dp) (pl_dTI.shaped (by decide)) (pl_dTI.shaped (by decide)) ?_
    rw [pl_dTI.refl]
    walk_at "rd"
    refine o_lenO ep4 (cl_Desk___len__ (q_Desk___len__.mk hF4 D4 ⟨q.length, rfl, ?_, ?_⟩))
    · omega
    walk_at "rd"
    rw [twt.length]
    walk_at "rd"
    rw [decide_eq_true rfl]
    exact k _ (S2.trans (s3.trans s4))
inductive q__law_fits (K : PySem.W.Frag) (ad : Ad) : V → V → V → Hp → VK → Prop
  | mk {t cm gn : Addr} {dd : Deed} {cs : List V} {css : List (List Int)} {gs : List Int} {F H : Hp} {Q : VK} (hF : Same F H) (dt : DeedAt F t dd) (d3 : dd.three) (ec : H cm = some (.lst cs)) (tc : TIs F cs css) (eg : H gn = some (.lst (gs.map V.int)))
      (k : ∀ b : Bool, (b = true → ∀ d, dd = .ask d → d ∉ css) → Q (.bl b) H) : q__law_fits K ad (.ref t) (.ref cm) (.ref gn) H Q
def sp__law_fits (K : PySem.W.Frag) (ad : Ad) : Sp := fun vs H Q _ => match vs with | [x0, x1, x2] => q__law_fits K ad x0 x1 x2 H Q | _ => False
theorem c__law_fits {K : PySem.W.Frag} {ad : Ad} {x0 x1 x2 : V} {H : Hp} {Q : VK} {E : XK} (h : q__law_fits K ad x0 x1 x2 H Q) : sp__law_fits K ad ([x0, x1, x2] ++ []) H Q E := h
theorem n__law_fits {K : PySem.W.Frag} {ad : Ad} {vs : List V} {H : Hp} {Q : VK} {E : XK} (h : sp__law_fits K ad vs H Q E) : ∃ x0 x1 x2, vs = [x0, x1, x2] ∧ q__law_fits K ad x0 x1 x2 H Q := match vs, h with | [x0, x1, x2], h => ⟨x0, x1, x2, rfl, h⟩
def t__law_fits (K : PySem.W.Frag) (ad : Ad) : TS := (tSeq (tIfS (tTest (tOp (zEq K) (tOp (rIx K) (tVar 0) (tC (.int 0))) (tC (.str "ask")))) (tRet (tAndV (tOp (zNotIn K) (tOp (rIx K) (tVar 0) (tC (.int 1))) (tVar 1)) (tOp (zNotIn K) (tOp (rIx K) (tOp (rIx K) (tVar 0) (tC (.int 1))) (tC (.int 1))) (tVar 2)))) tNext)
    (tRet (tOrV (tOp (zNe K) (tOp (rIx K) (tVar 0) (tC (.int 0))) (tC (.str "gone"))) (tOp (zNotIn K) (tOp (rIx K) (tVar 0) (tC (.int 1))) (tVar 2)))))
theorem w__law_fits {K : PySem.W.Frag} {ad : Ad} {x0 x1 x2 : V} {H : Hp} {Q : VK} (h : q__law_fits K ad x0 x1 x2 H Q) : t__law_fits K ad ⟨fun _ H' => Q .non H', Q, fun _ _ => False, fun _ _ => False⟩ [some x0, some x1, some x2] H := by
  cases h with
  | @mk t cm gn dd cs css gs F _ _ hF dt d3 ec tc eg k =>
    obtain ⟨v, et, dv⟩ := dt
    have etH := hF _ _ et
    obtain ⟨w1, w2, w3, w4, w5, w6, w7, w8, w9, w10, w11⟩ := wne
    have kk : ∀ b : Bool, (∀ d, dd ≠ .ask d) → Q (.bl b) H := fun b n => k b fun _ d z => absurd z (n d)
    unfold t__law_fits
    cases dd with
    | ask d =>
      obtain ⟨sa, rfl, es⟩ := dv
      have etH : H t = some (.tup [.str "ask", .ref sa]) := etH
      have esH := hF _ _ es
      walk_at "rd"
      refine o_notInD (TI.dp ⟨sa, rfl, esH⟩) (.lst (SqL.of ec) (TIs.mono hF tc).dp) (pl_dI.shaped (by decide)) (pl_dLI.shaped (by decide)) ?_
      rw [any_dI]
      cases hin : decide (d ∈ css) with
      | true =>
        walk_at "rd"
        exact k _ fun h => by cases h
      | false =>
        walk_at "rd"
        refine o_ixT (SqT.of esH) (seat_get d3) ?_
        walk_at "rd"
        refine o_notInI (.inl (SqL.of eg)) ?_
        walk_at "rd"
        exact k _ fun _ d' z => by cases z; exact of_decide_eq_false hin
    | given d =>
      have etH : H t = some (.tup [.str "given", v]) := etH
      walk_at "rd"
      exact kk _ fun d z => by cases z
    | done d =>
      have etH : H t = some (.tup [.str "done", v]) := etH
      walk_at "rd"
      exact kk _ fun d z => by cases z
    | gone z =>
      obtain rfl : v = .int z := dv
      have etH : H t = some (.tup [.str "gone", .int z]) := etH
      walk_at "rd"
      refine o_notInI (.inl (SqL.of eg)) ?_
      walk_at "rd"
      exact kk _ fun d z => by cases z
inductive q__law_deed (K : PySem.W.Frag) (ad : Ad) : V → V → V → V → V → Hp → VK → Prop
  | mk {way pick : Int} {l f : Addr} {hv : V} {h : Option (List Int)} {lvs : List V} {lv : List (List Int)} {d : List Int} {F H : Hp} {Q : VK} (hF : Same F H) (p0 : 0 ≤ pick) (hh : HoldV F hv h) (h3 : ∀ e, h = some e → e.length = 3) (el : H l = some (.lst lvs)) (tl : TIs F lvs lv) (l3 : ∀ e ∈ lv, e.length = 3) (hl : lv.length ≤ 1000) (h0 : h = none → lv = []) (ef : F f = some (.tup (d.map V.int))) (d3 : d.length = 3)
      (k : ∀ t dd F' H', DeedAt F' t dd → dd.three → Gr M0 F H F' H' → (dd = .ask d ∨ ∀ e, dd ≠ .ask e) → Q (.ref t) H') : q__law_deed K ad (.int way) (.int pick) hv (.ref l) (.ref f) H Q
def sp__law_deed (K : PySem.W.Frag) (ad : Ad) : Sp := fun vs H Q _ => match vs with | [x0, x1, x2, x3, x4] => q__law_deed K ad x0 x1 x2 x3 x4 H Q | _ => False
theorem c__law_deed {K : PySem.W.Frag} {ad : Ad} {x0 x1 x2 x3 x4 : V} {H : Hp} {Q : VK} {E : XK} (h : q__law_deed K ad x0 x1 x2 x3 x4 H Q) : sp__law_deed K ad ([x0, x1, x2, x3, x4] ++ []) H Q E := h
theorem n__law_deed {K : PySem.W.Frag} {ad : Ad} {vs : List V} {H : Hp} {Q : VK} {E : XK} (h : sp__law_deed K ad vs H Q E) : ∃ x0 x1 x2 x3 x4, vs = [x0, x1, x2, x3, x4] ∧ q__law_deed K ad x0 x1 x2 x3 x4 H Q := match vs, h with | [x0, x1, x2, x3, x4], h => ⟨x0, x1, x2, x3, x4, rfl, h⟩
def t__law_deed (K : PySem.W.Frag) (ad : Ad) : TS := (tSeq (tIfS (tTest (tOp (zLt K) (tVar 0) (tC (.int 7)))) (tRet (tTup (tCons (tC (.str "ask")) (tCons (tVar 4) tNil)))) tNext)
    (Evl.tCut (tIfS (tAnd (tTest (tOp (zEq K) (tVar 0) (tC (.int 14)))) (tOr (tTest (tOp (zEq K) (tVar 3) (tLst tNil))) (tTest (tOp (zEq K) (tOp zMod (tVar 1) (tC (.int 4))) (tC (.int 0)))))) (tRet (tTup (tCons (tC (.str "gone")) (tCons (tOp (rIx K) (tVar 4) (tC (.int 1))) tNil)))) tNext)
    (Evl.tCut (tIfS (tTest (tOp (zEq K) (tVar 0) (tC (.int 14)))) (tRet (tTup (tCons (tC (.str "gone")) (tCons (tOp (rIx K) (tOp (rIx K) (tVar 3) (tOp zMod (tOp zDiv (tVar 1) (tC (.int 4))) (tCB (zLen K) (tCons (tVar 3) tNil)))) (tC (.int 1))) tNil)))) tNext)
    (Evl.tCut (tIfS (tOr (tTest (tOp (zEq K) (tVar 0) (tC (.int 15)))) (tTest (tOp (zEq K) (tVar 3) (tLst tNil)))) (tRet (tTup (tCons (tOp (rIx K) (tLst (tCons (tC (.str "given")) (tCons (tC (.str "done")) tNil))) (tOp zMod (tVar 1) (tC (.int 2)))) (tCons (tTup (tCons (tOp (zAdd K) (tOp zPow (tC (.int 10)) (tC (.int 41))) (tVar 1)) (tCons (tOp (rIx K) (tVar 4) (tC (.int 1))) (tCons (tOp (rIx K) (tVar 4) (tC (.int 2))) tNil)))) tNil)))) tNext)
    (Evl.tCut (tIfS (tOr (tTest (tOp (zEq K) (tVar 0) (tC (.int 9)))) (tTest (tOp zGt (tVar 0) (tC (.int 11))))) (tRet (tTup (tCons (tOp (rIx K) (tLst (tCons (tC (.str "given")) (tCons (tC (.str "done")) tNil))) (tCB zInt1 (tCons (tOp zGt (tVar 0) (tC (.int 11))) tNil))) (tCons (tOp (rIx K) (tVar 3) (tOp zMod (tVar 1) (tCB (zLen K) (tCons (tVar 3) tNil)))) tNil)))) tNext)
    (tRet (tTup (tCons (tOp (rIx K) (tLst (tCons (tC (.str "given")) (tCons (tC (.str "done")) tNil))) (tCB zInt1 (tCons (tOp zGt (tVar 0) (tC (.int 9))) tNil))) (tCons (tVar 2) tNil)))))))))
theorem w__law_deed {K : PySem.W.Frag} {ad : Ad} {x0 x1 x2 x3 x4 : V} {H : Hp} {Q : VK} (h : q__law_deed K ad x0 x1 x2 x3 x4 H Q) : t__law_deed K ad ⟨fun _ H' => Q .non H', Q, fun _ _ => False, fun _ _ => False⟩ [some x0, some x1, some x2, some x3, some x4] H := by
  cases h with
  | @mk way pick l f _ h lvs lv d F _ _ hF p0 hh h3 el tl l3 hl h0 ef d3 k =>
    have efH := hF _ _ ef
    have ll := tl.length
    have fin : ∀ (dd : Deed) (v : V) (F1 H1 : Hp) (t : Addr), Gr M0 F H F1 H1 → Fresh H1 t → DeedV F1 v dd → dd.three → (dd = .ask d ∨ ∀ e, dd ≠ .ask e) → Q (.ref t) (upd H1 t (.tup [.str dd.word, v])) := fun dd v F1 H1 t g nt dv d3 as =>
      k t dd _ _ ⟨v, upd_same, dv.mono (up_keep (fresh_F g.fh nt))⟩ d3 (g.addF nt fun z => z) as
    have two : ∀ j : Int, (j = 0 ∨ j = 1) → ∃ w : Str, atI [V.str "given", V.str "done"] j = some (.str w) ∧ ((w = "given" ∧ ∀ e, (Deed.given e).word = w) ∨ (w = "done" ∧ ∀ e, (Deed.done e).word = w)) := fun j hj => by
      rcases hj with rfl | rfl
      · exact ⟨"given", rfl, .inl ⟨rfl, fun _ => rfl⟩⟩
      · exact ⟨"done", rfl, .inr ⟨rfl, fun _ => rfl⟩⟩
    have pairs : ∀ (w : Str) (e : List Int) (v : V) (F1 H1 : Hp) (t : Addr), ((w = "given" ∧ ∀ e, (Deed.given e).word = w) ∨ (w = "done" ∧ ∀ e, (Deed.done e).word = w)) → Gr M0 F H F1 H1 → Fresh H1 t → TI F1 v e → e.length = 3 → Q (.ref t) (upd H1 t (.tup [.str w, v])) := fun w e v F1 H1 t hw g nt dv e3 => by
      rcases hw with ⟨rfl, _⟩ | ⟨rfl, _⟩
      · exact fin (.given e) v F1 H1 t g nt dv e3 (.inr fun _ z => by cases z)
      · exact fin (.done e) v F1 H1 t g nt dv e3 (.inr fun _ z => by cases z)
    unfold t__law_deed
    walk_at "rd"
    walk_at "if"
    · walk_at "rd"
      refine o_new (by walk_at "len") fun t nt => ?_
      walk_at "rd"
      exact fin (.ask d) (.ref f) F H t (Gr.refl hF) nt ⟨f, rfl, ef⟩ d3 (.inl rfl)
    rename_i w7
    walk_at "rd"
    refine s_cut (fun σ' H' => σ' = [some (.int way), some (.int pick), some x2, some (.ref l), some (.ref f)] ∧ Same H H' ∧ (way = 14 → lv ≠ [])) ?_ ?_
    · walk_at "rd"
      walk_at "if"
      · walk_at "rd"
        refine o_new (Nat.zero_le _) fun u nu => ?_
        have s1 : Same H (upd H u (.lst [])) := up_keep nu
        have eu := upd_same (H := H) (a := u) (o := .lst [])
        have el1 := s1 _ _ el
        have ef1 := s1 _ _ efH
        generalize upd H u (.lst []) = H1 at *
        have G1 := gthn (Gr.refl (M := M0) hF) s1
        refine o_eqLI (bs := []) (SqL.of el1) (SqL.of eu) (TIs.mono G1.fh tl) .nil ?_
        walk_at "rd"
        walk_at "if"
        · walk_at "rd"
          refine o_ixT (SqT.of ef1) (seat_get d3) ?_
          walk_at "rd"
          refine o_new (by walk_at "len") fun t nt => ?_
          walk_at "rd"
          exact fin (.gone (seatAt d)) _ F H1 t G1 nt rfl trivial (.inr fun _ z => by cases z)
        · rename_i hne
          walk_at "rd"
          walk_at "if"
          · walk_at "rd"
            refine o_ixT (SqT.of ef1) (seat_get d3) ?_
            walk_at "rd"
            refine o_new (by walk_at "len") fun t nt => ?_
            walk_at "rd"
            exact fin (.gone (seatAt d)) _ F H1 t G1 nt rfl trivial (.inr fun _ z => by cases z)
          · walk_at "rd"
            exact ⟨rfl, s1, fun _ => hne⟩
      · rename_i n14
        walk_at "rd"
        exact ⟨rfl, Same.refl H, fun z => absurd z n14⟩
    rintro σ' H1 ⟨rfl, s1, hne⟩
    have G1 := gthn (Gr.refl (M := M0) hF) s1
    have el1 := s1 _ _ el
    have ef1 := s1 _ _ efH
    refine s_cut (fun σ' H' => σ' = [some (.int way), some (.int pick), some x2, some (.ref l), some (.ref f)] ∧ H' = H1) ?_ ?_
    · walk_at "rd"
      walk_at "if"
      · rename_i h14
        walk_at "rd"
        rw [ll]
        have lp := List.length_pos_iff.mpr (hne h14)
        have q0 : 0 ≤ pick / 4 % (lv.length : Int) ∧ pick / 4 % (lv.length : Int) < lv.length := ⟨Int.emod_nonneg _ (by omega), Int.emod_lt_of_pos _ (by omega)⟩
        obtain ⟨j, hj⟩ : ∃ j : Nat, pick / 4 % (lv.length : Int) = j := ⟨_, (Int.toNat_of_nonneg q0.1).symm⟩
        refine o_mod (by omega) ?_
        rw [hj]
        obtain ⟨x, hx⟩ : ∃ x, lvs[j]? = some x := ⟨_, List.getElem?_eq_getElem (by omega)⟩
        obtain ⟨t', rfl, et', hm, _⟩ := TI.get0 tl hx
        walk_at "rd"
        refine o_ixL (SqL.of el1) (atI_nat hx) ?_
        walk_at "rd"
        refine o_ixT (SqT.of (G1.fh _ _ et')) (seat_get (l3 _ hm)) ?_
        walk_at "rd"
        refine o_new (by walk_at "len") fun t nt => ?_
        walk_at "rd"
        exact fin (.gone _) _ F H1 t G1 nt rfl trivial (.inr fun _ z => by cases z)
      · walk_at "rd"
        exact ⟨rfl, rfl⟩
    rintro σ' H1' ⟨rfl, rfl⟩
    have never : ∀ H2, Same H1' H2 → ∀ w : Str, ((w = "given" ∧ ∀ e, (Deed.given e).word = w) ∨ (w = "done" ∧ ∀ e, (Deed.done e).word = w)) → ∀ (e : List Int) (t0 t : Addr), e.length = 3 → Fresh H2 t0 → Fresh (upd H2 t0 (.tup (e.map V.int))) t → Q (.ref t) (upd (upd H2 t0 (.tup (e.map V.int))) t (.tup [.str w, .ref t0])) := fun H2 s2 w hw e t0 t e3 n0 nt => by
      have G2 := (gthn G1 s2).addF n0 (o := .tup (e.map V.int)) (fun z => z)
      exact pairs w e _ _ _ t hw G2 nt ⟨t0, rfl, upd_same⟩ e3
    refine s_cut (fun σ' H' => σ' = [some (.int way), some (.int pick), some x2, some (.ref l), some (.ref f)] ∧ Same H1' H' ∧ lv ≠ []) ?_ ?_
    · have two2 := two (pick % 2) (by omega)
      obtain ⟨w, aw, hw⟩ := two2
      have lastly : ∀ H2, Same H1' H2 → tRet (tTup (tCons (tOp (rIx K) (tLst (tCons (tC (.str "given")) (tCons (tC (.str "done")) tNil))) (tOp zMod (tVar 1) (tC (.int 2)))) (tCons (tTup (tCons (tOp (zAdd K) (tOp zPow (tC (.int 10)) (tC (.int 41))) (tVar 1)) (tCons (tOp (rIx K) (tVar 4) (tC (.int 1))) (tCons (tOp (rIx K) (tVar 4) (tC (.int 2))) tNil)))) tNil))) ⟨fun _ H' => Q .non H', Q, fun _ _ => False, fun _ _ => False⟩ [some (.int way), some (.int pick), some x2, some (.ref l), some (.ref f)] H2 := fun H2 s2 => by
        have ef2 := s2 _ _ ef1
        walk_at "rd"
        refine o_new (by walk_at "len") fun u nu => ?_
        have s3 : Same H2 (upd H2 u (.lst [.str "given", .str "done"])) := up_keep nu
        have eu := upd_same (H := H2) (a := u) (o := .lst [.str "given", .str "done"])
        have ef3 := s3 _ _ ef2
        generalize upd H2 u (.lst [.str "given", .str "done"]) = H3 at *
        walk_at "rd"
        refine o_ixL (SqL.of eu) aw ?_
        walk_at "rd"
        refine o_ixT (SqT.of ef3) (seat_get d3) ?_
        walk_at "rd"
        refine o_ixT (SqT.of ef3) (v := .int (d.getD 2 0)) (atI_ints (j := 2) (by rw [List.getD_eq_getElem?_getD, List.getElem?_eq_getElem (by omega)]; rfl)) ?_
        walk_at "rd"
        refine o_new (by walk_at "len") fun t0 n0 => ?_
        walk_at "rd"
        refine o_new (by walk_at "len") fun t nt => ?_
        walk_at "rd"
        exact never H3 (s2.trans s3) w hw [_, _, _] t0 t rfl n0 nt
      walk_at "rd"
      walk_at "if"
      · exact lastly _ (Same.refl _)
      · walk_at "rd"
        refine o_new (Nat.zero_le _) fun u nu => ?_
        have s2 : Same H1' (upd H1' u (.lst [])) := up_keep nu
        have eu := upd_same (H := H1') (a := u) (o := .lst [])
        have el2 := s2 _ _ el1
        generalize upd H1' u (.lst []) = H2 at *
        have hF2 := G1.fh.trans s2
        refine o_eqLI (bs := []) (SqL.of el2) (SqL.of eu) (TIs.mono hF2 tl) .nil ?_
        walk_at "rd"
        walk_at "if"
        · exact lastly _ s2
        · rename_i hne2
          walk_at "rd"
          exact ⟨rfl, s2, hne2⟩
    rintro σ' H2 ⟨rfl, s2, lne⟩
    have G2 := gthn G1 s2
    have el2 := s2 _ _ el1
    have two3 : ∀ b : Bool, ∃ w : Str, atI [V.str "given", V.str "done"] (if b = true then 1 else 0) = some (.str w) ∧ ((w = "given" ∧ ∀ e, (Deed.given e).word = w) ∨ (w = "done" ∧ ∀ e, (Deed.done e).word = w)) := fun b => two _ (by cases b <;> simp)
    refine s_cut (fun σ' H' => σ' = [some (.int way), some (.int pick), some x2, some (.ref l), some (.ref f)] ∧ H' = H2) ?_ ?_
    · obtain ⟨w, aw, hw⟩ := two3 (decide (11 < way))
      have lastly : tRet (tTup (tCons (tOp (rIx K) (tLst (tCons (tC (.str "given")) (tCons (tC (.str "done")) tNil))) (tCB zInt1 (tCons (tOp zGt (tVar 0) (tC (.int 11))) tNil))) (tCons (tOp (rIx K) (tVar 3) (tOp zMod (tVar 1) (tCB (zLen K) (tCons (tVar 3) tNil)))) tNil))) ⟨fun _ H' => Q .non H', Q, fun _ _ => False, fun _ _ => False⟩ [some (.int way), some (.int pick), some x2, some (.ref l), some (.ref f)] H2 := by
        walk_at "rd"
        refine o_new (by walk_at "len") fun u nu => ?_
        have s3 : Same H2 (upd H2 u (.lst [.str "given", .str "done"])) := up_keep nu
        have eu := upd_same (H := H2) (a := u) (o := .lst [.str "given", .str "done"])
        have el3 := s3 _ _ el2
        have G3 := gthn G2 s3
        generalize upd H2 u (.lst [.str "given", .str "done"]) = H3 at *
        walk_at "rd"
        refine o_ixL (SqL.of eu) aw ?_
        walk_at "rd"
        rw [ll]
        have lp := List.length_pos_iff.mpr lne
        have q0 : 0 ≤ pick % (lv.length : Int) ∧ pick % (lv.length : Int) < lv.length := ⟨Int.emod_nonneg _ (by omega), Int.emod_lt_of_pos _ (by omega)⟩
        obtain ⟨j, hj⟩ : ∃ j : Nat, pick % (lv.length : Int) = j := ⟨_, (Int.toNat_of_nonneg q0.1).symm⟩
        refine o_mod (by omega) ?_
        rw [hj]
        obtain ⟨x, hx⟩ : ∃ x, lvs[j]? = some x := ⟨_, List.getElem?_eq_getElem (by omega)⟩
        obtain ⟨t', rfl, et', hm, _⟩ := TI.get0 tl hx
        refine o_ixL (SqL.of el3) (atI_nat hx) ?_
        walk_at "rd"
        refine o_new (by walk_at "len") fun t nt => ?_
        walk_at "rd"
        exact pairs w _ _ F H3 t hw G3 nt ⟨t', rfl, et'⟩ (l3 _ hm)
      walk_at "rd"
      walk_at "if"
      · exact lastly
      · walk_at "rd"
        walk_at "if"
        · exact lastly
        · walk_at "rd"
          exact ⟨rfl, rfl⟩
    rintro σ' H2' ⟨rfl, rfl⟩
    cases h with
    | none => exact absurd (h0 rfl) lne
    | some e =>
      obtain ⟨th, rfl, eh⟩ := hh
      obtain ⟨w, aw, hw⟩ := two3 (decide (9 < way))
      walk_at "rd"
      refine o_new (by walk_at "len") fun u nu => ?_
      have s3 : Same H2' (upd H2' u (.lst [.str "given", .str "done"])) := up_keep nu
      have eu := upd_same (H := H2') (a := u) (o := .lst [.str "given", .str "done"])
      have G3 := gthn G2 s3
      generalize upd H2' u (.lst [.str "given", .str "done"]) = H3 at *
      walk_at "rd"
      refine o_ixL (SqL.of eu) aw ?_
      walk_at "rd"
      refine o_new (by walk_at "len") fun t nt => ?_
      walk_at "rd"
      exact pairs w e _ F H3 t hw G3 nt ⟨th, rfl, eh⟩ (h3 e rfl)

/-! ### mutable lists, told one by one -/
def Tr (H : Hp) (m : List (Addr × List V)) : Prop := ∀ p ∈ m, H p.1 = some (.lst p.2)
abbrev NdT (m : List (Addr × List V)) : Prop := (m.map (·.1)).Nodup
theorem Tr.get {H : Hp} {m : List (Addr × List V)} (h : Tr H m) {k : Nat} {a : Addr} {l : List V} (e : m[k]? = some (a, l)) : H a = some (.lst l) := h _ (List.mem_of_getElem? e)
theorem Tr.keep {H H' : Hp} {m : List (Addr × List V)} (h : Tr H m) (s : ∀ p ∈ m, ∀ o, H p.1 = some o → H' p.1 = some o) : Tr H' m := fun p hp => s p hp _ (h p hp)
theorem Tr.same {H H' : Hp} {m : List (Addr × List V)} (h : Tr H m) (s : Same H H') : Tr H' m := h.keep fun _ _ o e => s _ o e
theorem Tr.set {H : Hp} {m : List (Addr × List V)} (h : Tr H m) (nd : NdT m) {k : Nat} {a : Addr} {l l' : List V} (e : m[k]? = some (a, l)) : Tr (upd H a (.lst l')) (m.set k (a, l')) := fun p hp => by
  obtain ⟨j, hj, ej⟩ := List.getElem_of_mem hp
  have ej' : (m.set k (a, l'))[j]? = some p := by rw [List.getElem?_eq_getElem hj, ej]
  rw [List.getElem?_set] at ej'
  have hk := (List.getElem?_eq_some_iff.mp e).1
  by_cases c : k = j
  · rw [if_pos c, if_pos hk] at ej'
    cases ej'
    exact upd_same
  · rw [if_neg c] at ej'
    have hm := List.mem_of_getElem? ej'
    have ne : p.1 ≠ a := fun z => by
      have h1 : (m.map (·.1))[j]? = some a := by rw [List.getElem?_map, ej', ← z]; rfl
      have h2 : (m.map (·.1))[k]? = some a := by rw [List.getElem?_map, e]; rfl
      obtain ⟨g1, g1'⟩ := List.getElem?_eq_some_iff.mp h1
      obtain ⟨g2, g2'⟩ := List.getElem?_eq_some_iff.mp h2
      exact c ((List.getElem_inj nd).mp (g2'.trans g1'.symm))
    rw [upd_ne ne]
    exact h p hm
theorem Tr.swap {H : Hp} {m : List (Addr × List V)} (h : Tr H m) {k : Nat} {r : Addr} {l : List V} (er : H r = some (.lst l)) : Tr H (m.set k (r, l)) := fun p hp => by
  rcases List.mem_or_eq_of_mem_set hp with hp | hp
  · exact h p hp
  · rw [hp]
    exact er
theorem nd_set {l : List Addr} (nd : l.Nodup) {k : Nat} {r : Addr} (h : r ∉ l ∨ l[k]? = some r) : (l.set k r).Nodup := by
  rcases h with h | h
  · rw [List.Nodup, List.pairwise_iff_getElem]
    intro i j hi hj hij
    rw [List.getElem_set, List.getElem_set]
    rw [List.length_set] at hi hj
    split <;> split
    · omega
    · exact fun z => h (by rw [z]; exact List.getElem_mem _)
    · exact fun z => h (by rw [← z]; exact List.getElem_mem _)
    · exact List.pairwise_iff_getElem.mp nd i j hi hj hij
  · obtain ⟨hk, e⟩ := List.getElem?_eq_some_iff.mp h
    rw [← e, List.set_getElem_self]
    exact nd
theorem NdT.swap {m : List (Addr × List V)} (nd : NdT m) {k : Nat} {r : Addr} {l : List V} (h : r ∉ m.map (·.1) ∨ (m.map (·.1))[k]? = some r) : NdT (m.set k (r, l)) := by
  show ((m.set k (r, l)).map (·.1)).Nodup
  rw [List.map_set]
  exact nd_set nd h
theorem Tr.fresh {H : Hp} {m : List (Addr × List V)} (h : Tr H m) {r : Addr} (n : H r = none) : r ∉ m.map (·.1) := fun z => by
  obtain ⟨p, hp, rfl⟩ := List.mem_map.mp z
  rw [h p hp] at n
  cases n
theorem Tr.away {ad : Ad} {H : Hp} {m : List (Addr × List V)} (h : Tr H m) {x dx : Addr} {v0 v1 v2 : V} (e : H x = some (dk_Desk ad dx v0 v1 v2)) : ∀ p ∈ m, p.1 ≠ x := fun p hp z => by
  have := h p hp
  rw [z, e] at this
  cases this
theorem Tr.ins {H : Hp} {m : List (Addr × List V)} (h : Tr H m) (nd : NdT m) (k : Nat) {r : Addr} (n : H r = none) (l : List V) : Tr (upd H r (.lst l)) (m.take k ++ [(r, l)] ++ m.drop k) ∧ NdT (m.take k ++ [(r, l)] ++ m.drop k) := by
  have nr := h.fresh n
  constructor
  · intro p hp
    rw [List.append_assoc, List.mem_append, List.mem_append, List.mem_singleton] at hp
    have old : p ∈ m → upd H r (.lst l) p.1 = some (.lst p.2) := fun hm => by
      rw [upd_ne fun z => nr (by rw [← z]; exact List.mem_map_of_mem hm)]
      exact h p hm
    rcases hp with hp | hp | hp
    · exact old (List.mem_of_mem_take hp)
    · rw [hp]
      exact upd_same
    · exact old (List.mem_of_mem_drop hp)
  · have p1 : (m.take k ++ [(r, l)] ++ m.drop k).Perm ((r, l) :: m) := by
      rw [List.append_assoc]
      have := List.perm_middle (a := (r, l)) (l₁ := m.take k) (l₂ := m.drop k)
      rw [List.take_append_drop] at this
      exact this
    exact (p1.map _).nodup_iff.mpr (List.nodup_cons.mpr ⟨nr, nd⟩)
def pr : Bool → V → V → List V
  | false, a, b => [a, b]
  | true, a, b => [b, a]
def atOf : Bool → Int
  | false => 0
  | true => 1
theorem o_ixPr {K : PySem.W.Frag} {H : Hp} {Q : VK} {C : Addr} {sw : Bool} {a b : V} (e : H C = some (.lst (pr sw a b))) (h : Q a H) : rIx K (.ref C) (.int (atOf sw)) H Q := by
  cases sw
  · exact o_ixL (SqL.of e) rfl h
  · exact o_ixL (SqL.of e) rfl h
theorem o_setPr {H : Hp} {QH : Hp → Prop} {C : Addr} {sw : Bool} {a b v : V} (e : H C = some (.lst (pr sw a b))) (h : QH (upd H C (.lst (pr sw v b)))) : rSetL (.ref C) (.int (atOf sw)) v H QH := by
  cases sw
  · exact o_setL (j := 0) e rfl h
  · exact o_setL (j := 1) e rfl h
structure DS where
  x : Addr
  l : Addr
  s : Addr
  c : Addr
  g : Addr
  hv : V
  h : Option (List Int)
  q : List (List Int)
  cd : Bool
  lv : List (List Int)
  lvs : List V
  ss : List V
  cs : List V
  gs : List V
structure Outs where
  A : Addr
  B : Addr
  C : Addr
  D : Addr
  E : Addr
  G : Addr
  L : Addr
  cells : List Int
def DS.own (t : DS) : List (Addr × List V) := [(t.l, t.lvs), (t.s, t.ss), (t.c, t.cs), (t.g, t.gs)]
def outs (w : Outs) (sw : Bool) (t o : DS) : List (Addr × List V) := [(w.A, pr sw (.ref t.x) (.ref o.x)), (w.B, pr sw t.hv o.hv), (w.C, pr sw (.ref t.l) (.ref o.l)), (w.D, pr sw (.ref t.s) (.ref o.s)), (w.E, pr sw (.ref t.c) (.ref o.c)), (w.G, pr sw (.ref t.g) (.ref o.g)), (w.L, w.cells.map V.int)]
def cells (w : Outs) (sw : Bool) (t o : DS) : List (Addr × List V) := outs w sw t o ++ (t.own ++ o.own)
theorem cells_turn (w : Outs) (sw : Bool) (t o : DS) : (cells w sw t o).Perm (cells w (!sw) o t) := by
  have e : outs w sw t o = outs w (!sw) o t := by cases sw <;> rfl
  rw [cells, cells, e]
  exact List.Perm.append_left _ List.perm_append_comm
structure Good (ad : Ad) (F H : Hp) (n : Nat) (d : DS) : Prop where
  D : DeskAt ad F H d.x d.h d.q d.cd
  hh : HoldV F d.hv d.h
  tl : TIs F d.lvs d.lv
  ts : ∃ sss, TIs F d.ss sss ∧ (sss = [] ↔ d.cd = false)
  tc : ∃ css, TIs F d.cs css ∧ ∀ e ∈ d.lv, e ∈ css
  tg : ∃ gs : List Int, d.gs = gs.map V.int
  pm : d.lv.Perm (allOf d.h d.q)
  nd : d.lv.Nodup
  so : Rising d.q
  h0 : d.h = none → d.q = [] ∧ d.cd = false
  l3 : ∀ e ∈ d.lv, e.length = 3
  ln : d.lv.length ≤ n
  sn : d.ss.length ≤ n
  cn : d.cs.length ≤ n
  gn : d.gs.length ≤ n
  fx : F d.x = none
theorem Good.keep {ad : Ad} {F H F' H' : Hp} {n n' : Nat} {d : DS} (g : Good ad F H n d) (sF : Same F F') (hx : ∀ o, H d.x = some o → H' d.x = some o) (fx : F' d.x = none) (hn : n ≤ n') : Good ad F' H' n' d := by
  obtain ⟨sss, a1, a2⟩ := g.ts
  obtain ⟨css, b1, b2⟩ := g.tc
  obtain ⟨dx, hv, qa, vs, e, hh, eq, ts⟩ := g.D
  exact ⟨⟨dx, hv, qa, vs, hx _ e, hh.mono sF, sF _ _ eq, TIs.mono sF ts⟩, g.hh.mono sF, TIs.mono sF g.tl, ⟨sss, TIs.mono sF a1, a2⟩, ⟨css, TIs.mono sF b1, b2⟩, g.tg, g.pm, g.nd, g.so, g.h0, g.l3, Nat.le_trans g.ln hn, Nat.le_trans g.sn hn, Nat.le_trans g.cn hn, Nat.le_trans g.gn hn, fx⟩
theorem Good.three {ad : Ad} {F H : Hp} {n : Nat} {d : DS} (g : Good ad F H n d) : (∀ e, d.h = some e → e.length = 3) ∧ (∀ e ∈ d.q, e.length = 3) ∧ d.q.length ≤ n := by
  have p := g.pm
  have l := g.l3
  refine ⟨fun e he => l e (p.mem_iff.mpr ?_), fun e he => l e (p.mem_iff.mpr ?_), ?_⟩
  · rw [he]
    exact List.mem_cons_self
  · cases h : d.h with
    | none => exact he
    | some x => exact List.mem_cons_of_mem _ he
  · have e := p.length_eq
    have := g.ln
    cases h : d.h with
    | none =>
      rw [h] at e
      have e : d.lv.length = d.q.length := e
      omega
    | some x =>
      rw [h] at e
      have e : d.lv.length = d.q.length + 1 := e
      omega
structure Wd (ad : Ad) (F H : Hp) (n : Nat) (w : Outs) (sw : Bool) (t o : DS) : Prop where
  hF : Same F H
  tr : Tr H (cells w sw t o)
  nd : NdT (cells w sw t o)
  fz : ∀ p ∈ cells w sw t o, F p.1 = none
  gt : Good ad F H n t
  go : Good ad F H n o
  nx : t.x ≠ o.x
theorem Wd.turn {ad : Ad} {F H : Hp} {n : Nat} {w : Outs} {sw : Bool} {t o : DS} (h : Wd ad F H n w sw t o) : Wd ad F H n w (!sw) o t := by
  have p := cells_turn w sw t o
  exact ⟨h.hF, fun x hx => h.tr x (p.mem_iff.mpr hx), (p.map _).nodup_iff.mp h.nd, fun x hx => h.fz x (p.mem_iff.mpr hx), h.go, h.gt, h.nx.symm⟩
theorem Wd.gr {ad : Ad} {F H F' H' : Hp} {n : Nat} {w : Outs} {sw : Bool} {t o : DS} (h : Wd ad F H n w sw t o) (g : Gr M0 F H F' H') : Wd ad F' H' n w sw t o := by
  obtain ⟨_, _, _, _, e1, _⟩ := h.gt.D
  obtain ⟨_, _, _, _, e2, _⟩ := h.go.D
  exact ⟨g.fh, h.tr.same g.same, h.nd, fun p hp => g.nw _ _ (h.tr p hp) (h.fz p hp), h.gt.keep g.ff (fun o e => g.same _ _ e) (g.nw _ _ e1 h.gt.fx) (Nat.le_refl _), h.go.keep g.ff (fun o e => g.same _ _ e) (g.nw _ _ e2 h.go.fx) (Nat.le_refl _), h.nx⟩
theorem Wd.same {ad : Ad} {F H H' : Hp} {n : Nat} {w : Outs} {sw : Bool} {t o : DS} (h : Wd ad F H n w sw t o) (s : Same H H') : Wd ad F H' n w sw t o := h.gr (gthn (Gr.refl h.hF) s)
theorem behind_perm {dd : Deed} {a b : List (List Int)} (p : a.Perm b) : (behind dd a).Perm (behind dd b) := by
  cases dd with
  | ask d => exact p.append_right _
  | given d => exact p
  | done d => exact p.filter _
  | gone z => exact p.filter _
theorem behind_three {dd : Deed} (d3 : dd.three) {a : List (List Int)} (h : ∀ e ∈ a, e.length = 3) : ∀ e ∈ behind dd a, e.length = 3 := fun e he => by
  cases dd with
  | ask d =>
    rcases List.mem_append.mp he with he | he
    · exact h e he
    · rw [List.mem_singleton.mp he]
      exact d3
  | given d => exact h e he
  | done d => exact h e (List.mem_filter.mp he).1
  | gone z => exact h e (List.mem_filter.mp he).1
theorem behind_len {dd : Deed} {a : List (List Int)} : (behind dd a).length ≤ a.length + 1 := by
  cases dd with
  | ask d => show (a ++ [d]).length ≤ _; rw [List.length_append, List.length_singleton]; exact Nat.le_refl _
  | given d => exact Nat.le_succ _
  | done d => exact Nat.le_succ_of_le (List.length_filter_le _ _)
  | gone z => exact Nat.le_succ_of_le (List.length_filter_le _ _)
theorem behind_nd {dd : Deed} {a : List (List Int)} (nd : a.Nodup) (h : ∀ d, dd = .ask d → d ∉ a) : (behind dd a).Nodup := by
  cases dd with
  | ask d => exact List.nodup_append.mpr ⟨nd, by simp, fun x hx y hy e => h d rfl (by rw [← List.mem_singleton.mp hy, ← e]; exact hx)⟩
  | given d => exact nd
  | done d => exact nd.sublist List.filter_sublist
  | gone z => exact nd.sublist List.filter_sublist
theorem step_good {h : Option (List Int)} {q : List (List Int)} {c : Bool} {dd : Deed} {h' : Option (List Int)} {q' : List (List Int)} {c' : Bool} {say : PyData} (s : Step h q c dd h' q' c' say) {lv : List (List Int)} (p : lv.Perm (allOf h q)) :
    (behind dd lv).Perm (allOf h' q') ∧ Rising q' ∧ (h' = none → q' = [] ∧ c' = false) := by
  cases s with
  | out fr o =>
    have pb := behind_perm (dd := dd) p
    cases o with
    | nil e =>
      rw [e] at pb
      exact ⟨pb, .nil, fun _ => ⟨rfl, rfl⟩⟩
    | vote m q2 p2 so => exact ⟨pb.trans p2.symm, (List.pairwise_cons.mp so).2, fun h => by cases h⟩
  | stay he fr p2 so =>
    subst he
    exact ⟨(behind_perm (dd := dd) p).trans p2.symm, so, fun h => by cases h⟩

theorem dn_say {w : Str} {d : List Int} (hw : PyData.canLay0 (.str w) = true) (hl : d.length ≤ 10000) : Dn 3 (dSay w d) := .lst (show 1 ≤ 10000 by decide) fun x hx => by
  rw [List.mem_singleton.mp hx]
  refine .tup (show 2 ≤ 10000 by decide) fun y hy => ?_
  rcases List.mem_cons.mp hy with rfl | hy
  · exact .str _ hw
  · rw [List.mem_singleton.mp hy]
    exact dn_ints hl

inductive DueAt (F H : Hp) (du : Addr) : PyData → Prop
  | nil (e : H du = some (.lst [])) : DueAt F H du (.list [])
  | one {v : Addr} {w : Str} {hv : V} {d : List Int} (e : H du = some (.lst [.ref v])) (ev : H v = some (.tup [.str w, hv])) (ti : TI F hv d) (hw : PyData.canLay0 (.str w) = true) (d3 : d.length = 3) : DueAt F H du (dSay w d)
theorem DueAt.dp {K : PySem.W.Frag} {F H : Hp} {du : Addr} {say : PyData} (hF : Same F H) (h : DueAt F H du say) : Dp K H (.ref du) say ∧ Dn 3 say := by
  cases h with
  | nil e => exact ⟨.lst (SqL.of e) .nil, .lst (show 0 ≤ 10000 by decide) fun x hx => by cases hx⟩
  | one e ev ti hw d3 => exact ⟨say_dp e ev (ti.mono hF), dn_say hw (by omega)⟩
theorem DueAt.keep {ad : Ad} {F H F' H' : Hp} {du x : Addr} {say : PyData} (h : DueAt F H du say) {h0 : Option (List Int)} {q : List (List Int)} {c : Bool} (D : DeskAt ad F H x h0 q c) (g : Gr (M1 x) F H F' H') : DueAt F' H' du say := by
  obtain ⟨_, _, _, _, ex, _⟩ := D
  have ne : ∀ (b : Addr) (o : HO), H b = some o → (∀ C dx fs, o ≠ .ins C dx fs) → b ≠ x := fun b o e n z => by
    rw [z, ex] at e
    exact n _ _ _ (Option.some.inj e).symm
  cases h with
  | nil e => exact .nil (g.hh _ _ (ne _ _ e fun _ _ _ z => by cases z) e)
  | one e ev ti hw d3 => exact .one (g.hh _ _ (ne _ _ e fun _ _ _ z => by cases z) e) (g.hh _ _ (ne _ _ ev fun _ _ _ z => by cases z) ev) (ti.mono g.ff) hw d3
theorem DeskAt.keep {ad : Ad} {F F' H H' : Hp} {p : Addr} {h : Option (List Int)} {q : List (List Int)} {c : Bool} (D : DeskAt ad F H p h q c) (sF : Same F F') (hx : ∀ o, H p = some o → H' p = some o) : DeskAt ad F' H' p h q c := by
  obtain ⟨dx, hv, qa, vs, e, hh, eq, ts⟩ := D
  exact ⟨dx, hv, qa, vs, hx _ e, hh.mono sF, sF _ _ eq, TIs.mono sF ts⟩
/-- the desk whose turn it is, its deed on the way -/
structure Part (ad : Ad) (F H : Hp) (n : Nat) (t : DS) (lv0 : List (List Int)) (dd : Deed) (M : List (List Int)) : Prop where
  D : DeskAt ad F H t.x t.h t.q t.cd
  hh : HoldV F t.hv t.h
  tl : TIs F t.lvs (behind dd lv0)
  ts : ∃ sss, TIs F t.ss sss ∧ (sss = [] ↔ t.cd = false)
  tc : ∃ css, TIs F t.cs css ∧ ∀ e ∈ M, e ∈ css
  tg : ∃ gs : List Int, t.gs = gs.map V.int
  pm : lv0.Perm (allOf t.h t.q)
  nd : lv0.Nodup
  so : Rising t.q
  h0 : t.h = none → t.q = [] ∧ t.cd = false
  l3 : ∀ e ∈ lv0, e.length = 3
  ln : lv0.length ≤ n
  sn : t.ss.length ≤ n
  cn : t.cs.length ≤ n + 1
  gn : t.gs.length ≤ n + 1
  fx : F t.x = none
  as : ∀ d, dd = .ask d → d ∉ lv0
structure Sg (ad : Ad) (F H : Hp) (n : Nat) (w : Outs) (sw : Bool) (t o : DS) (lv0 : List (List Int)) (dd : Deed) (M : List (List Int)) (u : Addr) : Prop where
  hF : Same F H
  tr : Tr H (cells w sw t o)
  nd : NdT (cells w sw t o)
  fz : ∀ p ∈ cells w sw t o, F p.1 = none
  pt : Part ad F H n t lv0 dd M
  go : Good ad F H n o
  nx : t.x ≠ o.x
  eu : H u = some (.lst [])
  nu : u ∉ (cells w sw t o).map (·.1)
theorem Part.keep {ad : Ad} {F H H' : Hp} {n : Nat} {t : DS} {lv0 : List (List Int)} {dd : Deed} {M : List (List Int)} (p : Part ad F H n t lv0 dd M) (hx : ∀ o, H t.x = some o → H' t.x = some o) : Part ad F H' n t lv0 dd M :=
  ⟨p.D.keep (Same.refl F) hx, p.hh, p.tl, p.ts, p.tc, p.tg, p.pm, p.nd, p.so, p.h0, p.l3, p.ln, p.sn, p.cn, p.gn, p.fx, p.as⟩
/-- an address of a list is no desk's -/
theorem Tr.ne_desk {ad : Ad} {F H : Hp} {m : List (Addr × List V)} (h : Tr H m) {k : Nat} {a : Addr} {l : List V} (e : m[k]? = some (a, l)) {x : Addr} {h0 : Option (List Int)} {q : List (List Int)} {c : Bool} (D : DeskAt ad F H x h0 q c) : x ≠ a := by
  obtain ⟨_, _, _, _, ex, _⟩ := D
  exact (h.away ex _ (List.mem_of_getElem? e)).symm
theorem mem_k {m : List (Addr × List V)} {k : Nat} {p : Addr × List V} (e : m[k]? = some p) : p ∈ m := List.mem_of_getElem? e
theorem out_least' {L : List (List Int)} {h' : Option (List Int)} {q' : List (List Int)} {say : PyData} (o : Out L h' q' say) {m : List Int} (hm : m ∈ L) (lo : ∀ e ∈ L, HT.lexLt e m = false) : h' = some m ∧ say = dSay "vote" m := by
  cases o with
  | nil e =>
    rw [e] at hm
    cases hm
  | vote m' q' p so =>
    have h1 : HT.lexLt m' m = false := lo m' (p.mem_iff.mp (List.mem_cons_self ..))
    have h2 : HT.lexLt m m' = false := by
      rcases List.mem_cons.mp (p.mem_iff.mpr hm) with e | hm'
      · rw [e]
        exact lex_irr _
      · exact (List.pairwise_cons.mp so).1 m hm'
    rw [lex_tot h1 h2]
    exact ⟨rfl, rfl⟩
theorem out_none' {L : List (List Int)} {h' : Option (List Int)} {q' : List (List Int)} {say : PyData} (o : Out L h' q' say) (e : L = []) : h' = none ∧ say = .list [] := by
  cases o with
  | nil _ => exact ⟨rfl, rfl⟩
  | vote m q' p so =>
    rw [e] at p
    cases p.length_eq

inductive q_law (K : PySem.W.Frag) (ad : Ad) : V → Hp → VK → Prop
  | mk {a : Addr} {ns : List Int} {H : Hp} {Q : VK} (hl : ns.length ≤ 63) (hb : ∀ z ∈ ns, Builtin.Int.intBits z ≤ 1048576) (hS : SqL K H a (ns.map V.int)) (k : ∀ H', Q (.bl true) H') : q_law K ad (.ref a) H Q

def sp_law (K : PySem.W.Frag) (ad : Ad) : Sp := fun vs H Q _ => match vs with | [x0] => q_law K ad x0 H Q | _ => False
theorem c_law {K : PySem.W.Frag} {ad : Ad} {x0 : V} {H : Hp} {Q : VK} {E : XK} (h : q_law K ad x0 H Q) : sp_law K ad ([x0] ++ []) H Q E := h
theorem n_law {K : PySem.W.Frag} {ad : Ad} {vs : List V} {H : Hp} {Q : VK} {E : XK} (h : sp_law K ad vs H Q E) : ∃ x0, vs = [x0] ∧ q_law K ad x0 H Q := match vs, h with | [x0], h => ⟨x0, rfl, h⟩
theorem spLaw_to {K : PySem.W.Frag} (ad : Ad) {vs : List V} {H : Hp} {Q : VK} {E : XK} (h : spLawB K vs H Q E) : sp_law K ad vs H Q E := by
  obtain ⟨a, ns, rfl, hl, hb, hS, k⟩ := h
  exact q_law.mk hl hb hS k
def t_law_26 (K : PySem.W.Frag) (ad : Ad) : TS := (tIfS (tNot (zTru K (tCall (sp__law_same K ad 4) [] E0 (tCons (tCall (sp__law_told K ad) [] E0 (tCons (tOp (rIx K) (tVar 1) (tVar 8)) (tCons (tVar 15) tNil))) (tCons (tVar 16) tNil))))) (tRet (tC (.bl false))) tNext)
def t_law_17 (K : PySem.W.Frag) (ad : Ad) : TS := (Evl.tCut (tIfS (zTru K (tCall (sp__law_freed K ad) [] E0 (tCons (tOp (rIx K) (tVar 2) (tVar 8)) (tCons (tVar 15) tNil)))) (tSeq (tAsg (tLst tNil) (gSub (tVar 4) (tVar 8) rSetL))
    (tSeq (tAsg (tCKw (rMinTD K) (tCons (tOp (rIx K) (tVar 3) (tVar 8)) tNil) (tCons (tC .non) tNil)) (gSub (tVar 2) (tVar 8) rSetL))
    (tIfS (tTest (tOp (zNe K) (tOp (rIx K) (tVar 3) (tVar 8)) (tLst tNil))) (tAsg (tLst (tCons (tTup (tCons (tC (.str "vote")) (tCons (tOp (rIx K) (tVar 2) (tVar 8)) tNil))) tNil)) (gName 16)) tNext))) (tIfS (tAnd (tTest (tOp (zEq K) (tOp (rIx K) (tVar 15) (tC (.int 0))) (tC (.str "ask")))) (tTest (tOp (zLt K) (tOp (rIx K) (tVar 15) (tC (.int 1))) (tOp (rIx K) (tVar 2) (tVar 8))))) (tSeq (tIfS (tTest (tOp (zEq K) (tOp (rIx K) (tVar 4) (tVar 8)) (tLst tNil))) (tAsg (tLst (tCons (tTup (tCons (tC (.str "back")) (tCons (tOp (rIx K) (tVar 2) (tVar 8)) tNil))) tNil)) (gName 16)) tNext)
    (tDrop (tBM K "list" rAppend (tOp (rIx K) (tVar 4) (tVar 8)) (tCons (tOp (rIx K) (tVar 15) (tC (.int 1))) tNil)))) tNext))
    (t_law_26 K ad))
def t_law_11 (K : PySem.W.Frag) (ad : Ad) : TS := (tSeq (tAsg (tLst tNil) (gName 16))
    (tSeq (tAsg (tCall (sp__law_live_behind K ad) [] E0 (tCons (tOp (rIx K) (tVar 3) (tVar 8)) (tCons (tVar 15) tNil))) (gSub (tVar 3) (tVar 8) rSetL))
    (Evl.tCut (tIfS (tTest (tOp (zEq K) (tOp (rIx K) (tVar 15) (tC (.int 0))) (tC (.str "ask")))) (tDrop (tBM K "list" rAppend (tOp (rIx K) (tVar 5) (tVar 8)) (tCons (tOp (rIx K) (tVar 15) (tC (.int 1))) tNil))) tNext)
    (Evl.tCut (tIfS (tTest (tOp (zEq K) (tOp (rIx K) (tVar 15) (tC (.int 0))) (tC (.str "gone")))) (tDrop (tBM K "list" rAppend (tOp (rIx K) (tVar 6) (tVar 8)) (tCons (tOp (rIx K) (tVar 15) (tC (.int 1))) tNil))) tNext)
    (t_law_17 K ad)))))
def t_law_28 (K : PySem.W.Frag) (ad : Ad) : TS := (tFor (iRng1 (tCons (tC (.int 2)) tNil)) (gName 17)
    (tIfS (tNot (zTru K (tCall (sp__law_desk K ad) [] E0 (tCons (tOp (rIx K) (tVar 1) (tVar 17)) (tCons (tOp (rIx K) (tVar 2) (tVar 17)) (tCons (tOp (rIx K) (tVar 3) (tVar 17)) (tCons (tOp (rIx K) (tVar 4) (tVar 17)) tNil))))))) (tRet (tC (.bl false))) tNext))
def t_law_8 (K : PySem.W.Frag) (ad : Ad) : TS := (tSeq (tAsg (tCall (sp__law_draws K ad) [] E0 (tCons (tVar 7) (tCons (tLst (tCons (tC (.int 2)) (tCons (tC (.int 16)) (tCons (tC (.int 720720)) (tCons (tC (.int 4)) (tCons (tOp zPow (tC (.int 10)) (tC (.int 40))) (tCons (tC (.int 60)) (tCons (tC (.int 3)) tNil)))))))) tNil))) (gLst K 7 (gCons (gName 8) (gCons (gName 9) (gCons (gName 10) (gCons (gName 11) (gCons (gName 12) (gCons (gName 13) (gCons (gName 14) gNil)))))))))
    (tSeq (tAsg (tCall (sp__law_deed K ad) [] E0 (tCons (tVar 9) (tCons (tVar 10) (tCons (tOp (rIx K) (tVar 2) (tVar 8)) (tCons (tOp (rIx K) (tVar 3) (tVar 8)) (tCons (tCall (sp__law_stamp K ad) [] E0 (tCons (tVar 11) (tCons (tVar 12) (tCons (tVar 13) (tCons (tVar 14) tNil))))) tNil)))))) (gName 15))
    (Evl.tCut (tIfS (zTru K (tCall (sp__law_fits K ad) [] E0 (tCons (tVar 15) (tCons (tOp (rIx K) (tVar 5) (tVar 8)) (tCons (tOp (rIx K) (tVar 6) (tVar 8)) tNil))))) (t_law_11 K ad) tNext)
    (t_law_28 K ad))))
def t_law (K : PySem.W.Frag) (ad : Ad) : TS := (tSeq (tAsg (tLst (tCons (tMake ad.Desk (sp_Desk___init__ K ad) [] E0 tNil) (tCons (tMake ad.Desk (sp_Desk___init__ K ad) [] E0 tNil) tNil))) (gName 1))
    (tSeq (tAsg (tLst (tCons (tC .non) (tCons (tC .non) tNil))) (gName 2))
    (tSeq (tAsg (tLst (tCons (tLst tNil) (tCons (tLst tNil) tNil))) (gName 3))
    (tSeq (tAsg (tLst (tCons (tLst tNil) (tCons (tLst tNil) tNil))) (gName 4))
    (tSeq (tAsg (tLst (tCons (tLst tNil) (tCons (tLst tNil) tNil))) (gName 5))
    (tSeq (tAsg (tLst (tCons (tLst tNil) (tCons (tLst tNil) tNil))) (gName 6))
    (tSeq (tFor (iList K (tCall (sp__law_cells K ad) [] E0 (tCons (tVar 0) (tCons (tC (.int 0)) tNil)))) (gName 7)
    (t_law_8 K ad))
    (tRet (tC (.bl true))))))))))

/-! ### the law's parts -/
theorem law_28 {K : PySem.W.Frag} {ad : Ad} (O : Oc K ad) {N : L2.St → Hp → Prop} {R : VK} {B C : L2.St → Hp → Prop} {F H : Hp} {n : Nat} {w : Outs} {sw : Bool} {t o : DS} {x0 x7 x8 x9 x10 x11 x12 x13 x14 x15 x16 x17 : Option V} (W : Wd ad F H n w sw t o) (hn : n ≤ 63)
    (k : ∀ (H' : Hp) (y17 : Option V), Wd ad F H' n w sw t o → N [x0, some (.ref w.A), some (.ref w.B), some (.ref w.C), some (.ref w.D), some (.ref w.E), some (.ref w.G), x7, x8, x9, x10, x11, x12, x13, x14, x15, x16, y17] H') :
    t_law_28 K ad ⟨N, R, B, C⟩ [x0, some (.ref w.A), some (.ref w.B), some (.ref w.C), some (.ref w.D), some (.ref w.E), some (.ref w.G), x7, x8, x9, x10, x11, x12, x13, x14, x15, x16, x17] H := by
  unfold t_law_28
  walk_at "rd"
  refine lp_range1 (by decide) (fun i σ' H' => (∃ y17, σ' = [x0, some (.ref w.A), some (.ref w.B), some (.ref w.C), some (.ref w.D), some (.ref w.E), some (.ref w.G), x7, x8, x9, x10, x11, x12, x13, x14, x15, x16, y17]) ∧ Wd ad F H' n w sw t o) ⟨⟨_, rfl⟩, W⟩ ?_ ?_
  · rintro i σ' H' hi ⟨⟨y17, rfl⟩, W'⟩
    obtain ⟨b, hb⟩ : ∃ b, (i : Int) = atOf b := by
      have : i = 0 ∨ i = 1 := by omega
      rcases this with rfl | rfl
      · exact ⟨false, rfl⟩
      · exact ⟨true, rfl⟩
    rw [hb]
    obtain ⟨t', o', Wb, back⟩ : ∃ t' o', Wd ad F H' n w b t' o' ∧ ∀ H2, Wd ad F H2 n w b t' o' → Wd ad F H2 n w sw t o := by
      by_cases e : b = sw
      · subst e
        exact ⟨t, o, W', fun _ h => h⟩
      · have e2 : b = !sw := by cases b <;> cases sw <;> simp_all
        subst e2
        exact ⟨o, t, W'.turn, fun _ h => by
          have := h.turn
          rwa [Bool.not_not] at this⟩
    clear W W'
    have g := Wb.gt
    obtain ⟨h3, q3, ql⟩ := g.three
    obtain ⟨sss, ts, hs⟩ := g.ts
    have ll := g.ln
    walk_at "rd"
    refine o_ixPr (Wb.tr.get (k := 0) rfl) ?_
    walk_at "rd"
    refine o_ixPr (Wb.tr.get (k := 1) rfl) ?_
    walk_at "rd"
    refine o_ixPr (Wb.tr.get (k := 2) rfl) ?_
    walk_at "rd"
    refine o_ixPr (Wb.tr.get (k := 3) rfl) ?_
    walk_at "rd"
    apply c__law_desk
    refine q__law_desk.mk Wb.hF g.D g.hh h3 g.l3 (by omega) (by omega) (Wb.tr.get (k := 7) rfl) g.tl g.pm g.nd g.so (Wb.tr.get (k := 8) rfl) ts hs (fun h => (g.h0 h).1) fun H2 s2 => ?_
    walk_at "rd"
    exact ⟨⟨_, rfl⟩, back _ (Wb.same s2)⟩
  · rintro σ' H' ⟨⟨y17, rfl⟩, W'⟩
    exact k _ _ W'

def Nl (H H' : Hp) : Prop := ∀ b o, H b = some o → (∀ l, o ≠ .lst l) → H' b = some o
theorem Nl.same {H H' : Hp} (s : Same H H') : Nl H H' := fun b o e _ => s b o e
theorem Nl.trans {H H1 H2 : Hp} (a : Nl H H1) (b : Nl H1 H2) : Nl H H2 := fun x o e n => b x o (a x o e n) n
theorem Nl.set {H : Hp} {a : Addr} {l l' : List V} (e : H a = some (.lst l)) : Nl H (upd H a (.lst l')) := fun b o eb n => by
  rw [upd_ne fun z => n l (by rw [z, e] at eb; exact (Option.some.inj eb).symm)]
  exact eb
theorem Nl.desk {ad : Ad} {F H H' : Hp} (m : Nl H H') {x : Addr} {h : Option (List Int)} {q : List (List Int)} {c : Bool} (D : DeskAt ad F H x h q c) : ∀ o, H x = some o → H' x = some o := fun o e => m x o e fun l z => by
  obtain ⟨_, _, _, _, ex, _⟩ := D
  rw [ex, z] at e
  cases e
theorem same_set {F H : Hp} (s : Same F H) {a : Addr} {o : HO} (n : F a = none) : Same F (upd H a o) := fun b o' e => by
  rw [upd_ne fun z => by rw [z, n] at e; cases e]
  exact s b o' e
theorem three_of {h : Option (List Int)} {q lv : List (List Int)} (p : lv.Perm (allOf h q)) (l : ∀ e ∈ lv, e.length = 3) : (∀ e, h = some e → e.length = 3) ∧ (∀ e ∈ q, e.length = 3) ∧ q.length ≤ lv.length := by
  refine ⟨fun e he => l e (p.mem_iff.mpr ?_), fun e he => l e (p.mem_iff.mpr ?_), ?_⟩
  · rw [he]
    exact List.mem_cons_self
  · cases h with
    | none => exact he
    | some x => exact List.mem_cons_of_mem _ he
  · rw [p.length_eq]
    cases h with
    | none => exact Nat.le_refl _
    | some x => exact Nat.le_succ _
structure Mi (F H H' : Hp) (n : Nat) (w : Outs) (sw : Bool) (t o : DS) (dd : Deed) (hv : V) (s : Addr) (ss : List V) (du : Addr) : Prop where
  hF : Same F H'
  nl : Nl H H'
  tr : Tr H' (cells w sw { t with hv := hv, s := s, ss := ss } o)
  nd : NdT (cells w sw { t with hv := hv, s := s, ss := ss } o)
  fz : ∀ p ∈ cells w sw { t with hv := hv, s := s, ss := ss } o, F p.1 = none
  sn : ss.length ≤ n + 1
  st : ∀ h' q' c' say, Step t.h t.q t.cd dd h' q' c' say → HoldV F hv h' ∧ (∃ sss', TIs F ss sss' ∧ (sss' = [] ↔ c' = false)) ∧ DueAt F H' du say
theorem law_26 {K : PySem.W.Frag} {ad : Ad} (O : Oc K ad) {N : L2.St → Hp → Prop} {R : VK} {B C : L2.St → Hp → Prop} {F H H' : Hp} {n : Nat} {w : Outs} {sw : Bool} {t o : DS} {lv0 : List (List Int)} {dd : Deed} {hv : V} {s : Addr} {ss : List V} {ta du : Addr} {x0 x7 x9 x10 x11 x12 x13 x14 x17 : Option V}
    (P : Part ad F H n t lv0 dd (behind dd lv0)) (go : Good ad F H n o) (nx : t.x ≠ o.x) (M : Mi F H H' n w sw t o dd hv s ss du) (dt : DeedAt F ta dd) (d3 : dd.three) (hn : n ≤ 63)
    (k : ∀ (F' H' : Hp) (t' : DS), Wd ad F' H' (n + 1) w sw t' o → N [x0, some (.ref w.A), some (.ref w.B), some (.ref w.C), some (.ref w.D), some (.ref w.E), some (.ref w.G), x7, some (.int (atOf sw)), x9, x10, x11, x12, x13, x14, some (.ref ta), some (.ref du), x17] H') :
    t_law_26 K ad ⟨N, R, B, C⟩ [x0, some (.ref w.A), some (.ref w.B), some (.ref w.C), some (.ref w.D), some (.ref w.E), some (.ref w.G), x7, some (.int (atOf sw)), x9, x10, x11, x12, x13, x14, some (.ref ta), some (.ref du), x17] H' := by
  obtain ⟨h3, q3, ql⟩ := three_of P.pm P.l3
  have ln := P.ln
  have D' := P.D.keep (Same.refl F) (M.nl.desk P.D)
  obtain ⟨_, _, _, _, ex, _⟩ := id D'
  obtain ⟨_, _, _, _, ey, _⟩ := id (go.D.keep (Same.refl F) (M.nl.desk go.D))
  unfold t_law_26
  walk_at "rd"
  refine o_ixPr (M.tr.get (k := 0) rfl) ?_
  walk_at "rd"
  apply c__law_told
  refine q__law_told.mk M.hF P.fx D' dt d3 P.h0 q3 h3 (by omega) P.so fun r h' q' c' say F2 H2 st dr D2 g => ?_
  obtain ⟨hh, ⟨sss', ts, hs⟩, due⟩ := M.st _ _ _ _ st
  have du2 := due.keep D' g
  obtain ⟨dp, dn⟩ := du2.dp (K := K) g.fh
  obtain ⟨pm2, so2, h02⟩ := step_good st P.pm
  obtain ⟨css, tc, hc⟩ := P.tc
  walk_at "rd"
  apply c__law_same
  refine q__law_same.mk dr dp dn ?_
  walk_at "rd"
  exact k F2 H2 ⟨t.x, t.l, s, t.c, t.g, hv, h', q', c', behind dd lv0, t.lvs, ss, t.cs, t.gs⟩ ⟨g.fh, M.tr.keep fun p hp o e => g.hh _ _ (M.tr.away ex p hp) e, M.nd, fun p hp => g.nw _ _ (M.tr p hp) (M.fz p hp),
    ⟨D2, hh.mono g.ff, TIs.mono g.ff P.tl, ⟨sss', TIs.mono g.ff ts, hs⟩, ⟨css, TIs.mono g.ff tc, hc⟩, P.tg, pm2, behind_nd P.nd P.as, so2, h02, behind_three d3 P.l3, Nat.le_trans behind_len (Nat.succ_le_succ ln), M.sn, P.cn, P.gn, g.nw _ _ ex P.fx⟩,
    go.keep g.ff (fun o e => g.hh _ _ nx.symm (M.nl.desk go.D _ e)) (g.nw _ _ ey go.fx) (Nat.le_succ _), nx⟩

theorem law_17 {K : PySem.W.Frag} {ad : Ad} (O : Oc K ad) {N : L2.St → Hp → Prop} {R : VK} {B C : L2.St → Hp → Prop} {F H : Hp} {n : Nat} {w : Outs} {sw : Bool} {t o : DS} {lv0 : List (List Int)} {dd : Deed} {ta u : Addr} {x0 x7 x9 x10 x11 x12 x13 x14 x17 : Option V}
    (S : Sg ad F H n w sw t o lv0 dd (behind dd lv0) u) (dt : DeedAt F ta dd) (d3 : dd.three) (hn : n ≤ 63)
    (k : ∀ (F' H' : Hp) (t' : DS) (du : Addr), Wd ad F' H' (n + 1) w sw t' o → N [x0, some (.ref w.A), some (.ref w.B), some (.ref w.C), some (.ref w.D), some (.ref w.E), some (.ref w.G), x7, some (.int (atOf sw)), x9, x10, x11, x12, x13, x14, some (.ref ta), some (.ref du), x17] H') :
    t_law_17 K ad ⟨N, R, B, C⟩ [x0, some (.ref w.A), some (.ref w.B), some (.ref w.C), some (.ref w.D), some (.ref w.E), some (.ref w.G), x7, some (.int (atOf sw)), x9, x10, x11, x12, x13, x14, some (.ref ta), some (.ref u), x17] H := by
  have P := S.pt
  obtain ⟨h3, q3, ql⟩ := three_of P.pm P.l3
  obtain ⟨sss, ts, hs⟩ := P.ts
  have b3 := behind_three d3 P.l3
  have pb := behind_perm (dd := dd) P.pm
  unfold t_law_17
  refine s_cut (fun σ' H' => ∃ hv s ss du, σ' = [x0, some (.ref w.A), some (.ref w.B), some (.ref w.C), some (.ref w.D), some (.ref w.E), some (.ref w.G), x7, some (.int (atOf sw)), x9, x10, x11, x12, x13, x14, some (.ref ta), some (.ref du), x17] ∧ Mi F H H' n w sw t o dd hv s ss du) ?_ ?_
  rotate_left
  · rintro σ' H' ⟨hv, s, ss, du, rfl, M⟩
    exact law_26 O P S.go S.nx M dt d3 hn fun F' H2 t' W => k F' H2 t' du W
  clear k
  walk_at "rd"
  refine o_ixPr (S.tr.get (k := 1) rfl) ?_
  walk_at "rd"
  apply c__law_freed
  refine q__law_freed.mk S.hF P.hh h3 dt ?_
  cases hfr : freed dd t.h with
  | true =>
    walk_at "rd"
    refine o_new (Nat.zero_le _) fun v nv => ?_
    have s1 : Same H (upd H v (.lst [])) := up_keep nv
    have nvu : v ≠ u := fun z => by
      have := S.eu
      rw [← z, nv] at this
      cases this
    have T1 := (S.tr.same s1).swap (k := 8) (upd_same (H := H) (a := v) (o := .lst []))
    have N1 := S.nd.swap (k := 8) (l := []) (.inl (S.tr.fresh nv))
    have eu1 := s1 _ _ S.eu
    have fv : F v = none := fresh_F S.hF nv
    have l1 : Nl H (upd H v (.lst [])) := Nl.same s1
    have hF1 := S.hF.trans s1
    have nuk : ∀ (k : Nat) (p : Addr × List V), (cells w sw t o)[k]? = some p → u ≠ p.1 := fun k p e z => S.nu (by rw [z]; exact List.mem_map_of_mem (mem_k e))
    have fz2 : ∀ hv, ∀ p ∈ cells w sw { t with hv := hv, s := v, ss := [] } o, F p.1 = none := fun hv => by
      have : ∀ p ∈ (((cells w sw t o).set 8 (v, [])).set 3 (w.D, pr sw (.ref v) (.ref o.s))).set 1 (w.B, pr sw hv o.hv), F p.1 = none := fun p hp => by
        rcases List.mem_or_eq_of_mem_set hp with hp | rfl
        · rcases List.mem_or_eq_of_mem_set hp with hp | rfl
          · rcases List.mem_or_eq_of_mem_set hp with hp | rfl
            · exact S.fz p hp
            · exact fv
          · exact S.fz (w.D, pr sw (.ref t.s) (.ref o.s)) (mem_k (k := 3) rfl)
        · exact S.fz (w.B, pr sw t.hv o.hv) (mem_k (k := 1) rfl)
      exact this
    generalize upd H v (.lst []) = H1 at *
    walk_at "rd"
    refine o_setPr (T1.get (k := 3) rfl) ?_
    have T2 := T1.set N1 (k := 3) (l' := pr sw (.ref v) (.ref o.s)) rfl
    have N2 := N1.swap (k := 3) (r := w.D) (l := pr sw (.ref v) (.ref o.s)) (.inr rfl)
    have l2 := l1.trans (Nl.set (T1.get (k := 3) rfl) (l' := pr sw (.ref v) (.ref o.s)))
    have hF2 : Same F (upd H1 w.D (.lst (pr sw (.ref v) (.ref o.s)))) := same_set hF1 (S.fz _ (mem_k (k := 3) rfl))
    have eu2 : (upd H1 w.D (.lst (pr sw (.ref v) (.ref o.s)))) u = some (.lst []) := (upd_ne (nuk 3 _ rfl)).trans eu1
    generalize upd H1 w.D (.lst (pr sw (.ref v) (.ref o.s))) = H2 at *
    clear T1 N1 l1 eu1 hF1 s1
    walk_at "rd"
    refine o_ixPr (T2.get (k := 2) rfl) ?_
    walk_at "rd"
    refine o_minTD (SqL.of (T2.get (k := 7) rfl)) (TIs.mono hF2 P.tl) (fun e0 => ?_) (fun x m hx tm hm lo => ?_)
    · walk_at "rd"
      refine o_setPr (T2.get (k := 1) rfl) ?_
      have T3 := T2.set N2 (k := 1) (l' := pr sw .non o.hv) rfl
      have N3 := N2.swap (k := 1) (r := w.B) (l := pr sw .non o.hv) (.inr rfl)
      have l3 := l2.trans (Nl.set (T2.get (k := 1) rfl) (l' := pr sw .non o.hv))
      have hF3 : Same F (upd H2 w.B (.lst (pr sw .non o.hv))) := same_set hF2 (S.fz _ (mem_k (k := 1) rfl))
      have eu3 : (upd H2 w.B (.lst (pr sw .non o.hv))) u = some (.lst []) := (upd_ne (nuk 1 _ rfl)).trans eu2
      generalize upd H2 w.B (.lst (pr sw .non o.hv)) = H3 at *
      have be : behind dd lv0 = [] := by
        have := P.tl
        rw [e0] at this
        generalize behind dd lv0 = z at this ⊢
        cases this
        rfl
      walk_at "rd"
      refine o_ixPr (T3.get (k := 2) rfl) ?_
      walk_at "rd"
      refine o_new (Nat.zero_le _) fun y ny => ?_
      have s4 : Same H3 (upd H3 y (.lst [])) := up_keep ny
      have ey := upd_same (H := H3) (a := y) (o := .lst [])
      generalize upd H3 y (.lst []) = H4 at *
      have T4 := T3.same s4
      refine o_neLI (bs := []) (SqL.of (T4.get (k := 7) rfl)) (SqL.of ey) (TIs.mono (hF3.trans s4) P.tl) .nil ?_
      rw [be]
      walk_at "rd"
      exact ⟨.non, v, [], u, rfl, hF3.trans s4, l3.trans (Nl.same s4), T4, N3, fz2 _, Nat.zero_le _, fun h' q' c' say st => by
        cases st with
        | out fr ot =>
          obtain ⟨rfl, rfl⟩ := out_none' ot (by rw [be] at pb; exact pb.nil_eq.symm)
          exact ⟨rfl, ⟨[], .nil, ⟨fun _ => rfl, fun _ => rfl⟩⟩, .nil (s4 _ _ eu3)⟩
        | stay he fr => rw [hfr] at fr; cases fr⟩
    · obtain ⟨tF⟩ : Nonempty (TI F x m) := by
        have := TIs.back hF2 P.tl (ys := [x]) (fun y hy => by rw [List.mem_singleton.mp hy]; exact hx) (.cons tm .nil)
        cases this with
        | cons h _ => exact ⟨h⟩
      walk_at "rd"
      refine o_setPr (T2.get (k := 1) rfl) ?_
      have T3 := T2.set N2 (k := 1) (l' := pr sw x o.hv) rfl
      have N3 := N2.swap (k := 1) (r := w.B) (l := pr sw x o.hv) (.inr rfl)
      have l3 := l2.trans (Nl.set (T2.get (k := 1) rfl) (l' := pr sw x o.hv))
      have hF3 : Same F (upd H2 w.B (.lst (pr sw x o.hv))) := same_set hF2 (S.fz _ (mem_k (k := 1) rfl))
      generalize upd H2 w.B (.lst (pr sw x o.hv)) = H3 at *
      have be : behind dd lv0 ≠ [] := fun z => by
        rw [z] at hm
        cases hm
      walk_at "rd"
      refine o_ixPr (T3.get (k := 2) rfl) ?_
      walk_at "rd"
      refine o_new (Nat.zero_le _) fun y ny => ?_
      have s4 : Same H3 (upd H3 y (.lst [])) := up_keep ny
      have ey := upd_same (H := H3) (a := y) (o := .lst [])
      generalize upd H3 y (.lst []) = H4 at *
      have T4 := T3.same s4
      refine o_neLI (bs := []) (SqL.of (T4.get (k := 7) rfl)) (SqL.of ey) (TIs.mono (hF3.trans s4) P.tl) .nil ?_
      rw [decide_eq_false be]
      walk_at "rd"
      refine o_ixPr (T4.get (k := 1) rfl) ?_
      walk_at "rd"
      refine o_new (by walk_at "len") fun vt nvt => ?_
      have s5 : Same H4 (upd H4 vt (.tup [.str "vote", x])) := up_keep nvt
      have evt := upd_same (H := H4) (a := vt) (o := .tup [.str "vote", x])
      generalize upd H4 vt (.tup [.str "vote", x]) = H5 at *
      walk_at "rd"
      refine o_new (by walk_at "len") fun du nd => ?_
      have s6 : Same H5 (upd H5 du (.lst [.ref vt])) := up_keep nd
      have ed := upd_same (H := H5) (a := du) (o := .lst [.ref vt])
      generalize upd H5 du (.lst [.ref vt]) = H6 at *
      have s456 := s4.trans (s5.trans s6)
      walk_at "rd"
      exact ⟨x, v, [], du, rfl, hF3.trans s456, l3.trans (Nl.same s456), T3.same s456, N3, fz2 _, Nat.zero_le _, fun h' q' c' say st => by
        cases st with
        | out fr ot =>
          obtain ⟨rfl, rfl⟩ := out_least' ot (pb.mem_iff.mp hm) (fun e he => lo e (pb.mem_iff.mpr he))
          exact ⟨tF, ⟨[], .nil, ⟨fun _ => rfl, fun _ => rfl⟩⟩, .one ed (s6 _ _ evt) tF (by decide +kernel) (b3 m hm)⟩
        | stay he fr => rw [hfr] at fr; cases fr⟩
  | false =>
    obtain ⟨v, et, dv⟩ := dt
    have etH := S.hF _ _ et
    have hse : ∃ e, t.h = some e := by
      cases hh : t.h with
      | none =>
        rw [hh] at hfr
        cases dd <;> cases hfr
      | some e => exact ⟨e, rfl⟩
    obtain ⟨e, he⟩ := hse
    have hho := P.hh
    rw [he] at hho
    obtain ⟨te, ehv, fe⟩ := hho
    have eB := S.tr.get (k := 1) (a := w.B) (l := pr sw t.hv o.hv) rfl
    rw [ehv] at eB
    have quiet : early dd e = false → Mi F H H n w sw t o dd t.hv t.s t.ss u := fun ne =>
      ⟨S.hF, Nl.same (Same.refl H), S.tr, S.nd, S.fz, Nat.le_succ_of_le P.sn, fun h' q' c' say st => by
        cases st with
        | out fr ot => rw [hfr] at fr; cases fr
        | @stay e' q' he' fr p so =>
          obtain rfl : e = e' := by rw [he] at he'; exact Option.some.inj he'
          rw [ne, Bool.or_false, Bool.false_and]
          exact ⟨⟨te, ehv, fe⟩, ⟨sss, ts, hs⟩, .nil S.eu⟩⟩
    obtain ⟨w1, w2, w3, w4, w5, w6, w7, w8, w9, w10, w11⟩ := wne
    cases dd with
    | ask d =>
      obtain ⟨sa, rfl, es⟩ := dv
      have etH : H ta = some (.tup [.str "ask", .ref sa]) := etH
      have esH := S.hF _ _ es
      walk_at "rd"
      refine o_ixPr eB ?_
      walk_at "rd"
      refine o_ltT (SqT.of esH) (SqT.of (S.hF _ _ fe)) ?_
      cases hlt : HT.lexLt d e with
      | false =>
        walk_at "rd"
        exact ⟨_, _, _, u, rfl, quiet hlt⟩
      | true =>
        walk_at "rd"
        refine o_ixPr (S.tr.get (k := 3) rfl) ?_
        walk_at "rd"
        refine o_new (Nat.zero_le _) fun y ny => ?_
        have s1 : Same H (upd H y (.lst [])) := up_keep ny
        have ey := upd_same (H := H) (a := y) (o := .lst [])
        generalize upd H y (.lst []) = H1 at *
        have T1 := S.tr.same s1
        have hF1 := S.hF.trans s1
        have etH1 := s1 _ _ etH
        have eB1 := s1 _ _ eB
        refine o_eqLI (bs := []) (SqL.of (T1.get (k := 8) rfl)) (SqL.of ey) (TIs.mono hF1 ts) .nil ?_
        cases hcd : t.cd with
        | true =>
          rw [decide_eq_false fun z => by have := hs.mp z; rw [hcd] at this; cases this]
          walk_at "rd"
          refine o_ixPr (T1.get (k := 3) rfl) ?_
          walk_at "rd"
          refine ⟨ty_list (SqL.of (T1.get (k := 8) rfl)), ?_⟩
          walk_at "rd"
          refine m_app (T1.get (k := 8) rfl) (by have := P.sn; rw [sizeLine_eq]; omega) ?_
          have T2 := T1.set S.nd (k := 8) (l' := t.ss ++ [.ref sa]) rfl
          have N2 := S.nd.swap (k := 8) (r := t.s) (l := t.ss ++ [.ref sa]) (.inr rfl)
          have F2 : ∀ p ∈ (cells w sw t o).set 8 (t.s, t.ss ++ [.ref sa]), F p.1 = none := fun p hp => by
            rcases List.mem_or_eq_of_mem_set hp with hp | rfl
            · exact S.fz p hp
            · exact S.fz (t.s, t.ss) (mem_k (k := 8) rfl)
          walk_at "rd"
          exact ⟨t.hv, t.s, t.ss ++ [V.ref sa], u, rfl, same_set hF1 (S.fz (t.s, t.ss) (mem_k (k := 8) rfl)), (Nl.same s1).trans (Nl.set (T1.get (k := 8) rfl)), T2, N2, F2, by have := P.sn; rw [List.length_append, List.length_singleton]; omega, fun h' q' c' say st => by
            cases st with
            | out fr ot => rw [hfr] at fr; cases fr
            | @stay e' q' he' fr p so =>
              obtain rfl : e = e' := by rw [he] at he'; exact Option.some.inj he'
              rw [hcd, Bool.true_or, Bool.not_true, Bool.and_false]
              exact ⟨⟨te, ehv, fe⟩, ⟨sss ++ [d], ts.app (.cons ⟨sa, rfl, es⟩ .nil), ⟨fun z => by simp at z, fun z => by cases z⟩⟩, .nil ((upd_ne (fun z => S.nu (by rw [z]; exact List.mem_map_of_mem (mem_k (m := cells w sw t o) (k := 8) (p := (t.s, t.ss)) rfl)))).trans (s1 _ _ S.eu))⟩⟩
        | false =>
          rw [decide_eq_true (hs.mpr hcd)]
          walk_at "rd"
          refine o_ixPr eB1 ?_
          walk_at "rd"
          refine o_new (by walk_at "len") fun vt nvt => ?_
          have s5 : Same H1 (upd H1 vt (.tup [.str "back", .ref te])) := up_keep nvt
          have evt := upd_same (H := H1) (a := vt) (o := .tup [.str "back", .ref te])
          generalize upd H1 vt (.tup [.str "back", .ref te]) = H5 at *
          walk_at "rd"
          refine o_new (by walk_at "len") fun du nd => ?_
          have s6 : Same H5 (upd H5 du (.lst [.ref vt])) := up_keep nd
          have ed := upd_same (H := H5) (a := du) (o := .lst [.ref vt])
          have T5 := T1.same s5
          have ndu := T5.fresh nd
          generalize upd H5 du (.lst [.ref vt]) = H6 at *
          have s156 := s1.trans (s5.trans s6)
          have T6 := S.tr.same s156
          have etH6 := s156 _ _ etH
          walk_at "rd"
          refine o_ixPr (T6.get (k := 3) rfl) ?_
          walk_at "rd"
          refine ⟨ty_list (SqL.of (T6.get (k := 8) rfl)), ?_⟩
          walk_at "rd"
          refine m_app (T6.get (k := 8) rfl) (by have := P.sn; rw [sizeLine_eq]; omega) ?_
          have T2 := T6.set S.nd (k := 8) (l' := t.ss ++ [.ref sa]) rfl
          have N2 := S.nd.swap (k := 8) (r := t.s) (l := t.ss ++ [.ref sa]) (.inr rfl)
          have F2 : ∀ p ∈ (cells w sw t o).set 8 (t.s, t.ss ++ [.ref sa]), F p.1 = none := fun p hp => by
            rcases List.mem_or_eq_of_mem_set hp with hp | rfl
            · exact S.fz p hp
            · exact S.fz (t.s, t.ss) (mem_k (k := 8) rfl)
          have d_s : du ≠ t.s := fun z => ndu (by rw [z]; exact List.mem_map_of_mem (mem_k (m := cells w sw t o) (k := 8) (p := (t.s, t.ss)) rfl))
          have v_s : vt ≠ t.s := fun z => by
            have := T5.get (k := 8) (a := t.s) (l := t.ss) rfl
            rw [← z, evt] at this
            cases this
          walk_at "rd"
          exact ⟨t.hv, t.s, t.ss ++ [V.ref sa], du, rfl, same_set (S.hF.trans s156) (S.fz (t.s, t.ss) (mem_k (k := 8) rfl)), (Nl.same s156).trans (Nl.set (T6.get (k := 8) rfl)), T2, N2, F2, by have := P.sn; rw [List.length_append, List.length_singleton]; omega, fun h' q' c' say st => by
            cases st with
            | out fr ot => rw [hfr] at fr; cases fr
            | @stay e' q' he' fr p so =>
              obtain rfl : e = e' := by rw [he] at he'; exact Option.some.inj he'
              have er : early (.ask d) e = true := hlt
              rw [hcd, er, Bool.or_true, Bool.not_false, Bool.and_true, if_pos rfl]
              exact ⟨⟨te, ehv, fe⟩, ⟨sss ++ [d], ts.app (.cons ⟨sa, rfl, es⟩ .nil), ⟨fun z => by simp at z, fun z => by cases z⟩⟩, .one ((upd_ne d_s).trans ed) ((upd_ne v_s).trans (s6 _ _ evt)) ⟨te, rfl, fe⟩ (by decide +kernel) (h3 e he)⟩⟩
    | given d =>
      have etH : H ta = some (.tup [.str "given", v]) := etH
      walk_at "rd"
      exact ⟨_, _, _, u, rfl, quiet rfl⟩
    | done d =>
      have etH : H ta = some (.tup [.str "done", v]) := etH
      walk_at "rd"
      exact ⟨_, _, _, u, rfl, quiet rfl⟩
    | gone z =>
      have etH : H ta = some (.tup [.str "gone", v]) := etH
      walk_at "rd"
      exact ⟨_, _, _, u, rfl, quiet rfl⟩

theorem fz_set {F : Hp} {m : List (Addr × List V)} (h : ∀ p ∈ m, F p.1 = none) {k : Nat} {r : Addr} {l : List V} (n : F r = none) : ∀ p ∈ m.set k (r, l), F p.1 = none := fun p hp => by
  rcases List.mem_or_eq_of_mem_set hp with hp | rfl
  · exact h p hp
  · exact n
theorem nu_set {u : Addr} {m : List (Addr × List V)} (h : u ∉ m.map (·.1)) {k : Nat} {r : Addr} {l : List V} (n : u ≠ r) : u ∉ (m.set k (r, l)).map (·.1) := fun z => by
  obtain ⟨p, hp, rfl⟩ := List.mem_map.mp z
  rcases List.mem_or_eq_of_mem_set hp with hp | rfl
  · exact h (List.mem_map_of_mem hp)
  · exact n rfl
theorem Sg.nek {ad : Ad} {F H : Hp} {n : Nat} {w : Outs} {sw : Bool} {t o : DS} {lv0 : List (List Int)} {dd : Deed} {M : List (List Int)} {u : Addr} (S : Sg ad F H n w sw t o lv0 dd M u) {k : Nat} {a : Addr} {l : List V} (e : (cells w sw t o)[k]? = some (a, l)) : u ≠ a := fun z => S.nu (by rw [z]; exact List.mem_map_of_mem (mem_k e))
theorem Sg.cs' {ad : Ad} {F H : Hp} {n : Nat} {w : Outs} {sw : Bool} {t o : DS} {lv0 : List (List Int)} {dd : Deed} {M M' : List (List Int)} {u : Addr} (S : Sg ad F H n w sw t o lv0 dd M u) {cs' : List V} (hl : cs'.length ≤ n + 1) (tc : ∃ css, TIs F cs' css ∧ ∀ e ∈ M', e ∈ css) :
    Sg ad F (upd H t.c (.lst cs')) n w sw { t with cs := cs' } o lv0 dd M' u := by
  have e : (cells w sw t o)[9]? = some (t.c, t.cs) := rfl
  have nl : Nl H (upd H t.c (.lst cs')) := Nl.set (S.tr.get e)
  have P := S.pt
  exact ⟨same_set S.hF (S.fz _ (mem_k e)), S.tr.set S.nd e, S.nd.swap (k := 9) (r := t.c) (l := cs') (.inr rfl), fz_set (k := 9) (l := cs') S.fz (S.fz _ (mem_k e)),
    ⟨P.D.keep (Same.refl F) (nl.desk P.D), P.hh, P.tl, P.ts, tc, P.tg, P.pm, P.nd, P.so, P.h0, P.l3, P.ln, P.sn, hl, P.gn, P.fx, P.as⟩,
    S.go.keep (Same.refl F) (nl.desk S.go.D) S.go.fx (Nat.le_refl _), S.nx, (upd_ne (S.nek e)).trans S.eu, nu_set (k := 9) (l := cs') S.nu (S.nek e)⟩
theorem Sg.gs' {ad : Ad} {F H : Hp} {n : Nat} {w : Outs} {sw : Bool} {t o : DS} {lv0 : List (List Int)} {dd : Deed} {M : List (List Int)} {u : Addr} (S : Sg ad F H n w sw t o lv0 dd M u) {gs' : List Int} (hl : gs'.length ≤ n + 1) :
    Sg ad F (upd H t.g (.lst (gs'.map V.int))) n w sw { t with gs := gs'.map V.int } o lv0 dd M u := by
  have e : (cells w sw t o)[10]? = some (t.g, t.gs) := rfl
  have nl : Nl H (upd H t.g (.lst (gs'.map V.int))) := Nl.set (S.tr.get e)
  have P := S.pt
  exact ⟨same_set S.hF (S.fz _ (mem_k e)), S.tr.set S.nd e, S.nd.swap (k := 10) (r := t.g) (l := gs'.map V.int) (.inr rfl), fz_set (k := 10) (l := gs'.map V.int) S.fz (S.fz _ (mem_k e)),
    ⟨P.D.keep (Same.refl F) (nl.desk P.D), P.hh, P.tl, P.ts, P.tc, ⟨gs', rfl⟩, P.pm, P.nd, P.so, P.h0, P.l3, P.ln, P.sn, P.cn, by rw [List.length_map]; exact hl, P.fx, P.as⟩,
    S.go.keep (Same.refl F) (nl.desk S.go.D) S.go.fx (Nat.le_refl _), S.nx, (upd_ne (S.nek e)).trans S.eu, nu_set (k := 10) (l := gs'.map V.int) S.nu (S.nek e)⟩
theorem Sg.sub {ad : Ad} {F H : Hp} {n : Nat} {w : Outs} {sw : Bool} {t o : DS} {lv0 : List (List Int)} {dd : Deed} {M M' : List (List Int)} {u : Addr} (S : Sg ad F H n w sw t o lv0 dd M u) (h : ∀ e ∈ M', e ∈ M) : Sg ad F H n w sw t o lv0 dd M' u := by
  have P := S.pt
  obtain ⟨css, tc, hc⟩ := P.tc
  exact ⟨S.hF, S.tr, S.nd, S.fz, ⟨P.D, P.hh, P.tl, P.ts, ⟨css, tc, fun e he => hc e (h e he)⟩, P.tg, P.pm, P.nd, P.so, P.h0, P.l3, P.ln, P.sn, P.cn, P.gn, P.fx, P.as⟩, S.go, S.nx, S.eu, S.nu⟩
theorem law_11 {K : PySem.W.Frag} {ad : Ad} (O : Oc K ad) {N : L2.St → Hp → Prop} {R : VK} {B C : L2.St → Hp → Prop} {F H : Hp} {n : Nat} {w : Outs} {sw : Bool} {t o : DS} {dd : Deed} {ta : Addr} {x0 x7 x9 x10 x11 x12 x13 x14 x16 x17 : Option V}
    (W : Wd ad F H n w sw t o) (dt : DeedAt F ta dd) (d3 : dd.three) (as : ∀ d, dd = .ask d → d ∉ t.lv) (hn : n ≤ 63)
    (k : ∀ (F' H' : Hp) (t' : DS) (du : Addr), Wd ad F' H' (n + 1) w sw t' o → N [x0, some (.ref w.A), some (.ref w.B), some (.ref w.C), some (.ref w.D), some (.ref w.E), some (.ref w.G), x7, some (.int (atOf sw)), x9, x10, x11, x12, x13, x14, some (.ref ta), some (.ref du), x17] H') :
    t_law_11 K ad ⟨N, R, B, C⟩ [x0, some (.ref w.A), some (.ref w.B), some (.ref w.C), some (.ref w.D), some (.ref w.E), some (.ref w.G), x7, some (.int (atOf sw)), x9, x10, x11, x12, x13, x14, some (.ref ta), x16, x17] H := by
  have g := W.gt
  have ln := g.ln
  have gn := g.gn
  have cn := g.cn
  unfold t_law_11
  walk_at "rd"
  refine o_new (Nat.zero_le _) fun u nu => ?_
  have s1 : Same H (upd H u (.lst [])) := up_keep nu
  have eu1 := upd_same (H := H) (a := u) (o := .lst [])
  have fu : F u = none := fresh_F W.hF nu
  have num := W.tr.fresh nu
  have hF1 := W.hF.trans s1
  have T1 := W.tr.same s1
  generalize upd H u (.lst []) = H1 at *
  walk_at "rd"
  refine o_ixPr (T1.get (k := 2) rfl) ?_
  walk_at "rd"
  apply c__law_live_behind
  refine q__law_live_behind.mk hF1 (T1.get (k := 7) rfl) g.tl dt g.l3 (by omega) fun r vs H2 s2 hr er tv => ?_
  have T2 := T1.same s2
  have fr : F r = none := by
    rcases hr with rfl | nr
    · exact W.fz (t.l, t.lvs) (mem_k (k := 7) rfl)
    · exact fresh_F hF1 nr
  have T3 := T2.swap (k := 7) er
  have N3 : NdT ((cells w sw t o).set 7 (r, vs)) := W.nd.swap (k := 7) (l := vs) (by
    rcases hr with rfl | nr
    · exact .inr rfl
    · exact .inl (T1.fresh nr))
  have nur : u ≠ r := by
    rcases hr with rfl | nr
    · exact fun z => num (by rw [z]; exact List.mem_map_of_mem (mem_k (m := cells w sw t o) (k := 7) (p := (t.l, t.lvs)) rfl))
    · exact fun z => by
        rw [z, nr] at eu1
        cases eu1
  have eu2 := s2 _ _ eu1
  have nuC : u ≠ w.C := fun z => num (by rw [z]; exact List.mem_map_of_mem (mem_k (m := cells w sw t o) (k := 2) (p := (w.C, pr sw (.ref t.l) (.ref o.l))) rfl))
  have fC : F w.C = none := W.fz (w.C, pr sw (.ref t.l) (.ref o.l)) (mem_k (k := 2) rfl)
  walk_at "rd"
  refine o_setPr (T2.get (k := 2) rfl) ?_
  have nl : Nl H (upd H2 w.C (.lst (pr sw (.ref r) (.ref o.l)))) := (Nl.same (s1.trans s2)).trans (Nl.set (T2.get (k := 2) rfl))
  have S : Sg ad F (upd H2 w.C (.lst (pr sw (.ref r) (.ref o.l)))) n w sw { t with l := r, lvs := vs } o t.lv dd t.lv u :=
    ⟨same_set (hF1.trans s2) fC, T3.set N3 (k := 2) (l' := pr sw (.ref r) (.ref o.l)) rfl, N3.swap (k := 2) (r := w.C) (l := pr sw (.ref r) (.ref o.l)) (.inr rfl), fz_set (k := 2) (l := pr sw (.ref r) (.ref o.l)) (fz_set (k := 7) (l := vs) W.fz fr) fC,
      ⟨g.D.keep (Same.refl F) (nl.desk g.D), g.hh, tv, g.ts, g.tc, g.tg, g.pm, g.nd, g.so, g.h0, g.l3, g.ln, g.sn, Nat.le_succ_of_le g.cn, Nat.le_succ_of_le g.gn, g.fx, as⟩,
      W.go.keep (Same.refl F) (nl.desk W.go.D) W.go.fx (Nat.le_refl _), W.nx, (upd_ne nuC).trans eu2, nu_set (k := 2) (l := pr sw (.ref r) (.ref o.l)) (nu_set (k := 7) (l := vs) num nur) nuC⟩
  generalize upd H2 w.C (.lst (pr sw (.ref r) (.ref o.l))) = H3 at *
  obtain ⟨v, et, dv⟩ := dt
  have dt : DeedAt F ta dd := ⟨v, et, dv⟩
  obtain ⟨t1, S, gn', cn'⟩ : ∃ t1 : DS, Sg ad F H3 n w sw t1 o t.lv dd t.lv u ∧ t1.gs.length ≤ n ∧ t1.cs.length ≤ n := ⟨_, S, gn, cn⟩
  generalize t.lv = lv0 at *
  clear nl fC nuC eu2 nur N3 T3 fr T2 s2 er tv hr T1 hF1 num fu eu1 s1 nu W g gn cn
  obtain ⟨w1, w2, w3, w4, w5, w6, w7, w8, w9, w10, w11⟩ := wne
  refine s_cut (fun σ' H' => σ' = [x0, some (.ref w.A), some (.ref w.B), some (.ref w.C), some (.ref w.D), some (.ref w.E), some (.ref w.G), x7, some (.int (atOf sw)), x9, x10, x11, x12, x13, x14, some (.ref ta), some (.ref u), x17] ∧ ∃ t2, t2.gs.length ≤ n ∧ Sg ad F H' n w sw t2 o lv0 dd (behind dd lv0) u) ?_ ?_
  · cases dd with
    | ask d =>
      obtain ⟨sa, rfl, es⟩ := dv
      have etH : H3 ta = some (.tup [.str "ask", .ref sa]) := S.hF _ _ et
      obtain ⟨css, tc, hc⟩ := S.pt.tc
      walk_at "rd"
      refine o_ixPr (S.tr.get (k := 4) rfl) ?_
      walk_at "rd"
      refine ⟨ty_list (SqL.of (S.tr.get (k := 9) rfl)), ?_⟩
      walk_at "rd"
      refine m_app (S.tr.get (k := 9) rfl) (by rw [sizeLine_eq]; omega) ?_
      walk_at "rd"
      exact ⟨rfl, { t1 with cs := t1.cs ++ [V.ref sa] }, gn', S.cs' (by rw [List.length_append, List.length_singleton]; omega) ⟨css ++ [d], tc.app (.cons ⟨sa, rfl, es⟩ .nil), fun e he => by
        rcases List.mem_append.mp he with he | he
        · exact List.mem_append_left _ (hc e he)
        · exact List.mem_append_right _ he⟩⟩
    | given d =>
      have etH : H3 ta = some (.tup [.str "given", v]) := S.hF _ _ et
      walk_at "rd"
      exact ⟨rfl, t1, gn', S⟩
    | done d =>
      have etH : H3 ta = some (.tup [.str "done", v]) := S.hF _ _ et
      walk_at "rd"
      exact ⟨rfl, t1, gn', S.sub fun e he => (List.mem_filter.mp he).1⟩
    | gone z =>
      have etH : H3 ta = some (.tup [.str "gone", v]) := S.hF _ _ et
      walk_at "rd"
      exact ⟨rfl, t1, gn', S.sub fun e he => (List.mem_filter.mp he).1⟩
  clear S cn' gn' t1
  rintro σ' H' ⟨rfl, t2, gn2, S⟩
  refine s_cut (fun σ' H' => σ' = [x0, some (.ref w.A), some (.ref w.B), some (.ref w.C), some (.ref w.D), some (.ref w.E), some (.ref w.G), x7, some (.int (atOf sw)), x9, x10, x11, x12, x13, x14, some (.ref ta), some (.ref u), x17] ∧ ∃ t3, Sg ad F H' n w sw t3 o lv0 dd (behind dd lv0) u) ?_ ?_
  · cases dd with
    | gone z =>
      obtain rfl : v = .int z := dv
      have etH : H' ta = some (.tup [.str "gone", .int z]) := S.hF _ _ et
      obtain ⟨gl, eg⟩ := S.pt.tg
      have e2 : t2.gs ++ [V.int z] = (gl ++ [z]).map V.int := by rw [eg, List.map_append]; rfl
      walk_at "rd"
      refine o_ixPr (S.tr.get (k := 5) rfl) ?_
      walk_at "rd"
      refine ⟨ty_list (SqL.of (S.tr.get (k := 10) rfl)), ?_⟩
      walk_at "rd"
      refine m_app (S.tr.get (k := 10) rfl) (by rw [sizeLine_eq]; omega) ?_
      rw [e2]
      walk_at "rd"
      exact ⟨rfl, _, S.gs' (by rw [eg, List.length_map] at gn2; rw [List.length_append, List.length_singleton]; omega)⟩
    | given d =>
      have etH : H' ta = some (.tup [.str "given", v]) := S.hF _ _ et
      walk_at "rd"
      exact ⟨rfl, t2, S⟩
    | done d =>
      have etH : H' ta = some (.tup [.str "done", v]) := S.hF _ _ et
      walk_at "rd"
      exact ⟨rfl, t2, S⟩
    | ask d =>
      have etH : H' ta = some (.tup [.str "ask", v]) := S.hF _ _ et
      walk_at "rd"
      exact ⟨rfl, t2, S⟩
  clear S gn2 t2
  rintro σ' H2 ⟨rfl, t3, S⟩
  exact law_17 O S dt d3 hn k

theorem Tr.ins2 {H : Hp} {m : List (Addr × List V)} (h : Tr H m) (nd : NdT m) (k : Nat) {r : Addr} (n : H r = none) (l : List V) {m' : List (Addr × List V)} (e : m.take k ++ [(r, l)] ++ m.drop k = m') : Tr (upd H r (.lst l)) m' ∧ NdT m' := e ▸ h.ins nd k n l
theorem Wd.up {ad : Ad} {F H : Hp} {n n' : Nat} {w : Outs} {sw : Bool} {t o : DS} (h : Wd ad F H n w sw t o) (l : n ≤ n') : Wd ad F H n' w sw t o :=
  ⟨h.hF, h.tr, h.nd, h.fz, h.gt.keep (Same.refl F) (fun _ e => e) h.gt.fx l, h.go.keep (Same.refl F) (fun _ e => e) h.go.fx l, h.nx⟩
theorem law_8 {K : PySem.W.Frag} {ad : Ad} (O : Oc K ad) {N : L2.St → Hp → Prop} {R : VK} {B C : L2.St → Hp → Prop} {F H : Hp} {n : Nat} {w : Outs} {t o : DS} {cell : Int} {x0 x8 x9 x10 x11 x12 x13 x14 x15 x16 x17 : Option V}
    (W : Wd ad F H n w false t o) (hc : Builtin.Int.intBits cell ≤ 1048576) (hn : n + 1 ≤ 63)
    (k : ∀ (F' H' : Hp) (t' o' : DS) (y8 y9 y10 y11 y12 y13 y14 y15 y16 y17 : Option V), Wd ad F' H' (n + 1) w false t' o' → N [x0, some (.ref w.A), some (.ref w.B), some (.ref w.C), some (.ref w.D), some (.ref w.E), some (.ref w.G), some (.int cell), y8, y9, y10, y11, y12, y13, y14, y15, y16, y17] H') :
    t_law_8 K ad ⟨N, R, B, C⟩ [x0, some (.ref w.A), some (.ref w.B), some (.ref w.C), some (.ref w.D), some (.ref w.E), some (.ref w.G), some (.int cell), x8, x9, x10, x11, x12, x13, x14, x15, x16, x17] H := by
  unfold t_law_8
  walk_at "rd"
  refine o_new (by walk_at "len") fun a na => ?_
  walk_at "rd"
  apply c__law_draws
  refine q__law_draws.mk (ts := [2, 16, 720720, 4, 10 ^ 40, 60, 3]) hc (SqL.of upd_same) (by decide) (by decide) fun r os H2 s2 _ er lo bd => ?_
  have S2 := Same.trans (up_keep na) s2
  obtain ⟨b, o2, o3, o4, o5, o6, o7, rfl, p3⟩ : ∃ b o2 o3 o4 o5 o6 o7, os = [atOf b, o2, o3, o4, o5, o6, o7] ∧ 0 ≤ o3 := by
    match os, lo, bd with
    | [o1, o2, o3, o4, o5, o6, o7], _, bd =>
      have b1 := bd 0 o1 2 rfl rfl
      have b3 := bd 2 o3 720720 rfl rfl
      have : o1 = 0 ∨ o1 = 1 := by omega
      rcases this with rfl | rfl
      · exact ⟨false, _, _, _, _, _, _, rfl, b3.1⟩
      · exact ⟨true, _, _, _, _, _, _, rfl, b3.1⟩
  have er : H2 r = some (.lst [.int (atOf b), .int o2, .int o3, .int o4, .int o5, .int o6, .int o7]) := er
  have W2 := W.same S2
  clear bd lo s2
  obtain ⟨t', o', Wb, back⟩ : ∃ t' o', Wd ad F H2 n w b t' o' ∧ ∀ (F' H' : Hp) (t2 : DS), Wd ad F' H' (n + 1) w b t2 o' → ∃ t3 o3, Wd ad F' H' (n + 1) w false t3 o3 := by
    cases b with
    | false => exact ⟨t, o, W2, fun _ _ t2 h => ⟨t2, _, h⟩⟩
    | true => exact ⟨o, t, W2.turn, fun _ _ t2 h => ⟨_, t2, h.turn⟩⟩
  clear W W2
  walk_at "rd"
  refine o_ixPr (Wb.tr.get (k := 1) rfl) ?_
  walk_at "rd"
  refine o_ixPr (Wb.tr.get (k := 2) rfl) ?_
  walk_at "rd"
  apply c__law_stamp
  refine q__law_stamp.mk fun f d nf d3 => ?_
  have s3 : Same H2 (upd H2 f (.tup (d.map V.int))) := up_keep nf
  have G3 := (Gr.refl (M := M0) Wb.hF).addF nf (o := .tup (d.map V.int)) (fun z => z)
  have W3 := Wb.gr G3
  have ef := upd_same (H := F) (a := f) (o := .tup (d.map V.int))
  generalize upd H2 f (.tup (d.map V.int)) = H3 at *
  generalize upd F f (.tup (d.map V.int)) = F3 at *
  clear G3 s3 nf Wb er S2 na
  have g := W3.gt
  obtain ⟨h3, q3, ql⟩ := g.three
  have ln := g.ln
  walk_at "rd"
  apply c__law_deed
  refine q__law_deed.mk W3.hF p3 g.hh h3 (W3.tr.get (k := 7) rfl) g.tl g.l3 (by omega) (fun z => ?_) ef d3 fun ta dd F4 H4 dt dd3 G4 _ => ?_
  · have p := g.pm
    rw [z, (g.h0 z).1] at p
    exact p.symm.nil_eq.symm
  have W4 := W3.gr G4
  clear G4 W3 g h3 q3 ql ln ef
  refine s_cut (fun σ' H' => ∃ F' t2 y16, σ' = [x0, some (.ref w.A), some (.ref w.B), some (.ref w.C), some (.ref w.D), some (.ref w.E), some (.ref w.G), some (.int cell), some (.int (atOf b)), some (.int o2), some (.int o3), some (.int o4), some (.int o5), some (.int o6), some (.int o7), some (.ref ta), y16, x17] ∧ Wd ad F' H' (n + 1) w b t2 o') ?_ ?_
  · obtain ⟨css, tc, hc2⟩ := W4.gt.tc
    obtain ⟨gl, eg⟩ := W4.gt.tg
    walk_at "rd"
    refine o_ixPr (W4.tr.get (k := 4) rfl) ?_
    walk_at "rd"
    refine o_ixPr (W4.tr.get (k := 5) rfl) ?_
    walk_at "rd"
    apply c__law_fits
    refine q__law_fits.mk W4.hF dt dd3 (W4.tr.get (k := 9) rfl) tc (by rw [← eg]; exact W4.tr.get (k := 10) rfl) fun bb hb => ?_
    cases bb with
    | true =>
      walk_at "rd"
      exact law_11 O W4 dt dd3 (fun d' z m => hb rfl d' z (hc2 d' m)) (by omega) fun F' H' t2 du W5 => ⟨F', t2, _, rfl, W5⟩
    | false =>
      walk_at "rd"
      exact ⟨F4, t', _, rfl, W4.up (Nat.le_succ n)⟩
  · rintro σ' H' ⟨F', t2, y16, rfl, W5⟩
    refine law_28 O W5 hn fun H6 y17 W6 => ?_
    obtain ⟨t3, o3, W7⟩ := back _ _ _ W6
    exact k _ _ _ _ _ _ _ _ _ _ _ _ _ _ W7

theorem w_law {K : PySem.W.Frag} {ad : Ad} {x0 : V} {H : Hp} {Q : VK} (O : Oc K ad) (h : q_law K ad x0 H Q) : t_law K ad ⟨fun _ H' => Q .non H', Q, fun _ _ => False, fun _ _ => False⟩ [some x0, none, none, none, none, none, none, none, none, none, none, none, none, none, none, none, none, none] H := by
  cases h with
  | @mk a ns _ _ hl hb hS k =>
    unfold t_law
    walk_at "rd"
    refine fun x0 dx0 nx0 nd0 ne0 => cm_Desk___init__ (q_Desk___init__.mk upd_same fun qa0 H1 nq0 ep0 eqa0 keep0 => ⟨rfl, ?_⟩)
    have s0 : Same H H1 := fun b o e => keep0 b o (ne_of_none e nx0) (made_same nx0 nd0 b o e)
    walk_at "rd"
    refine fun x1 dx1 nx1 nd1 ne1 => cm_Desk___init__ (q_Desk___init__.mk upd_same fun qa1 H2 nq1 ep1 eqa1 keep1 => ⟨rfl, ?_⟩)
    have s1 : Same H1 H2 := fun b o e => keep1 b o (ne_of_none e nx1) (made_same nx1 nd1 b o e)
    have e0 := s1 _ _ ep0
    have eq0 := s1 _ _ eqa0
    have nxx : x0 ≠ x1 := fun z => by
      rw [z] at ep0
      rw [ep0] at nx1
      cases nx1
    have q01 : qa0 ≠ qa1 := fun z => by
      rw [← z, upd_ne (ne_of_none eqa0 nx1), upd_ne (ne_of_none eqa0 nd1), eqa0] at nq1
      cases nq1
    obtain ⟨F, hFd⟩ : ∃ F : Hp, F = upd (upd (fun _ => none) qa0 (.tup [])) qa1 (.tup []) := ⟨_, rfl⟩
    have f1 : F qa1 = some (.tup []) := by rw [hFd, upd_same]
    have f0 : F qa0 = some (.tup []) := by rw [hFd, upd_ne q01, upd_same]
    have fn : ∀ b, b ≠ qa0 → b ≠ qa1 → F b = none := fun b n0 n1 => by rw [hFd, upd_ne n1, upd_ne n0]
    have hF : Same F H2 := fun b o e => by
      by_cases z1 : b = qa1
      · rw [z1, f1] at e
        rw [z1, ← e]
        exact eqa1
      · by_cases z0 : b = qa0
        · rw [z0, f0] at e
          rw [z0, ← e]
          exact eq0
        · rw [fn b z0 z1] at e
          cases e
    have x0q : ∀ b v0 v1 v2 dx, H2 b = some (dk_Desk ad dx v0 v1 v2) → F b = none := fun b _ _ _ _ e => fn b (fun z => by rw [z, eq0] at e; cases e) (fun z => by rw [z, eqa1] at e; cases e)
    have fx0 := x0q _ _ _ _ _ e0
    have fx1 := x0q _ _ _ _ _ ep1
    have fnew : ∀ (H' : Hp) b, Same H2 H' → H' b = none → F b = none := fun H' b s n => fresh_F (hF.trans s) n
    have S2 := s0.trans s1
    clear keep0 keep1 nq0 nq1 hFd fn x0q q01 s0 s1 eqa0 ep0 nx0 nd0 ne0 nx1 nd1 ne1
    walk_at "rd"
    refine o_new (by walk_at "len") fun A nA => ?_
    have TZ : Tr H2 [] := fun p hp => by cases hp
    have NZ : NdT [] := List.nodup_nil
    obtain ⟨T1, N1⟩ := TZ.ins2 NZ 0 nA [.ref x0, .ref x1] (m' := [(A, [V.ref x0, V.ref x1])]) rfl
    have k1 : Same H2 (upd H2 A (.lst [.ref x0, .ref x1])) := up_keep nA
    have z1 := fnew _ _ (Same.refl _) nA
    generalize upd H2 A (.lst [.ref x0, .ref x1]) = H3 at *
    walk_at "rd"
    refine o_new (by walk_at "len") fun B nB => ?_
    obtain ⟨T2, N2⟩ := T1.ins2 N1 1 nB [.non, .non] (m' := [(A, [V.ref x0, V.ref x1]), (B, [V.non, V.non])]) rfl
    have k2 : Same H2 (upd H3 B (.lst [.non, .non])) := k1.trans (up_keep nB)
    have z2 := fnew _ _ k1 nB
    generalize upd H3 B (.lst [.non, .non]) = H4 at *
    walk_at "rd"
    refine o_new (Nat.zero_le _) fun l0 nl0 => ?_
    obtain ⟨T3, N3⟩ := T2.ins2 N2 2 nl0 [] (m' := [(A, [V.ref x0, V.ref x1]), (B, [V.non, V.non]), (l0, [])]) rfl
    have k3 : Same H2 (upd H4 l0 (.lst [])) := k2.trans (up_keep nl0)
    have z3 := fnew _ _ k2 nl0
    generalize upd H4 l0 (.lst []) = H5 at *
    walk_at "rd"
    refine o_new (Nat.zero_le _) fun l1 nl1 => ?_
    obtain ⟨T4, N4⟩ := T3.ins2 N3 3 nl1 [] (m' := [(A, [V.ref x0, V.ref x1]), (B, [V.non, V.non]), (l0, []), (l1, [])]) rfl
    have k4 : Same H2 (upd H5 l1 (.lst [])) := k3.trans (up_keep nl1)
    have z4 := fnew _ _ k3 nl1
    generalize upd H5 l1 (.lst []) = H6 at *
    walk_at "rd"
    refine o_new (by walk_at "len") fun C nC => ?_
    obtain ⟨T5, N5⟩ := T4.ins2 N4 2 nC [.ref l0, .ref l1] (m' := [(A, [V.ref x0, V.ref x1]), (B, [V.non, V.non]), (C, [V.ref l0, V.ref l1]), (l0, []), (l1, [])]) rfl
    have k5 : Same H2 (upd H6 C (.lst [.ref l0, .ref l1])) := k4.trans (up_keep nC)
    have z5 := fnew _ _ k4 nC
    generalize upd H6 C (.lst [.ref l0, .ref l1]) = H7 at *
    walk_at "rd"
    refine o_new (Nat.zero_le _) fun s0 ns0 => ?_
    obtain ⟨T6, N6⟩ := T5.ins2 N5 4 ns0 [] (m' := [(A, [V.ref x0, V.ref x1]), (B, [V.non, V.non]), (C, [V.ref l0, V.ref l1]), (l0, []), (s0, []), (l1, [])]) rfl
    have k6 : Same H2 (upd H7 s0 (.lst [])) := k5.trans (up_keep ns0)
    have z6 := fnew _ _ k5 ns0
    generalize upd H7 s0 (.lst []) = H8 at *
    walk_at "rd"
    refine o_new (Nat.zero_le _) fun s1 ns1 => ?_
    obtain ⟨T7, N7⟩ := T6.ins2 N6 6 ns1 [] (m' := [(A, [V.ref x0, V.ref x1]), (B, [V.non, V.non]), (C, [V.ref l0, V.ref l1]), (l0, []), (s0, []), (l1, []), (s1, [])]) rfl
    have k7 : Same H2 (upd H8 s1 (.lst [])) := k6.trans (up_keep ns1)
    have z7 := fnew _ _ k6 ns1
    generalize upd H8 s1 (.lst []) = H9 at *
    walk_at "rd"
    refine o_new (by walk_at "len") fun D nD => ?_
    obtain ⟨T8, N8⟩ := T7.ins2 N7 3 nD [.ref s0, .ref s1] (m' := [(A, [V.ref x0, V.ref x1]), (B, [V.non, V.non]), (C, [V.ref l0, V.ref l1]), (D, [V.ref s0, V.ref s1]), (l0, []), (s0, []), (l1, []), (s1, [])]) rfl
    have k8 : Same H2 (upd H9 D (.lst [.ref s0, .ref s1])) := k7.trans (up_keep nD)
    have z8 := fnew _ _ k7 nD
    generalize upd H9 D (.lst [.ref s0, .ref s1]) = H10 at *
    walk_at "rd"
    refine o_new (Nat.zero_le _) fun c0 nc0 => ?_
    obtain ⟨T9, N9⟩ := T8.ins2 N8 6 nc0 [] (m' := [(A, [V.ref x0, V.ref x1]), (B, [V.non, V.non]), (C, [V.ref l0, V.ref l1]), (D, [V.ref s0, V.ref s1]), (l0, []), (s0, []), (c0, []), (l1, []), (s1, [])]) rfl
    have k9 : Same H2 (upd H10 c0 (.lst [])) := k8.trans (up_keep nc0)
    have z9 := fnew _ _ k8 nc0
    generalize upd H10 c0 (.lst []) = H11 at *
    walk_at "rd"
    refine o_new (Nat.zero_le _) fun c1 nc1 => ?_
    obtain ⟨T10, N10⟩ := T9.ins2 N9 9 nc1 [] (m' := [(A, [V.ref x0, V.ref x1]), (B, [V.non, V.non]), (C, [V.ref l0, V.ref l1]), (D, [V.ref s0, V.ref s1]), (l0, []), (s0, []), (c0, []), (l1, []), (s1, []), (c1, [])]) rfl
    have k10 : Same H2 (upd H11 c1 (.lst [])) := k9.trans (up_keep nc1)
    have z10 := fnew _ _ k9 nc1
    generalize upd H11 c1 (.lst []) = H12 at *
    walk_at "rd"
    refine o_new (by walk_at "len") fun E nE => ?_
    obtain ⟨T11, N11⟩ := T10.ins2 N10 4 nE [.ref c0, .ref c1] (m' := [(A, [V.ref x0, V.ref x1]), (B, [V.non, V.non]), (C, [V.ref l0, V.ref l1]), (D, [V.ref s0, V.ref s1]), (E, [V.ref c0, V.ref c1]), (l0, []), (s0, []), (c0, []), (l1, []), (s1, []), (c1, [])]) rfl
    have k11 : Same H2 (upd H12 E (.lst [.ref c0, .ref c1])) := k10.trans (up_keep nE)
    have z11 := fnew _ _ k10 nE
    generalize upd H12 E (.lst [.ref c0, .ref c1]) = H13 at *
    walk_at "rd"
    refine o_new (Nat.zero_le _) fun g0 ng0 => ?_
    obtain ⟨T12, N12⟩ := T11.ins2 N11 8 ng0 [] (m' := [(A, [V.ref x0, V.ref x1]), (B, [V.non, V.non]), (C, [V.ref l0, V.ref l1]), (D, [V.ref s0, V.ref s1]), (E, [V.ref c0, V.ref c1]), (l0, []), (s0, []), (c0, []), (g0, []), (l1, []), (s1, []), (c1, [])]) rfl
    have k12 : Same H2 (upd H13 g0 (.lst [])) := k11.trans (up_keep ng0)
    have z12 := fnew _ _ k11 ng0
    generalize upd H13 g0 (.lst []) = H14 at *
    walk_at "rd"
    refine o_new (Nat.zero_le _) fun g1 ng1 => ?_
    obtain ⟨T13, N13⟩ := T12.ins2 N12 12 ng1 [] (m' := [(A, [V.ref x0, V.ref x1]), (B, [V.non, V.non]), (C, [V.ref l0, V.ref l1]), (D, [V.ref s0, V.ref s1]), (E, [V.ref c0, V.ref c1]), (l0, []), (s0, []), (c0, []), (g0, []), (l1, []), (s1, []), (c1, []), (g1, [])]) rfl
    have k13 : Same H2 (upd H14 g1 (.lst [])) := k12.trans (up_keep ng1)
    have z13 := fnew _ _ k12 ng1
    generalize upd H14 g1 (.lst []) = H15 at *
    walk_at "rd"
    refine o_new (by walk_at "len") fun G nG => ?_
    obtain ⟨T14, N14⟩ := T13.ins2 N13 5 nG [.ref g0, .ref g1] (m' := [(A, [V.ref x0, V.ref x1]), (B, [V.non, V.non]), (C, [V.ref l0, V.ref l1]), (D, [V.ref s0, V.ref s1]), (E, [V.ref c0, V.ref c1]), (G, [V.ref g0, V.ref g1]), (l0, []), (s0, []), (c0, []), (g0, []), (l1, []), (s1, []), (c1, []), (g1, [])]) rfl
    have k14 : Same H2 (upd H15 G (.lst [.ref g0, .ref g1])) := k13.trans (up_keep nG)
    have z14 := fnew _ _ k13 nG
    generalize upd H15 G (.lst [.ref g0, .ref g1]) = H16 at *
    walk_at "rd"
    apply c__law_cells
    refine q__law_cells.mk (Same.seq (S2.trans k14) hS) hl hb fun L cs H17 s17 nL eL lc cb => ?_
    have z15 := fnew _ _ k14 nL
    have k15 := k14.trans s17
    have T15 := T14.same s17
    have nL' := T14.fresh nL
    obtain ⟨w, hw⟩ : ∃ w : Outs, w = ⟨A, B, C, D, E, G, L, cs⟩ := ⟨_, rfl⟩
    obtain ⟨d0, hd0⟩ : ∃ d : DS, d = ⟨x0, l0, s0, c0, g0, .non, none, [], false, [], [], [], [], []⟩ := ⟨_, rfl⟩
    obtain ⟨d1, hd1⟩ : ∃ d : DS, d = ⟨x1, l1, s1, c1, g1, .non, none, [], false, [], [], [], [], []⟩ := ⟨_, rfl⟩
    have W0 : Wd ad F H17 0 w false d0 d1 := by
      subst hw hd0 hd1
      have gd : ∀ (x l s c g qa : Addr) (dx : Addr), H2 x = some (dk_Desk ad dx .non (.ref qa) (.bl false)) → F qa = some (.tup []) → F x = none → Good ad F H17 0 ⟨x, l, s, c, g, .non, none, [], false, [], [], [], [], []⟩ := fun x l s c g qa dx e f n =>
        ⟨⟨dx, .non, qa, [], k15 _ _ e, rfl, f, .nil⟩, rfl, .nil, ⟨[], .nil, ⟨fun _ => rfl, fun _ => rfl⟩⟩, ⟨[], .nil, fun e h => (by cases h)⟩, ⟨[], rfl⟩, List.Perm.refl _, List.nodup_nil, .nil, fun _ => ⟨rfl, rfl⟩, fun e h => (by cases h), Nat.le_refl _, Nat.le_refl _, Nat.le_refl _, Nat.le_refl _, n⟩
      have P := List.perm_middle (a := (L, cs.map V.int)) (l₁ := [(A, [V.ref x0, V.ref x1]), (B, [V.non, V.non]), (C, [V.ref l0, V.ref l1]), (D, [V.ref s0, V.ref s1]), (E, [V.ref c0, V.ref c1]), (G, [V.ref g0, V.ref g1])]) (l₂ := [(l0, []), (s0, []), (c0, []), (g0, []), (l1, []), (s1, []), (c1, []), (g1, [])])
      refine ⟨hF.trans k15, fun p hp => ?_, ?_, fun p hp => ?_, gd x0 l0 s0 c0 g0 qa0 _ e0 f0 fx0, gd x1 l1 s1 c1 g1 qa1 _ ep1 f1 fx1, nxx⟩
      · rcases List.mem_cons.mp (P.mem_iff.mp hp) with e | hm
        · rw [e]
          exact eL
        · exact T15 p hm
      · exact (P.map (·.1)).nodup_iff.mpr (List.nodup_cons.mpr ⟨nL', N14⟩)
      · rcases List.mem_cons.mp (P.mem_iff.mp hp) with e | hm
        · rw [e]
          exact z15
        · simp only [List.cons_append, List.nil_append, List.mem_cons, List.not_mem_nil, or_false] at hm
          rcases hm with rfl | rfl | rfl | rfl | rfl | rfl | rfl | rfl | rfl | rfl | rfl | rfl | rfl | rfl
          · exact z1
          · exact z2
          · exact z5
          · exact z8
          · exact z11
          · exact z14
          · exact z3
          · exact z6
          · exact z9
          · exact z12
          · exact z4
          · exact z7
          · exact z10
          · exact z13
    have nn : w.cells = cs ∧ w.A = A ∧ w.B = B ∧ w.C = C ∧ w.D = D ∧ w.E = E ∧ w.G = G ∧ w.L = L := by
      rw [hw]
      exact ⟨rfl, rfl, rfl, rfl, rfl, rfl, rfl, rfl⟩
    clear hw z1 z2 z3 z4 z5 z6 z7 z8 z9 z10 z11 z12 z13 z14 z15 T1 T2 T3 T4 T5 T6 T7 T8 T9 T10 T11 T12 T13 T14 T15 N1 N2 N3 N4 N5 N6 N7 N8 N9 N10 N11 N12 N13 N14 k1 k2 k3 k4 k5 k6 k7 k8 k9 k10 k11 k12 k13 k14 k15
    obtain ⟨rfl, rfl, rfl, rfl, rfl, rfl, rfl, rfl⟩ := nn
    refine lp_list (SqL.of eL) (fun i σ' H' => ∃ (F' : Hp) (t o : DS) (y7 y8 y9 y10 y11 y12 y13 y14 y15 y16 y17 : Option V), σ' = [some (.ref a), some (.ref w.A), some (.ref w.B), some (.ref w.C), some (.ref w.D), some (.ref w.E), some (.ref w.G), y7, y8, y9, y10, y11, y12, y13, y14, y15, y16, y17] ∧ Wd ad F' H' i w false t o)
      ⟨F, d0, d1, _, _, _, _, _, _, _, _, _, _, _, rfl, W0⟩ (fun i σ' H' _ ⟨_, _, _, _, _, _, _, _, _, _, _, _, _, _, _, W⟩ => SqL.of (W.tr.get (k := 6) rfl)) ?_ ?_
    · clear W0 eL hd0 hd1
      rintro i z σ' H1 hi ⟨F', t, o, y7, y8, y9, y10, y11, y12, y13, y14, y15, y16, y17, rfl, W⟩
      have il := (List.getElem?_eq_some_iff.mp hi).1
      rw [List.length_map] at il
      rw [List.getElem?_map] at hi
      obtain ⟨cell, hc, rfl⟩ := Option.map_eq_some_iff.mp hi
      walk_at "rd"
      exact law_8 O W (cb cell (List.mem_of_getElem? hc)) (by omega) fun F2 H2 t2 o2 y8 y9 y10 y11 y12 y13 y14 y15 y16 y17 W2 => ⟨F2, t2, o2, _, _, _, _, _, _, _, _, _, _, _, rfl, W2⟩
    · rintro σ' H1 ⟨F', t, o, y7, y8, y9, y10, y11, y12, y13, y14, y15, y16, y17, rfl, W⟩
      walk_at "rd"
      exact k _

def topS (i : Nat) : Stmt := PySem.Challenge.pw_soleseat_k62_whole_desk.main.body.getD i (.Pass ⟨0, 0, 0, 0⟩)
abbrev s_Desk___init__ : Stmt := inClass (topS 1) 0
abbrev N_Desk___init__ : List Str := ["self"]
theorem sc_Desk___init__ : FnScope N_Desk___init__ ["self"] (defScope s_Desk___init__) := ⟨rfl, rfl, rfl, by decide +kernel, rfl, by decide +kernel, by decide +kernel⟩
abbrev s_Desk___len__ : Stmt := inClass (topS 1) 1
abbrev N_Desk___len__ : List Str := ["self"]
theorem sc_Desk___len__ : FnScope N_Desk___len__ ["self"] (defScope s_Desk___len__) := ⟨rfl, rfl, rfl, by decide +kernel, rfl, by decide +kernel, by decide +kernel⟩
abbrev s_Desk_take_ask : Stmt := inClass (topS 1) 2
abbrev N_Desk_take_ask : List Str := ["self", "stamp"]
theorem sc_Desk_take_ask : FnScope N_Desk_take_ask ["self", "stamp"] (defScope s_Desk_take_ask) := ⟨rfl, rfl, rfl, by decide +kernel, rfl, by decide +kernel, by decide +kernel⟩
abbrev s_Desk_take_given : Stmt := inClass (topS 1) 3
abbrev N_Desk_take_given : List Str := ["self", "stamp"]
theorem sc_Desk_take_given : FnScope N_Desk_take_given ["self", "stamp"] (defScope s_Desk_take_given) := ⟨rfl, rfl, rfl, by decide +kernel, rfl, by decide +kernel, by decide +kernel⟩
abbrev s_Desk_take_done : Stmt := inClass (topS 1) 4
abbrev N_Desk_take_done : List Str := ["self", "stamp", "one"]
theorem sc_Desk_take_done : FnScope N_Desk_take_done ["self", "stamp"] (defScope s_Desk_take_done) := ⟨rfl, rfl, rfl, by decide +kernel, rfl, by decide +kernel, by decide +kernel⟩
abbrev s_Desk_take_gone : Stmt := inClass (topS 1) 5
abbrev N_Desk_take_gone : List Str := ["self", "seat", "one"]
theorem sc_Desk_take_gone : FnScope N_Desk_take_gone ["self", "seat"] (defScope s_Desk_take_gone) := ⟨rfl, rfl, rfl, by decide +kernel, rfl, by decide +kernel, by decide +kernel⟩
abbrev s_Desk_settle : Stmt := inClass (topS 1) 6
abbrev N_Desk_settle : List Str := ["self", "rest"]
theorem sc_Desk_settle : FnScope N_Desk_settle ["self"] (defScope s_Desk_settle) := ⟨rfl, rfl, rfl, by decide +kernel, rfl, by decide +kernel, by decide +kernel⟩
abbrev s__law_draws : Stmt := topS 3
abbrev N__law_draws : List Str := ["cell", "tops", "out", "rest", "k", "one"]
theorem sc__law_draws : FnScope N__law_draws ["cell", "tops"] (defScope s__law_draws) := ⟨rfl, rfl, rfl, by decide +kernel, rfl, by decide +kernel, by decide +kernel⟩
abbrev s__law_same : Stmt := topS 4
abbrev N__law_same : List Str := ["found", "due", "k"]
theorem sc__law_same : FnScope N__law_same ["found", "due"] (defScope s__law_same) := ⟨rfl, rfl, rfl, by decide +kernel, rfl, by decide +kernel, by decide +kernel⟩
abbrev s__law_stamp : Stmt := topS 5
abbrev N__law_stamp : List Str := ["low", "many", "seat", "turn"]
theorem sc__law_stamp : FnScope N__law_stamp ["low", "many", "seat", "turn"] (defScope s__law_stamp) := ⟨rfl, rfl, rfl, by decide +kernel, rfl, by decide +kernel, by decide +kernel⟩
abbrev s__law_desk : Stmt := topS 6
abbrev N__law_desk : List Str := ["desk", "held", "live", "since", "waiting", "one"]
theorem sc__law_desk : FnScope N__law_desk ["desk", "held", "live", "since"] (defScope s__law_desk) := ⟨rfl, rfl, rfl, by decide +kernel, rfl, by decide +kernel, by decide +kernel⟩
abbrev s__law_deed : Stmt := topS 7
abbrev N__law_deed : List Str := ["way", "pick", "held", "live", "fresh"]
theorem sc__law_deed : FnScope N__law_deed ["way", "pick", "held", "live", "fresh"] (defScope s__law_deed) := ⟨rfl, rfl, rfl, by decide +kernel, rfl, by decide +kernel, by decide +kernel⟩
abbrev s__law_fits : Stmt := topS 8
abbrev N__law_fits : List Str := ["deed", "came", "gone"]
theorem sc__law_fits : FnScope N__law_fits ["deed", "came", "gone"] (defScope s__law_fits) := ⟨rfl, rfl, rfl, by decide +kernel, rfl, by decide +kernel, by decide +kernel⟩
abbrev s__law_told : Stmt := topS 9
abbrev N__law_told : List Str := ["desk", "deed"]
theorem sc__law_told : FnScope N__law_told ["desk", "deed"] (defScope s__law_told) := ⟨rfl, rfl, rfl, by decide +kernel, rfl, by decide +kernel, by decide +kernel⟩
abbrev s__law_live_behind : Stmt := topS 10
abbrev N__law_live_behind : List Str := ["live", "deed", "one"]
theorem sc__law_live_behind : FnScope N__law_live_behind ["live", "deed"] (defScope s__law_live_behind) := ⟨rfl, rfl, rfl, by decide +kernel, rfl, by decide +kernel, by decide +kernel⟩
abbrev s__law_freed : Stmt := topS 11
abbrev N__law_freed : List Str := ["held", "deed"]
theorem sc__law_freed : FnScope N__law_freed ["held", "deed"] (defScope s__law_freed) := ⟨rfl, rfl, rfl, by decide +kernel, rfl, by decide +kernel, by decide +kernel⟩
abbrev s__law_cells : Stmt := topS 12
abbrev N__law_cells : List Str := ["script", "start", "found", "k"]
theorem sc__law_cells : FnScope N__law_cells ["script", "start"] (defScope s__law_cells) := ⟨rfl, rfl, rfl, by decide +kernel, rfl, by decide +kernel, by decide +kernel⟩
abbrev s_law : Stmt := topS 13
abbrev N_law : List Str := ["script", "desks", "held", "live", "since", "came", "gone", "cell", "at", "way", "pick", "low", "many", "seat", "turn", "deed", "due", "k"]
theorem sc_law : FnScope N_law ["script"] (defScope s_law) := ⟨rfl, rfl, rfl, by decide +kernel, rfl, by decide +kernel, by decide +kernel⟩
structure Txt (K : PySem.W.Frag) (mg : Str → Option Value) (ad : Ad) where
  f_Desk___init__ : Addr
  d_Desk___init__ : FuncData
  F_Desk___init__ : Fun K "__init__" "Desk.__init__" s_Desk___init__ f_Desk___init__ d_Desk___init__
  b_Desk___init__ : Binds K d_Desk___init__ ["self"] []
  mk_Desk : Mk K ad.Desk f_Desk___init__
  f_Desk___len__ : Addr
  d_Desk___len__ : FuncData
  F_Desk___len__ : Fun K "__len__" "Desk.__len__" s_Desk___len__ f_Desk___len__ d_Desk___len__
  b_Desk___len__ : Binds K d_Desk___len__ ["self"] []
  me_Desk___len__ : Meth K ad.Desk "__len__" f_Desk___len__
  f_Desk_take_ask : Addr
  d_Desk_take_ask : FuncData
  F_Desk_take_ask : Fun K "take_ask" "Desk.take_ask" s_Desk_take_ask f_Desk_take_ask d_Desk_take_ask
  b_Desk_take_ask : Binds K d_Desk_take_ask ["self", "stamp"] []
  me_Desk_take_ask : Meth K ad.Desk "take_ask" f_Desk_take_ask
  f_Desk_take_given : Addr
  d_Desk_take_given : FuncData
  F_Desk_take_given : Fun K "take_given" "Desk.take_given" s_Desk_take_given f_Desk_take_given d_Desk_take_given
  b_Desk_take_given : Binds K d_Desk_take_given ["self", "stamp"] []
  me_Desk_take_given : Meth K ad.Desk "take_given" f_Desk_take_given
  f_Desk_take_done : Addr
  d_Desk_take_done : FuncData
  F_Desk_take_done : Fun K "take_done" "Desk.take_done" s_Desk_take_done f_Desk_take_done d_Desk_take_done
  b_Desk_take_done : Binds K d_Desk_take_done ["self", "stamp"] []
  me_Desk_take_done : Meth K ad.Desk "take_done" f_Desk_take_done
  f_Desk_take_gone : Addr
  d_Desk_take_gone : FuncData
  F_Desk_take_gone : Fun K "take_gone" "Desk.take_gone" s_Desk_take_gone f_Desk_take_gone d_Desk_take_gone
  b_Desk_take_gone : Binds K d_Desk_take_gone ["self", "seat"] []
  me_Desk_take_gone : Meth K ad.Desk "take_gone" f_Desk_take_gone
  f_Desk_settle : Addr
  d_Desk_settle : FuncData
  F_Desk_settle : Fun K "settle" "Desk.settle" s_Desk_settle f_Desk_settle d_Desk_settle
  b_Desk_settle : Binds K d_Desk_settle ["self"] []
  me_Desk_settle : Meth K ad.Desk "settle" f_Desk_settle
  f__law_draws : Addr
  d__law_draws : FuncData
  F__law_draws : Fun K "_law_draws" "_law_draws" s__law_draws f__law_draws d__law_draws
  b__law_draws : Binds K d__law_draws ["cell", "tops"] []
  g__law_draws : mg "_law_draws" = some (.ref f__law_draws)
  f__law_same : Addr
  d__law_same : FuncData
  F__law_same : Fun K "_law_same" "_law_same" s__law_same f__law_same d__law_same
  b__law_same : Binds K d__law_same ["found", "due"] []
  g__law_same : mg "_law_same" = some (.ref f__law_same)
  f__law_stamp : Addr
  d__law_stamp : FuncData
  F__law_stamp : Fun K "_law_stamp" "_law_stamp" s__law_stamp f__law_stamp d__law_stamp
  b__law_stamp : Binds K d__law_stamp ["low", "many", "seat", "turn"] []
  g__law_stamp : mg "_law_stamp" = some (.ref f__law_stamp)
  f__law_desk : Addr
  d__law_desk : FuncData
  F__law_desk : Fun K "_law_desk" "_law_desk" s__law_desk f__law_desk d__law_desk
  b__law_desk : Binds K d__law_desk ["desk", "held", "live", "since"] []
  g__law_desk : mg "_law_desk" = some (.ref f__law_desk)
  f__law_deed : Addr
  d__law_deed : FuncData
  F__law_deed : Fun K "_law_deed" "_law_deed" s__law_deed f__law_deed d__law_deed
  b__law_deed : Binds K d__law_deed ["way", "pick", "held", "live", "fresh"] []
  g__law_deed : mg "_law_deed" = some (.ref f__law_deed)
  f__law_fits : Addr
  d__law_fits : FuncData
  F__law_fits : Fun K "_law_fits" "_law_fits" s__law_fits f__law_fits d__law_fits
  b__law_fits : Binds K d__law_fits ["deed", "came", "gone"] []
  g__law_fits : mg "_law_fits" = some (.ref f__law_fits)
  f__law_told : Addr
  d__law_told : FuncData
  F__law_told : Fun K "_law_told" "_law_told" s__law_told f__law_told d__law_told
  b__law_told : Binds K d__law_told ["desk", "deed"] []
  g__law_told : mg "_law_told" = some (.ref f__law_told)
  f__law_live_behind : Addr
  d__law_live_behind : FuncData
  F__law_live_behind : Fun K "_law_live_behind" "_law_live_behind" s__law_live_behind f__law_live_behind d__law_live_behind
  b__law_live_behind : Binds K d__law_live_behind ["live", "deed"] []
  g__law_live_behind : mg "_law_live_behind" = some (.ref f__law_live_behind)
  f__law_freed : Addr
  d__law_freed : FuncData
  F__law_freed : Fun K "_law_freed" "_law_freed" s__law_freed f__law_freed d__law_freed
  b__law_freed : Binds K d__law_freed ["held", "deed"] []
  g__law_freed : mg "_law_freed" = some (.ref f__law_freed)
  f__law_cells : Addr
  d__law_cells : FuncData
  F__law_cells : Fun K "_law_cells" "_law_cells" s__law_cells f__law_cells d__law_cells
  b__law_cells : Binds K d__law_cells ["script", "start"] []
  g__law_cells : mg "_law_cells" = some (.ref f__law_cells)
  f_law : Addr
  d_law : FuncData
  F_law : Fun K "law" "law" s_law f_law d_law
  b_law : Binds K d_law ["script"] []
  g_law : mg "law" = some (.ref f_law)
  m_bool : mg "bool" = none
  m_int : mg "int" = none
  m_isinstance : mg "isinstance" = none
  m_len : mg "len" = none
  m_list : mg "list" = none
  m_min : mg "min" = none
  m_range : mg "range" = none
  m_sorted : mg "sorted" = none
  m_sum : mg "sum" = none
  m_tuple : mg "tuple" = none
  g_Desk : mg "Desk" = some (.ref ad.Desk)
  oc : Oc K ad
theorem ok_Desk___init__ {K : PySem.W.Frag} {mg : Str → Option Value} {base : Heap} {ad : Ad} (T : Txt K mg ad) : FnOk ad.P ad.w K mg base CX0 1 T.f_Desk___init__ T.d_Desk___init__ ["self"] (sp_Desk___init__ K ad) := by
  refine T.F_Desk___init__.ok sc_Desk___init__ (fun vs H Q E h => ?_) (fun cdv A outer s H vs Q E hr h => ⟨t_Desk___init__ K ad, ?_, ?_⟩)
  · obtain ⟨x0, rfl, _⟩ := n_Desk___init__ h
    rfl
  · exact (pss_cons (ps_fld (pv 0) pe_non rfl)
    (pss_cons (ps_fld (pv 0) (pe_tup pa_nil) rfl)
    (pss_one (ps_fld (pv 0) pe_bl rfl))))
  · obtain ⟨x0, rfl, h⟩ := n_Desk___init__ h
    exact w_Desk___init__ T.oc h
theorem ok_Desk___len__ {K : PySem.W.Frag} {mg : Str → Option Value} {base : Heap} {ad : Ad} (T : Txt K mg ad) : FnOk ad.P ad.w K mg base CX0 1 T.f_Desk___len__ T.d_Desk___len__ ["self"] (sp_Desk___len__ K ad) := by
  refine T.F_Desk___len__.ok sc_Desk___len__ (fun vs H Q E h => ?_) (fun cdv A outer s H vs Q E hr h => ⟨t_Desk___len__ K ad, ?_, ?_⟩)
  · obtain ⟨x0, rfl, _⟩ := n_Desk___len__ h
    rfl
  · exact (pss_one (ps_ret (pe_callB cr_zLen (by rfl) T.m_len (by decide +kernel) (pa_cons (pe_fld (pv 0) rfl) pa_nil))))
  · obtain ⟨x0, rfl, h⟩ := n_Desk___len__ h
    exact w_Desk___len__ T.oc h
theorem ok_Desk_settle {K : PySem.W.Frag} {mg : Str → Option Value} {base : Heap} {ad : Ad} (T : Txt K mg ad) : FnOk ad.P ad.w K mg base CX0 1 T.f_Desk_settle T.d_Desk_settle ["self"] (sp_Desk_settle K ad) := by
  refine T.F_Desk_settle.ok sc_Desk_settle (fun vs H Q E h => ?_) (fun cdv A outer s H vs Q E hr h => ⟨t_Desk_settle K ad, ?_, ?_⟩)
  · obtain ⟨x0, rfl, _⟩ := n_Desk_settle h
    rfl
  · exact (pss_cons (ps_if (pt_cmpR op_zNotN (pe_fld (pv 0) rfl) pe_non (nomark _)) (pss_one (ps_ret (pe_lst pa_nil))) pss_nil)
    (pss_cons (ps_fld (pv 0) pe_bl rfl)
    (pss_cons (ps_if (pt_cmpR (op_zEq hr.units) (pe_fld (pv 0) rfl) (pe_tup pa_nil) (nomark _)) (pss_one (ps_ret (pe_lst pa_nil))) pss_nil)
    (pss_cons (ps_asg (pe_fld (pv 0) rfl) (pg_star rfl (pgs_cons (pg_fld (pv 0)) (pgs_cons (pg_name (i := 1) sc_Desk_settle.nd rfl (Or.inl rfl)) pgs_nil))))
    (pss_cons (ps_fld (pv 0) (pe_callTy cr_zTuple (by rfl) T.m_tuple (by decide +kernel) (pa_cons (pv 1) pa_nil)) rfl)
    (pss_one (ps_ret (pe_lst (pa_cons (pe_tup (pa_cons pe_str (pa_cons (pe_fld (pv 0) rfl) pa_nil))) pa_nil)))))))))
  · obtain ⟨x0, rfl, h⟩ := n_Desk_settle h
    exact w_Desk_settle T.oc h
theorem ok__law_draws {K : PySem.W.Frag} {mg : Str → Option Value} {base : Heap} {ad : Ad} (T : Txt K mg ad) : FnOk ad.P ad.w K mg base CX0 1 T.f__law_draws T.d__law_draws ["cell", "tops"] (sp__law_draws K ad) := by
  refine T.F__law_draws.ok sc__law_draws (fun vs H Q E h => ?_) (fun cdv A outer s H vs Q E hr h => ⟨t__law_draws K ad, ?_, ?_⟩)
  · obtain ⟨x0, x1, rfl, _⟩ := n__law_draws h
    rfl
  · exact (pss_cons (ps_set (i := 2) sc__law_draws.nd rfl (Or.inl rfl) (pe_lst pa_nil))
    (pss_cons (ps_set (i := 3) sc__law_draws.nd rfl (Or.inl rfl) (pe_op op_zSub (pv 0) (pe_op op_powW pe_int pe_int)))
    (pss_cons (ps_for PassesOwn.never rfl (pi_range1 (by rfl) T.m_range (pa_cons (pe_callB cr_zLen (by rfl) T.m_len (by decide +kernel) (pa_cons (pv 1) pa_nil)) pa_nil)) (pg_name (i := 4) sc__law_draws.nd rfl (Or.inl rfl))
    (pss_one (ps_if (pt_cmpR op_zGe (pv 3) pe_int (nomark _)) (pss_cons (ps_expr (pe_bm PySem.F.plainAttrs_list PySem.F.slot_list_append PySem.F.type_list_append mt_append (pv 2) (pa_cons (pe_op op_zMod (pv 3) (pe_ix ix_seq (pv 1) (pv 4) (fun _ _ => rfl))) pa_nil)))
    (pss_one (ps_set (i := 3) sc__law_draws.nd rfl (Or.inl rfl) (pe_op op_zDiv (pv 3) (pe_ix ix_seq (pv 1) (pv 4) (fun _ _ => rfl)))))) (pss_cons (ps_set (i := 5) sc__law_draws.nd rfl (Or.inl rfl) (pe_op op_zMod (pe_op op_powW (pe_op op_zAdd (pv 0) (pe_op op_zMul pe_int (pe_op op_zAdd (pv 4) pe_int))) pe_int) pe_int))
    (pss_cons (ps_set (i := 5) sc__law_draws.nd rfl (Or.inl rfl) (pe_op op_zDiv (pe_op op_zMod (pe_op op_zMul (pv 5) (pe_op op_zAdd (pv 5) pe_int)) pe_int) pe_int))
    (pss_cons (ps_if (pt_cmpR op_zGt (pe_ix ix_seq (pv 1) (pv 4) (fun _ _ => rfl)) (pe_op op_powW pe_int pe_int) (nomark _)) (pss_one (ps_set (i := 5) sc__law_draws.nd rfl (Or.inl rfl) (pe_op op_powW (pv 5) pe_int))) pss_nil)
    (pss_one (ps_expr (pe_bm PySem.F.plainAttrs_list PySem.F.slot_list_append PySem.F.type_list_append mt_append (pv 2) (pa_cons (pe_op op_zMod (pv 5) (pe_ix ix_seq (pv 1) (pv 4) (fun _ _ => rfl))) pa_nil))))))))))
    (pss_one (ps_ret (pv 2))))))
  · obtain ⟨x0, x1, rfl, h⟩ := n__law_draws h
    exact w__law_draws h
theorem ok__law_stamp {K : PySem.W.Frag} {mg : Str → Option Value} {base : Heap} {ad : Ad} (T : Txt K mg ad) : FnOk ad.P ad.w K mg base CX0 1 T.f__law_stamp T.d__law_stamp ["low", "many", "seat", "turn"] (sp__law_stamp K ad) := by
  refine T.F__law_stamp.ok sc__law_stamp (fun vs H Q E h => ?_) (fun cdv A outer s H vs Q E hr h => ⟨t__law_stamp K ad, ?_, ?_⟩)
  · obtain ⟨x0, x1, x2, x3, rfl, _⟩ := n__law_stamp h
    rfl
  · exact (pss_cons (ps_if (pt_cmpR (op_zEq hr.units) (pe_op op_zMod (pv 1) pe_int) pe_int (nomark _)) (pss_one (ps_ret (pe_tup (pa_cons (pv 1) (pa_cons (pv 2) (pa_cons (pv 3) pa_nil)))))) pss_nil)
    (pss_cons (ps_if (pt_cmpR (op_zEq hr.units) (pe_op op_zMod (pv 1) pe_int) pe_int (nomark _)) (pss_one (ps_ret (pe_tup (pa_cons (pe_op op_zAdd (pe_op op_zPow pe_int pe_int) (pv 0)) (pa_cons (pv 2) (pa_cons (pv 3) pa_nil)))))) pss_nil)
    (pss_one (ps_ret (pe_tup (pa_cons (pv 0) (pa_cons (pe_op op_zMod (pv 2) pe_int) (pa_cons (pv 3) pa_nil))))))))
  · obtain ⟨x0, x1, x2, x3, rfl, h⟩ := n__law_stamp h
    exact w__law_stamp h
theorem ok__law_deed {K : PySem.W.Frag} {mg : Str → Option Value} {base : Heap} {ad : Ad} (T : Txt K mg ad) : FnOk ad.P ad.w K mg base CX0 1 T.f__law_deed T.d__law_deed ["way", "pick", "held", "live", "fresh"] (sp__law_deed K ad) := by
  refine T.F__law_deed.ok sc__law_deed (fun vs H Q E h => ?_) (fun cdv A outer s H vs Q E hr h => ⟨t__law_deed K ad, ?_, ?_⟩)
  · obtain ⟨x0, x1, x2, x3, x4, rfl, _⟩ := n__law_deed h
    rfl
  · exact (pss_cons (ps_if (pt_cmpR (op_zLt hr.units0) (pv 0) pe_int (nomark _)) (pss_one (ps_ret (pe_tup (pa_cons pe_str (pa_cons (pv 4) pa_nil))))) pss_nil)
    (Evl.pss_cut (ps_if (PW.pt (pw_and (pt_cmpR (op_zEq hr.units) (pv 0) pe_int (nomark _)) (pw_and1 (PW.pt (pw_or (pt_cmpR (op_zEq hr.units) (pv 3) (pe_lst pa_nil) (nomark _)) (pw_or1 (pt_cmpR (op_zEq hr.units) (pe_op op_zMod (pv 1) pe_int) pe_int (nomark _)))))))) (pss_one (ps_ret (pe_tup (pa_cons pe_str (pa_cons (pe_ix ix_seq (pv 4) pe_int (fun _ _ => rfl)) pa_nil))))) pss_nil)
    (Evl.pss_cut (ps_if (pt_cmpR (op_zEq hr.units) (pv 0) pe_int (nomark _)) (pss_one (ps_ret (pe_tup (pa_cons pe_str (pa_cons (pe_ix ix_seq (pe_ix ix_seq (pv 3) (pe_op op_zMod (pe_op op_zDiv (pv 1) pe_int) (pe_callB cr_zLen (by rfl) T.m_len (by decide +kernel) (pa_cons (pv 3) pa_nil))) (fun _ _ => rfl)) pe_int (fun _ _ => rfl)) pa_nil))))) pss_nil)
    (Evl.pss_cut (ps_if (PW.pt (pw_or (pt_cmpR (op_zEq hr.units) (pv 0) pe_int (nomark _)) (pw_or1 (pt_cmpR (op_zEq hr.units) (pv 3) (pe_lst pa_nil) (nomark _))))) (pss_one (ps_ret (pe_tup (pa_cons (pe_ix ix_seq (pe_lst (pa_cons pe_str (pa_cons pe_str pa_nil))) (pe_op op_zMod (pv 1) pe_int) (fun _ _ => rfl)) (pa_cons (pe_tup (pa_cons (pe_op op_zAdd (pe_op op_zPow pe_int pe_int) (pv 1)) (pa_cons (pe_ix ix_seq (pv 4) pe_int (fun _ _ => rfl)) (pa_cons (pe_ix ix_seq (pv 4) pe_int (fun _ _ => rfl)) pa_nil)))) pa_nil))))) pss_nil)
    (Evl.pss_cut (ps_if (PW.pt (pw_or (pt_cmpR (op_zEq hr.units) (pv 0) pe_int (nomark _)) (pw_or1 (pt_cmpR op_zGt (pv 0) pe_int (nomark _))))) (pss_one (ps_ret (pe_tup (pa_cons (pe_ix ix_seq (pe_lst (pa_cons pe_str (pa_cons pe_str pa_nil))) (pe_callTy call_int1 (by rfl) T.m_int (by decide +kernel) (pa_cons (pe_cmpR op_zGt (pv 0) pe_int (nomark _)) pa_nil)) (fun _ _ => rfl)) (pa_cons (pe_ix ix_seq (pv 3) (pe_op op_zMod (pv 1) (pe_callB cr_zLen (by rfl) T.m_len (by decide +kernel) (pa_cons (pv 3) pa_nil))) (fun _ _ => rfl)) pa_nil))))) pss_nil)
    (pss_one (ps_ret (pe_tup (pa_cons (pe_ix ix_seq (pe_lst (pa_cons pe_str (pa_cons pe_str pa_nil))) (pe_callTy call_int1 (by rfl) T.m_int (by decide +kernel) (pa_cons (pe_cmpR op_zGt (pv 0) pe_int (nomark _)) pa_nil)) (fun _ _ => rfl)) (pa_cons (pv 2) pa_nil))))))))))
  · obtain ⟨x0, x1, x2, x3, x4, rfl, h⟩ := n__law_deed h
    exact w__law_deed h
theorem ok__law_fits {K : PySem.W.Frag} {mg : Str → Option Value} {base : Heap} {ad : Ad} (T : Txt K mg ad) : FnOk ad.P ad.w K mg base CX0 1 T.f__law_fits T.d__law_fits ["deed", "came", "gone"] (sp__law_fits K ad) := by
  refine T.F__law_fits.ok sc__law_fits (fun vs H Q E h => ?_) (fun cdv A outer s H vs Q E hr h => ⟨t__law_fits K ad, ?_, ?_⟩)
  · obtain ⟨x0, x1, x2, rfl, _⟩ := n__law_fits h
    rfl
  · exact (pss_cons (ps_if (pt_cmpR (op_zEq hr.units) (pe_ix ix_seq (pv 0) pe_int (fun _ _ => rfl)) pe_str (nomark _)) (pss_one (ps_ret (pe_and (pe_cmpR (op_zNotIn hr.units65) (pe_ix ix_seq (pv 0) pe_int (fun _ _ => rfl)) (pv 1) (by rfl)) (pe_one (pe_cmpR (op_zNotIn hr.units65) (pe_ix ix_seq (pe_ix ix_seq (pv 0) pe_int (fun _ _ => rfl)) pe_int (fun _ _ => rfl)) (pv 2) (by rfl)))))) pss_nil)
    (pss_one (ps_ret (pe_or (pe_cmpR (op_zNe hr.units) (pe_ix ix_seq (pv 0) pe_int (fun _ _ => rfl)) pe_str (nomark _)) (pe_one (pe_cmpR (op_zNotIn hr.units65) (pe_ix ix_seq (pv 0) pe_int (fun _ _ => rfl)) (pv 2) (by rfl)))))))
  · obtain ⟨x0, x1, x2, rfl, h⟩ := n__law_fits h
    exact w__law_fits h
theorem ok__law_live_behind {K : PySem.W.Frag} {mg : Str → Option Value} {base : Heap} {ad : Ad} (T : Txt K mg ad) : FnOk ad.P ad.w K mg base CX0 1 T.f__law_live_behind T.d__law_live_behind ["live", "deed"] (sp__law_live_behind K ad) := by
  refine T.F__law_live_behind.ok sc__law_live_behind (fun vs H Q E h => ?_) (fun cdv A outer s H vs Q E hr h => ⟨t__law_live_behind K ad, ?_, ?_⟩)
  · obtain ⟨x0, x1, rfl, _⟩ := n__law_live_behind h
    rfl
  · exact (pss_cons (ps_if (pt_cmpR (op_zEq hr.units) (pe_ix ix_seq (pv 1) pe_int (fun _ _ => rfl)) pe_str (nomark _)) (pss_one (ps_ret (pe_op op_zAdd (pv 0) (pe_lst (pa_cons (pe_ix ix_seq (pv 1) pe_int (fun _ _ => rfl)) pa_nil))))) pss_nil)
    (pss_cons (ps_if (pt_cmpR (op_zEq hr.units) (pe_ix ix_seq (pv 1) pe_int (fun _ _ => rfl)) pe_str (nomark _)) (pss_one (ps_ret (pe_lc (own := [("one", 2)]) rfl sc__law_live_behind.nd (pi_list (pv 0)) (blkOk_by (own := [("one", 2)]) (N := N__law_live_behind) (sc := defScope s__law_live_behind) (by decide +kernel)) (fun _ _ _ _ _ => (pg_name (i := 2) sc__law_live_behind.nd rfl (Or.inl rfl))) (fun _ _ _ _ _ => (pts_one (pt_cmpR (op_zNe hr.units) (pv 2) (pe_ix ix_seq (pv 1) pe_int (fun _ _ => rfl)) (nomark _)))) (fun _ _ _ _ _ => (pv 2))))) pss_nil)
    (pss_cons (ps_if (pt_cmpR (op_zEq hr.units) (pe_ix ix_seq (pv 1) pe_int (fun _ _ => rfl)) pe_str (nomark _)) (pss_one (ps_ret (pe_lc (own := [("one", 2)]) rfl sc__law_live_behind.nd (pi_list (pv 0)) (blkOk_by (own := [("one", 2)]) (N := N__law_live_behind) (sc := defScope s__law_live_behind) (by decide +kernel)) (fun _ _ _ _ _ => (pg_name (i := 2) sc__law_live_behind.nd rfl (Or.inl rfl))) (fun _ _ _ _ _ => (pts_one (pt_cmpR (op_zNe hr.units) (pe_ix ix_seq (pv 2) pe_int (fun _ _ => rfl)) (pe_ix ix_seq (pv 1) pe_int (fun _ _ => rfl)) (nomark _)))) (fun _ _ _ _ _ => (pv 2))))) pss_nil)
    (pss_one (ps_ret (pv 0))))))
  · obtain ⟨x0, x1, rfl, h⟩ := n__law_live_behind h
    exact w__law_live_behind h
theorem ok__law_freed {K : PySem.W.Frag} {mg : Str → Option Value} {base : Heap} {ad : Ad} (T : Txt K mg ad) : FnOk ad.P ad.w K mg base CX0 1 T.f__law_freed T.d__law_freed ["held", "deed"] (sp__law_freed K ad) := by
  refine T.F__law_freed.ok sc__law_freed (fun vs H Q E h => ?_) (fun cdv A outer s H vs Q E hr h => ⟨t__law_freed K ad, ?_, ?_⟩)
  · obtain ⟨x0, x1, rfl, _⟩ := n__law_freed h
    rfl
  · exact (pss_cons (ps_if (pt_cmpR op_zIsN (pv 0) pe_non (nomark _)) (pss_one (ps_ret pe_bl)) pss_nil)
    (pss_cons (ps_if (pt_cmpR (op_zEq hr.units) (pe_ix ix_seq (pv 1) pe_int (fun _ _ => rfl)) pe_str (nomark _)) (pss_one (ps_ret (pe_cmpR (op_zEq hr.units) (pe_ix ix_seq (pv 0) pe_int (fun _ _ => rfl)) (pe_ix ix_seq (pv 1) pe_int (fun _ _ => rfl)) (nomark _)))) pss_nil)
    (pss_one (ps_ret (pe_and (pe_cmpR (op_zNe hr.units) (pe_ix ix_seq (pv 1) pe_int (fun _ _ => rfl)) pe_str (nomark _)) (pe_one (pe_cmpR (op_zEq hr.units) (pe_ix ix_seq (pv 1) pe_int (fun _ _ => rfl)) (pv 0) (nomark _))))))))
  · obtain ⟨x0, x1, rfl, h⟩ := n__law_freed h
    exact w__law_freed h
theorem ok__law_cells {K : PySem.W.Frag} {mg : Str → Option Value} {base : Heap} {ad : Ad} (T : Txt K mg ad) : FnOk ad.P ad.w K mg base CX0 1 T.f__law_cells T.d__law_cells ["script", "start"] (sp__law_cells K ad) := by
  refine T.F__law_cells.ok sc__law_cells (fun vs H Q E h => ?_) (fun cdv A outer s H vs Q E hr h => ⟨t__law_cells K ad, ?_, ?_⟩)
  · obtain ⟨x0, x1, rfl, _⟩ := n__law_cells h
    rfl
  · exact (pss_cons (ps_set (i := 2) sc__law_cells.nd rfl (Or.inl rfl) (pe_callTy cr_zList (by rfl) T.m_list (by decide +kernel) (pa_cons (pe_slice sl_z (pv 0) (po_some (pv 1)) (po_some pe_int)) pa_nil)))
    (pss_cons (ps_for PassesOwn.never rfl (pi_range2 (by rfl) T.m_range (pa_cons (pe_callB cr_zLen (by rfl) T.m_len (by decide +kernel) (pa_cons (pv 2) pa_nil)) (pa_cons pe_int pa_nil))) (pg_name (i := 3) sc__law_cells.nd rfl (Or.inl rfl))
    (pss_one (ps_expr (pe_bm PySem.F.plainAttrs_list PySem.F.slot_list_append PySem.F.type_list_append mt_append (pv 2) (pa_cons (pe_op op_zAdd (pe_op op_zMul (pe_op op_zMod (pe_callB (cr_sum rfl) (by rfl) T.m_sum (by decide +kernel) (pa_cons (pe_slice sl_z (pv 0) po_none (po_some pe_int)) pa_nil)) pe_int) pe_int) (pe_op op_zMul pe_int (pe_op op_zAdd (pv 3) pe_int))) pa_nil)))))
    (pss_one (ps_ret (pv 2)))))
  · obtain ⟨x0, x1, rfl, h⟩ := n__law_cells h
    exact w__law_cells h
theorem ok_Desk_take_ask {K : PySem.W.Frag} {mg : Str → Option Value} {base : Heap} {ad : Ad} (T : Txt K mg ad) : FnOk ad.P ad.w K mg base CX0 2 T.f_Desk_take_ask T.d_Desk_take_ask ["self", "stamp"] (sp_Desk_take_ask K ad) := by
  refine T.F_Desk_take_ask.ok sc_Desk_take_ask (fun vs H Q E h => ?_) (fun cdv A outer s H vs Q E hr h => ⟨t_Desk_take_ask K ad, ?_, ?_⟩)
  · obtain ⟨x0, x1, rfl, _⟩ := n_Desk_take_ask h
    rfl
  · exact (pss_cons (ps_fld (pv 0) (pe_callTy cr_zTuple (by rfl) T.m_tuple (by decide +kernel) (pa_cons (pe_callB cr_sortedTT (by rfl) T.m_sorted (by decide +kernel) (pa_cons (pe_op op_zAdd (pe_fld (pv 0) rfl) (pe_tup (pa_cons (pv 1) pa_nil))) pa_nil)) pa_nil)) rfl)
    (pss_cons (ps_if (PW.pt (pw_and (pt_cmpR op_zNotN (pe_fld (pv 0) rfl) pe_non (nomark _)) (pw_and (pt_cmpR (op_zLt hr.units0) (pv 1) (pe_fld (pv 0) rfl) (nomark _)) (pw_and1 (pt_not (pt_truth (pe_fld (pv 0) rfl) (by intro _; rfl))))))) (pss_cons (ps_fld (pv 0) pe_bl rfl)
    (pss_one (ps_ret (pe_lst (pa_cons (pe_tup (pa_cons pe_str (pa_cons (pe_fld (pv 0) rfl) pa_nil))) pa_nil))))) pss_nil)
    (pss_one (ps_ret (pe_meth0 (pv 0) T.oc.cl_Desk T.me_Desk_settle (ok_Desk_settle T) hr T.b_Desk_settle .nil pass0)))))
  · obtain ⟨x0, x1, rfl, h⟩ := n_Desk_take_ask h
    exact w_Desk_take_ask T.oc h
theorem ok_Desk_take_given {K : PySem.W.Frag} {mg : Str → Option Value} {base : Heap} {ad : Ad} (T : Txt K mg ad) : FnOk ad.P ad.w K mg base CX0 2 T.f_Desk_take_given T.d_Desk_take_given ["self", "stamp"] (sp_Desk_take_given K ad) := by
  refine T.F_Desk_take_given.ok sc_Desk_take_given (fun vs H Q E h => ?_) (fun cdv A outer s H vs Q E hr h => ⟨t_Desk_take_given K ad, ?_, ?_⟩)
  · obtain ⟨x0, x1, rfl, _⟩ := n_Desk_take_given h
    rfl
  · exact (pss_cons (ps_if (pt_cmpR (op_zNe hr.units) (pe_fld (pv 0) rfl) (pv 1) (nomark _)) (pss_one (ps_ret (pe_lst pa_nil))) pss_nil)
    (pss_cons (ps_fld (pv 0) pe_non rfl)
    (pss_cons (ps_fld (pv 0) (pe_callTy cr_zTuple (by rfl) T.m_tuple (by decide +kernel) (pa_cons (pe_callB cr_sortedTT (by rfl) T.m_sorted (by decide +kernel) (pa_cons (pe_op op_zAdd (pe_fld (pv 0) rfl) (pe_tup (pa_cons (pv 1) pa_nil))) pa_nil)) pa_nil)) rfl)
    (pss_one (ps_ret (pe_meth0 (pv 0) T.oc.cl_Desk T.me_Desk_settle (ok_Desk_settle T) hr T.b_Desk_settle .nil pass0))))))
  · obtain ⟨x0, x1, rfl, h⟩ := n_Desk_take_given h
    exact w_Desk_take_given T.oc h
theorem ok_Desk_take_done {K : PySem.W.Frag} {mg : Str → Option Value} {base : Heap} {ad : Ad} (T : Txt K mg ad) : FnOk ad.P ad.w K mg base CX0 2 T.f_Desk_take_done T.d_Desk_take_done ["self", "stamp"] (sp_Desk_take_done K ad) := by
  refine T.F_Desk_take_done.ok sc_Desk_take_done (fun vs H Q E h => ?_) (fun cdv A outer s H vs Q E hr h => ⟨t_Desk_take_done K ad, ?_, ?_⟩)
  · obtain ⟨x0, x1, rfl, _⟩ := n_Desk_take_done h
    rfl
  · exact (Evl.pss_cut (ps_if (pt_cmpR (op_zEq hr.units) (pe_fld (pv 0) rfl) (pv 1) (nomark _)) (pss_one (ps_fld (pv 0) pe_non rfl)) pss_nil)
    (pss_cons (ps_fld (pv 0) (pe_callTy cr_zTuple (by rfl) T.m_tuple (by decide +kernel) (pa_cons (pe_lc (own := [("one", 2)]) rfl sc_Desk_take_done.nd (pi_tup (pe_fld (pv 0) rfl)) (blkOk_by (own := [("one", 2)]) (N := N_Desk_take_done) (sc := defScope s_Desk_take_done) (by decide +kernel)) (fun _ _ _ _ _ => (pg_name (i := 2) sc_Desk_take_done.nd rfl (Or.inl rfl))) (fun _ _ _ _ _ => (pts_one (pt_cmpR (op_zNe hr.units) (pv 2) (pv 1) (nomark _)))) (fun _ _ _ _ _ => (pv 2))) pa_nil)) rfl)
    (pss_one (ps_ret (pe_meth0 (pv 0) T.oc.cl_Desk T.me_Desk_settle (ok_Desk_settle T) hr T.b_Desk_settle .nil pass0)))))
  · obtain ⟨x0, x1, rfl, h⟩ := n_Desk_take_done h
    exact w_Desk_take_done T.oc h
theorem ok_Desk_take_gone {K : PySem.W.Frag} {mg : Str → Option Value} {base : Heap} {ad : Ad} (T : Txt K mg ad) : FnOk ad.P ad.w K mg base CX0 2 T.f_Desk_take_gone T.d_Desk_take_gone ["self", "seat"] (sp_Desk_take_gone K ad) := by
  refine T.F_Desk_take_gone.ok sc_Desk_take_gone (fun vs H Q E h => ?_) (fun cdv A outer s H vs Q E hr h => ⟨t_Desk_take_gone K ad, ?_, ?_⟩)
  · obtain ⟨x0, x1, rfl, _⟩ := n_Desk_take_gone h
    rfl
  · exact (Evl.pss_cut (ps_if (PW.pt (pw_and (pt_cmpR op_zNotN (pe_fld (pv 0) rfl) pe_non (nomark _)) (pw_and1 (pt_cmpR (op_zEq hr.units) (pe_ix ix_seq (pe_fld (pv 0) rfl) pe_int (fun _ _ => rfl)) (pv 1) (nomark _))))) (pss_one (ps_fld (pv 0) pe_non rfl)) pss_nil)
    (pss_cons (ps_fld (pv 0) (pe_callTy cr_zTuple (by rfl) T.m_tuple (by decide +kernel) (pa_cons (pe_lc (own := [("one", 2)]) rfl sc_Desk_take_gone.nd (pi_tup (pe_fld (pv 0) rfl)) (blkOk_by (own := [("one", 2)]) (N := N_Desk_take_gone) (sc := defScope s_Desk_take_gone) (by decide +kernel)) (fun _ _ _ _ _ => (pg_name (i := 2) sc_Desk_take_gone.nd rfl (Or.inl rfl))) (fun _ _ _ _ _ => (pts_one (pt_cmpR (op_zNe hr.units) (pe_ix ix_seq (pv 2) pe_int (fun _ _ => rfl)) (pv 1) (nomark _)))) (fun _ _ _ _ _ => (pv 2))) pa_nil)) rfl)
    (pss_one (ps_ret (pe_meth0 (pv 0) T.oc.cl_Desk T.me_Desk_settle (ok_Desk_settle T) hr T.b_Desk_settle .nil pass0)))))
  · obtain ⟨x0, x1, rfl, h⟩ := n_Desk_take_gone h
    exact w_Desk_take_gone T.oc h
theorem ok__law_told {K : PySem.W.Frag} {mg : Str → Option Value} {base : Heap} {ad : Ad} (T : Txt K mg ad) : FnOk ad.P ad.w K mg base CX0 3 T.f__law_told T.d__law_told ["desk", "deed"] (sp__law_told K ad) := by
  refine T.F__law_told.ok sc__law_told (fun vs H Q E h => ?_) (fun cdv A outer s H vs Q E hr h => ⟨t__law_told K ad, ?_, ?_⟩)
  · obtain ⟨x0, x1, rfl, _⟩ := n__law_told h
    rfl
  · exact (pss_cons (ps_if (pt_cmpR (op_zEq hr.units) (pe_ix ix_seq (pv 1) pe_int (fun _ _ => rfl)) pe_str (nomark _)) (pss_one (ps_ret (pe_meth (pv 0) T.oc.cl_Desk T.me_Desk_take_ask (ok_Desk_take_ask T) hr T.b_Desk_take_ask .nil pass0 (pa_cons (pe_ix ix_seq (pv 1) pe_int (fun _ _ => rfl)) pa_nil)))) pss_nil)
    (pss_cons (ps_if (pt_cmpR (op_zEq hr.units) (pe_ix ix_seq (pv 1) pe_int (fun _ _ => rfl)) pe_str (nomark _)) (pss_one (ps_ret (pe_meth (pv 0) T.oc.cl_Desk T.me_Desk_take_given (ok_Desk_take_given T) hr T.b_Desk_take_given .nil pass0 (pa_cons (pe_ix ix_seq (pv 1) pe_int (fun _ _ => rfl)) pa_nil)))) pss_nil)
    (pss_cons (ps_if (pt_cmpR (op_zEq hr.units) (pe_ix ix_seq (pv 1) pe_int (fun _ _ => rfl)) pe_str (nomark _)) (pss_one (ps_ret (pe_meth (pv 0) T.oc.cl_Desk T.me_Desk_take_done (ok_Desk_take_done T) hr T.b_Desk_take_done .nil pass0 (pa_cons (pe_ix ix_seq (pv 1) pe_int (fun _ _ => rfl)) pa_nil)))) pss_nil)
    (pss_one (ps_ret (pe_meth (pv 0) T.oc.cl_Desk T.me_Desk_take_gone (ok_Desk_take_gone T) hr T.b_Desk_take_gone .nil pass0 (pa_cons (pe_ix ix_seq (pv 1) pe_int (fun _ _ => rfl)) pa_nil)))))))
  · obtain ⟨x0, x1, rfl, h⟩ := n__law_told h
    exact w__law_told T.oc h
theorem ok__law_same {K : PySem.W.Frag} {mg : Str → Option Value} {base : Heap} {ad : Ad} (T : Txt K mg ad) : ∀ d : Nat, FnOk ad.P ad.w K mg base CX0 (1 + d) T.f__law_same T.d__law_same ["found", "due"] (sp__law_same K ad d)
  | 0 => T.F__law_same.ok sc__law_same (fun vs H Q E h => h.elim) (fun cdv A outer s H vs Q E hr h => h.elim)
  | d + 1 => by
    refine T.F__law_same.ok sc__law_same (fun vs H Q E h => ?_) (fun cdv A outer s H vs Q E hr h => ⟨t__law_same K ad d, ?_, ?_⟩)
    · obtain ⟨x0, x1, rfl, _⟩ := n__law_same h
      rfl
    · exact (pss_cons (ps_if (PW.pt (pw_or (pt_truth (pe_callB call_isi (by rfl) T.m_isinstance (by decide +kernel) (pa_cons (pv 1) (pa_cons (pe_bltn (by rfl) T.m_tuple (by decide +kernel) rfl) pa_nil))) (by intro _; rfl)) (pw_or1 (pt_truth (pe_callB call_isi (by rfl) T.m_isinstance (by decide +kernel) (pa_cons (pv 1) (pa_cons (pe_bltn (by rfl) T.m_list (by decide +kernel) rfl) pa_nil))) (by intro _; rfl))))) (pss_cons (ps_if (PW.pt (pw_or (pt_cmpR (op_zNe hr.units) (pe_callB call_isi (by rfl) T.m_isinstance (by decide +kernel) (pa_cons (pv 0) (pa_cons (pe_bltn (by rfl) T.m_tuple (by decide +kernel) rfl) pa_nil))) (pe_callB call_isi (by rfl) T.m_isinstance (by decide +kernel) (pa_cons (pv 1) (pa_cons (pe_bltn (by rfl) T.m_tuple (by decide +kernel) rfl) pa_nil))) (nomark _)) (pw_or1 (pt_cmpR (op_zNe hr.units) (pe_callB call_isi (by rfl) T.m_isinstance (by decide +kernel) (pa_cons (pv 0) (pa_cons (pe_bltn (by rfl) T.m_list (by decide +kernel) rfl) pa_nil))) (pe_callB call_isi (by rfl) T.m_isinstance (by decide +kernel) (pa_cons (pv 1) (pa_cons (pe_bltn (by rfl) T.m_list (by decide +kernel) rfl) pa_nil))) (nomark _))))) (pss_one (ps_ret pe_bl)) pss_nil)
    (pss_cons (ps_if (pt_cmpR (op_zNe hr.units) (pe_callB cr_zLen (by rfl) T.m_len (by decide +kernel) (pa_cons (pv 0) pa_nil)) (pe_callB cr_zLen (by rfl) T.m_len (by decide +kernel) (pa_cons (pv 1) pa_nil)) (nomark _)) (pss_one (ps_ret pe_bl)) pss_nil)
    (pss_cons (ps_for PassesOwn.never rfl (pi_range1 (by rfl) T.m_range (pa_cons (pe_callB cr_zLen (by rfl) T.m_len (by decide +kernel) (pa_cons (pv 1) pa_nil)) pa_nil)) (pg_name (i := 2) sc__law_same.nd rfl (Or.inl rfl))
    (pss_one (ps_if (pt_not (pt_truth (pe_call (ok__law_same T d) hr (by rfl) T.g__law_same T.F__law_same.kp T.b__law_same .nil pass0 (pa_cons (pe_ix ix_seq (pv 0) (pv 2) (fun _ _ => rfl)) (pa_cons (pe_ix ix_seq (pv 1) (pv 2) (fun _ _ => rfl)) pa_nil))) (by intro _; rfl))) (pss_one (ps_ret pe_bl)) pss_nil)))
    (pss_one (ps_ret pe_bl))))) pss_nil)
    (pss_one (ps_ret (pe_and (pe_cmpR (op_zEq hr.units) (pe_callB call_isi (by rfl) T.m_isinstance (by decide +kernel) (pa_cons (pv 0) (pa_cons (pe_bltn (by rfl) T.m_bool (by decide +kernel) rfl) pa_nil))) (pe_callB call_isi (by rfl) T.m_isinstance (by decide +kernel) (pa_cons (pv 1) (pa_cons (pe_bltn (by rfl) T.m_bool (by decide +kernel) rfl) pa_nil))) (nomark _)) (pe_one (pe_cmpR (op_zEq hr.units) (pv 0) (pv 1) (nomark _)))))))
    · obtain ⟨x0, x1, rfl, h⟩ := n__law_same h
      exact w__law_same h
theorem ok__law_desk {K : PySem.W.Frag} {mg : Str → Option Value} {base : Heap} {ad : Ad} (T : Txt K mg ad) : FnOk ad.P ad.w K mg base CX0 6 T.f__law_desk T.d__law_desk ["desk", "held", "live", "since"] (sp__law_desk K ad) := by
  refine T.F__law_desk.ok sc__law_desk (fun vs H Q E h => ?_) (fun cdv A outer s H vs Q E hr h => ⟨t__law_desk K ad, ?_, ?_⟩)
  · obtain ⟨x0, x1, x2, x3, rfl, _⟩ := n__law_desk h
    rfl
  · exact (pss_cons (ps_setLc (i := 4) (own := [("one", 5)]) rfl sc__law_desk.nd rfl rfl (sw_true rfl rfl rfl (by decide +kernel)) (pi_list (pe_callB cr_sortedTI (by rfl) T.m_sorted (by decide +kernel) (pa_cons (pv 2) pa_nil))) (blkOk_by (own := [("one", 5)]) (N := N__law_desk) (sc := defScope s__law_desk) (by decide +kernel)) (fun _ _ _ _ _ => (pg_name (i := 5) sc__law_desk.nd rfl (Or.inl rfl))) (fun _ _ _ _ _ => (pts_one (pt_cmpR (op_zNe hr.units) (pv 5) (pv 1) (nomark _)))) (fun _ _ _ _ _ => (pv 5)))
    (pss_cons (ps_if (PW.pt (pw_or (pt_not (pt_truth (pe_call (ok__law_same T 4) hr (by rfl) T.g__law_same T.F__law_same.kp T.b__law_same .nil pass0 (pa_cons (pe_fld (pv 0) rfl) (pa_cons (pv 1) pa_nil))) (by intro _; rfl))) (pw_or1 (pt_not (pt_truth (pe_call (ok__law_same T 4) hr (by rfl) T.g__law_same T.F__law_same.kp T.b__law_same .nil pass0 (pa_cons (pe_fld (pv 0) rfl) (pa_cons (pe_cmpR (op_zNe hr.units) (pv 3) (pe_lst pa_nil) (nomark _)) pa_nil))) (by intro _; rfl)))))) (pss_one (ps_ret pe_bl)) pss_nil)
    (pss_one (ps_ret (pe_and (pe_callB call_isi (by rfl) T.m_isinstance (by decide +kernel) (pa_cons (pe_fld (pv 0) rfl) (pa_cons (pe_bltn (by rfl) T.m_tuple (by decide +kernel) rfl) pa_nil))) (pe_and (pe_cmpR (op_zEq hr.units) (pe_fld (pv 0) rfl) (pe_callTy cr_zTuple (by rfl) T.m_tuple (by decide +kernel) (pa_cons (pv 4) pa_nil)) (nomark _)) (pe_one (pe_cmpR (op_zEq hr.units) (pe_callB (cr_lenO (ok_Desk___len__ T) (hr.mono (by decide)) T.b_Desk___len__ T.me_Desk___len__) (by rfl) T.m_len (by decide +kernel) (pa_cons (pv 0) pa_nil)) (pe_callB cr_zLen (by rfl) T.m_len (by decide +kernel) (pa_cons (pv 4) pa_nil)) (nomark _)))))))))
  · obtain ⟨x0, x1, x2, x3, rfl, h⟩ := n__law_desk h
    exact w__law_desk T.oc h
theorem ok_law {K : PySem.W.Frag} {mg : Str → Option Value} {base : Heap} {ad : Ad} (T : Txt K mg ad) : FnOk ad.P ad.w K mg base CX0 7 T.f_law T.d_law ["script"] (sp_law K ad) := by
  refine T.F_law.ok sc_law (fun vs H Q E h => ?_) (fun cdv A outer s H vs Q E hr h => ⟨t_law K ad, ?_, ?_⟩)
  · obtain ⟨x0, rfl, _⟩ := n_law h
    rfl
  · exact (pss_cons (ps_set (i := 1) sc_law.nd rfl (Or.inl rfl) (pe_lst (pa_cons (pe_make0 T.mk_Desk (ok_Desk___init__ T) (hr.mono (by decide)) (by rfl) T.g_Desk T.b_Desk___init__ .nil pass0) (pa_cons (pe_make0 T.mk_Desk (ok_Desk___init__ T) (hr.mono (by decide)) (by rfl) T.g_Desk T.b_Desk___init__ .nil pass0) pa_nil))))
    (pss_cons (ps_set (i := 2) sc_law.nd rfl (Or.inl rfl) (pe_lst (pa_cons pe_non (pa_cons pe_non pa_nil))))
    (pss_cons (ps_set (i := 3) sc_law.nd rfl (Or.inl rfl) (pe_lst (pa_cons (pe_lst pa_nil) (pa_cons (pe_lst pa_nil) pa_nil))))
    (pss_cons (ps_set (i := 4) sc_law.nd rfl (Or.inl rfl) (pe_lst (pa_cons (pe_lst pa_nil) (pa_cons (pe_lst pa_nil) pa_nil))))
    (pss_cons (ps_set (i := 5) sc_law.nd rfl (Or.inl rfl) (pe_lst (pa_cons (pe_lst pa_nil) (pa_cons (pe_lst pa_nil) pa_nil))))
    (pss_cons (ps_set (i := 6) sc_law.nd rfl (Or.inl rfl) (pe_lst (pa_cons (pe_lst pa_nil) (pa_cons (pe_lst pa_nil) pa_nil))))
    (pss_cons (ps_for PassesOwn.never rfl (pi_list (pe_call (ok__law_cells T) (hr.mono (by decide)) (by rfl) T.g__law_cells T.F__law_cells.kp T.b__law_cells .nil pass0 (pa_cons (pv 0) (pa_cons pe_int pa_nil)))) (pg_name (i := 7) sc_law.nd rfl (Or.inl rfl))
    (pss_cons (ps_asg (pe_call (ok__law_draws T) (hr.mono (by decide)) (by rfl) T.g__law_draws T.F__law_draws.kp T.b__law_draws .nil pass0 (pa_cons (pv 7) (pa_cons (pe_lst (pa_cons pe_int (pa_cons pe_int (pa_cons pe_int (pa_cons pe_int (pa_cons (pe_op op_zPow pe_int pe_int) (pa_cons pe_int (pa_cons pe_int pa_nil)))))))) pa_nil))) (pg_lst rfl (pgs_cons (pg_name (i := 8) sc_law.nd rfl (Or.inl rfl)) (pgs_cons (pg_name (i := 9) sc_law.nd rfl (Or.inl rfl)) (pgs_cons (pg_name (i := 10) sc_law.nd rfl (Or.inl rfl)) (pgs_cons (pg_name (i := 11) sc_law.nd rfl (Or.inl rfl)) (pgs_cons (pg_name (i := 12) sc_law.nd rfl (Or.inl rfl)) (pgs_cons (pg_name (i := 13) sc_law.nd rfl (Or.inl rfl)) (pgs_cons (pg_name (i := 14) sc_law.nd rfl (Or.inl rfl)) pgs_nil)))))))))
    (pss_cons (ps_set (i := 15) sc_law.nd rfl (Or.inl rfl) (pe_call (ok__law_deed T) (hr.mono (by decide)) (by rfl) T.g__law_deed T.F__law_deed.kp T.b__law_deed .nil pass0 (pa_cons (pv 9) (pa_cons (pv 10) (pa_cons (pe_ix ix_seq (pv 2) (pv 8) (fun _ _ => rfl)) (pa_cons (pe_ix ix_seq (pv 3) (pv 8) (fun _ _ => rfl)) (pa_cons (pe_call (ok__law_stamp T) (hr.mono (by decide)) (by rfl) T.g__law_stamp T.F__law_stamp.kp T.b__law_stamp .nil pass0 (pa_cons (pv 11) (pa_cons (pv 12) (pa_cons (pv 13) (pa_cons (pv 14) pa_nil))))) pa_nil)))))))
    (Evl.pss_cut (ps_if (pt_truth (pe_call (ok__law_fits T) (hr.mono (by decide)) (by rfl) T.g__law_fits T.F__law_fits.kp T.b__law_fits .nil pass0 (pa_cons (pv 15) (pa_cons (pe_ix ix_seq (pv 5) (pv 8) (fun _ _ => rfl)) (pa_cons (pe_ix ix_seq (pv 6) (pv 8) (fun _ _ => rfl)) pa_nil)))) (by intro _; rfl)) (pss_cons (ps_set (i := 16) sc_law.nd rfl (Or.inl rfl) (pe_lst pa_nil))
    (pss_cons (ps_asg (pe_call (ok__law_live_behind T) (hr.mono (by decide)) (by rfl) T.g__law_live_behind T.F__law_live_behind.kp T.b__law_live_behind .nil pass0 (pa_cons (pe_ix ix_seq (pv 3) (pv 8) (fun _ _ => rfl)) (pa_cons (pv 15) pa_nil))) (pg_sub (pv 3) (pv 8) set_list))
    (Evl.pss_cut (ps_if (pt_cmpR (op_zEq hr.units) (pe_ix ix_seq (pv 15) pe_int (fun _ _ => rfl)) pe_str (nomark _)) (pss_one (ps_expr (pe_bm PySem.F.plainAttrs_list PySem.F.slot_list_append PySem.F.type_list_append mt_append (pe_ix ix_seq (pv 5) (pv 8) (fun _ _ => rfl)) (pa_cons (pe_ix ix_seq (pv 15) pe_int (fun _ _ => rfl)) pa_nil)))) pss_nil)
    (Evl.pss_cut (ps_if (pt_cmpR (op_zEq hr.units) (pe_ix ix_seq (pv 15) pe_int (fun _ _ => rfl)) pe_str (nomark _)) (pss_one (ps_expr (pe_bm PySem.F.plainAttrs_list PySem.F.slot_list_append PySem.F.type_list_append mt_append (pe_ix ix_seq (pv 6) (pv 8) (fun _ _ => rfl)) (pa_cons (pe_ix ix_seq (pv 15) pe_int (fun _ _ => rfl)) pa_nil)))) pss_nil)
    (Evl.pss_cut (ps_if (pt_truth (pe_call (ok__law_freed T) (hr.mono (by decide)) (by rfl) T.g__law_freed T.F__law_freed.kp T.b__law_freed .nil pass0 (pa_cons (pe_ix ix_seq (pv 2) (pv 8) (fun _ _ => rfl)) (pa_cons (pv 15) pa_nil))) (by intro _; rfl)) (pss_cons (ps_asg (pe_lst pa_nil) (pg_sub (pv 4) (pv 8) set_list))
    (pss_cons (ps_asg (pe_callBK (cr_minTD rfl hr) (by rfl) T.m_min (by decide +kernel) (pa_cons (pe_ix ix_seq (pv 3) (pv 8) (fun _ _ => rfl)) pa_nil) (pk_cons pe_non pk_nil)) (pg_sub (pv 2) (pv 8) set_list))
    (pss_one (ps_if (pt_cmpR (op_zNe hr.units) (pe_ix ix_seq (pv 3) (pv 8) (fun _ _ => rfl)) (pe_lst pa_nil) (nomark _)) (pss_one (ps_set (i := 16) sc_law.nd rfl (Or.inl rfl) (pe_lst (pa_cons (pe_tup (pa_cons pe_str (pa_cons (pe_ix ix_seq (pv 2) (pv 8) (fun _ _ => rfl)) pa_nil))) pa_nil)))) pss_nil)))) (pss_one (ps_if (PW.pt (pw_and (pt_cmpR (op_zEq hr.units) (pe_ix ix_seq (pv 15) pe_int (fun _ _ => rfl)) pe_str (nomark _)) (pw_and1 (pt_cmpR (op_zLt hr.units0) (pe_ix ix_seq (pv 15) pe_int (fun _ _ => rfl)) (pe_ix ix_seq (pv 2) (pv 8) (fun _ _ => rfl)) (nomark _))))) (pss_cons (ps_if (pt_cmpR (op_zEq hr.units) (pe_ix ix_seq (pv 4) (pv 8) (fun _ _ => rfl)) (pe_lst pa_nil) (nomark _)) (pss_one (ps_set (i := 16) sc_law.nd rfl (Or.inl rfl) (pe_lst (pa_cons (pe_tup (pa_cons pe_str (pa_cons (pe_ix ix_seq (pv 2) (pv 8) (fun _ _ => rfl)) pa_nil))) pa_nil)))) pss_nil)
    (pss_one (ps_expr (pe_bm PySem.F.plainAttrs_list PySem.F.slot_list_append PySem.F.type_list_append mt_append (pe_ix ix_seq (pv 4) (pv 8) (fun _ _ => rfl)) (pa_cons (pe_ix ix_seq (pv 15) pe_int (fun _ _ => rfl)) pa_nil))))) pss_nil)))
    (pss_one (ps_if (pt_not (pt_truth (pe_call (ok__law_same T 4) (hr.mono (by decide)) (by rfl) T.g__law_same T.F__law_same.kp T.b__law_same .nil pass0 (pa_cons (pe_call (ok__law_told T) (hr.mono (by decide)) (by rfl) T.g__law_told T.F__law_told.kp T.b__law_told .nil pass0 (pa_cons (pe_ix ix_seq (pv 1) (pv 8) (fun _ _ => rfl)) (pa_cons (pv 15) pa_nil))) (pa_cons (pv 16) pa_nil))) (by intro _; rfl))) (pss_one (ps_ret pe_bl)) pss_nil))))))) pss_nil)
    (pss_one (ps_for PassesOwn.never rfl (pi_range1 (by rfl) T.m_range (pa_cons pe_int pa_nil)) (pg_name (i := 17) sc_law.nd rfl (Or.inl rfl))
    (pss_one (ps_if (pt_not (pt_truth (pe_call (ok__law_desk T) hr (by rfl) T.g__law_desk T.F__law_desk.kp T.b__law_desk .nil pass0 (pa_cons (pe_ix ix_seq (pv 1) (pv 17) (fun _ _ => rfl)) (pa_cons (pe_ix ix_seq (pv 2) (pv 17) (fun _ _ => rfl)) (pa_cons (pe_ix ix_seq (pv 3) (pv 17) (fun _ _ => rfl)) (pa_cons (pe_ix ix_seq (pv 4) (pv 17) (fun _ _ => rfl)) pa_nil))))) (by intro _; rfl))) (pss_one (ps_ret pe_bl)) pss_nil))))))))
    (pss_one (ps_ret pe_bl)))))))))
  · obtain ⟨x0, rfl, h⟩ := n_law h
    exact w_law T.oc h
theorem all_mk {l : PySem.W.OpenLaw} {w : World} {K : PySem.W.Frag} {h : Heap} {mg : Str → Option Value} {fa : Addr} (X : K.In h) (G : h.Ns mainGlobals mg) (hfa : mg "law" = some (.ref fa))
    {A_Desk : Addr}
    (a_Desk : PySem.W.nsIn K mainGlobals "Desk" = some (some (.ref A_Desk)))
    (pg_Desk : PySem.W.plainGet K A_Desk Str.empty = true)
    (hd_Desk : PySem.W.hasDictIn K A_Desk = true)
    (po_Desk : PySem.W.plainOver K A_Desk = true)
    (sa_Desk : PySem.W.findIn K (.ref A_Desk) "__setattr__" = some (some (.builtin "object.__setattr__")))
    (mk_Desk : PySem.W.makesIn K A_Desk = true)
    (kc_Desk : PySem.W.keepIn K (.ref A_Desk) = true)
    (n_Desk_holder : PySem.W.findIn K (.ref A_Desk) "holder" = some none)
    (n_Desk_queue : PySem.W.findIn K (.ref A_Desk) "queue" = some none)
    (n_Desk_called : PySem.W.findIn K (.ref A_Desk) "called" = some none)
    {f_Desk___init__ : Addr} {oc_Desk___init__ kV_Desk___init__ dc_Desk___init__ pm_Desk___init__ cd_Desk___init__ ct_Desk___init__ : Value} {od_Desk___init__ an_Desk___init__ : Option Addr} {sl_Desk___init__ : Array (Option Value)}
    (a_Desk___init__ : PySem.W.findIn K (.ref A_Desk) "__init__" = some (some (.ref f_Desk___init__)))
    (i_Desk___init__ : PySem.W.isFn K (.ref f_Desk___init__) = true)
    (l_Desk___init__ : K.lookup f_Desk___init__ = some ⟨oc_Desk___init__, od_Desk___init__, .func (PySem.W.fnOf "__init__" "Desk.__init__" (defArgs s_Desk___init__) (defBody s_Desk___init__) (defScope s_Desk___init__) .none kV_Desk___init__ dc_Desk___init__ pm_Desk___init__ an_Desk___init__ cd_Desk___init__ ct_Desk___init__), sl_Desk___init__⟩) (c_Desk___init__ : PySem.W.codeIn K cd_Desk___init__ "Desk.__init__" = true) (k_Desk___init__ : PySem.W.keepIn K (.ref f_Desk___init__) = true)
    {f_Desk___len__ : Addr} {oc_Desk___len__ kV_Desk___len__ dc_Desk___len__ pm_Desk___len__ cd_Desk___len__ ct_Desk___len__ : Value} {od_Desk___len__ an_Desk___len__ : Option Addr} {sl_Desk___len__ : Array (Option Value)}
    (a_Desk___len__ : PySem.W.findIn K (.ref A_Desk) "__len__" = some (some (.ref f_Desk___len__)))
    (i_Desk___len__ : PySem.W.isFn K (.ref f_Desk___len__) = true)
    (l_Desk___len__ : K.lookup f_Desk___len__ = some ⟨oc_Desk___len__, od_Desk___len__, .func (PySem.W.fnOf "__len__" "Desk.__len__" (defArgs s_Desk___len__) (defBody s_Desk___len__) (defScope s_Desk___len__) .none kV_Desk___len__ dc_Desk___len__ pm_Desk___len__ an_Desk___len__ cd_Desk___len__ ct_Desk___len__), sl_Desk___len__⟩) (c_Desk___len__ : PySem.W.codeIn K cd_Desk___len__ "Desk.__len__" = true) (k_Desk___len__ : PySem.W.keepIn K (.ref f_Desk___len__) = true)
    {f_Desk_take_ask : Addr} {oc_Desk_take_ask kV_Desk_take_ask dc_Desk_take_ask pm_Desk_take_ask cd_Desk_take_ask ct_Desk_take_ask : Value} {od_Desk_take_ask an_Desk_take_ask : Option Addr} {sl_Desk_take_ask : Array (Option Value)}
    (a_Desk_take_ask : PySem.W.findIn K (.ref A_Desk) "take_ask" = some (some (.ref f_Desk_take_ask)))
    (i_Desk_take_ask : PySem.W.isFn K (.ref f_Desk_take_ask) = true)
    (l_Desk_take_ask : K.lookup f_Desk_take_ask = some ⟨oc_Desk_take_ask, od_Desk_take_ask, .func (PySem.W.fnOf "take_ask" "Desk.take_ask" (defArgs s_Desk_take_ask) (defBody s_Desk_take_ask) (defScope s_Desk_take_ask) .none kV_Desk_take_ask dc_Desk_take_ask pm_Desk_take_ask an_Desk_take_ask cd_Desk_take_ask ct_Desk_take_ask), sl_Desk_take_ask⟩) (c_Desk_take_ask : PySem.W.codeIn K cd_Desk_take_ask "Desk.take_ask" = true) (k_Desk_take_ask : PySem.W.keepIn K (.ref f_Desk_take_ask) = true)
    {f_Desk_take_given : Addr} {oc_Desk_take_given kV_Desk_take_given dc_Desk_take_given pm_Desk_take_given cd_Desk_take_given ct_Desk_take_given : Value} {od_Desk_take_given an_Desk_take_given : Option Addr} {sl_Desk_take_given : Array (Option Value)}
    (a_Desk_take_given : PySem.W.findIn K (.ref A_Desk) "take_given" = some (some (.ref f_Desk_take_given)))
    (i_Desk_take_given : PySem.W.isFn K (.ref f_Desk_take_given) = true)
    (l_Desk_take_given : K.lookup f_Desk_take_given = some ⟨oc_Desk_take_given, od_Desk_take_given, .func (PySem.W.fnOf "take_given" "Desk.take_given" (defArgs s_Desk_take_given) (defBody s_Desk_take_given) (defScope s_Desk_take_given) .none kV_Desk_take_given dc_Desk_take_given pm_Desk_take_given an_Desk_take_given cd_Desk_take_given ct_Desk_take_given), sl_Desk_take_given⟩) (c_Desk_take_given : PySem.W.codeIn K cd_Desk_take_given "Desk.take_given" = true) (k_Desk_take_given : PySem.W.keepIn K (.ref f_Desk_take_given) = true)
    {f_Desk_take_done : Addr} {oc_Desk_take_done kV_Desk_take_done dc_Desk_take_done pm_Desk_take_done cd_Desk_take_done ct_Desk_take_done : Value} {od_Desk_take_done an_Desk_take_done : Option Addr} {sl_Desk_take_done : Array (Option Value)}
    (a_Desk_take_done : PySem.W.findIn K (.ref A_Desk) "take_done" = some (some (.ref f_Desk_take_done)))
    (i_Desk_take_done : PySem.W.isFn K (.ref f_Desk_take_done) = true)
    (l_Desk_take_done : K.lookup f_Desk_take_done = some ⟨oc_Desk_take_done, od_Desk_take_done, .func (PySem.W.fnOf "take_done" "Desk.take_done" (defArgs s_Desk_take_done) (defBody s_Desk_take_done) (defScope s_Desk_take_done) .none kV_Desk_take_done dc_Desk_take_done pm_Desk_take_done an_Desk_take_done cd_Desk_take_done ct_Desk_take_done), sl_Desk_take_done⟩) (c_Desk_take_done : PySem.W.codeIn K cd_Desk_take_done "Desk.take_done" = true) (k_Desk_take_done : PySem.W.keepIn K (.ref f_Desk_take_done) = true)
    {f_Desk_take_gone : Addr} {oc_Desk_take_gone kV_Desk_take_gone dc_Desk_take_gone pm_Desk_take_gone cd_Desk_take_gone ct_Desk_take_gone : Value} {od_Desk_take_gone an_Desk_take_gone : Option Addr} {sl_Desk_take_gone : Array (Option Value)}
    (a_Desk_take_gone : PySem.W.findIn K (.ref A_Desk) "take_gone" = some (some (.ref f_Desk_take_gone)))
    (i_Desk_take_gone : PySem.W.isFn K (.ref f_Desk_take_gone) = true)
    (l_Desk_take_gone : K.lookup f_Desk_take_gone = some ⟨oc_Desk_take_gone, od_Desk_take_gone, .func (PySem.W.fnOf "take_gone" "Desk.take_gone" (defArgs s_Desk_take_gone) (defBody s_Desk_take_gone) (defScope s_Desk_take_gone) .none kV_Desk_take_gone dc_Desk_take_gone pm_Desk_take_gone an_Desk_take_gone cd_Desk_take_gone ct_Desk_take_gone), sl_Desk_take_gone⟩) (c_Desk_take_gone : PySem.W.codeIn K cd_Desk_take_gone "Desk.take_gone" = true) (k_Desk_take_gone : PySem.W.keepIn K (.ref f_Desk_take_gone) = true)
    {f_Desk_settle : Addr} {oc_Desk_settle kV_Desk_settle dc_Desk_settle pm_Desk_settle cd_Desk_settle ct_Desk_settle : Value} {od_Desk_settle an_Desk_settle : Option Addr} {sl_Desk_settle : Array (Option Value)}
    (a_Desk_settle : PySem.W.findIn K (.ref A_Desk) "settle" = some (some (.ref f_Desk_settle)))
    (i_Desk_settle : PySem.W.isFn K (.ref f_Desk_settle) = true)
    (l_Desk_settle : K.lookup f_Desk_settle = some ⟨oc_Desk_settle, od_Desk_settle, .func (PySem.W.fnOf "settle" "Desk.settle" (defArgs s_Desk_settle) (defBody s_Desk_settle) (defScope s_Desk_settle) .none kV_Desk_settle dc_Desk_settle pm_Desk_settle an_Desk_settle cd_Desk_settle ct_Desk_settle), sl_Desk_settle⟩) (c_Desk_settle : PySem.W.codeIn K cd_Desk_settle "Desk.settle" = true) (k_Desk_settle : PySem.W.keepIn K (.ref f_Desk_settle) = true)
    {f__law_draws : Addr} {oc__law_draws kV__law_draws dc__law_draws pm__law_draws cd__law_draws ct__law_draws : Value} {od__law_draws an__law_draws : Option Addr} {sl__law_draws : Array (Option Value)}
    (a__law_draws : PySem.W.nsIn K mainGlobals "_law_draws" = some (some (.ref f__law_draws)))
    (l__law_draws : K.lookup f__law_draws = some ⟨oc__law_draws, od__law_draws, .func (PySem.W.fnOf "_law_draws" "_law_draws" (defArgs s__law_draws) (defBody s__law_draws) (defScope s__law_draws) .none kV__law_draws dc__law_draws pm__law_draws an__law_draws cd__law_draws ct__law_draws), sl__law_draws⟩) (c__law_draws : PySem.W.codeIn K cd__law_draws "_law_draws" = true) (k__law_draws : PySem.W.keepIn K (.ref f__law_draws) = true)
    {f__law_same : Addr} {oc__law_same kV__law_same dc__law_same pm__law_same cd__law_same ct__law_same : Value} {od__law_same an__law_same : Option Addr} {sl__law_same : Array (Option Value)}
    (a__law_same : PySem.W.nsIn K mainGlobals "_law_same" = some (some (.ref f__law_same)))
    (l__law_same : K.lookup f__law_same = some ⟨oc__law_same, od__law_same, .func (PySem.W.fnOf "_law_same" "_law_same" (defArgs s__law_same) (defBody s__law_same) (defScope s__law_same) .none kV__law_same dc__law_same pm__law_same an__law_same cd__law_same ct__law_same), sl__law_same⟩) (c__law_same : PySem.W.codeIn K cd__law_same "_law_same" = true) (k__law_same : PySem.W.keepIn K (.ref f__law_same) = true)
    {f__law_stamp : Addr} {oc__law_stamp kV__law_stamp dc__law_stamp pm__law_stamp cd__law_stamp ct__law_stamp : Value} {od__law_stamp an__law_stamp : Option Addr} {sl__law_stamp : Array (Option Value)}
    (a__law_stamp : PySem.W.nsIn K mainGlobals "_law_stamp" = some (some (.ref f__law_stamp)))
    (l__law_stamp : K.lookup f__law_stamp = some ⟨oc__law_stamp, od__law_stamp, .func (PySem.W.fnOf "_law_stamp" "_law_stamp" (defArgs s__law_stamp) (defBody s__law_stamp) (defScope s__law_stamp) .none kV__law_stamp dc__law_stamp pm__law_stamp an__law_stamp cd__law_stamp ct__law_stamp), sl__law_stamp⟩) (c__law_stamp : PySem.W.codeIn K cd__law_stamp "_law_stamp" = true) (k__law_stamp : PySem.W.keepIn K (.ref f__law_stamp) = true)
    {f__law_desk : Addr} {oc__law_desk kV__law_desk dc__law_desk pm__law_desk cd__law_desk ct__law_desk : Value} {od__law_desk an__law_desk : Option Addr} {sl__law_desk : Array (Option Value)}
    (a__law_desk : PySem.W.nsIn K mainGlobals "_law_desk" = some (some (.ref f__law_desk)))
    (l__law_desk : K.lookup f__law_desk = some ⟨oc__law_desk, od__law_desk, .func (PySem.W.fnOf "_law_desk" "_law_desk" (defArgs s__law_desk) (defBody s__law_desk) (defScope s__law_desk) .none kV__law_desk dc__law_desk pm__law_desk an__law_desk cd__law_desk ct__law_desk), sl__law_desk⟩) (c__law_desk : PySem.W.codeIn K cd__law_desk "_law_desk" = true) (k__law_desk : PySem.W.keepIn K (.ref f__law_desk) = true)
    {f__law_deed : Addr} {oc__law_deed kV__law_deed dc__law_deed pm__law_deed cd__law_deed ct__law_deed : Value} {od__law_deed an__law_deed : Option Addr} {sl__law_deed : Array (Option Value)}
    (a__law_deed : PySem.W.nsIn K mainGlobals "_law_deed" = some (some (.ref f__law_deed)))
    (l__law_deed : K.lookup f__law_deed = some ⟨oc__law_deed, od__law_deed, .func (PySem.W.fnOf "_law_deed" "_law_deed" (defArgs s__law_deed) (defBody s__law_deed) (defScope s__law_deed) .none kV__law_deed dc__law_deed pm__law_deed an__law_deed cd__law_deed ct__law_deed), sl__law_deed⟩) (c__law_deed : PySem.W.codeIn K cd__law_deed "_law_deed" = true) (k__law_deed : PySem.W.keepIn K (.ref f__law_deed) = true)
    {f__law_fits : Addr} {oc__law_fits kV__law_fits dc__law_fits pm__law_fits cd__law_fits ct__law_fits : Value} {od__law_fits an__law_fits : Option Addr} {sl__law_fits : Array (Option Value)}
    (a__law_fits : PySem.W.nsIn K mainGlobals "_law_fits" = some (some (.ref f__law_fits)))
    (l__law_fits : K.lookup f__law_fits = some ⟨oc__law_fits, od__law_fits, .func (PySem.W.fnOf "_law_fits" "_law_fits" (defArgs s__law_fits) (defBody s__law_fits) (defScope s__law_fits) .none kV__law_fits dc__law_fits pm__law_fits an__law_fits cd__law_fits ct__law_fits), sl__law_fits⟩) (c__law_fits : PySem.W.codeIn K cd__law_fits "_law_fits" = true) (k__law_fits : PySem.W.keepIn K (.ref f__law_fits) = true)
    {f__law_told : Addr} {oc__law_told kV__law_told dc__law_told pm__law_told cd__law_told ct__law_told : Value} {od__law_told an__law_told : Option Addr} {sl__law_told : Array (Option Value)}
    (a__law_told : PySem.W.nsIn K mainGlobals "_law_told" = some (some (.ref f__law_told)))
    (l__law_told : K.lookup f__law_told = some ⟨oc__law_told, od__law_told, .func (PySem.W.fnOf "_law_told" "_law_told" (defArgs s__law_told) (defBody s__law_told) (defScope s__law_told) .none kV__law_told dc__law_told pm__law_told an__law_told cd__law_told ct__law_told), sl__law_told⟩) (c__law_told : PySem.W.codeIn K cd__law_told "_law_told" = true) (k__law_told : PySem.W.keepIn K (.ref f__law_told) = true)
    {f__law_live_behind : Addr} {oc__law_live_behind kV__law_live_behind dc__law_live_behind pm__law_live_behind cd__law_live_behind ct__law_live_behind : Value} {od__law_live_behind an__law_live_behind : Option Addr} {sl__law_live_behind : Array (Option Value)}
    (a__law_live_behind : PySem.W.nsIn K mainGlobals "_law_live_behind" = some (some (.ref f__law_live_behind)))
    (l__law_live_behind : K.lookup f__law_live_behind = some ⟨oc__law_live_behind, od__law_live_behind, .func (PySem.W.fnOf "_law_live_behind" "_law_live_behind" (defArgs s__law_live_behind) (defBody s__law_live_behind) (defScope s__law_live_behind) .none kV__law_live_behind dc__law_live_behind pm__law_live_behind an__law_live_behind cd__law_live_behind ct__law_live_behind), sl__law_live_behind⟩) (c__law_live_behind : PySem.W.codeIn K cd__law_live_behind "_law_live_behind" = true) (k__law_live_behind : PySem.W.keepIn K (.ref f__law_live_behind) = true)
    {f__law_freed : Addr} {oc__law_freed kV__law_freed dc__law_freed pm__law_freed cd__law_freed ct__law_freed : Value} {od__law_freed an__law_freed : Option Addr} {sl__law_freed : Array (Option Value)}
    (a__law_freed : PySem.W.nsIn K mainGlobals "_law_freed" = some (some (.ref f__law_freed)))
    (l__law_freed : K.lookup f__law_freed = some ⟨oc__law_freed, od__law_freed, .func (PySem.W.fnOf "_law_freed" "_law_freed" (defArgs s__law_freed) (defBody s__law_freed) (defScope s__law_freed) .none kV__law_freed dc__law_freed pm__law_freed an__law_freed cd__law_freed ct__law_freed), sl__law_freed⟩) (c__law_freed : PySem.W.codeIn K cd__law_freed "_law_freed" = true) (k__law_freed : PySem.W.keepIn K (.ref f__law_freed) = true)
    {f__law_cells : Addr} {oc__law_cells kV__law_cells dc__law_cells pm__law_cells cd__law_cells ct__law_cells : Value} {od__law_cells an__law_cells : Option Addr} {sl__law_cells : Array (Option Value)}
    (a__law_cells : PySem.W.nsIn K mainGlobals "_law_cells" = some (some (.ref f__law_cells)))
    (l__law_cells : K.lookup f__law_cells = some ⟨oc__law_cells, od__law_cells, .func (PySem.W.fnOf "_law_cells" "_law_cells" (defArgs s__law_cells) (defBody s__law_cells) (defScope s__law_cells) .none kV__law_cells dc__law_cells pm__law_cells an__law_cells cd__law_cells ct__law_cells), sl__law_cells⟩) (c__law_cells : PySem.W.codeIn K cd__law_cells "_law_cells" = true) (k__law_cells : PySem.W.keepIn K (.ref f__law_cells) = true)
    {f_law : Addr} {oc_law kV_law dc_law pm_law cd_law ct_law : Value} {od_law an_law : Option Addr} {sl_law : Array (Option Value)}
    (a_law : PySem.W.nsIn K mainGlobals "law" = some (some (.ref f_law)))
    (l_law : K.lookup f_law = some ⟨oc_law, od_law, .func (PySem.W.fnOf "law" "law" (defArgs s_law) (defBody s_law) (defScope s_law) .none kV_law dc_law pm_law an_law cd_law ct_law), sl_law⟩) (c_law : PySem.W.codeIn K cd_law "law" = true) (k_law : PySem.W.keepIn K (.ref f_law) = true)
    (z_bool : PySem.W.nsIn K mainGlobals "bool" = some none)
    (z_int : PySem.W.nsIn K mainGlobals "int" = some none)
    (z_isinstance : PySem.W.nsIn K mainGlobals "isinstance" = some none)
    (z_len : PySem.W.nsIn K mainGlobals "len" = some none)
    (z_list : PySem.W.nsIn K mainGlobals "list" = some none)
    (z_min : PySem.W.nsIn K mainGlobals "min" = some none)
    (z_range : PySem.W.nsIn K mainGlobals "range" = some none)
    (z_sorted : PySem.W.nsIn K mainGlobals "sorted" = some none)
    (z_sum : PySem.W.nsIn K mainGlobals "sum" = some none)
    (z_tuple : PySem.W.nsIn K mainGlobals "tuple" = some none) :
    ∃ fd : FuncData, (∀ (s : Shared) (v : Value), BindsTo s fd ⟨[v], []⟩ [("script", v)]) ∧ ∀ base : Heap, K.In base → base.Ns mainGlobals mg → FnOk l.prog w K mg base CX0 7 fa fd ["script"] (spLawB K) := by
  have e := hfa.symm.trans (PySem.W.mg_of X G a_law)
  cases e
  let ad : Ad := { P := l.prog, w := w, Desk := A_Desk }
  let T : Txt K mg ad := {
    f_Desk___init__ := f_Desk___init__,
    d_Desk___init__ := _,
    F_Desk___init__ := fun_mk (st := s_Desk___init__) l_Desk___init__ c_Desk___init__ k_Desk___init__,
    b_Desk___init__ := (fun_mk (st := s_Desk___init__) l_Desk___init__ c_Desk___init__ k_Desk___init__).binds (ps := ["self"]) fun _ _ _ _ _ _ us hl => match us, hl with | [_], _ => rfl,
    mk_Desk := ⟨mk_Desk, a_Desk___init__, i_Desk___init__, kc_Desk⟩,
    f_Desk___len__ := f_Desk___len__,
    d_Desk___len__ := _,
    F_Desk___len__ := fun_mk (st := s_Desk___len__) l_Desk___len__ c_Desk___len__ k_Desk___len__,
    b_Desk___len__ := (fun_mk (st := s_Desk___len__) l_Desk___len__ c_Desk___len__ k_Desk___len__).binds (ps := ["self"]) fun _ _ _ _ _ _ us hl => match us, hl with | [_], _ => rfl,
    me_Desk___len__ := ⟨a_Desk___len__, i_Desk___len__, k_Desk___len__⟩,
    f_Desk_take_ask := f_Desk_take_ask,
    d_Desk_take_ask := _,
    F_Desk_take_ask := fun_mk (st := s_Desk_take_ask) l_Desk_take_ask c_Desk_take_ask k_Desk_take_ask,
    b_Desk_take_ask := (fun_mk (st := s_Desk_take_ask) l_Desk_take_ask c_Desk_take_ask k_Desk_take_ask).binds (ps := ["self", "stamp"]) fun _ _ _ _ _ _ us hl => match us, hl with | [_, _], _ => rfl,
    me_Desk_take_ask := ⟨a_Desk_take_ask, i_Desk_take_ask, k_Desk_take_ask⟩,
    f_Desk_take_given := f_Desk_take_given,
    d_Desk_take_given := _,
    F_Desk_take_given := fun_mk (st := s_Desk_take_given) l_Desk_take_given c_Desk_take_given k_Desk_take_given,
    b_Desk_take_given := (fun_mk (st := s_Desk_take_given) l_Desk_take_given c_Desk_take_given k_Desk_take_given).binds (ps := ["self", "stamp"]) fun _ _ _ _ _ _ us hl => match us, hl with | [_, _], _ => rfl,
    me_Desk_take_given := ⟨a_Desk_take_given, i_Desk_take_given, k_Desk_take_given⟩,
    f_Desk_take_done := f_Desk_take_done,
    d_Desk_take_done := _,
    F_Desk_take_done := fun_mk (st := s_Desk_take_done) l_Desk_take_done c_Desk_take_done k_Desk_take_done,
    b_Desk_take_done := (fun_mk (st := s_Desk_take_done) l_Desk_take_done c_Desk_take_done k_Desk_take_done).binds (ps := ["self", "stamp"]) fun _ _ _ _ _ _ us hl => match us, hl with | [_, _], _ => rfl,
    me_Desk_take_done := ⟨a_Desk_take_done, i_Desk_take_done, k_Desk_take_done⟩,
    f_Desk_take_gone := f_Desk_take_gone,
    d_Desk_take_gone := _,
    F_Desk_take_gone := fun_mk (st := s_Desk_take_gone) l_Desk_take_gone c_Desk_take_gone k_Desk_take_gone,
    b_Desk_take_gone := (fun_mk (st := s_Desk_take_gone) l_Desk_take_gone c_Desk_take_gone k_Desk_take_gone).binds (ps := ["self", "seat"]) fun _ _ _ _ _ _ us hl => match us, hl with | [_, _], _ => rfl,
    me_Desk_take_gone := ⟨a_Desk_take_gone, i_Desk_take_gone, k_Desk_take_gone⟩,
    f_Desk_settle := f_Desk_settle,
    d_Desk_settle := _,
    F_Desk_settle := fun_mk (st := s_Desk_settle) l_Desk_settle c_Desk_settle k_Desk_settle,
    b_Desk_settle := (fun_mk (st := s_Desk_settle) l_Desk_settle c_Desk_settle k_Desk_settle).binds (ps := ["self"]) fun _ _ _ _ _ _ us hl => match us, hl with | [_], _ => rfl,
    me_Desk_settle := ⟨a_Desk_settle, i_Desk_settle, k_Desk_settle⟩,
    f__law_draws := f__law_draws,
    d__law_draws := _,
    F__law_draws := fun_mk (st := s__law_draws) l__law_draws c__law_draws k__law_draws,
    b__law_draws := (fun_mk (st := s__law_draws) l__law_draws c__law_draws k__law_draws).binds (ps := ["cell", "tops"]) fun _ _ _ _ _ _ us hl => match us, hl with | [_, _], _ => rfl,
    g__law_draws := PySem.W.mg_of X G a__law_draws,
    f__law_same := f__law_same,
    d__law_same := _,
    F__law_same := fun_mk (st := s__law_same) l__law_same c__law_same k__law_same,
    b__law_same := (fun_mk (st := s__law_same) l__law_same c__law_same k__law_same).binds (ps := ["found", "due"]) fun _ _ _ _ _ _ us hl => match us, hl with | [_, _], _ => rfl,
    g__law_same := PySem.W.mg_of X G a__law_same,
    f__law_stamp := f__law_stamp,
    d__law_stamp := _,
    F__law_stamp := fun_mk (st := s__law_stamp) l__law_stamp c__law_stamp k__law_stamp,
    b__law_stamp := (fun_mk (st := s__law_stamp) l__law_stamp c__law_stamp k__law_stamp).binds (ps := ["low", "many", "seat", "turn"]) fun _ _ _ _ _ _ us hl => match us, hl with | [_, _, _, _], _ => rfl,
    g__law_stamp := PySem.W.mg_of X G a__law_stamp,
    f__law_desk := f__law_desk,
    d__law_desk := _,
    F__law_desk := fun_mk (st := s__law_desk) l__law_desk c__law_desk k__law_desk,
    b__law_desk := (fun_mk (st := s__law_desk) l__law_desk c__law_desk k__law_desk).binds (ps := ["desk", "held", "live", "since"]) fun _ _ _ _ _ _ us hl => match us, hl with | [_, _, _, _], _ => rfl,
    g__law_desk := PySem.W.mg_of X G a__law_desk,
    f__law_deed := f__law_deed,
    d__law_deed := _,
    F__law_deed := fun_mk (st := s__law_deed) l__law_deed c__law_deed k__law_deed,
    b__law_deed := (fun_mk (st := s__law_deed) l__law_deed c__law_deed k__law_deed).binds (ps := ["way", "pick", "held", "live", "fresh"]) fun _ _ _ _ _ _ us hl => match us, hl with | [_, _, _, _, _], _ => rfl,
    g__law_deed := PySem.W.mg_of X G a__law_deed,
    f__law_fits := f__law_fits,
    d__law_fits := _,
    F__law_fits := fun_mk (st := s__law_fits) l__law_fits c__law_fits k__law_fits,
    b__law_fits := (fun_mk (st := s__law_fits) l__law_fits c__law_fits k__law_fits).binds (ps := ["deed", "came", "gone"]) fun _ _ _ _ _ _ us hl => match us, hl with | [_, _, _], _ => rfl,
    g__law_fits := PySem.W.mg_of X G a__law_fits,
    f__law_told := f__law_told,
    d__law_told := _,
    F__law_told := fun_mk (st := s__law_told) l__law_told c__law_told k__law_told,
    b__law_told := (fun_mk (st := s__law_told) l__law_told c__law_told k__law_told).binds (ps := ["desk", "deed"]) fun _ _ _ _ _ _ us hl => match us, hl with | [_, _], _ => rfl,
    g__law_told := PySem.W.mg_of X G a__law_told,
    f__law_live_behind := f__law_live_behind,
    d__law_live_behind := _,
    F__law_live_behind := fun_mk (st := s__law_live_behind) l__law_live_behind c__law_live_behind k__law_live_behind,
    b__law_live_behind := (fun_mk (st := s__law_live_behind) l__law_live_behind c__law_live_behind k__law_live_behind).binds (ps := ["live", "deed"]) fun _ _ _ _ _ _ us hl => match us, hl with | [_, _], _ => rfl,
    g__law_live_behind := PySem.W.mg_of X G a__law_live_behind,
    f__law_freed := f__law_freed,
    d__law_freed := _,
    F__law_freed := fun_mk (st := s__law_freed) l__law_freed c__law_freed k__law_freed,
    b__law_freed := (fun_mk (st := s__law_freed) l__law_freed c__law_freed k__law_freed).binds (ps := ["held", "deed"]) fun _ _ _ _ _ _ us hl => match us, hl with | [_, _], _ => rfl,
    g__law_freed := PySem.W.mg_of X G a__law_freed,
    f__law_cells := f__law_cells,
    d__law_cells := _,
    F__law_cells := fun_mk (st := s__law_cells) l__law_cells c__law_cells k__law_cells,
    b__law_cells := (fun_mk (st := s__law_cells) l__law_cells c__law_cells k__law_cells).binds (ps := ["script", "start"]) fun _ _ _ _ _ _ us hl => match us, hl with | [_, _], _ => rfl,
    g__law_cells := PySem.W.mg_of X G a__law_cells,
    f_law := fa,
    d_law := _,
    F_law := fun_mk (st := s_law) l_law c_law k_law,
    b_law := (fun_mk (st := s_law) l_law c_law k_law).binds (ps := ["script"]) fun _ _ _ _ _ _ us hl => match us, hl with | [_], _ => rfl,
    g_law := PySem.W.mg_of X G a_law,
    m_bool := PySem.W.mg_none_of X G z_bool,
    m_int := PySem.W.mg_none_of X G z_int,
    m_isinstance := PySem.W.mg_none_of X G z_isinstance,
    m_len := PySem.W.mg_none_of X G z_len,
    m_list := PySem.W.mg_none_of X G z_list,
    m_min := PySem.W.mg_none_of X G z_min,
    m_range := PySem.W.mg_none_of X G z_range,
    m_sorted := PySem.W.mg_none_of X G z_sorted,
    m_sum := PySem.W.mg_none_of X G z_sum,
    m_tuple := PySem.W.mg_none_of X G z_tuple,
    g_Desk := PySem.W.mg_of X G a_Desk,
    oc := { cl_Desk := ⟨pg_Desk, hd_Desk, po_Desk, sa_Desk⟩, n_Desk_holder := n_Desk_holder, n_Desk_queue := n_Desk_queue, n_Desk_called := n_Desk_called } }
  exact ⟨PySem.W.fnOf "law" "law" (defArgs s_law) (defBody s_law) (defScope s_law) .none kV_law dc_law pm_law an_law cd_law ct_law, fun s v => .of_eq rfl, fun base _ _ => (ok_law (ad := ad) T).imp fun vs H Q E h => spLaw_to ad h⟩
end Y
open PySem PySem.W PyProof.Rows
set_option maxRecDepth 100000 in
set_option maxHeartbeats 0 in
theorem PySem.Challenge.cw_soleseat_k62_whole_desk_holds : PySem.Challenge.rw_soleseat_k62_whole_desk.Holds := by
  w_on; o_law; k_head; (case hw => w_witness2)
  k_fill
  refine L2.walk_ofB (l := PySem.Challenge.rw_soleseat_k62_whole_desk) (n := 63) (k := 7) (x := "script") (CX := fun _ => L2.CX0) (sp := fun w => Z.spLawB _) rfl (by decide) rfl ⟨rfl, by decide, by decide⟩ (fun w h Y => PySem.W.kIn_of Y) ?F (fun _ _ a ns hl hb _ hS => Z.spLawB_in hl hb hS) (fun _ _ _ _ _ h => h)
  case F =>
    intro w mg fa h KX G hmg
    refine' Y.all_mk KX G hmg ?a_Desk ?pg_Desk ?hd_Desk ?po_Desk ?sa_Desk ?mk_Desk ?kc_Desk ?n_Desk_holder ?n_Desk_queue ?n_Desk_called ?a_Desk___init__ ?i_Desk___init__ ?l_Desk___init__ ?c_Desk___init__ ?k_Desk___init__ ?a_Desk___len__ ?i_Desk___len__ ?l_Desk___len__ ?c_Desk___len__ ?k_Desk___len__ ?a_Desk_take_ask ?i_Desk_take_ask ?l_Desk_take_ask ?c_Desk_take_ask ?k_Desk_take_ask ?a_Desk_take_given ?i_Desk_take_given ?l_Desk_take_given ?c_Desk_take_given ?k_Desk_take_given ?a_Desk_take_done ?i_Desk_take_done ?l_Desk_take_done ?c_Desk_take_done ?k_Desk_take_done ?a_Desk_take_gone ?i_Desk_take_gone ?l_Desk_take_gone ?c_Desk_take_gone ?k_Desk_take_gone ?a_Desk_settle ?i_Desk_settle ?l_Desk_settle ?c_Desk_settle ?k_Desk_settle ?a__law_draws ?l__law_draws ?c__law_draws ?k__law_draws ?a__law_same ?l__law_same ?c__law_same ?k__law_same ?a__law_stamp ?l__law_stamp ?c__law_stamp ?k__law_stamp ?a__law_desk ?l__law_desk ?c__law_desk ?k__law_desk ?a__law_deed ?l__law_deed ?c__law_deed ?k__law_deed ?a__law_fits ?l__law_fits ?c__law_fits ?k__law_fits ?a__law_told ?l__law_told ?c__law_told ?k__law_told ?a__law_live_behind ?l__law_live_behind ?c__law_live_behind ?k__law_live_behind ?a__law_freed ?l__law_freed ?c__law_freed ?k__law_freed ?a__law_cells ?l__law_cells ?c__law_cells ?k__law_cells ?a_law ?l_law ?c_law ?k_law ?z_bool ?z_int ?z_isinstance ?z_len ?z_list ?z_min ?z_range ?z_sorted ?z_sum ?z_tuple
    (case a_Desk => k_is)
    (case pg_Desk => k_is)
    (case hd_Desk => k_is)
    (case po_Desk => k_is)
    (case sa_Desk => k_is)
    (case mk_Desk => k_is)
    (case kc_Desk => k_is)
    (case n_Desk_holder => k_is)
    (case n_Desk_queue => k_is)
    (case n_Desk_called => k_is)
    (case a_Desk___init__ => k_is)
    (case i_Desk___init__ => k_is)
    (case l_Desk___init__ => k_is)
    (case c_Desk___init__ => k_is)
    (case k_Desk___init__ => k_is)
    (case a_Desk___len__ => k_is)
    (case i_Desk___len__ => k_is)
    (case l_Desk___len__ => k_is)
    (case c_Desk___len__ => k_is)
    (case k_Desk___len__ => k_is)
    (case a_Desk_take_ask => k_is)
    (case i_Desk_take_ask => k_is)
    (case l_Desk_take_ask => k_is)
    (case c_Desk_take_ask => k_is)
    (case k_Desk_take_ask => k_is)
    (case a_Desk_take_given => k_is)
    (case i_Desk_take_given => k_is)
    (case l_Desk_take_given => k_is)
    (case c_Desk_take_given => k_is)
    (case k_Desk_take_given => k_is)
    (case a_Desk_take_done => k_is)
    (case i_Desk_take_done => k_is)
    (case l_Desk_take_done => k_is)
    (case c_Desk_take_done => k_is)
    (case k_Desk_take_done => k_is)
    (case a_Desk_take_gone => k_is)
    (case i_Desk_take_gone => k_is)
    (case l_Desk_take_gone => k_is)
    (case c_Desk_take_gone => k_is)
    (case k_Desk_take_gone => k_is)
    (case a_Desk_settle => k_is)
    (case i_Desk_settle => k_is)
    (case l_Desk_settle => k_is)
    (case c_Desk_settle => k_is)
    (case k_Desk_settle => k_is)
    (case a__law_draws => k_is)
    (case l__law_draws => k_is)
    (case c__law_draws => k_is)
    (case k__law_draws => k_is)
    (case a__law_same => k_is)
    (case l__law_same => k_is)
    (case c__law_same => k_is)
    (case k__law_same => k_is)
    (case a__law_stamp => k_is)
    (case l__law_stamp => k_is)
    (case c__law_stamp => k_is)
    (case k__law_stamp => k_is)
    (case a__law_desk => k_is)
    (case l__law_desk => k_is)
    (case c__law_desk => k_is)
    (case k__law_desk => k_is)
    (case a__law_deed => k_is)
    (case l__law_deed => k_is)
    (case c__law_deed => k_is)
    (case k__law_deed => k_is)
    (case a__law_fits => k_is)
    (case l__law_fits => k_is)
    (case c__law_fits => k_is)
    (case k__law_fits => k_is)
    (case a__law_told => k_is)
    (case l__law_told => k_is)
    (case c__law_told => k_is)
    (case k__law_told => k_is)
    (case a__law_live_behind => k_is)
    (case l__law_live_behind => k_is)
    (case c__law_live_behind => k_is)
    (case k__law_live_behind => k_is)
    (case a__law_freed => k_is)
    (case l__law_freed => k_is)
    (case c__law_freed => k_is)
    (case k__law_freed => k_is)
    (case a__law_cells => k_is)
    (case l__law_cells => k_is)
    (case c__law_cells => k_is)
    (case k__law_cells => k_is)
    (case a_law => k_is)
    (case l_law => k_is)
    (case c_law => k_is)
    (case k_law => k_is)
    (case z_bool => k_is)
    (case z_int => k_is)
    (case z_isinstance => k_is)
    (case z_len => k_is)
    (case z_list => k_is)
    (case z_min => k_is)
    (case z_range => k_is)
    (case z_sorted => k_is)
    (case z_sum => k_is)
    (case z_tuple => k_is)

