import PyProof.Rows.All
import Wide.All
import OpenK.AllK
import Wide.FinOn
import HandS.ForMost
import HandS.SetFor
import HandS.Strs
import HandS.Wide
import HandS.WideBits
import HandS.Deep
import HandS.IsInst
import HandS.TupAny
import HandS.Evl
import HandS.Flow
import HandS.More
import HandS.SortInts
import HandS.Style
import HandS.Conv
import HandS.TryOnly
import HandS.SortOrd
import HandS.NamedTupSort
import HandS.Call
import HandS.Text
import OpenK.KOps
import PyProof.Rows.RuleB_pow
import HandS.EndBits
import PyProof.TupleOfSeq
import PySem.Challenge.RW_soleseat_k61_votes_asked_for
set_option Elab.async false
set_option linter.all false
set_option maxRecDepth 100000
set_option maxHeartbeats 8000000
/-! Zset: set(list of ints) as a value, and sorted of it. -/
namespace Z
open PySem PySem.Spec PySem.Calls L2
open PyProof.Rows hiding St
def Fresh (H : Hp) (p : Addr) : Prop := H p = none
section
variable {P : Program} {w : World} {A : Around} {E : Value → Shared → Prop} {s : Shared}
abbrev mS (w : World) : Obj := { cls := .type "set", dict := none, data := .set #[] 0 (.fresh 0 0 (!w.params.followText "set-order")) }
abbrev hS1 (w : World) (s : Shared) : Heap := s.heap.push (mS w)
theorem set_of_list {l : Addr} {zs : Array Value} (ns : List Int) {Q : Value → Shared → Prop} (quiet : A.handled = none) (isl : s.heap.IsList l zs) (allI : IntsAre zs.toList ns) (few : ns.length + 1 < scanBound)
    (fin : ∀ (h2 : Heap) (tk c : Nat), SetR w h2 s.heap.objs.size (fun j => decide (j ∈ ns)) c → c ≤ ns.length →
      (∀ b o, s.heap.get? b = some o → h2.get? b = some o) → Q (.ref s.heap.objs.size) { s with heap := h2, toks := tk }) : wpAny (model P w) A (call (.type "set") [.ref l]) Q E s := by
  have hn : zs.size = ns.length := by
    have e := IntsAre.length allI
    rwa [Array.length_toList] at e
  obtain ⟨c, tl, hmro⟩ := F.called_set.mro
  have hmade := F.called_set.made
  have hsub := F.called_set.sub
  refine wpAny_call (codeAny_of_tree ?_)
  show wpAny _ _ (callAny (.type "set") _) _ _ _
  refine wpAny_pure ⟨Code.quiet_builtin _ (by decide +kernel), codeAny_builtin F.entry_type_call ?_⟩
  rw [Around.under_plain (weight_type_call_type "set" [.ref l] []) rfl]
  have a1 := F.called_set.notType
  have a2 := F.called_set.canCreate
  have a3 := F.typeCall_set_1 (.ref l)
  repeat (any_goals (first | assumption | wp_step))
  refine codeAny_mono (code_set_led1 (.ref l) (E := E) (Q₁ := fun ob s1 => ob = .ref s.heap.objs.size ∧ s1 = { s with heap := hS1 w s }) ⟨rfl, rfl⟩) fun r s1 hr => ?_
  cases r with
  | error e => exact hr
  | ok fl => cases fl with
    | ret ob =>
      obtain ⟨rfl, rfl⟩ := hr
      have g0 : (hS1 w s).get? s.heap.objs.size = some (mS w) := Heap.get?_push_size _ rfl
      have g1 : Shared.TypeIs { s with heap := hS1 w s } (.ref s.heap.objs.size) "set" := ⟨_, g0, rfl⟩
      have a4 := F.called_set.init.lookup
      have a5 := F.called_set.init.bind (.ref s.heap.objs.size)
      repeat (any_goals (first | assumption | wp_step))
      refine codeAny_mono (codeAny_call_builtin (R := wants (fun v s2 => v = .none ∧ ∃ h2 tk c, s2 = { s with heap := h2, toks := tk } ∧
        SetR w h2 s.heap.objs.size (fun j => decide (j ∈ ns)) c ∧ c ≤ ns.length ∧ ∀ b o, s.heap.get? b = some o → h2.get? b = some o) E)
        F.called_set.init.plain F.entry_set_init (check_set_init_1 g1 ?_)) fun r2 s2 hr2 => ?_
      · obtain ⟨ol, e1, e2, nl, e4⟩ := isl
        obtain ⟨oc, od, oda, osl⟩ := ol
        simp only at e2 e4
        subst e2; subst e4
        have g2 := Heap.get?_push_of_some (h := s.heap) (mS w) e1
        have u1 := F.sub_list_set
        have u2 := F.sub_list_frozenset
        have u3 : (Value.type "list" == Value.type "dict") = false := by decide
        have isl1 : (hS1 w s).IsList l zs := ⟨_, g2, rfl, nl, rfl⟩
        unfold Builtin.«set.__init__» noKeywords Builtin.Frozenset.updateFrom
        generalize hPI : pyIter = PI
        wp_walk
        subst hPI
        refine wpAny_pyIter_list isl1 ?_
        refine wpAny_bind (wpAny_runValue ?_)
        have l0 : l < s.heap.objs.size := Heap.lt_size e1
        have q3 : A.in1.in1.in1.handled = none := by simp [quiet]
        have z1 : (hS1 w s).objs.size = s.heap.objs.size + 1 := Heap.size_push ..
        have lI : l ≠ (hS1 w s).objs.size := by
          rw [z1]
          exact Nat.ne_of_lt (Nat.lt_succ_of_lt l0)
        have sf : s.heap.objs.size ∉ [(hS1 w s).objs.size, l] := fun z => by
          rw [z1] at z
          rcases List.mem_cons.mp z with z | z
          · exact Nat.ne_of_lt (Nat.lt_succ_self _) z
          · exact Nat.ne_of_gt l0 (List.mem_singleton.mp z)
        have vals : ∀ (i : Nat) (v : Value), zs[i]? = some v → ∃ k t, ns[i]? = some k ∧ v = .int k t := fun i v hv => by
          have hi : i < ns.length := hn ▸ (Array.getElem?_eq_some_iff.mp hv).1
          obtain ⟨t, e⟩ := IntsAre.int_at allI i v (by rw [Array.getElem?_toList]; exact hv)
          refine ⟨ns[i], t, List.getElem?_eq_getElem hi, e.trans ?_⟩
          rw [List.getD_eq_getElem?_getD, List.getElem?_eq_getElem hi]
          rfl
        refine set_update_ints ((Walks.list q3 _ l lI zs).toS) s.heap.objs.size sf ns hn few vals (zs.size - 0) 0 _ (by omega) (Nat.zero_le _)
          ⟨⟨_, Heap.get?_push_size _ rfl, rfl, rfl⟩, isl1.push _⟩ ⟨0, Nat.le_refl 0, setR_new_at (Heap.get?_push_of_some _ g0)⟩ fun s3 c3 mv hc3 hR => ?_
        obtain ⟨h3, g3, d3, t3, o3⟩ := s3
        obtain rfl : g3 = s.gens := mv.gens
        obtain rfl : d3 = s.drawn := mv.drawn
        obtain rfl : o3 = s.os := mv.os
        show wpAny _ _ _ _ _ _
        refine wpAny_pure ?_
        show wpAny _ _ (ret Value.none) _ _ _
        rw [hn] at hc3
        refine wpAny_pure ⟨rfl, h3, t3, c3, rfl, hR, hc3, fun b o e => ?_⟩
        have b0 : b < s.heap.objs.size := Heap.lt_size e
        refine mv.heap b o (fun z => ?_) (Heap.get?_push_of_some _ (Heap.get?_push_of_some _ e))
        rcases List.mem_cons.mp z with z | z
        · exact Nat.ne_of_lt b0 z
        · have z := List.mem_singleton.mp z
          rw [z1] at z
          exact Nat.ne_of_lt (Nat.lt_succ_of_lt b0) z
      · cases r2 with
        | error e => exact hr2
        | ok f2 => cases f2 with
          | ret v =>
            obtain ⟨rfl, h3, tk, c3, rfl, hR, hc3, hk⟩ := hr2
            repeat (any_goals (first | assumption | wp_step))
            exact fin _ _ _ hR hc3 hk
          | _ => exact hr2.elim
    | _ => exact hr.elim
end
section
variable {X : Cx}
/-- set(l), l a list or a tuple of ints -/
def zSet (K : PySem.W.Frag) (w : World) : List V → Hp → VK → Prop := fun xs H Q => ∃ (l : Addr) (ns : List Int), xs = [V.ref l] ∧ (SqL K H l (ns.map V.int) ∨ SqT K H l (ns.map V.int)) ∧ ns.length ≤ 1000 ∧
  ∀ (p : Addr) (c : Nat), c ≤ ns.length → Fresh H p → Q (.ref p) (upd H p (SetO w p (fun j => decide (j ∈ ns)) c))
theorem cr_zSet (quiet : X.calm = true) : CallR X (.type "set") (zSet X.K X.w) := by
  intro pins s σ H xs us Q I r h
  obtain ⟨l, ns, rfl, hl, few, q⟩ := h
  rw [Vals.ref1 r]
  have bnd : ns.length + 1 < scanBound := by
    unfold scanBound
    omega
  have new : H s.heap.objs.size = none := I.hok.fresh (Nat.le_refl _)
  rcases hl with hl | hl
  · obtain ⟨its, rv, pl, _⟩ := I.list hl
    exact set_of_list ns (I.ok.hd quiet) pl.isList (by simpa using ints_of_vals rv) bnd fun h2 tk c R hc k =>
      ⟨.ref _, _, I.laid (t' := tk) k (Nat.le_refl _) (setO_new R), rfl, q _ c hc new⟩
  · obtain ⟨its, rv, pl, _⟩ := I.tuple hl
    exact call_set_tupI ns (I.ok.hd quiet) pl (by simpa using ints_of_vals rv) bnd fun h2 tk c R hc k =>
      ⟨.ref _, _, I.laid (t' := tk) k (Nat.le_refl _) (setO_new R), rfl, q _ c hc new⟩
end
end Z

/-! Zp: joined operators (the kind is found as the walk goes), one lemma a step, tactics that walk. -/
namespace Z
open PySem PySem.Spec L2
open PyProof.Rows hiding St

/-! ### heaps -/
structure Gr (M : Addr → Prop) (F H F' H' : Hp) : Prop where
  ff : Same F F'
  fh : Same F' H'
  hh : ∀ b o, ¬ M b → H b = some o → H' b = some o
  nw : ∀ b o, H b = some o → F b = none → F' b = none
abbrev M0 : Addr → Prop := fun _ => False
abbrev M1 (p : Addr) : Addr → Prop := fun b => b = p
section
variable {M M' : Addr → Prop} {F H F' H' F'' H'' : Hp} {p q a b : Addr} {o u : HO} {K : PySem.W.Frag} {xs : List V}
theorem Gr.refl (h : Same F H) : Gr M F H F H := ⟨Same.refl _, h, fun _ _ _ e => e, fun _ _ _ e => e⟩
theorem Gr.trans (g : Gr M F H F' H') (k : Gr M F' H' F'' H'') (hM : ∀ b, M b → ∃ o, H b = some o) (hM' : ∀ b, M b → F b = none) (hk : ∀ b, M b → ∃ o, H' b = some o) : Gr M F H F'' H'' :=
  ⟨g.ff.trans k.ff, k.fh, fun b o n e => k.hh b o n (g.hh b o n e), fun b o e f => by
    have f' := g.nw b o e f
    by_cases hb : M b
    · obtain ⟨o', e'⟩ := hk b hb
      exact k.nw b o' e' f'
    · exact k.nw b o (g.hh b o hb e) f'⟩
theorem Gr.trans0 (g : Gr M0 F H F' H') (k : Gr M F' H' F'' H'') : Gr M F H F'' H'' :=
  ⟨g.ff.trans k.ff, k.fh, fun b o n e => k.hh b o n (g.hh b o (fun z => z) e), fun b o e f => k.nw b o (g.hh b o (fun z => z) e) (g.nw b o e f)⟩
theorem Gr.tr0 (g : Gr M F H F' H') (k : Gr M0 F' H' F'' H'') (hk : ∀ b, M b → ∃ o, H' b = some o) : Gr M F H F'' H'' :=
  ⟨g.ff.trans k.ff, k.fh, fun b o n e => k.hh b o (fun z => z) (g.hh b o n e), fun b o e f => by
    have f' := g.nw b o e f
    by_cases hb : M b
    · obtain ⟨o', e'⟩ := hk b hb
      exact k.nw b o' e' f'
    · exact k.nw b o (g.hh b o hb e) f'⟩
theorem Gr.tr1 (g : Gr (M1 p) F H F' H') (k : Gr (M1 p) F' H' F'' H'') (hp : H' p = some o) : Gr (M1 p) F H F'' H'' :=
  ⟨g.ff.trans k.ff, k.fh, fun b o n e => k.hh b o n (g.hh b o n e), fun b o' e f => by
    have f' := g.nw b o' e f
    by_cases hb : b = p
    · subst hb
      exact k.nw b o hp f'
    · exact k.nw b o' (g.hh b o' hb e) f'⟩
theorem Gr.up (g : Gr M0 F H F' H') : Gr M F H F' H' := ⟨g.ff, g.fh, fun b o _ e => g.hh b o (fun z => z) e, g.nw⟩
theorem same_new (h : Same F H) (hp : Fresh H p) : Same F (upd H p o) := fun b u e => by
  rw [upd_ne (ne_of_none (h b u e) hp)]
  exact h b u e
theorem same_mut (h : Same F H) (hp : F p = none) : Same F (upd H p o) := fun b u e => by
  rw [upd_ne (ne_of_none e hp)]
  exact h b u e
/-- a new object, not frozen -/
theorem Gr.new (h : Same F H) (hp : Fresh H p) : Gr M F H F (upd H p o) := ⟨Same.refl _, same_new h hp, fun b u _ e => by
  rw [upd_ne (ne_of_none e hp)]
  exact e, fun _ _ _ e => e⟩
/-- a new object, frozen at once -/
theorem Gr.newF (h : Same F H) (hp : Fresh H p) : Gr M F H (upd F p o) (upd H p o) :=
  ⟨fun b u e => by
    rw [upd_ne (ne_of_none (h b u e) hp)]
    exact e, fun b u e => by
    by_cases hb : b = p
    · subst hb
      rw [upd_same] at e ⊢
      exact e
    · rw [upd_ne hb] at e ⊢
      exact h b u e, fun b u _ e => by
    rw [upd_ne (ne_of_none e hp)]
    exact e, fun b u e f => by
    rw [upd_ne (ne_of_none e hp)]
    exact f⟩
/-- a change -/
theorem Gr.mut (h : Same F H) (hp : F p = none) (hM : M p) : Gr M F H F (upd H p o) := ⟨Same.refl _, same_mut h hp, fun b u n e => by
  rw [upd_ne (fun z => n (by rw [z]; exact hM))]
  exact e, fun _ _ _ e => e⟩
/-- an object that came since is frozen from now on -/
theorem Gr.frz (g : Gr M F H F' H') (hn : H p = none) (hp : H' p = some o) (hf : F' p = none) : Gr M F H (upd F' p o) H' :=
  ⟨fun b u e => by
    have e' := g.ff b u e
    rw [upd_ne (ne_of_none e' hf)]
    exact e', fun b u e => by
    by_cases hb : b = p
    · subst hb
      rw [upd_same] at e
      rw [hp]
      exact e
    · rw [upd_ne hb] at e
      exact g.fh b u e, g.hh, fun b u e f => by
    rw [upd_ne (ne_of_none e hn)]
    exact g.nw b u e f⟩
theorem Gr.put (g : Gr M F H F' H') (hf : F' p = none) (hM : M p) : Gr M F H F' (upd H' p o) := ⟨g.ff, same_mut g.fh hf, fun b u n e => by
  rw [upd_ne (fun z => n (by rw [z]; exact hM))]
  exact g.hh b u n e, g.nw⟩
theorem Gr.put1 (g : Gr (M1 p) F H F' H') (hf : F' p = none) : Gr (M1 p) F H F' (upd H' p o) := g.put hf rfl
theorem Gr.add (g : Gr M F H F' H') (hn : Fresh H' p) : Gr M F H F' (upd H' p o) := ⟨g.ff, same_new g.fh hn, fun b u n e => by
  have e' := g.hh b u n e
  rw [upd_ne (ne_of_none e' hn)]
  exact e', g.nw⟩
theorem Gr.addF (g : Gr M F H F' H') (hn : Fresh H' p) (hm : ¬ M p) : Gr M F H (upd F' p o) (upd H' p o) := by
  have k := Gr.newF (M := M) (o := o) g.fh hn
  refine ⟨g.ff.trans k.ff, k.fh, fun b u n e => k.hh b u n (g.hh b u n e), fun b u e f => ?_⟩
  have f' := g.nw b u e f
  by_cases hb : b = p
  · subst hb
    rw [Fresh, g.hh b u hm e] at hn
    cases hn
  · rw [upd_ne hb]
    exact f'
theorem Gr.same (g : Gr M0 F H F' H') : Same H H' := fun b o e => g.hh b o (fun z => z) e
/-- a change of what came since -/
theorem Gr.own (g : Gr M F H F' H') (hf : F' p = none) (hn : H p = none) : Gr M F H F' (upd H' p o) := ⟨g.ff, same_mut g.fh hf, fun b u n e => by
  rw [upd_ne (ne_of_none e hn)]
  exact g.hh b u n e, g.nw⟩
theorem Gr.nof (g : Gr M F H F' H') (h : F p = none) (h2 : H p = some o) : F' p = none := g.nw p o h2 h
theorem Gr.fresh (g : Gr M F H F' H') (hn : Fresh H' p) (hM : ∀ b, M b → ∃ o, H' b = some o) : Fresh H p := by
  unfold Fresh at *
  cases e : H p with
  | none => rfl
  | some u =>
    by_cases hb : M p
    · obtain ⟨o', e'⟩ := hM p hb
      rw [hn] at e'
      cases e'
    · rw [g.hh p u hb e] at hn
      cases hn
theorem Gr.fr1 (g : Gr (M1 p) F H F' H') (hp : H' p = some o) (hn : Fresh H' q) : Fresh H q := g.fresh hn fun b hb => ⟨o, by rw [show b = p from hb]; exact hp⟩
theorem Gr.fr0 (g : Gr M0 F H F' H') (hn : Fresh H' q) : Fresh H q := g.fresh hn fun b hb => hb.elim
theorem fresh_ne (hn : Fresh H q) (hp : H p = some o) : q ≠ p := fun e => by
  subst e
  rw [Fresh, hp] at hn
  cases hn
theorem ne_fresh (hn : Fresh H q) (hp : H p = some o) : p ≠ q := (fresh_ne hn hp).symm
theorem fresh_upd (hn : Fresh (upd H p o) q) : Fresh H q ∧ q ≠ p := by
  by_cases e : q = p
  · subst e
    rw [Fresh, upd_same] at hn
    cases hn
  · rw [Fresh, upd_ne e] at hn
    exact ⟨hn, e⟩
theorem fresh_F (h : Same F H) (hn : Fresh H p) : F p = none := by
  cases e : F p with
  | none => rfl
  | some u =>
    rw [Fresh, h p u e] at hn
    cases hn
/-- behind a part that changed p alone, p new since the beginning -/
theorem Gr.drop (g : Gr (M1 p) F H F' H') (hn : H p = none) : Gr M F H F' H' := ⟨g.ff, g.fh, fun b o _ e => g.hh b o (ne_of_none e hn) e, g.nw⟩
theorem Same.seqT (e : Same H H') (h : SqT K H a xs) : SqT K H' a xs := by
  rcases h with (h | ⟨o, h⟩) | h
  · exact .inl (.inl (e _ _ h))
  · exact .inl (.inr ⟨o, e _ _ h⟩)
  · exact .inr h
mutual
theorem Dp.mono (e : Same H H') : ∀ (d : PyData) (v : V), Dp K H v d → Dp K H' v d
  | .none, _, h => by cases h; exact .non
  | .bool _, _, h => by cases h; exact .bl _
  | .int _, _, h => by cases h; exact .int _
  | .str _, _, h => by cases h; exact .str _
  | .list ds, _, h => by
    cases h with
    | lst h1 h2 => exact .lst (e.seq h1) (DpAll.mono e ds _ h2)
  | .tuple ds, _, h => by
    cases h with
    | tup h1 h2 => exact .tup (Same.seqT e h1) (DpAll.mono e ds _ h2)
  | .dict _, _, h => by cases h
theorem DpAll.mono (e : Same H H') : ∀ (ds : List PyData) (vs : List V), DpAll K H vs ds → DpAll K H' vs ds
  | [], _, h => by cases h; exact .nil
  | d :: ds, _, h => by
    cases h with
    | cons h1 h2 => exact .cons (Dp.mono e d _ h1) (DpAll.mono e ds _ h2)
end
end

/-! ### operators of any kind -/
section
variable {X : Cx} {f : Value → Value → Sem Value} {r r' : R2}
def orR (r r' : R2) : R2 := fun x y H Q => r x y H Q ∨ r' x y H Q
theorem op_or2 (h : OpR X f r) (h' : OpR X f r') : OpR X f (orR r r') := fun pins s σ H x y v u Q I rx ry q => q.elim (h pins s σ H x y v u Q I rx ry) (h' pins s σ H x y v u Q I rx ry)
theorem ix_or2 (h : IxR X r) (h' : IxR X r') : IxR X (orR r r') := fun a b pins s σ H x y v u Q I rx ry q => q.elim (h a b pins s σ H x y v u Q I rx ry) (h' a b pins s σ H x y v u Q I rx ry)
def orC (r r' : List V → Hp → VK → Prop) : List V → Hp → VK → Prop := fun xs H Q => r xs H Q ∨ r' xs H Q
theorem cr_or2 {f : Value} {r r' : List V → Hp → VK → Prop} (h : CallR X f r) (h' : CallR X f r') : CallR X f (orC r r') := fun pins s σ H xs us Q I rx q => q.elim (h pins s σ H xs us Q I rx) (h' pins s σ H xs us Q I rx)

def zAddI : R2 := rI0 fun i j => .int (i + j)
def zAddS : R2 := fun x y H Q => ∃ i j, x = .str i ∧ y = .str j ∧ i.length + j.length ≤ sizeLine ∧ Q (.str (i ++ j)) H
def zAdd (K : PySem.W.Frag) : R2 := orR zAddI (orR zAddS (orR rCat (rCatA K)))
theorem op_zAdd : OpR X (binaryOp .Add) (zAdd X.K) := op_or2 op_add (op_or2 op_add_str (op_or2 op_cat op_catA))
def zSub : R2 := rI0 fun i j => .int (i - j)
theorem op_zSub : OpR X (binaryOp .Sub) zSub := op_sub
def zMulI : R2 := rI CMul fun i j => .int (i * j)
def zMulW : R2 := rI CMulW fun i j => .int (i * j)
def zMul : R2 := orR zMulI (orR zMulW rRep)
theorem op_zMul : OpR X (binaryOp .Mult) zMul := op_or2 op_mul (op_or2 op_mulW op_rep)
def zMod : R2 := rI (fun _ j => 0 < j) fun i j => .int (i % j)
theorem op_zMod : OpR X (binaryOp .Mod) zMod := op_mod
def zDivS : R2 := rI CDiv fun i j => .int (i / j)
def zDivW : R2 := rI CDivW fun i j => .int (i / j)
def zDiv : R2 := orR zDivS zDivW
theorem op_zDiv : OpR X (binaryOp .FloorDiv) zDiv := op_or2 op_fdiv op_fdivW
def zPow : R2 := rI CPow fun i j => .int (i ^ j.toNat)
theorem op_zPow : OpR X (binaryOp .Pow) zPow := op_pow
def zShl : R2 := rI CPow fun i j => .int (i * 2 ^ j.toNat)
theorem op_zShl : OpR X (binaryOp .LShift) zShl := op_shl
def zShr : R2 := rI (fun _ j => 0 ≤ j) fun i j => .int (i / 2 ^ j.toNat)
theorem op_zShr : OpR X (binaryOp .RShift) zShr := op_shr
def zAnd : R2 := rI0 fun i j => .int (Builtin.bitAnd i j)
theorem op_zAnd : OpR X (binaryOp .BitAnd) zAnd := op_and
def zOr : R2 := rI0 fun i j => .int (Builtin.bitOr i j)
theorem op_zOr : OpR X (binaryOp .BitOr) zOr := op_or
def zEq (K : PySem.W.Frag) : R2 := orR rEq (rEqD K)
theorem op_zEq (hu : X.A.units + 64 < cLine) : OpR X (compareOp .Eq) (zEq X.K) := op_or2 op_eq (op_eqD hu)
def zNe (K : PySem.W.Frag) : R2 := orR rNe (rNeD K)
theorem op_zNe (hu : X.A.units + 64 < cLine) : OpR X (compareOp .NotEq) (zNe X.K) := op_or2 op_ne (op_neD hu)
def zLtI : R2 := rI0 fun i j => .bl (decide (i < j))
def zLt (K : PySem.W.Frag) : R2 := orR zLtI (rLtT K)
theorem op_zLt (hu : X.A.units < cLine) : OpR X (compareOp .Lt) (zLt X.K) := op_or2 op_lt (op_ltT hu)
def zLe : R2 := rI0 fun i j => .bl (decide (i ≤ j))
theorem op_zLe : OpR X (compareOp .LtE) zLe := op_le
def zGt : R2 := rI0 fun i j => .bl (decide (j < i))
theorem op_zGt : OpR X (compareOp .Gt) zGt := op_gt
def zGe : R2 := rI0 fun i j => .bl (decide (j ≤ i))
theorem op_zGe : OpR X (compareOp .GtE) zGe := op_ge
def zIn (K : PySem.W.Frag) : R2 := orR (rIn K false) (orR (rInD K) fun x y H Q => ∃ i j, x = .str i ∧ y = .str j ∧ Q (.bl (!(Builtin.Str.occurrences j i 0 j.length 1).isEmpty)) H)
theorem op_zIn (hu : X.A.units + 65 < cLine) : OpR X (compareOp .In) (zIn X.K) := op_or2 op_in_seq (op_or2 (op_inD hu) op_in_str)
def zNotIn (K : PySem.W.Frag) : R2 := orR (rIn K true) (orR (rNotInD K) fun x y H Q => ∃ i j, x = .str i ∧ y = .str j ∧ Q (.bl (!(!(Builtin.Str.occurrences j i 0 j.length 1).isEmpty))) H)
theorem op_zNotIn (hu : X.A.units + 65 < cLine) : OpR X (compareOp .NotIn) (zNotIn X.K) := op_or2 op_notIn_seq (op_or2 (op_notInD hu) op_notin_str)
def zIsN : R2 := fun x y H Q => y = .non ∧ Q (.bl (decide (x = .non))) H
theorem op_zIsN : OpR X (compareOp .Is) zIsN := op_isN
def zNotN : R2 := fun x y H Q => y = .non ∧ Q (.bl (!decide (x = .non))) H
theorem op_zNotN : OpR X (compareOp .IsNot) zNotN := op_notN
def zLen (K : PySem.W.Frag) : List V → Hp → VK → Prop := fun xs H Q => ∃ x n, xs = [x] ∧ LenV K x H n ∧ Q (.int n) H
theorem cr_zLen : CallR X (.builtin "len") (zLen X.K) := call_len
def zList (K : PySem.W.Frag) : List V → Hp → VK → Prop := fun xs H Q => ∃ p ys, xs = [.ref p] ∧ (SqL K H p ys ∨ SqT K H p ys) ∧ ∀ l, H l = none → Q (.ref l) (upd H l (.lst ys))
theorem cr_zList : CallR X (.type "list") (zList X.K) := call_list_of
def zTuple (K : PySem.W.Frag) : List V → Hp → VK → Prop := fun xs H Q => ∃ p ys, xs = [.ref p] ∧ ((SqL K H p ys ∧ ∀ l, H l = none → Q (.ref l) (upd H l (.tup ys))) ∨ (SqT K H p ys ∧ Q (.ref p) H))
theorem cr_zTuple : CallR X (.type "tuple") (zTuple X.K) := call_tuple_of
theorem _root_.L2.Room.units65 {k : Nat} {A : Around} (r : Room k A) : A.units + 65 < cLine := by
  have := r.un
  omega
def zInt1 : List V → Hp → VK → Prop := fun xs H Q => (∃ i, xs = [.int i] ∧ Q (.int i) H) ∨ ∃ k, xs = [.bl k] ∧ Q (.int (if k then 1 else 0)) H
def zAbs : List V → Hp → VK → Prop := fun xs H Q => ∃ i, xs = [.int i] ∧ Q (.int (if i < 0 then -i else i)) H
def zMax2 : List V → Hp → VK → Prop := fun xs H Q => ∃ i j, xs = [.int i, .int j] ∧ Q (.int (if j > i then j else i)) H
def zMin2 : List V → Hp → VK → Prop := fun xs H Q => ∃ i j, xs = [.int i, .int j] ∧ Q (.int (if j < i then j else i)) H
def zSl (K : PySem.W.Frag) : V → Option Int → Option Int → Hp → VK → Prop := fun x lo hi H Q => rSlL K x lo hi H Q ∨ rSlA K x lo hi H Q
theorem sl_z : SlR X (zSl X.K) := SlR.or sl_list sl_tupA
def zTru (K : PySem.W.Frag) (ta : TE) : TT := fun σ H Q => ta σ H fun x H' => ∃ k, TruV K x H' k ∧ Q k H'
end

/-! ### one lemma a step -/
section
variable {K : PySem.W.Frag} {σ : St} {H : Hp} {D : Ends} {t u : TS} {ta tb tc te : TE} {c c' : TT} {v w x y z : V} {Q : VK} {QB : Bool → Hp → Prop} {QA : List V → Hp → Prop} {i j : Nat} {r r' : R2} {g : TG} {p q a b : Addr} {xs ys : List V} {tA tR : TA} {m n : Int} {k : Bool}
theorem s_seq (h : t { D with nx := u D } σ H) : tSeq t u D σ H := h
theorem s_asgN (h : te σ H fun v H1 => D.nx (σ.set i (some v)) H1) : tAsg te (gName i) D σ H := h
theorem s_asgS (h : te σ H fun v H1 => ta σ H1 fun o H1 => tb σ H1 fun i H2 => rSetL o i v H2 fun H3 => D.nx σ H3) : tAsg te (gSub ta tb rSetL) D σ H := h
theorem s_asgT {n : Nat} {ts : TGs} (h : te σ H fun v H1 => gTup K n ts v σ H1 D.nx) : tAsg te (gTup K n ts) D σ H := h
theorem s_drop (h : te σ H fun _ H1 => D.nx σ H1) : tDrop te D σ H := h
theorem s_ret (h : te σ H fun v H1 => D.rt v H1) : tRet te D σ H := h
theorem s_retN (h : D.rt .non H) : tRetN D σ H := h
theorem s_ifS (h : c σ H fun b H1 => if b = true then t D σ H1 else u D σ H1) : tIfS c t u D σ H := h
theorem s_next (h : D.nx σ H) : tNext D σ H := h
theorem s_break (h : D.bk σ H) : tBreak D σ H := h
theorem s_cont (h : D.ct σ H) : tCont D σ H := h
theorem s_aug {ti : TIp} (h1 : σ[i]? = some (some x)) (h : te σ H fun y H1 => ti x y H1 fun z H2 => D.nx (σ.set i (some z)) H2) : tAug i te ti D σ H := ⟨x, h1, h⟩
theorem e_var (h1 : σ[i]? = some (some v)) (h : Q v H) : tVar i σ H Q := ⟨v, h1, h⟩
theorem e_c (h : Q v H) : tC v σ H Q := h
theorem e_op (h : ta σ H fun x H1 => tb σ H1 fun y H2 => r x y H2 Q) : tOp r ta tb σ H Q := h
theorem e_un {r : V → Hp → VK → Prop} (h : ta σ H fun x H1 => r x H1 Q) : tUn r ta σ H Q := h
theorem e_chain (h : ta σ H fun x H1 => tb σ H1 fun y H2 => r x y H2 fun z H3 => ∃ k, z = .bl k ∧ (if k = true then tc σ H3 fun w' H4 => r' y w' H4 Q else Q (.bl false) H3)) : tChain r r' ta tb tc σ H Q := h
theorem e_cb {r : List V → Hp → VK → Prop} (h : tA σ H fun vs H1 => r vs H1 Q) : tCB r tA σ H Q := h
theorem e_call {sp : Sp} {E : XK} (h : tA σ H fun vs H1 => sp (vs ++ []) H1 Q E) : tCall sp [] E tA σ H Q := h
theorem a_nil (h : QA [] H) : tNil σ H QA := h
theorem a_cons (h : ta σ H fun x H1 => tR σ H1 fun xs H2 => QA (x :: xs) H2) : tCons ta tR σ H QA := h
theorem e_if (h : c σ H fun b H1 => if b = true then ta σ H1 Q else tb σ H1 Q) : tIf c ta tb σ H Q := h
theorem e_andV (h : ta σ H fun x H1 => ∃ c, x = .bl c ∧ if c = true then tb σ H1 Q else Q (.bl false) H1) : tAndV ta tb σ H Q := h
theorem e_orV (h : ta σ H fun x H1 => ∃ c, x = .bl c ∧ if c = true then Q (.bl true) H1 else tb σ H1 Q) : tOrV ta tb σ H Q := h
theorem e_notV (h : ta σ H fun x H1 => ∃ c, x = .bl c ∧ Q (.bl (!c)) H1) : tNotV ta σ H Q := h
theorem c_test (h : ta σ H fun x H1 => ∃ k, x = .bl k ∧ QB k H1) : tTest ta σ H QB := h
theorem c_B (h : ta σ H fun x H1 => ∃ k, x = .bl k ∧ QB k H1) : tB ta σ H QB := h
theorem c_and (h : c σ H fun b H1 => if b = true then c' σ H1 QB else QB false H1) : tAnd c c' σ H QB := h
theorem c_or (h : c σ H fun b H1 => if b = true then QB true H1 else c' σ H1 QB) : tOr c c' σ H QB := h
theorem c_not (h : c σ H fun b H1 => QB (!b) H1) : tNot c σ H QB := h
theorem c_tru (h : ta σ H fun x H' => ∃ k, TruV K x H' k ∧ QB k H') : zTru K ta σ H QB := h
theorem bl_ (h : QB k H) : ∃ k', V.bl k = .bl k' ∧ QB k' H := ⟨k, rfl, h⟩
theorem if_dec {p A B : Prop} {_inst : Decidable p} (h1 : p → A) (h2 : ¬ p → B) : if decide p = true then A else B := by
  by_cases h : p
  · rw [decide_eq_true h]
    exact iteT (h1 h)
  · rw [decide_eq_false h]
    exact iteF (h2 h)
theorem if_ndec {p A B : Prop} {_inst : Decidable p} (h1 : ¬ p → A) (h2 : p → B) : if (!decide p) = true then A else B := by
  by_cases h : p
  · rw [decide_eq_true h]
    exact iteF (h2 h)
  · rw [decide_eq_false h]
    exact iteT (h1 h)
theorem if_t {p A B : Prop} {_inst : Decidable p} (h : p) (h1 : A) : if decide p = true then A else B := if_dec (fun _ => h1) fun z => absurd h z
theorem if_f {p A B : Prop} {_inst : Decidable p} (h : ¬ p) (h1 : B) : if decide p = true then A else B := if_dec (fun z => absurd z h) fun _ => h1
theorem if_nt {p A B : Prop} {_inst : Decidable p} (h : ¬ p) (h1 : A) : if (!decide p) = true then A else B := if_ndec (fun _ => h1) fun z => absurd z h
theorem if_nf {p A B : Prop} {_inst : Decidable p} (h : p) (h1 : B) : if (!decide p) = true then A else B := if_ndec (fun z => absurd h z) fun _ => h1
theorem ref_ne {a : Addr} : ¬ (V.ref a = V.non) := fun h => by cases h
theorem int_ne {i : Int} : ¬ (V.int i = V.non) := fun h => by cases h
theorem str_ne {z : Str} : ¬ (V.str z = V.non) := fun h => by cases h
theorem if_b {b : Bool} {A B : Prop} (h1 : b = true → A) (h2 : b = false → B) : if b = true then A else B := by
  cases b with
  | true => exact iteT (h1 rfl)
  | false => exact iteF (h2 rfl)
theorem if_nb {b : Bool} {A B : Prop} (h1 : b = false → A) (h2 : b = true → B) : if (!b) = true then A else B := by
  cases b with
  | true => exact iteF (h2 rfl)
  | false => exact iteT (h1 rfl)
theorem iteNT {A B : Prop} (h : B) : if (!true) = true then A else B := iteF h
theorem iteNF {A B : Prop} (h : A) : if (!false) = true then A else B := iteT h
theorem o_isNr {a : Addr} {H : Hp} {Q : VK} (h : Q (.bl false) H) : zIsN (.ref a) .non H Q := ⟨rfl, h⟩
theorem o_isNi {i : Int} {H : Hp} {Q : VK} (h : Q (.bl false) H) : zIsN (.int i) .non H Q := ⟨rfl, h⟩
theorem o_isNs {i : Str} {H : Hp} {Q : VK} (h : Q (.bl false) H) : zIsN (.str i) .non H Q := ⟨rfl, h⟩
theorem o_isNn {H : Hp} {Q : VK} (h : Q (.bl true) H) : zIsN .non .non H Q := ⟨rfl, h⟩
theorem o_notNr {a : Addr} {H : Hp} {Q : VK} (h : Q (.bl true) H) : zNotN (.ref a) .non H Q := ⟨rfl, h⟩
theorem o_notNi {i : Int} {H : Hp} {Q : VK} (h : Q (.bl true) H) : zNotN (.int i) .non H Q := ⟨rfl, h⟩
theorem o_notNs {i : Str} {H : Hp} {Q : VK} (h : Q (.bl true) H) : zNotN (.str i) .non H Q := ⟨rfl, h⟩
theorem o_notNn {H : Hp} {Q : VK} (h : Q (.bl false) H) : zNotN .non .non H Q := ⟨rfl, h⟩
theorem t_bl {K : PySem.W.Frag} {b : Bool} {H : Hp} {QB : Bool → Hp → Prop} (h : QB b H) : ∃ k, TruV K (.bl b) H k ∧ QB k H := ⟨b, rfl, h⟩
theorem t_int {K : PySem.W.Frag} {i : Int} {H : Hp} {QB : Bool → Hp → Prop} (h : QB (i != 0) H) : ∃ k, TruV K (.int i) H k ∧ QB k H := ⟨_, rfl, h⟩
theorem t_lst {K : PySem.W.Frag} {a : Addr} {xs : List V} {H : Hp} {QB : Bool → Hp → Prop} (hs : SqL K H a xs) (h : QB (!xs.isEmpty) H) : ∃ k, TruV K (.ref a) H k ∧ QB k H := ⟨_, .inl ⟨xs, hs, rfl⟩, h⟩
theorem bl_if {k : Bool} {P : Bool → Prop} (h : P k) : ∃ k', V.bl k = .bl k' ∧ P k' := ⟨k, rfl, h⟩
theorem e_tup (h : tA σ H fun xs H1 => xs.length ≤ sizeLine ∧ ∀ p, H1 p = none → Q (.ref p) (upd H1 p (.tup xs))) : tTup tA σ H Q := h
theorem e_lst (h : tA σ H fun xs H1 => xs.length ≤ sizeLine ∧ ∀ p, H1 p = none → Q (.ref p) (upd H1 p (.lst xs))) : tLst tA σ H Q := h
theorem g_tup {n : Nat} {ts : TGs} {QS : St → Hp → Prop} (h : SqT K H a xs) (hn : xs.length = n) (k : ts xs σ H QS) : gTup K n ts (.ref a) σ H QS := ⟨a, xs, rfl, h, hn, k⟩
theorem g_name {QS : St → Hp → Prop} (h : QS (σ.set i (some v)) H) : gName i v σ H QS := h
theorem g_cons {ts : TGs} {QS : St → Hp → Prop} (h : g v σ H fun σ' H' => ts xs σ' H' QS) : gCons g ts (v :: xs) σ H QS := ⟨v, xs, rfl, h⟩
theorem g_nil {QS : St → Hp → Prop} (h : QS σ H) : gNil [] σ H QS := ⟨rfl, h⟩
-- operators by values
theorem o_add (h : Q (.int (m + n)) H) : zAdd K (.int m) (.int n) H Q := .inl ⟨m, n, rfl, rfl, h⟩
theorem o_addS {m n : Str} (hl : m.length + n.length ≤ sizeLine) (h : Q (.str (m ++ n)) H) : zAdd K (.str m) (.str n) H Q := .inr (.inl ⟨m, n, rfl, rfl, hl, h⟩)
theorem o_addL (ha : H a = some (.lst xs)) (hb : H b = some (.lst ys)) (hl : xs.length + ys.length ≤ sizeLine) (h : ∀ p, Fresh H p → Q (.ref p) (upd H p (.lst (xs ++ ys)))) : zAdd K (.ref a) (.ref b) H Q := .inr (.inr (.inl ⟨a, b, xs, ys, rfl, rfl, ha, hb, hl, h⟩))
theorem o_addT (ha : SqT K H a xs) (hb : SqT K H b ys) (hl : xs.length + ys.length ≤ sizeLine) (h1 : xs = [] → Q (.ref b) H) (h2 : xs ≠ [] → ys = [] → Q (.ref a) H) (h : xs ≠ [] → ys ≠ [] → ∀ p, Fresh H p → Q (.ref p) (upd H p (.tup (xs ++ ys)))) :
    zAdd K (.ref a) (.ref b) H Q := .inr (.inr (.inr ⟨a, b, xs, ys, rfl, rfl, ha, hb, hl, h1, h2, h⟩))
theorem o_sub (h : Q (.int (m - n)) H) : zSub (.int m) (.int n) H Q := ⟨m, n, rfl, rfl, h⟩
theorem o_mul (hc : CMul m n) (h : Q (.int (m * n)) H) : zMul (.int m) (.int n) H Q := .inl ⟨m, n, rfl, rfl, hc, h⟩
theorem o_mulW (hc : CMulW m n) (h : Q (.int (m * n)) H) : zMul (.int m) (.int n) H Q := .inr (.inl ⟨m, n, rfl, rfl, hc, h⟩)
theorem o_rep (ha : H a = some (.lst xs)) (h1 : -(2 ^ 63) ≤ n) (h2 : n < 2 ^ 63) (hl : xs.length * n.toNat ≤ sizeLine) (h : rRep (.ref a) (.int n) H Q) : zMul (.ref a) (.int n) H Q := .inr (.inr h)
theorem o_mod (hc : 0 < n) (h : Q (.int (m % n)) H) : zMod (.int m) (.int n) H Q := ⟨m, n, rfl, rfl, hc, h⟩
theorem o_div (hc : 0 < n) (hn : n < 1073741824) (h : Q (.int (m / n)) H) : zDiv (.int m) (.int n) H Q := .inl ⟨m, n, rfl, rfl, ⟨hc, hn⟩, h⟩
theorem o_divW (hc : CDivW m n) (h : Q (.int (m / n)) H) : zDiv (.int m) (.int n) H Q := .inr ⟨m, n, rfl, rfl, hc, h⟩
theorem o_pow (hc : CPow m n) (h : Q (.int (m ^ n.toNat)) H) : zPow (.int m) (.int n) H Q := ⟨m, n, rfl, rfl, hc, h⟩
theorem o_lt (h : Q (.bl (decide (m < n))) H) : zLt K (.int m) (.int n) H Q := .inl ⟨m, n, rfl, rfl, h⟩
theorem o_ltT {ms ns : List Int} (ha : SqT K H a (ms.map V.int)) (hb : SqT K H b (ns.map V.int)) (h : Q (.bl (HT.lexLt ms ns)) H) : zLt K (.ref a) (.ref b) H Q := .inr ⟨a, b, ms, ns, rfl, rfl, ha, hb, h⟩
theorem o_le (h : Q (.bl (decide (m ≤ n))) H) : zLe (.int m) (.int n) H Q := ⟨m, n, rfl, rfl, h⟩
theorem o_gt (h : Q (.bl (decide (n < m))) H) : zGt (.int m) (.int n) H Q := ⟨m, n, rfl, rfl, h⟩
theorem o_ge (h : Q (.bl (decide (n ≤ m))) H) : zGe (.int m) (.int n) H Q := ⟨m, n, rfl, rfl, h⟩
theorem o_eq (hs : scal x y = true) (h : Q (.bl (decide (x = y))) H) : zEq K x y H Q := .inl ⟨hs, h⟩
theorem o_ne (hs : scal x y = true) (h : Q (.bl (!decide (x = y))) H) : zNe K x y H Q := .inl ⟨hs, h⟩
theorem o_eqI (h : Q (.bl (decide (m = n))) H) : zEq K (.int m) (.int n) H Q := .inl ⟨rfl, (decide_eq_decide.mpr ⟨fun e => V.int.inj e, fun e => by rw [e]⟩ : decide (V.int m = V.int n) = decide (m = n)) ▸ h⟩
theorem o_neI (h : Q (.bl (!decide (m = n))) H) : zNe K (.int m) (.int n) H Q := .inl ⟨rfl, (decide_eq_decide.mpr ⟨fun e => V.int.inj e, fun e => by rw [e]⟩ : decide (V.int m = V.int n) = decide (m = n)) ▸ h⟩
theorem o_eqD {d e : PyData} (hx : Dp K H x d) (hy : Dp K H y e) (sd : SeqAt.shaped d = true) (se : SeqAt.shaped e = true) (h : Q (.bl (PyData.eqv d e)) H) : zEq K x y H Q := .inr ⟨d, e, hx, hy, sd, se, h⟩
theorem o_neD {d e : PyData} (hx : Dp K H x d) (hy : Dp K H y e) (sd : SeqAt.shaped d = true) (se : SeqAt.shaped e = true) (h : Q (.bl (!PyData.eqv d e)) H) : zNe K x y H Q := .inr ⟨d, e, hx, hy, sd, se, h⟩
theorem o_isN (h : Q (.bl (decide (x = .non))) H) : zIsN x .non H Q := ⟨rfl, h⟩
theorem o_notN (h : Q (.bl (!decide (x = .non))) H) : zNotN x .non H Q := ⟨rfl, h⟩
theorem o_neg (h : Q (.int (-m)) H) : rU (fun i => .int (-i)) (.int m) H Q := ⟨m, rfl, h⟩
theorem o_ixL (hl : SqL K H a xs) (hi : atI xs m = some v) (h : Q v H) : rIx K (.ref a) (.int m) H Q := .inl ⟨a, xs, m, v, rfl, rfl, hl, hi, h⟩
theorem o_ixT (hl : SqT K H a xs) (hi : atI xs m = some v) (h : Q v H) : rIx K (.ref a) (.int m) H Q := .inr (.inl ⟨a, xs, m, v, rfl, rfl, hl, hi, h⟩)
theorem o_setL (hl : H a = some (.lst xs)) (hi : ixN xs.length m = some j) {QH : Hp → Prop} (h : QH (upd H a (.lst (xs.set j v)))) : rSetL (.ref a) (.int m) v H QH := ⟨a, xs, m, j, rfl, rfl, hl, hi, h⟩
theorem o_lenL (hl : SqL K H a xs) (h : Q (.int xs.length) H) : zLen K [.ref a] H Q := ⟨_, _, rfl, .inl ⟨xs, hl, rfl⟩, h⟩
theorem o_lenT (hl : SqT K H a xs) (h : Q (.int xs.length) H) : zLen K [.ref a] H Q := ⟨_, _, rfl, .inr ⟨xs, hl, rfl⟩, h⟩
theorem o_lenS {m : Str} (hl : m.length ≤ sizeLine) (h : Q (.int m.length) H) : zLen K [.str m] H Q := ⟨_, _, rfl, ⟨hl, rfl⟩, h⟩
theorem o_listL (hl : SqL K H a xs) (h : ∀ p, Fresh H p → Q (.ref p) (upd H p (.lst xs))) : zList K [.ref a] H Q := ⟨a, xs, rfl, .inl hl, h⟩
theorem o_listT (hl : SqT K H a xs) (h : ∀ p, Fresh H p → Q (.ref p) (upd H p (.lst xs))) : zList K [.ref a] H Q := ⟨a, xs, rfl, .inr hl, h⟩
theorem o_tupleL (hl : SqL K H a xs) (h : ∀ p, Fresh H p → Q (.ref p) (upd H p (.tup xs))) : zTuple K [.ref a] H Q := ⟨a, xs, rfl, .inl ⟨hl, h⟩⟩
theorem o_tupleT (hl : SqT K H a xs) (h : Q (.ref a) H) : zTuple K [.ref a] H Q := ⟨a, xs, rfl, .inr ⟨hl, h⟩⟩
theorem o_sum {ns : List Int} (hl : SqL K H a (ns.map V.int)) (h : Q (.int ns.sum) H) : rSum K [.ref a] H Q := ⟨a, ns, rfl, hl, h⟩
theorem o_ipI {f : Int → Int → Int} (h : Q (.int (f m n)) H) : ipI f (.int m) (.int n) H Q := ⟨m, n, rfl, rfl, h⟩
theorem m_app (hl : H a = some (.lst xs)) (hz : xs.length < sizeLine) (h : Q .non (upd H a (.lst (xs ++ [v])))) : rAppend (.ref a) [v] H Q := ⟨a, xs, v, rfl, rfl, hl, hz, h⟩
theorem e_bm {T : String} {r : V → List V → Hp → VK → Prop} (h : ta σ H fun x H1 => tyV K T x H1 ∧ tA σ H1 fun xs H2 => r x xs H2 Q) : tBM K T r ta tA σ H Q := h
theorem e_bm0 {T : String} {r : V → List V → Hp → VK → Prop} (h : ta σ H fun x H1 => tyV K T x H1 ∧ r x [] H1 Q) : tBM0 K T r ta σ H Q := h
theorem ty_list (hl : SqL K H a xs) : tyV K "list" (.ref a) H := .inl ⟨rfl, xs, hl⟩
-- loops
def LpW (J : It) (g : TG) (t : TS) (D : Ends) (σ : St) (H : Hp) : Prop := ∃ W : Nat → Nat → St → Hp → Prop, (∃ m, W 0 m σ H) ∧ ∀ i m σ' H', W i m σ' H' →
  (J.stop i H' ∧ D.nx σ' H') ∨ (J.go i H' ∧ ∃ N : St → Hp → Prop, (∀ σ2 H2, N σ2 H2 → ∃ m', m' < m ∧ W (i + 1) m' σ2 H2) ∧ ∀ x H2, J.yld i H' x H2 → g x σ' H2 fun σ3 H3 => t { D with nx := N, ct := N, bk := D.nx } σ3 H3)
def LpL (K : PySem.W.Frag) (g : TG) (t : TS) (D : Ends) (σ : St) (x : V) (H : Hp) : Prop := ∃ a, x = .ref a ∧ (∃ xs, SqL K H a xs) ∧ LpW (Itl K a) g t D σ H
def LpT (K : PySem.W.Frag) (g : TG) (t : TS) (D : Ends) (σ : St) (x : V) (H : Hp) : Prop := ∃ a, x = .ref a ∧ (∃ xs, SqT K H a xs) ∧ LpW (Itt K a) g t D σ H
def LpR1 (g : TG) (t : TS) (D : Ends) (σ : St) (x : V) (H : Hp) : Prop := ∃ j : Int, [x] = [V.int j] ∧ -(2 ^ 62) ≤ j ∧ j < 2 ^ 62 ∧ LpW (Itr 0 j.toNat) g t D σ H
def LpR2 (g : TG) (t : TS) (D : Ends) (σ : St) (x y : V) (H : Hp) : Prop := ∃ i j : Int, [x, y] = [V.int i, V.int j] ∧ (-(2 ^ 62) ≤ i ∧ i < 2 ^ 62 ∧ -(2 ^ 62) ≤ j ∧ j < 2 ^ 62) ∧ LpW (Itr i (j - i).toNat) g t D σ H
def LpE (K : PySem.W.Frag) (g : TG) (t : TS) (D : Ends) (σ : St) (x : V) (H : Hp) : Prop := ∃ a xs, [x] = [V.ref a] ∧ SqL K H a xs ∧ LpW (Ite K a) g t D σ H
theorem s_forL (h : ta σ H fun x H1 => LpL K g t D σ x H1) : tFor (iList K ta) g t D σ H := h
theorem s_forT (h : ta σ H fun x H1 => LpT K g t D σ x H1) : tFor (iTup K ta) g t D σ H := h
theorem s_forR1 (h : ta σ H fun x H1 => LpR1 g t D σ x H1) : tFor (iRng1 (tCons ta tNil)) g t D σ H := h
theorem s_forR2 (h : ta σ H fun x H1 => tb σ H1 fun y H2 => LpR2 g t D σ x y H2) : tFor (iRng2 (tCons ta (tCons tb tNil))) g t D σ H := h
theorem s_forE (h : ta σ H fun x H1 => LpE K g t D σ x H1) : tFor (iEnum K (tCons ta tNil)) g t D σ H := h
theorem lp_list (hs : SqL K H a xs) (Pv : Nat → St → Hp → Prop) (h0 : Pv 0 σ H) (hl : ∀ i σ' H', i ≤ xs.length → Pv i σ' H' → SqL K H' a xs)
    (hb : ∀ i x σ' H', xs[i]? = some x → Pv i σ' H' → g x σ' H' fun σ2 H2 => t { D with nx := Pv (i + 1), ct := Pv (i + 1), bk := D.nx } σ2 H2) (hd : ∀ σ' H', Pv xs.length σ' H' → D.nx σ' H') : LpL K g t D σ (.ref a) H :=
  ⟨a, rfl, ⟨xs, hs⟩, for_list Pv h0 hl hb hd⟩
theorem lp_tup (hs : SqT K H a xs) (Pv : Nat → St → Hp → Prop) (h0 : Pv 0 σ H) (hl : ∀ i σ' H', i ≤ xs.length → Pv i σ' H' → SqT K H' a xs)
    (hb : ∀ i x σ' H', xs[i]? = some x → Pv i σ' H' → g x σ' H' fun σ2 H2 => t { D with nx := Pv (i + 1), ct := Pv (i + 1), bk := D.nx } σ2 H2) (hd : ∀ σ' H', Pv xs.length σ' H' → D.nx σ' H') : LpT K g t D σ (.ref a) H :=
  ⟨a, rfl, ⟨xs, hs⟩, for_tup Pv h0 hl hb hd⟩
theorem lp_range1 (hr : -(2 ^ 62) ≤ n ∧ n < 2 ^ 62) (Pv : Nat → St → Hp → Prop) (h0 : Pv 0 σ H)
    (hb : ∀ (i : Nat) σ' H', (i : Int) < n → Pv i σ' H' → g (.int (i : Int)) σ' H' fun σ2 H2 => t { D with nx := Pv (i + 1), ct := Pv (i + 1), bk := D.nx } σ2 H2) (hd : ∀ σ' H', Pv n.toNat σ' H' → D.nx σ' H') : LpR1 g t D σ (.int n) H :=
  ⟨n, rfl, hr.1, hr.2, for_range (lo := 0) Pv h0 (fun i σ' H' hi p => by
    have e : (0 : Int) + (i : Int) = (i : Int) := Int.zero_add _
    rw [e]
    exact hb i σ' H' (by omega) p) hd⟩
theorem lp_range2 (hr : -(2 ^ 62) ≤ m ∧ m < 2 ^ 62 ∧ -(2 ^ 62) ≤ n ∧ n < 2 ^ 62) (Pv : Nat → St → Hp → Prop) (h0 : Pv 0 σ H)
    (hb : ∀ (i : Nat) σ' H', m + (i : Int) < n → Pv i σ' H' → g (.int (m + i)) σ' H' fun σ2 H2 => t { D with nx := Pv (i + 1), ct := Pv (i + 1), bk := D.nx } σ2 H2) (hd : ∀ σ' H', Pv (n - m).toNat σ' H' → D.nx σ' H') : LpR2 g t D σ (.int m) (.int n) H :=
  ⟨m, n, rfl, hr, for_range Pv h0 (fun i σ' H' hi p => hb i σ' H' (by
    have h : i < (n - m).toNat := hi
    omega) p) hd⟩
theorem lp_enum (hs : SqL K H a xs) (Pv : Nat → St → Hp → Prop) (h0 : Pv 0 σ H) (hl : ∀ i σ' H', i ≤ xs.length → Pv i σ' H' → SqL K H' a xs)
    (hb : ∀ i x σ' H' q, xs[i]? = some x → Pv i σ' H' → Fresh H' q → g (.ref q) σ' (upd H' q (.tup [.int (i : Int), x])) fun σ2 H2 => t { D with nx := Pv (i + 1), ct := Pv (i + 1), bk := D.nx } σ2 H2)
    (hd : ∀ σ' H', Pv xs.length σ' H' → D.nx σ' H') : LpE K g t D σ (.ref a) H := by
  refine ⟨a, xs, rfl, hs, fun i m σ' H' => m = xs.length - i ∧ i ≤ xs.length ∧ Pv i σ' H', ⟨xs.length, by simp, Nat.zero_le _, h0⟩, ?_⟩
  rintro i m σ' H' ⟨rfl, hi, pv⟩
  have sq := hl i σ' H' hi pv
  by_cases c : i < xs.length
  · refine .inr ⟨⟨xs, xs[i], sq, List.getElem?_eq_getElem c⟩, Pv (i + 1), fun σ2 H2 p2 => ⟨xs.length - (i + 1), by omega, rfl, c, p2⟩, fun x H2 y => ?_⟩
    obtain ⟨q, z, rfl, nq, rfl, f⟩ := y
    exact hb i z σ' H' q (f xs sq) pv nq
  · have e : i = xs.length := by omega
    subst e
    exact .inl ⟨⟨xs, sq, Nat.le_refl _⟩, hd σ' H' pv⟩
end

end Z

/-! Zd: plain data (no truth, no dict): == is equality; tuples of ints. -/
namespace Z
open PySem PySem.Spec L2
open PyProof.Rows hiding St
mutual
def nob : PyData → Bool
  | .none | .int _ | .str _ => true
  | .bool _ | .dict _ => false
  | .list xs | .tuple xs => nobAll xs
def nobAll : List PyData → Bool
  | [] => true
  | x :: xs => nob x && nobAll xs
end
structure Pl (n : Nat) (d : PyData) : Prop where
  lay : d.canLay0 = true
  dep : d.depth ≤ n
  nob : nob d = true
theorem all_iff {f : PyData → Bool} {g : List PyData → Bool} (h0 : g [] = true) (h1 : ∀ x xs, g (x :: xs) = (f x && g xs)) : ∀ xs, (∀ x ∈ xs, f x = true) → g xs = true
  | [], _ => h0
  | x :: xs, h => by
    rw [h1, h x List.mem_cons_self, all_iff h0 h1 xs fun y hy => h y (List.mem_cons_of_mem _ hy)]
    rfl
theorem depthAll_le {n : Nat} : ∀ xs : List PyData, (∀ x ∈ xs, x.depth ≤ n) → PyData.depthAll xs ≤ n
  | [], _ => Nat.zero_le _
  | x :: xs, h => by
    show max x.depth (PyData.depthAll xs) ≤ n
    have a := h x List.mem_cons_self
    have b := depthAll_le xs fun y hy => h y (List.mem_cons_of_mem _ hy)
    omega
theorem pl_none {n : Nat} : Pl n .none := ⟨rfl, Nat.zero_le _, rfl⟩
theorem pl_int {n : Nat} {i : Int} : Pl n (.int i) := ⟨rfl, Nat.zero_le _, rfl⟩
theorem pl_str {n : Nat} {x : Str} (h : PyData.canLay0 (.str x) = true := by decide +kernel) : Pl n (.str x) := ⟨h, Nat.zero_le _, rfl⟩
theorem pl_tup {n : Nat} {ds : List PyData} (h : ∀ d ∈ ds, Pl n d) : Pl (n + 1) (.tuple ds) :=
  ⟨all_iff (f := PyData.canLay0) (g := PyData.canLayAll0) rfl (fun _ _ => rfl) ds fun d hd => (h d hd).lay, Nat.succ_le_succ (depthAll_le ds fun d hd => (h d hd).dep), all_iff (f := nob) (g := nobAll) rfl (fun _ _ => rfl) ds fun d hd => (h d hd).nob⟩
theorem pl_lst {n : Nat} {ds : List PyData} (h : ∀ d ∈ ds, Pl n d) : Pl (n + 1) (.list ds) :=
  ⟨all_iff (f := PyData.canLay0) (g := PyData.canLayAll0) rfl (fun _ _ => rfl) ds fun d hd => (h d hd).lay, Nat.succ_le_succ (depthAll_le ds fun d hd => (h d hd).dep), all_iff (f := nob) (g := nobAll) rfl (fun _ _ => rfl) ds fun d hd => (h d hd).nob⟩
theorem Pl.shaped {n : Nat} {d : PyData} (h : Pl n d) (hn : n ≤ 64) : SeqAt.shaped d = true := by
  unfold SeqAt.shaped
  rw [h.lay, Bool.true_and]
  exact decide_eq_true (Nat.le_trans h.dep hn)
mutual
theorem eqv_iff : ∀ d e : PyData, nob d = true → nob e = true → (PyData.eqv d e = true ↔ d = e)
  | .none, e, _, he => by cases e <;> simp_all [PyData.eqv, nob]
  | .bool _, _, hd, _ => by cases hd
  | .int i, e, _, he => by cases e <;> simp_all [PyData.eqv, nob]
  | .str x, e, _, he => by cases e <;> simp_all [PyData.eqv, nob]
  | .list xs, e, hd, he => by
    cases e with
    | list ys =>
      have h := eqvAll_iff xs ys hd he
      show PyData.eqvAll xs ys = true ↔ _
      rw [h]
      exact ⟨fun z => by rw [z], fun z => by cases z; rfl⟩
    | bool _ => cases he
    | dict _ => cases he
    | none => simp [PyData.eqv]
    | int _ => simp [PyData.eqv]
    | str _ => simp [PyData.eqv]
    | tuple _ => simp [PyData.eqv]
  | .tuple xs, e, hd, he => by
    cases e with
    | tuple ys =>
      have h := eqvAll_iff xs ys hd he
      show PyData.eqvAll xs ys = true ↔ _
      rw [h]
      exact ⟨fun z => by rw [z], fun z => by cases z; rfl⟩
    | bool _ => cases he
    | dict _ => cases he
    | none => simp [PyData.eqv]
    | int _ => simp [PyData.eqv]
    | str _ => simp [PyData.eqv]
    | list _ => simp [PyData.eqv]
  | .dict _, _, hd, _ => by cases hd
theorem eqvAll_iff : ∀ xs ys : List PyData, nobAll xs = true → nobAll ys = true → (PyData.eqvAll xs ys = true ↔ xs = ys)
  | [], [], _, _ => by simp [PyData.eqvAll]
  | [], _ :: _, _, _ => by simp [PyData.eqvAll]
  | _ :: _, [], _, _ => by simp [PyData.eqvAll]
  | x :: xs, y :: ys, h1, h2 => by
    have a := Bool.and_eq_true_iff.mp (show (nob x && nobAll xs) = true from h1)
    have b := Bool.and_eq_true_iff.mp (show (nob y && nobAll ys) = true from h2)
    show (PyData.eqv x y && PyData.eqvAll xs ys) = true ↔ _
    rw [Bool.and_eq_true_iff, eqv_iff x y a.1 b.1, eqvAll_iff xs ys a.2 b.2, List.cons.injEq]
end
theorem Pl.eqv {n m : Nat} {d e : PyData} (a : Pl n d) (b : Pl m e) {p : Prop} [Decidable p] (h : d = e ↔ p) : PyData.eqv d e = decide p := by
  have q := (eqv_iff d e a.nob b.nob).trans h
  by_cases hp : p
  · rw [decide_eq_true hp]
    exact q.mpr hp
  · rw [decide_eq_false hp]
    exact Bool.eq_false_iff.mpr fun z => hp (q.mp z)
theorem Pl.refl {n : Nat} {d : PyData} (a : Pl n d) : PyData.eqv d d = true := (eqv_iff d d a.nob a.nob).mpr rfl

/-! ### tuples of ints -/
abbrev dI (ns : List Int) : PyData := .tuple (ns.map .int)
abbrev dLI (dss : List (List Int)) : PyData := .list (dss.map dI)
theorem pl_dI {ns : List Int} : Pl 1 (dI ns) := pl_tup fun d hd => by
  obtain ⟨i, _, rfl⟩ := List.mem_map.mp hd
  exact pl_int
theorem pl_dLI {dss : List (List Int)} : Pl 2 (dLI dss) := pl_lst fun d hd => by
  obtain ⟨i, _, rfl⟩ := List.mem_map.mp hd
  exact pl_dI
theorem map_int_inj : ∀ {a b : List Int}, a.map PyData.int = b.map PyData.int → a = b
  | [], [], _ => rfl
  | [], _ :: _, h => by cases h
  | _ :: _, [], h => by cases h
  | x :: a, y :: b, h => by
    rw [List.map_cons, List.map_cons, List.cons.injEq] at h
    rw [PyData.int.inj h.1, map_int_inj h.2]
theorem dI_inj {a b : List Int} : dI a = dI b ↔ a = b := ⟨fun h => map_int_inj (PyData.tuple.inj h), fun h => by rw [h]⟩
theorem map_V_inj : ∀ {a b : List Int}, a.map V.int = b.map V.int → a = b
  | [], [], _ => rfl
  | [], _ :: _, h => by cases h
  | _ :: _, [], h => by cases h
  | x :: a, y :: b, h => by
    rw [List.map_cons, List.map_cons, List.cons.injEq] at h
    rw [V.int.inj h.1, map_V_inj h.2]
section
variable {K : PySem.W.Frag} {H H' F : Hp}
theorem dpAll_ints : ∀ ns : List Int, DpAll K H (ns.map V.int) (ns.map PyData.int)
  | [] => .nil
  | n :: ns => .cons (.int n) (dpAll_ints ns)
/-- v is a tuple of the ints ns -/
def TI (H : Hp) (v : V) (ns : List Int) : Prop := ∃ t, v = .ref t ∧ H t = some (.tup (ns.map V.int))
theorem TI.mono (e : Same H H') {v : V} {ns : List Int} (h : TI H v ns) : TI H' v ns := by
  obtain ⟨t, rfl, h⟩ := h
  exact ⟨t, rfl, e _ _ h⟩
theorem TI.dp {v : V} {ns : List Int} (h : TI H v ns) : Dp K H v (dI ns) := by
  obtain ⟨t, rfl, h⟩ := h
  exact .tup (SqT.of h) (dpAll_ints ns)
abbrev TIs (H : Hp) : List V → List (List Int) → Prop := Paired (TI H)
theorem TIs.mono (e : Same H H') {vs : List V} {nss : List (List Int)} (h : TIs H vs nss) : TIs H' vs nss := Paired.mono (fun _ _ => TI.mono e) h
theorem TIs.dp : ∀ {vs : List V} {nss : List (List Int)}, TIs H vs nss → DpAll K H vs (nss.map dI)
  | _, _, .nil => .nil
  | _, _, .cons h t => .cons h.dp (TIs.dp t)
theorem TIs.get : ∀ {vs : List V} {nss : List (List Int)} {i : Nat} {v : V}, TIs H vs nss → vs[i]? = some v → ∃ ns, nss[i]? = some ns ∧ TI H v ns
  | _, _, 0, _, .cons h _, e => by
    rw [List.getElem?_cons_zero] at e
    cases e
    exact ⟨_, rfl, h⟩
  | _, _, i + 1, _, .cons _ t, e => by
    rw [List.getElem?_cons_succ] at e ⊢
    exact TIs.get t e
theorem TIs.app {vs ws : List V} {nss mss : List (List Int)} (h : TIs H vs nss) (k : TIs H ws mss) : TIs H (vs ++ ws) (nss ++ mss) := by
  induction h with
  | nil => exact k
  | cons a _ ih => exact .cons a ih
theorem TIs.take : ∀ {vs : List V} {nss : List (List Int)} (n : Nat), TIs H vs nss → TIs H (vs.take n) (nss.take n)
  | _, _, 0, _ => .nil
  | _, _, _ + 1, .nil => .nil
  | _, _, n + 1, .cons h t => .cons h (TIs.take n t)
theorem TIs.drop : ∀ {vs : List V} {nss : List (List Int)} (n : Nat), TIs H vs nss → TIs H (vs.drop n) (nss.drop n)
  | _, _, 0, h => h
  | _, _, _ + 1, .nil => .nil
  | _, _, n + 1, .cons _ t => TIs.drop n t
theorem TIs.set {v : V} {ns : List Int} (h : TI H v ns) : ∀ {vs : List V} {nss : List (List Int)} (i : Nat), TIs H vs nss → TIs H (vs.set i v) (nss.set i ns)
  | _, _, _, .nil => .nil
  | _, _, 0, .cons _ t => .cons h t
  | _, _, i + 1, .cons a t => .cons a (TIs.set h i t)
theorem TIs.erase : ∀ {vs : List V} {nss : List (List Int)} (i : Nat), TIs H vs nss → TIs H (vs.eraseIdx i) (nss.eraseIdx i)
  | _, _, _, .nil => .nil
  | _, _, 0, .cons _ t => t
  | _, _, i + 1, .cons a t => .cons a (TIs.erase i t)
theorem any_dI {ns : List Int} : ∀ dss : List (List Int), ((dss.map dI).any fun z => PyData.eqv z (dI ns)) = decide (ns ∈ dss)
  | [] => by simp
  | d :: dss => by
    rw [List.map_cons, List.any_cons, any_dI dss, pl_dI.eqv pl_dI (p := ns = d) (dI_inj.trans ⟨Eq.symm, Eq.symm⟩)]
    rw [show decide (ns ∈ d :: dss) = decide (ns = d ∨ ns ∈ dss) from decide_eq_decide.mpr List.mem_cons, Bool.decide_or]
end
end Z

/-! Zq: steps: pairs, dicts, slices, comprehensions, sorted, isinstance. -/
namespace Z
open PySem PySem.Spec L2
open PyProof.Rows hiding St
section
variable {X : Cx}
def rInsert : V → List V → Hp → VK → Prop := fun x vs H Q => ∃ (l : Addr) (xs : List V) (i : Int) (y : V), x = .ref l ∧ vs = [.int i, y] ∧ H l = some (.lst xs) ∧ xs.length < sizeLine ∧ 0 ≤ i ∧ i < 2 ^ 63 ∧
  Q .non (upd H l (.lst (xs.take i.toNat ++ [y] ++ xs.drop i.toNat)))
theorem mt_zInsert : MtR X "list.insert" rInsert := mt_insert
def zSorted (K : PySem.W.Frag) (w : World) : List V → Hp → VK → Prop := orC (rSortedSet w) (rSortedI K)
theorem cr_zSorted (hc : X.calm = true) : CallR X (.builtin "sorted") (zSorted X.K X.w) := cr_or2 (cr_sortedSet hc) cr_sortedI
end
section
variable {K : PySem.W.Frag} {w0 : World} {σ : St} {H : Hp} {D : Ends} {t u : TS} {ta tb tc te tl : TE} {to' tl' th' : TO} {c c' : TT} {v w x y z : V} {Q : VK} {QH : Hp → Prop} {QS : St → Hp → Prop} {QB : Bool → Hp → Prop} {QO : Option Int → Hp → Prop} {i j : Nat} {g : TG} {p q a b l : Addr} {xs ys : List V} {tA : TA} {m n : Int} {vs : List Nat} {ns : List Int}
theorem s_par (h : ta σ H fun x H1 => tb σ H1 fun y H2 => ∃ v w, [x, y] = [v, w] ∧ D.nx ((σ.set i (some v)).set j (some w)) H2) : tPar i j (tCons ta (tCons tb tNil)) D σ H := h
theorem par_ {P : V → V → Prop} (h : P x y) : ∃ v w, [x, y] = [v, w] ∧ P v w := ⟨x, y, rfl, h⟩
theorem s_dput (h : tc σ H fun v H1 => ta σ H1 fun x H2 => tb σ H2 fun y H3 => ∃ a H4, x = .ref a ∧ DPut H3 a y v H4 ∧ D.nx σ H4) : sDPut ta tb tc D σ H := h
theorem dput_T {ks : List Key} {kvs : List (List Key × V)} (ha : H a = some (.dT kvs)) (hb : H b = some (.tup (ks.map kV))) (hl : kvs.length < sizeLine) (h : QH (upd H a (.dT (putK kvs ks v)))) :
    ∃ a' H4, V.ref a = .ref a' ∧ DPut H a' (.ref b) v H4 ∧ QH H4 := ⟨a, _, rfl, DPut.t ha hb hl, h⟩
theorem e_din (h : ta σ H fun y H1 => tb σ H1 fun x H2 => ∃ a o, x = .ref a ∧ DGet H2 a y o ∧ Q (.bl o.isSome) H2) : tDIn ta tb σ H Q := h
theorem din_T {ks : List Key} {kvs : List (List Key × V)} {P : Option V → Prop} (ha : H a = some (.dT kvs)) (hb : H b = some (.tup (ks.map kV))) (h : P (valV kvs ks)) : ∃ a' o, V.ref a = .ref a' ∧ DGet H a' (.ref b) o ∧ P o :=
  ⟨a, _, rfl, DGet.t ha hb, h⟩
theorem e_dnewT (h : ∀ p, Fresh H p → Q (.ref p) (upd H p (.dT []))) : tDNewT σ H Q := h
theorem e_dnewK (h : ∀ p, Fresh H p → Q (.ref p) (upd H p (.dK []))) : tDNewK σ H Q := h
theorem kv_ints (ns : List Int) : (ns.map (Sum.inl : Int → Key)).map kV = ns.map V.int := by
  rw [List.map_map]
  rfl
theorem e_sl {r : V → Option Int → Option Int → Hp → VK → Prop} (h : te σ H fun x H1 => tl' σ H1 fun l H2 => th' σ H2 fun u H3 => r x l u H3 Q) : tSl r te tl' th' σ H Q := h
theorem p_none (h : QO none H) : tNoPart σ H QO := h
theorem p_some (h : te σ H fun x H1 => ∃ i, x = .int i ∧ QO (some i) H1) : tPart te σ H QO := h
theorem p_int {P : Int → Prop} (h : P m) : ∃ i, V.int m = .int i ∧ P i := ⟨m, rfl, h⟩
theorem sl_L {lo hi : Option Int} (hs : SqL K H a xs) (h : ∀ p, Fresh H p → Q (.ref p) (upd H p (.lst (cutV xs lo hi)))) : zSl K (.ref a) lo hi H Q := .inl ⟨a, xs, rfl, hs, h⟩
theorem sl_T {lo hi : Option Int} (hs : SqT K H a xs) (h1 : HT.sIx xs.length 0 lo = 0 ∧ HT.sIx xs.length xs.length hi = xs.length → Q (.ref a) H)
    (h2 : ¬ (HT.sIx xs.length 0 lo = 0 ∧ HT.sIx xs.length xs.length hi = xs.length) → ∀ p, Fresh H p → Q (.ref p) (upd H p (.tup (cutV xs lo hi)))) : zSl K (.ref a) lo hi H Q := .inr ⟨a, xs, rfl, hs, h1, h2⟩
/-- a slice of a tuple, the same or a new one: what is known of it -/
theorem sl_Tk {lo hi : Option Int} (hs : SqT K H a xs) (h : ∀ p H', Same H H' → (H' = H ∨ Fresh H p ∧ H' = upd H p (.tup (cutV xs lo hi))) → SqT K H' p (cutV xs lo hi) → Q (.ref p) H') : zSl K (.ref a) lo hi H Q :=
  sl_T hs (fun ⟨e1, e2⟩ => h a H (Same.refl H) (.inl rfl) (by
    have e : cutV xs lo hi = xs := by
      unfold cutV
      rw [e1, e2, List.drop_zero, Nat.sub_zero, List.take_length]
    rw [e]
    exact hs)) fun _ p np => h p _ (fun b o e => by
      rw [upd_ne (ne_of_none e np)]
      exact e) (.inr ⟨np, rfl⟩) (SqT.of upd_same)
theorem cut_lo (xs : List V) (k : Nat) : cutV xs none (some (k : Int)) = xs.take k := by
  unfold cutV
  rw [HT.sIx_none, HT.sIx_nat, List.drop_zero, Nat.sub_zero]
  rcases Nat.le_total k xs.length with h | h
  · rw [Nat.min_eq_left h]
  · rw [Nat.min_eq_right h, List.take_length, List.take_of_length_le h]
theorem cut_hi (xs : List V) (k : Nat) : cutV xs (some (k : Int)) none = xs.drop k := by
  unfold cutV
  rw [HT.sIx_none, HT.sIx_nat]
  rcases Nat.le_total k xs.length with h | h
  · rw [Nat.min_eq_left h, List.take_of_length_le (by rw [List.length_drop]; omega)]
  · rw [Nat.min_eq_right h, List.drop_eq_nil_of_le (Nat.le_refl _), List.drop_eq_nil_of_le h]
    simp
-- comprehensions
def LcW (J : It) (g : TG) (tt : TT) (te : TE) (vs : List Nat) (σ : St) (H : Hp) (Q : VK) : Prop := ∀ D, H D = none → ∃ W : Nat → Nat → Hp → Prop, (∃ m, W 0 m (upd H D (.lst []))) ∧ ∀ i m H', W i m H' →
  (J.stop i H' ∧ Q (.ref D) H') ∨ (J.go i H' ∧ ∃ Nx : Hp → Prop, (∀ H2, Nx H2 → ∃ m', m' < m ∧ W (i + 1) m' H2) ∧ ∀ x H2, J.yld i H' x H2 → g x (wipe σ vs) H2 fun σ2 H3 => wipe σ2 vs = wipe σ vs ∧ tt σ2 H3 fun b H4 =>
    if b = true then te σ2 H4 fun y H5 => ∃ acc, H5 D = some (.lst acc) ∧ acc.length < sizeLine ∧ Nx (upd H5 D (.lst (acc ++ [y]))) else Nx H4)
def LcL (K : PySem.W.Frag) (g : TG) (tt : TT) (te : TE) (vs : List Nat) (σ : St) (x : V) (H : Hp) (Q : VK) : Prop := ∃ a, x = .ref a ∧ (∃ xs, SqL K H a xs) ∧ LcW (Itl K a) g tt te vs σ H Q
def LcT (K : PySem.W.Frag) (g : TG) (tt : TT) (te : TE) (vs : List Nat) (σ : St) (x : V) (H : Hp) (Q : VK) : Prop := ∃ a, x = .ref a ∧ (∃ xs, SqT K H a xs) ∧ LcW (Itt K a) g tt te vs σ H Q
def LcR1 (g : TG) (tt : TT) (te : TE) (vs : List Nat) (σ : St) (x : V) (H : Hp) (Q : VK) : Prop := ∃ j : Int, [x] = [V.int j] ∧ -(2 ^ 62) ≤ j ∧ j < 2 ^ 62 ∧ LcW (Itr 0 j.toNat) g tt te vs σ H Q
def LcR2 (g : TG) (tt : TT) (te : TE) (vs : List Nat) (σ : St) (x y : V) (H : Hp) (Q : VK) : Prop := ∃ i j : Int, [x, y] = [V.int i, V.int j] ∧ (-(2 ^ 62) ≤ i ∧ i < 2 ^ 62 ∧ -(2 ^ 62) ≤ j ∧ j < 2 ^ 62) ∧ LcW (Itr i (j - i).toNat) g tt te vs σ H Q
theorem e_lcL (h : tl σ H fun x H1 => LcL K g c te vs σ x H1 Q) : tLc (iList K tl) g c te vs σ H Q := h
theorem e_lcT (h : tl σ H fun x H1 => LcT K g c te vs σ x H1 Q) : tLc (iTup K tl) g c te vs σ H Q := h
theorem e_lcR1 (h : tl σ H fun x H1 => LcR1 g c te vs σ x H1 Q) : tLc (iRng1 (tCons tl tNil)) g c te vs σ H Q := h
theorem e_lcR2 (h : tl σ H fun x H1 => tb σ H1 fun y H2 => LcR2 g c te vs σ x y H2 Q) : tLc (iRng2 (tCons tl (tCons tb tNil))) g c te vs σ H Q := h
theorem c_yes (h : QB true H) : tYes σ H QB := h
theorem lc_L (hs : SqL K H a xs) (Pv : Addr → Nat → Hp → Prop) (h0 : ∀ D, Fresh H D → Pv D 0 (upd H D (.lst []))) (hl : ∀ D i H', i ≤ xs.length → Pv D i H' → SqL K H' a xs)
    (hb : ∀ D i x H', Fresh H D → xs[i]? = some x → Pv D i H' → g x (wipe σ vs) H' fun σ2 H3 => wipe σ2 vs = wipe σ vs ∧ c σ2 H3 fun b H4 =>
      if b = true then te σ2 H4 fun y H5 => ∃ acc, H5 D = some (.lst acc) ∧ acc.length < sizeLine ∧ Pv D (i + 1) (upd H5 D (.lst (acc ++ [y]))) else Pv D (i + 1) H4)
    (hd : ∀ D H', Fresh H D → Pv D xs.length H' → Q (.ref D) H') : LcL K g c te vs σ (.ref a) H Q := ⟨a, rfl, ⟨xs, hs⟩, fun D nD => lc_list (Pv D) (h0 D nD) (hl D) (fun i x H' => hb D i x H' nD) (fun H' => hd D H' nD)⟩
theorem lc_T (hs : SqT K H a xs) (Pv : Addr → Nat → Hp → Prop) (h0 : ∀ D, Fresh H D → Pv D 0 (upd H D (.lst []))) (hl : ∀ D i H', i ≤ xs.length → Pv D i H' → SqT K H' a xs)
    (hb : ∀ D i x H', Fresh H D → xs[i]? = some x → Pv D i H' → g x (wipe σ vs) H' fun σ2 H3 => wipe σ2 vs = wipe σ vs ∧ c σ2 H3 fun b H4 =>
      if b = true then te σ2 H4 fun y H5 => ∃ acc, H5 D = some (.lst acc) ∧ acc.length < sizeLine ∧ Pv D (i + 1) (upd H5 D (.lst (acc ++ [y]))) else Pv D (i + 1) H4)
    (hd : ∀ D H', Fresh H D → Pv D xs.length H' → Q (.ref D) H') : LcT K g c te vs σ (.ref a) H Q := ⟨a, rfl, ⟨xs, hs⟩, fun D nD => lc_tup (Pv D) (h0 D nD) (hl D) (fun i x H' => hb D i x H' nD) (fun H' => hd D H' nD)⟩
theorem lc_R1 (hr : -(2 ^ 62) ≤ n ∧ n < 2 ^ 62) (Pv : Addr → Nat → Hp → Prop) (h0 : ∀ D, Fresh H D → Pv D 0 (upd H D (.lst [])))
    (hb : ∀ D (i : Nat) H', Fresh H D → (i : Int) < n → Pv D i H' → g (.int (i : Int)) (wipe σ vs) H' fun σ2 H3 => wipe σ2 vs = wipe σ vs ∧ c σ2 H3 fun b H4 =>
      if b = true then te σ2 H4 fun y H5 => ∃ acc, H5 D = some (.lst acc) ∧ acc.length < sizeLine ∧ Pv D (i + 1) (upd H5 D (.lst (acc ++ [y]))) else Pv D (i + 1) H4)
    (hd : ∀ D H', Fresh H D → Pv D n.toNat H' → Q (.ref D) H') : LcR1 g c te vs σ (.int n) H Q := ⟨n, rfl, hr.1, hr.2, fun D nD => lc_range (lo := 0) (Pv D) (h0 D nD) (fun i H' hi p => by
    have e : (0 : Int) + (i : Int) = (i : Int) := Int.zero_add _
    rw [e]
    exact hb D i H' nD (by omega) p) (fun H' => hd D H' nD)⟩
theorem lc_R2 (hr : -(2 ^ 62) ≤ m ∧ m < 2 ^ 62 ∧ -(2 ^ 62) ≤ n ∧ n < 2 ^ 62) (Pv : Addr → Nat → Hp → Prop) (h0 : ∀ D, Fresh H D → Pv D 0 (upd H D (.lst [])))
    (hb : ∀ D (i : Nat) H', Fresh H D → m + (i : Int) < n → Pv D i H' → g (.int (m + i)) (wipe σ vs) H' fun σ2 H3 => wipe σ2 vs = wipe σ vs ∧ c σ2 H3 fun b H4 =>
      if b = true then te σ2 H4 fun y H5 => ∃ acc, H5 D = some (.lst acc) ∧ acc.length < sizeLine ∧ Pv D (i + 1) (upd H5 D (.lst (acc ++ [y]))) else Pv D (i + 1) H4)
    (hd : ∀ D H', Fresh H D → Pv D (n - m).toNat H' → Q (.ref D) H') : LcR2 g c te vs σ (.int m) (.int n) H Q := ⟨m, n, rfl, hr, fun D nD => lc_range (Pv D) (h0 D nD) (fun i H' hi p => hb D i H' nD (by omega) p) (fun H' => hd D H' nD)⟩
theorem w_split {σ2 : St} {R : Prop} (h1 : wipe σ2 vs = wipe σ vs) (h2 : R) : wipe σ2 vs = wipe σ vs ∧ R := ⟨h1, h2⟩
-- built-in methods of lists
theorem m_ext {zs : List V} (hl : H a = some (.lst xs)) (hb : H b = some (.lst zs)) (hz : xs.length + zs.length ≤ sizeLine) (h : Q .non (upd H a (.lst (xs ++ zs)))) : rExtend (.ref a) [.ref b] H Q := ⟨a, b, xs, zs, rfl, rfl, hl, hb, hz, h⟩
theorem m_popN (hl : H a = some (.lst xs)) {k : Nat} (hk : xs[k]? = some y) (hz : xs.length ≤ sizeLine) (h : Q y (upd H a (.lst (xs.eraseIdx k)))) : rPopAt (.ref a) [.int (k : Int)] H Q := by
  have e := (List.getElem?_eq_some_iff.mp hk).1
  refine ⟨a, xs, (k : Int), k, y, rfl, rfl, hl, by omega, by rw [sizeLine_eq] at hz; omega, (ixN_seq (Evl.ixN_nat e)).1, hk, h⟩
theorem m_pop (hl : H a = some (.lst xs)) (hk : xs[xs.length - 1]? = some y) (h : Q y (upd H a (.lst xs.dropLast))) : rPop (.ref a) [] H Q := ⟨a, xs, y, rfl, rfl, hl, hk, h⟩
theorem m_ins {k : Nat} (hl : H a = some (.lst xs)) (hz : xs.length < sizeLine) (hk : (k : Int) < 2 ^ 63) (h : Q .non (upd H a (.lst (xs.take k ++ [y] ++ xs.drop k)))) : rInsert (.ref a) [.int (k : Int), y] H Q :=
  ⟨a, xs, (k : Int), y, rfl, rfl, hl, hz, by omega, hk, h⟩
-- sorted, set
theorem o_setL' (hs : SqL K H a (ns.map V.int)) (hl : ns.length ≤ 1000) (h : ∀ p c, c ≤ ns.length → Fresh H p → Q (.ref p) (upd H p (SetO w0 p (fun j => decide (j ∈ ns)) c))) : zSet K w0 [.ref a] H Q := ⟨a, ns, rfl, .inl hs, hl, h⟩
theorem o_setT' (hs : SqT K H a (ns.map V.int)) (hl : ns.length ≤ 1000) (h : ∀ p c, c ≤ ns.length → Fresh H p → Q (.ref p) (upd H p (SetO w0 p (fun j => decide (j ∈ ns)) c))) : zSet K w0 [.ref a] H Q := ⟨a, ns, rfl, .inr hs, hl, h⟩
theorem o_sortSet {S : Int → Bool} {k : Nat} (hs : H a = some (SetO w0 a S k)) (hk : k < 64) (h : ∀ (ns : List Int) (p : Addr), ns.Pairwise (· < ·) → (∀ k : Int, k ∈ ns ↔ S k = true) → ns.length = k → Fresh H p → Q (.ref p) (upd H p (.lst (ns.map V.int)))) :
    zSorted K w0 [.ref a] H Q := .inl ⟨a, S, k, rfl, hs, hk, h⟩
theorem o_sortI (hs : SqL K H a (ns.map V.int)) (h : ∀ (ns' : List Int) (p : Addr), ns'.Perm ns → ns'.Pairwise (· ≤ ·) → Fresh H p → Q (.ref p) (upd H p (.lst (ns'.map V.int)))) : zSorted K w0 [.ref a] H Q := .inr ⟨a, ns, rfl, hs, h⟩
-- isinstance
theorem ty_L (h : SqL K H a xs) : TyX K H (.ref a) (.type "list") := by
  rcases h with (h | ⟨o, h⟩) | ⟨o, its, k, e, c, _⟩
  · exact .base (.lst h)
  · exact .base (.frz h)
  · exact .kList e c
theorem ty_T (h : SqT K H a xs) : TyX K H (.ref a) (.type "tuple") := by
  rcases h with (h | ⟨o, h⟩) | ⟨o, its, k, e, c, _⟩
  · exact .base (.tup h)
  · exact .fTuple h
  · exact .kTuple e c
theorem isi {A B : String} {r : Bool} (ht : TyX K H x (.type A)) (hk : kitB A B = some r) (h : Q (.bl r) H) : rIsi K [x, .ty B] H Q := ⟨x, .ty B, .type A, .type B, r, rfl, .ty B, ht, kit_ty hk, h⟩
theorem i_int_int (h : Q (.bl true) H) : rIsi K [.int m, .ty "int"] H Q := isi (.base (.int m)) (by decide +kernel) h
theorem i_int_bool (h : Q (.bl false) H) : rIsi K [.int m, .ty "bool"] H Q := isi (.base (.int m)) (by decide +kernel) h
theorem i_int_str (h : Q (.bl false) H) : rIsi K [.int m, .ty "str"] H Q := isi (.base (.int m)) (by decide +kernel) h
theorem i_int_tuple (h : Q (.bl false) H) : rIsi K [.int m, .ty "tuple"] H Q := isi (.base (.int m)) (by decide +kernel) h
theorem i_int_list (h : Q (.bl false) H) : rIsi K [.int m, .ty "list"] H Q := isi (.base (.int m)) (by decide +kernel) h
theorem i_bl_int {k : Bool} (h : Q (.bl true) H) : rIsi K [.bl k, .ty "int"] H Q := isi (.base (.bl k)) (by decide +kernel) h
theorem i_bl_bool {k : Bool} (h : Q (.bl true) H) : rIsi K [.bl k, .ty "bool"] H Q := isi (.base (.bl k)) (by decide +kernel) h
theorem i_bl_str {k : Bool} (h : Q (.bl false) H) : rIsi K [.bl k, .ty "str"] H Q := isi (.base (.bl k)) (by decide +kernel) h
theorem i_bl_tuple {k : Bool} (h : Q (.bl false) H) : rIsi K [.bl k, .ty "tuple"] H Q := isi (.base (.bl k)) (by decide +kernel) h
theorem i_bl_list {k : Bool} (h : Q (.bl false) H) : rIsi K [.bl k, .ty "list"] H Q := isi (.base (.bl k)) (by decide +kernel) h
theorem i_str_int {k : Str} (h : Q (.bl false) H) : rIsi K [.str k, .ty "int"] H Q := isi (.base (.str k)) (by decide +kernel) h
theorem i_str_bool {k : Str} (h : Q (.bl false) H) : rIsi K [.str k, .ty "bool"] H Q := isi (.base (.str k)) (by decide +kernel) h
theorem i_str_str {k : Str} (h : Q (.bl true) H) : rIsi K [.str k, .ty "str"] H Q := isi (.base (.str k)) (by decide +kernel) h
theorem i_str_tuple {k : Str} (h : Q (.bl false) H) : rIsi K [.str k, .ty "tuple"] H Q := isi (.base (.str k)) (by decide +kernel) h
theorem i_str_list {k : Str} (h : Q (.bl false) H) : rIsi K [.str k, .ty "list"] H Q := isi (.base (.str k)) (by decide +kernel) h
theorem i_non_int (h : Q (.bl false) H) : rIsi K [.non, .ty "int"] H Q := isi (.base .non) (by decide +kernel) h
theorem i_non_bool (h : Q (.bl false) H) : rIsi K [.non, .ty "bool"] H Q := isi (.base .non) (by decide +kernel) h
theorem i_non_str (h : Q (.bl false) H) : rIsi K [.non, .ty "str"] H Q := isi (.base .non) (by decide +kernel) h
theorem i_non_tuple (h : Q (.bl false) H) : rIsi K [.non, .ty "tuple"] H Q := isi (.base .non) (by decide +kernel) h
theorem i_non_list (h : Q (.bl false) H) : rIsi K [.non, .ty "list"] H Q := isi (.base .non) (by decide +kernel) h
theorem i_T_int (hs : SqT K H a xs) (h : Q (.bl false) H) : rIsi K [.ref a, .ty "int"] H Q := isi (ty_T hs) (by decide +kernel) h
theorem i_T_bool (hs : SqT K H a xs) (h : Q (.bl false) H) : rIsi K [.ref a, .ty "bool"] H Q := isi (ty_T hs) (by decide +kernel) h
theorem i_T_str (hs : SqT K H a xs) (h : Q (.bl false) H) : rIsi K [.ref a, .ty "str"] H Q := isi (ty_T hs) (by decide +kernel) h
theorem i_T_tuple (hs : SqT K H a xs) (h : Q (.bl true) H) : rIsi K [.ref a, .ty "tuple"] H Q := isi (ty_T hs) (by decide +kernel) h
theorem i_T_list (hs : SqT K H a xs) (h : Q (.bl false) H) : rIsi K [.ref a, .ty "list"] H Q := isi (ty_T hs) (by decide +kernel) h
theorem i_L_int (hs : SqL K H a xs) (h : Q (.bl false) H) : rIsi K [.ref a, .ty "int"] H Q := isi (ty_L hs) (by decide +kernel) h
theorem i_L_bool (hs : SqL K H a xs) (h : Q (.bl false) H) : rIsi K [.ref a, .ty "bool"] H Q := isi (ty_L hs) (by decide +kernel) h
theorem i_L_str (hs : SqL K H a xs) (h : Q (.bl false) H) : rIsi K [.ref a, .ty "str"] H Q := isi (ty_L hs) (by decide +kernel) h
theorem i_L_tuple (hs : SqL K H a xs) (h : Q (.bl false) H) : rIsi K [.ref a, .ty "tuple"] H Q := isi (ty_L hs) (by decide +kernel) h
theorem i_L_list (hs : SqL K H a xs) (h : Q (.bl true) H) : rIsi K [.ref a, .ty "list"] H Q := isi (ty_L hs) (by decide +kernel) h
-- deep == and in
theorem o_inD {d : PyData} {ds : List PyData} (hx : Dp K H x d) (hy : Dp K H y (.list ds)) (sd : SeqAt.shaped d = true) (se : SeqAt.shaped (.list ds) = true) (h : Q (.bl (ds.any fun z => PyData.eqv z d)) H) : zIn K x y H Q := .inr (.inl ⟨d, ds, hx, hy, sd, se, h⟩)
theorem o_notInD {d : PyData} {ds : List PyData} (hx : Dp K H x d) (hy : Dp K H y (.list ds)) (sd : SeqAt.shaped d = true) (se : SeqAt.shaped (.list ds) = true) (h : Q (.bl (!ds.any fun z => PyData.eqv z d)) H) : zNotIn K x y H Q := .inr (.inl ⟨d, ds, hx, hy, sd, se, h⟩)
theorem eqV_int (m n : Int) : eqV (.int m) (.int n) = decide (m = n) := by
  unfold eqV
  first | rfl | (simp [BEq.beq]) | simp
theorem inV_ints : ∀ (m : Int) (ns : List Int), inV (.int m) (ns.map V.int) = decide (m ∈ ns)
  | m, [] => by simp [inV]
  | m, n :: ns => by
    have ih := inV_ints m ns
    unfold inV at ih ⊢
    rw [List.map_cons, List.any_cons, ih, eqV_int, show decide (m ∈ n :: ns) = decide (m = n ∨ m ∈ ns) from decide_eq_decide.mpr List.mem_cons, Bool.decide_or]
    congr 1
    exact decide_eq_decide.mpr ⟨Eq.symm, Eq.symm⟩
theorem flat_ints : ∀ ns : List Int, (ns.map V.int).all flatV = true
  | [] => rfl
  | n :: ns => by
    rw [List.map_cons, List.all_cons, flat_ints ns]
    rfl
theorem o_inI (hs : SqL K H a (ns.map V.int) ∨ SqT K H a (ns.map V.int)) (h : Q (.bl (decide (m ∈ ns))) H) : zIn K (.int m) (.ref a) H Q := .inl ⟨a, _, rfl, hs, rfl, flat_ints ns, by
  rw [inV_ints, if_neg Bool.false_ne_true]
  exact h⟩
theorem o_notInI (hs : SqL K H a (ns.map V.int) ∨ SqT K H a (ns.map V.int)) (h : Q (.bl (!decide (m ∈ ns))) H) : zNotIn K (.int m) (.ref a) H Q := .inl ⟨a, _, rfl, hs, rfl, flat_ints ns, by
  rw [inV_ints, if_pos rfl]
  exact h⟩
theorem e_notT (h : ta σ H fun x H1 => ∃ k, TruV K x H1 k ∧ Q (.bl (!k)) H1) : tNotT K ta σ H Q := h
theorem g_sub {to ti : TE} {ts : TSet} (h : to σ H fun o H1 => ti σ H1 fun i H2 => ts o i v H2 fun H3 => QS σ H3) : gSub to ti ts v σ H QS := h
theorem o_setN (hl : H a = some (.lst xs)) {k : Nat} (hk : k < xs.length) (h : QH (upd H a (.lst (xs.set k v)))) : rSetL (.ref a) (.int (k : Int)) v H QH := o_setL hl (Evl.ixN_nat hk) h
theorem z_int1 (h : Q (.int m) H) : zInt1 [.int m] H Q := .inl ⟨m, rfl, h⟩
theorem z_int1b {k : Bool} (h : Q (.int (if k then 1 else 0)) H) : zInt1 [.bl k] H Q := .inr ⟨k, rfl, h⟩
theorem z_abs (h : Q (.int (if m < 0 then -m else m)) H) : zAbs [.int m] H Q := ⟨m, rfl, h⟩
theorem z_max2 (h : Q (.int (if n > m then n else m)) H) : zMax2 [.int m, .int n] H Q := ⟨m, n, rfl, h⟩
theorem z_min2 (h : Q (.int (if n < m then n else m)) H) : zMin2 [.int m, .int n] H Q := ⟨m, n, rfl, h⟩
end
abbrev dL (ns : List Int) : PyData := .list (ns.map .int)
theorem pl_dL {ns : List Int} : Pl 1 (dL ns) := pl_lst fun d hd => by
  obtain ⟨i, _, rfl⟩ := List.mem_map.mp hd
  exact pl_int
theorem dL_inj {a b : List Int} : dL a = dL b ↔ a = b := ⟨fun h => map_int_inj (PyData.list.inj h), fun h => by rw [h]⟩
section
variable {K : PySem.W.Frag} {H : Hp} {a b : Addr} {ns ms : List Int} {Q : VK}
theorem o_neIL (ha : SqL K H a (ns.map V.int)) (hb : SqL K H b (ms.map V.int)) (h : Q (.bl (!decide (ns = ms))) H) : zNe K (.ref a) (.ref b) H Q :=
  o_neD (.lst ha (dpAll_ints ns)) (.lst hb (dpAll_ints ms)) (pl_dL.shaped (by decide)) (pl_dL.shaped (by decide)) (by rw [pl_dL.eqv pl_dL dL_inj]; exact h)
theorem o_eqIL (ha : SqL K H a (ns.map V.int)) (hb : SqL K H b (ms.map V.int)) (h : Q (.bl (decide (ns = ms))) H) : zEq K (.ref a) (.ref b) H Q :=
  o_eqD (.lst ha (dpAll_ints ns)) (.lst hb (dpAll_ints ms)) (pl_dL.shaped (by decide)) (pl_dL.shaped (by decide)) (by rw [pl_dL.eqv pl_dL dL_inj]; exact h)
theorem o_neIT (ha : SqT K H a (ns.map V.int)) (hb : SqT K H b (ms.map V.int)) (h : Q (.bl (!decide (ns = ms))) H) : zNe K (.ref a) (.ref b) H Q :=
  o_neD (.tup ha (dpAll_ints ns)) (.tup hb (dpAll_ints ms)) (pl_dI.shaped (by decide)) (pl_dI.shaped (by decide)) (by rw [pl_dI.eqv pl_dI dI_inj]; exact h)
theorem o_eqIT (ha : SqT K H a (ns.map V.int)) (hb : SqT K H b (ms.map V.int)) (h : Q (.bl (decide (ns = ms))) H) : zEq K (.ref a) (.ref b) H Q :=
  o_eqD (.tup ha (dpAll_ints ns)) (.tup hb (dpAll_ints ms)) (pl_dI.shaped (by decide)) (pl_dI.shaped (by decide)) (by rw [pl_dI.eqv pl_dI dI_inj]; exact h)
end
theorem divW70 {m n : Int} (h : 0 < n) (h2 : n ≤ 10 ^ 70) : CDivW m n := wide_div (b := 240) h (by
  have : n.toNat ≤ 10 ^ 70 := by omega
  have e : n.natAbs = n.toNat := by omega
  rw [e]
  exact Nat.lt_of_le_of_lt this (by decide)) (by decide) (by decide)
theorem o_div70 {m n : Int} {H : Hp} {Q : VK} (h : 0 < n) (h2 : n ≤ 10 ^ 70) (k : Q (.int (m / n)) H) : zDiv (.int m) (.int n) H Q := o_divW (divW70 h h2) k
theorem o_new {n : Nat} {H : Hp} {P : Addr → Prop} (h1 : n ≤ sizeLine) (h2 : ∀ p, Fresh H p → P p) : n ≤ sizeLine ∧ ∀ p, H p = none → P p := ⟨h1, h2⟩
theorem s_cut {t u : TS} {D : Ends} {σ : St} {H : Hp} (Mid : St → Hp → Prop) (h1 : t { D with nx := Mid } σ H) (h2 : ∀ σ' H', Mid σ' H' → u D σ' H') : Evl.tCut t u D σ H := ⟨Mid, h1, h2⟩
/-! ### tuples that are known: new since H, or frozen -/
structure Tk (F H H' : Hp) (p : Addr) (xs : List V) : Prop where
  at' : H' p = some (.tup xs)
  own : H p = none ∨ F p = some (.tup xs)
section
variable {K : PySem.W.Frag} {F H F1 H1 H2 : Hp} {a b p r : Addr} {o : HO} {xs ys : List V} {Q : VK}
theorem Tk.keep (h : Tk F H H1 p xs) (k : ∀ q o, H1 q = some o → H2 q = some o) : Tk F H H2 p xs := ⟨k _ _ h.at', h.own⟩
theorem Tk.gr (h : Tk F H H1 p xs) (g : Gr (M1 r) F1 H1 F1 H2) (n : p ≠ r) : Tk F H H2 p xs := ⟨g.hh _ _ n h.at', h.own⟩
theorem Tk.old (hF : Same F H1) (h : F p = some (.tup xs)) : Tk F H H1 p xs := ⟨hF _ _ h, .inr h⟩
theorem Tk.new (g : Gr (M1 r) F H F1 H1) (hr : H1 r = some o) (hn : Fresh H1 p) : Tk F H (upd H1 p (.tup xs)) p xs := ⟨upd_same, .inl (g.fr1 hr hn)⟩
theorem up_keep (hn : Fresh H1 p) : ∀ q u, H1 q = some u → (upd H1 p o) q = some u := fun q u e => (upd_ne (ne_of_none e hn)).trans e
theorem add_tk (g : Gr (M1 r) F H F1 H1) (hr : H1 r = some o) (ha : Tk F H H1 a xs) (hb : Tk F H H1 b ys) (hl : xs.length + ys.length ≤ sizeLine)
    (k : ∀ p H2, Gr (M1 r) F H F1 H2 → (∀ q o, H1 q = some o → H2 q = some o) → Tk F H H2 p (xs ++ ys) → Q (.ref p) H2) : zAdd K (.ref a) (.ref b) H1 Q :=
  o_addT (SqT.of ha.at') (SqT.of hb.at') hl (fun e => k _ _ g (fun _ _ h => h) (by rw [e]; exact hb)) (fun _ e => k _ _ g (fun _ _ h => h) (by rw [e, List.append_nil]; exact ha))
    fun _ _ p hn => k p _ (g.add hn) (up_keep hn) (.new g hr hn)
theorem sl_tk {lo hi : Option Int} (g : Gr (M1 r) F H F1 H1) (hr : H1 r = some o) (ha : Tk F H H1 a xs)
    (k : ∀ p H2, Gr (M1 r) F H F1 H2 → (∀ q o, H1 q = some o → H2 q = some o) → Tk F H H2 p (cutV xs lo hi) → Q (.ref p) H2) : zSl K (.ref a) lo hi H1 Q :=
  sl_T (SqT.of ha.at') (fun ⟨e1, e2⟩ => k _ _ g (fun _ _ h => h) (by
    have e : cutV xs lo hi = xs := by
      unfold cutV
      rw [e1, e2, List.drop_zero, Nat.sub_zero, List.take_length]
    rw [e]
    exact ha)) fun _ p hn => k p _ (g.add hn) (up_keep hn) (.new g hr hn)
/-- frozen from now on -/
theorem Gr.hold {M : Addr → Prop} (g : Gr M F H F1 H1) (h : Tk F H H1 p xs) : Gr M F H (upd F1 p (.tup xs)) H1 := by
  refine ⟨fun b u e => ?_, fun b u e => ?_, g.hh, fun b u e f => ?_⟩
  · by_cases hb : b = p
    · subst hb
      have e1 := g.fh _ _ (g.ff _ _ e)
      rw [h.at'] at e1
      rw [upd_same]
      exact e1
    · rw [upd_ne hb]
      exact g.ff _ _ e
  · by_cases hb : b = p
    · subst hb
      rw [upd_same] at e
      rw [h.at']
      exact e
    · rw [upd_ne hb] at e
      exact g.fh _ _ e
  · by_cases hb : b = p
    · subst hb
      rcases h.own with z | z
      · rw [z] at e
        cases e
      · rw [z] at f
        cases f
    · rw [upd_ne hb]
      exact g.nw _ _ e f
end
/-! ### [1 for x in .. if test], the test changing nothing -/
section
variable {K : PySem.W.Frag} {σ : St} {H : Hp} {a : Addr} {xs : List V} {vs : List Nat} {j : Nat} {tt : TT} {p : Nat → Bool} {Q : VK} {n : Int}
def ones (c : Nat) : HO := .lst ((List.replicate c (1 : Int)).map V.int)
def OnesAt (p : Nat → Bool) (H : Hp) (D : Addr) (i : Nat) (H' : Hp) : Prop := ∃ c, c ≤ i ∧ (c = 0 ↔ ∀ k, k < i → p k = false) ∧ H' = upd H D (ones c)
theorem ones_turn {D : Addr} {i : Nat} {σ1 : St} {H' : Hp} (hD : Fresh H D) (hi : i < 100000) (h : OnesAt p H D i H') (ht : ∀ H2 (QB : Bool → Hp → Prop), Same H H2 → QB (p i) H2 → tt σ1 H2 QB) :
    tt σ1 H' fun b H4 => if b = true then tC (.int 1) σ1 H4 fun y H5 => ∃ acc, H5 D = some (.lst acc) ∧ acc.length < sizeLine ∧ OnesAt p H D (i + 1) (upd H5 D (.lst (acc ++ [y]))) else OnesAt p H D (i + 1) H4 := by
  obtain ⟨c, hc, e, rfl⟩ := h
  refine ht _ _ (fun b o e => (upd_ne (ne_of_none e hD)).trans e) ?_
  cases hp : p i with
  | true =>
    refine iteT ⟨_, upd_same, ?_, c + 1, by omega, ⟨fun z => by omega, fun z => ?_⟩, ?_⟩
    · rw [List.length_map, List.length_replicate, sizeLine_eq]
      omega
    · rw [z i (Nat.lt_succ_self i)] at hp
      cases hp
    · rw [upd_upd]
      unfold ones
      rw [List.replicate_succ', List.map_append]
      rfl
  | false =>
    refine iteF ⟨c, by omega, e.trans ⟨fun z k hk => ?_, fun z k hk => z k (by omega)⟩, rfl⟩
    by_cases hk' : k = i
    · rw [hk']
      exact hp
    · exact z k (by omega)
theorem ones_start {D : Addr} : OnesAt p H D 0 (upd H D (.lst [])) := ⟨0, Nat.le_refl _, ⟨fun _ k hk => absurd hk (Nat.not_lt_zero _), fun _ => rfl⟩, rfl⟩
theorem lcT_ones (p : Nat → Bool) (hs : SqT K H a xs) (hz : xs.length ≤ 10000) (ht : ∀ i x H2 (QB : Bool → Hp → Prop), xs[i]? = some x → Same H H2 → QB (p i) H2 → tt ((wipe σ vs).set j (some x)) H2 QB)
    (k : ∀ D c, Fresh H D → (c = 0 ↔ ∀ i, i < xs.length → p i = false) → Q (.ref D) (upd H D (ones c))) (hw : ∀ x, wipe ((wipe σ vs).set j (some x)) vs = wipe σ vs := by intro _; rfl) : LcT K (gName j) tt (tC (.int 1)) vs σ (.ref a) H Q :=
  lc_T hs (fun D i H' => OnesAt p H D i H' ∧ Fresh H D) (fun D hD => ⟨ones_start, hD⟩) (fun D i H' _ ⟨⟨c, _, _, e⟩, hD⟩ => by
    rw [e]
    exact Same.seqT (fun b o e => (upd_ne (ne_of_none e hD)).trans e) hs) (fun D i x H' hD hx h => ⟨hw x, by
      have hi := (List.getElem?_eq_some_iff.mp hx).1
      have := ones_turn (tt := tt) (σ1 := (wipe σ vs).set j (some x)) hD (by omega) h.1 (fun H2 QB hs q => ht i x H2 QB hx hs q)
      simpa only [hD, and_true] using this⟩) fun D H' hD ⟨⟨c, _, e, eH⟩, _⟩ => by
    rw [eH]
    exact k D c hD e
theorem lcL_ones (p : Nat → Bool) (hs : SqL K H a xs) (hz : xs.length ≤ 10000) (ht : ∀ i x H2 (QB : Bool → Hp → Prop), xs[i]? = some x → Same H H2 → QB (p i) H2 → tt ((wipe σ vs).set j (some x)) H2 QB)
    (k : ∀ D c, Fresh H D → (c = 0 ↔ ∀ i, i < xs.length → p i = false) → Q (.ref D) (upd H D (ones c))) (hw : ∀ x, wipe ((wipe σ vs).set j (some x)) vs = wipe σ vs := by intro _; rfl) : LcL K (gName j) tt (tC (.int 1)) vs σ (.ref a) H Q :=
  lc_L hs (fun D i H' => OnesAt p H D i H' ∧ Fresh H D) (fun D hD => ⟨ones_start, hD⟩) (fun D i H' _ ⟨⟨c, _, _, e⟩, hD⟩ => by
    rw [e]
    exact Same.seq (fun b o e => (upd_ne (ne_of_none e hD)).trans e) hs) (fun D i x H' hD hx h => ⟨hw x, by
      have hi := (List.getElem?_eq_some_iff.mp hx).1
      have := ones_turn (tt := tt) (σ1 := (wipe σ vs).set j (some x)) hD (by omega) h.1 (fun H2 QB hs q => ht i x H2 QB hx hs q)
      simpa only [hD, and_true] using this⟩) fun D H' hD ⟨⟨c, _, e, eH⟩, _⟩ => by
    rw [eH]
    exact k D c hD e
theorem lcR_ones (p : Nat → Bool) (hz : -(2 ^ 62) ≤ n ∧ n ≤ 10000) (ht : ∀ (i : Nat) H2 (QB : Bool → Hp → Prop), (i : Int) < n → Same H H2 → QB (p i) H2 → tt ((wipe σ vs).set j (some (.int (i : Int)))) H2 QB)
    (k : ∀ D c, Fresh H D → (c = 0 ↔ ∀ i : Nat, (i : Int) < n → p i = false) → Q (.ref D) (upd H D (ones c))) (hw : ∀ x, wipe ((wipe σ vs).set j (some x)) vs = wipe σ vs := by intro _; rfl) : LcR1 (gName j) tt (tC (.int 1)) vs σ (.int n) H Q :=
  lc_R1 (by omega) (fun D i H' => OnesAt p H D i H') (fun D hD => ones_start) (fun D i H' hD hi h => ⟨hw _, ones_turn (tt := tt) hD (by omega) h (fun H2 QB hs q => ht i H2 QB hi hs q)⟩) fun D H' hD ⟨c, _, e, eH⟩ => by
    rw [eH]
    exact k D c hD (e.trans ⟨fun z i hi => z i (by omega), fun z i hi => z i (by omega)⟩)
theorem o_neOnes {b : Addr} {c : Nat} (ha : H a = some (ones c)) (hb : H b = some (.lst [])) (h : Q (.bl (!decide (c = 0))) H) : zNe K (.ref a) (.ref b) H Q :=
  o_neIL (ns := List.replicate c 1) (ms := []) (SqL.of ha) (SqL.of hb) (by
    have : decide (List.replicate c (1 : Int) = []) = decide (c = 0) := decide_eq_decide.mpr ⟨fun z => by simpa using congrArg List.length z, fun z => by rw [z]; rfl⟩
    rw [this]
    exact h)
theorem o_eqOnes {b : Addr} {c : Nat} (ha : H a = some (ones c)) (hb : H b = some (.lst [])) (h : Q (.bl (decide (c = 0))) H) : zEq K (.ref a) (.ref b) H Q :=
  o_eqIL (ns := List.replicate c 1) (ms := []) (SqL.of ha) (SqL.of hb) (by
    have : decide (List.replicate c (1 : Int) = []) = decide (c = 0) := decide_eq_decide.mpr ⟨fun z => by simpa using congrArg List.length z, fun z => by rw [z]; rfl⟩
    rw [this]
    exact h)
end
/-! ### the law -/
def spLaw (K : PySem.W.Frag) : Sp := fun vs H Q _ => ∃ (a : Addr) (ns : List Int), vs = [.ref a] ∧ ns.length ≤ 63 ∧ SqL K H a (ns.map V.int) ∧ ∀ H', Q (.bl true) H'
theorem spLaw_in {K : PySem.W.Frag} {H : Hp} {a : Addr} {ns : List Int} {E : XK} (hl : ns.length ≤ 63) (hS : SqL K H a (ns.map V.int)) : spLaw K [.ref a] H (fun v _ => v = .bl true) E := ⟨a, ns, rfl, hl, hS, fun _ => rfl⟩
theorem atI_ints {ns : List Int} {j : Nat} {x : Int} (h : ns[j]? = some x) : atI (ns.map V.int) (j : Int) = some (.int x) := atI_nat (by rw [List.getElem?_map, h]; rfl)
end Z

/-! Zr: more steps. -/
namespace Z
open PySem PySem.Spec L2
open PyProof.Rows hiding St
theorem Pl.up {n m : Nat} {d : PyData} (h : Pl n d) (hn : n ≤ m := by omega) : Pl m d := ⟨h.lay, Nat.le_trans h.dep hn, h.nob⟩
section
variable {K : PySem.W.Frag} {σ : St} {H : Hp} {te : TE} {Q : VK} {a : Addr} {xs : List V} {ns : List Int} {vs : List Nat} {j : Nat} {tt : TT} {m n : Int}
theorem e_revL (h : te σ H fun x H1 => ∃ a xs, x = .ref a ∧ SqL K H1 a xs ∧ ∀ p, H1 p = none → Q (.ref p) (upd H1 p (.lst xs.reverse))) : tRevL K te σ H Q := h
theorem rev_V {k : Nat} (h1 : σ[k]? = some (some (.ref a))) (hs : SqL K H a xs) (h : ∀ p, Fresh H p → Q (.ref p) (upd H p (.lst xs.reverse))) : tRevL K (tVar k) σ H Q := ⟨_, h1, a, xs, rfl, hs, h⟩
theorem o_min (hs : SqL K H a (ns.map V.int)) (h0 : m ∈ ns) (h1 : ∀ y ∈ ns, m ≤ y) (h : Q (.int m) H) : rMin K [.ref a] H Q := ⟨a, ns, rfl, hs, List.length_pos_of_mem h0, fun m' a1 a2 => by
  have e : m' = m := Int.le_antisymm (a2 m h0) (h1 m' a1)
  rw [e]
  exact h⟩
theorem o_max (hs : SqL K H a (ns.map V.int)) (h0 : m ∈ ns) (h1 : ∀ y ∈ ns, y ≤ m) (h : Q (.int m) H) : rMax K [.ref a] H Q := ⟨a, ns, rfl, hs, List.length_pos_of_mem h0, fun m' a1 a2 => by
  have e : m' = m := Int.le_antisymm (h1 m' a1) (a2 m h0)
  rw [e]
  exact h⟩
theorem atI_z {x : V} (h : xs[0]? = some x) : atI xs 0 = some x := atI_nat (j := 0) h
theorem atI_zi {x : Int} (h : ns[0]? = some x) : atI (ns.map V.int) 0 = some (.int x) := atI_z (by rw [List.getElem?_map, h]; rfl)
theorem o_eqS {x y : Str} (h : Q (.bl (decide (x = y))) H) : zEq K (.str x) (.str y) H Q := .inl ⟨rfl, (decide_eq_decide.mpr ⟨fun e => V.str.inj e, fun e => by rw [e]⟩ : decide (V.str x = V.str y) = decide (x = y)) ▸ h⟩
theorem o_neS {x y : Str} (h : Q (.bl (!decide (x = y))) H) : zNe K (.str x) (.str y) H Q := .inl ⟨rfl, (decide_eq_decide.mpr ⟨fun e => V.str.inj e, fun e => by rw [e]⟩ : decide (V.str x = V.str y) = decide (x = y)) ▸ h⟩
theorem o_neB {x y : Bool} (h : Q (.bl (!decide (x = y))) H) : zNe K (.bl x) (.bl y) H Q := .inl ⟨rfl, (decide_eq_decide.mpr ⟨fun e => V.bl.inj e, fun e => by rw [e]⟩ : decide (V.bl x = V.bl y) = decide (x = y)) ▸ h⟩
theorem o_eqB {x y : Bool} (h : Q (.bl (decide (x = y))) H) : zEq K (.bl x) (.bl y) H Q := .inl ⟨rfl, (decide_eq_decide.mpr ⟨fun e => V.bl.inj e, fun e => by rw [e]⟩ : decide (V.bl x = V.bl y) = decide (x = y)) ▸ h⟩
theorem o_isT {x : Bool} (h : Q (.bl x) H) : rIsB (.bl x) (.bl true) H Q := ⟨x, true, rfl, rfl, by simpa using h⟩
theorem o_isF {x : Bool} (h : Q (.bl (!x)) H) : rIsB (.bl x) (.bl false) H Q := ⟨x, false, rfl, rfl, by cases x <;> simpa using h⟩
def zDm : List V → Hp → VK → Prop := fun xs H Q => ∃ i j, xs = [.int i, .int j] ∧ CDivP i j ∧ ∀ p, H p = none → Q (.ref p) (upd H p (.tup [.int (i / j), .int (i % j)]))
theorem o_divmod (h0 : 0 < n) (hm : m.natAbs < 2 ^ 240) (h : ∀ p, Fresh H p → Q (.ref p) (upd H p (.tup [.int (m / n), .int (m % n)]))) : zDm [.int m, .int n] H Q := ⟨m, n, rfl, divp_ok h0 (by
  have := PyProof.Rows.intBits_le hm
  omega), h⟩
theorem e_tupRg1 {ta : TE} (h : ta σ H fun x H1 => ∃ n, x = .int n ∧ RgOk 0 n ∧ ∀ q, H1 q = none → Q (.ref q) (upd H1 q (.tup (rgV 0 n)))) : tTupRg (tRg1 ta) σ H Q := h
theorem e_tupRg2 {ta tb : TE} (h : ta σ H fun x H1 => tb σ H1 fun y H2 => ∃ i j, x = .int i ∧ y = .int j ∧ RgOk i j ∧ ∀ q, H2 q = none → Q (.ref q) (upd H2 q (.tup (rgV i j)))) : tTupRg (tRg2 ta tb) σ H Q := h
theorem e_lstRg1 {ta : TE} (h : ta σ H fun x H1 => ∃ n, x = .int n ∧ RgOk 0 n ∧ ∀ q, H1 q = none → Q (.ref q) (upd H1 q (.lst (rgV 0 n)))) : tLstRg (tRg1 ta) σ H Q := h
theorem e_lstRg2 {ta tb : TE} (h : ta σ H fun x H1 => tb σ H1 fun y H2 => ∃ i j, x = .int i ∧ y = .int j ∧ RgOk i j ∧ ∀ q, H2 q = none → Q (.ref q) (upd H2 q (.lst (rgV i j)))) : tLstRg (tRg2 ta tb) σ H Q := h
theorem rg1_ {P : Int → Hp → Addr → Prop} (h0 : RgOk 0 n) (h : ∀ q, Fresh H q → P n (upd H q (.tup (rgV 0 n))) q) : ∃ n', V.int n = .int n' ∧ RgOk 0 n' ∧ ∀ q, H q = none → P n' (upd H q (.tup (rgV 0 n'))) q := ⟨n, rfl, h0, h⟩
theorem s_while {c : TT} {t : TS} {D : Ends} (W : Nat → St → Hp → Prop) (m0 : Nat) (h0 : W m0 σ H) (hs : ∀ m σ' H', W m σ' H' → c σ' H' fun b H1 => if b = true then ∃ N : St → Hp → Prop, (∀ σ2 H2, N σ2 H2 → ∃ m', m' < m ∧ W m' σ2 H2) ∧ t { D with nx := N, ct := N, bk := D.nx } σ' H1 else D.nx σ' H1) :
    tWhile c t D σ H := ⟨W, ⟨m0, h0⟩, hs⟩
theorem w_turn {t : TS} {D : Ends} {W : Nat → St → Hp → Prop} {k : Nat} (h : t { D with nx := fun σ2 H2 => ∃ m', m' < k ∧ W m' σ2 H2, ct := fun σ2 H2 => ∃ m', m' < k ∧ W m' σ2 H2, bk := D.nx } σ H) : ∃ N : St → Hp → Prop, (∀ σ2 H2, N σ2 H2 → ∃ m', m' < k ∧ W m' σ2 H2) ∧ t { D with nx := N, ct := N, bk := D.nx } σ H :=
  ⟨_, fun _ _ h => h, h⟩
/-! ### [f x for x in xs if p x], test and element changing nothing -/
def FilAt (p : V → Bool) (f : V → V) (xs : List V) (H : Hp) (D : Addr) (i : Nat) (H' : Hp) : Prop := H' = upd H D (.lst (((xs.take i).filter p).map f))
theorem fil_turn {p : V → Bool} {f : V → V} {D : Addr} {i : Nat} {σ1 : St} {H' : Hp} {x : V} (hD : Fresh H D) (hx : xs[i]? = some x) (hi : xs.length ≤ 10000) (h : FilAt p f xs H D i H') (ht : ∀ H2 (QB : Bool → Hp → Prop), Same H H2 → QB (p x) H2 → tt σ1 H2 QB)
    (he : ∀ H2 (Q : VK), Same H H2 → p x = true → Q (f x) H2 → te σ1 H2 Q) :
    tt σ1 H' fun b H4 => if b = true then te σ1 H4 fun y H5 => ∃ acc, H5 D = some (.lst acc) ∧ acc.length < sizeLine ∧ FilAt p f xs H D (i + 1) (upd H5 D (.lst (acc ++ [y]))) else FilAt p f xs H D (i + 1) H4 := by
  subst h
  have il := (List.getElem?_eq_some_iff.mp hx).1
  have sm : ∀ o, Same H (upd H D o) := fun o b u e => (upd_ne (ne_of_none e hD)).trans e
  have tk : xs.take (i + 1) = xs.take i ++ [x] := by
    rw [List.take_add_one, hx]
    rfl
  refine ht _ _ (sm _) ?_
  cases hp : p x with
  | true =>
    refine iteT (he _ _ (sm _) hp ⟨_, upd_same, ?_, ?_⟩)
    · rw [List.length_map, sizeLine_eq]
      have := List.length_filter_le p (xs.take i)
      rw [List.length_take] at this
      omega
    · show upd (upd H D _) D _ = _
      rw [upd_upd, tk, List.filter_append, List.map_append, List.filter_cons_of_pos hp]
      rfl
  | false =>
    refine iteF ?_
    show upd H D _ = _
    rw [tk, List.filter_append, List.filter_cons_of_neg (by rw [hp]; exact Bool.false_ne_true), List.filter_nil, List.append_nil]
theorem lcT_fil (p : V → Bool) (f : V → V) (hs : SqT K H a xs) (hz : xs.length ≤ 10000) (ht : ∀ x ∈ xs, ∀ H2 (QB : Bool → Hp → Prop), Same H H2 → QB (p x) H2 → tt ((wipe σ vs).set j (some x)) H2 QB)
    (he : ∀ x ∈ xs, ∀ H2 (Q : VK), Same H H2 → p x = true → Q (f x) H2 → te ((wipe σ vs).set j (some x)) H2 Q)
    (k : ∀ D, Fresh H D → Q (.ref D) (upd H D (.lst ((xs.filter p).map f)))) (hw : ∀ x, wipe ((wipe σ vs).set j (some x)) vs = wipe σ vs := by intro _; rfl) : LcT K (gName j) tt te vs σ (.ref a) H Q :=
  lc_T hs (fun D i H' => FilAt p f xs H D i H' ∧ Fresh H D) (fun D hD => ⟨rfl, hD⟩) (fun D i H' _ ⟨e, hD⟩ => by
    rw [e]
    exact Same.seqT (fun b o e => (upd_ne (ne_of_none e hD)).trans e) hs) (fun D i x H' hD hx h => ⟨hw x, by
      have hm := List.mem_of_getElem? hx
      have := fil_turn (tt := tt) (te := te) (σ1 := (wipe σ vs).set j (some x)) hD hx hz h.1 (fun H2 QB hs q => ht x hm H2 QB hs q) (fun H2 Q hs hp q => he x hm H2 Q hs hp q)
      simpa only [hD, and_true] using this⟩) fun D H' hD ⟨e, _⟩ => by
    rw [e, List.take_length]
    exact k D hD
theorem lcL_fil (p : V → Bool) (f : V → V) (hs : SqL K H a xs) (hz : xs.length ≤ 10000) (ht : ∀ x ∈ xs, ∀ H2 (QB : Bool → Hp → Prop), Same H H2 → QB (p x) H2 → tt ((wipe σ vs).set j (some x)) H2 QB)
    (he : ∀ x ∈ xs, ∀ H2 (Q : VK), Same H H2 → p x = true → Q (f x) H2 → te ((wipe σ vs).set j (some x)) H2 Q)
    (k : ∀ D, Fresh H D → Q (.ref D) (upd H D (.lst ((xs.filter p).map f)))) (hw : ∀ x, wipe ((wipe σ vs).set j (some x)) vs = wipe σ vs := by intro _; rfl) : LcL K (gName j) tt te vs σ (.ref a) H Q :=
  lc_L hs (fun D i H' => FilAt p f xs H D i H' ∧ Fresh H D) (fun D hD => ⟨rfl, hD⟩) (fun D i H' _ ⟨e, hD⟩ => by
    rw [e]
    exact Same.seq (fun b o e => (upd_ne (ne_of_none e hD)).trans e) hs) (fun D i x H' hD hx h => ⟨hw x, by
      have hm := List.mem_of_getElem? hx
      have := fil_turn (tt := tt) (te := te) (σ1 := (wipe σ vs).set j (some x)) hD hx hz h.1 (fun H2 QB hs q => ht x hm H2 QB hs q) (fun H2 Q hs hp q => he x hm H2 Q hs hp q)
      simpa only [hD, and_true] using this⟩) fun D H' hD ⟨e, _⟩ => by
    rw [e, List.take_length]
    exact k D hD
/-- ints through a test, to values -/
def onI (p : Int → Bool) : V → Bool
  | .int z => p z
  | _ => false
def mapI (f : Int → V) : V → V
  | .int z => f z
  | v => v
theorem fil_ints (p : Int → Bool) (f : Int → V) : ∀ ns : List Int, ((ns.map V.int).filter (onI p)).map (mapI f) = (ns.filter p).map f
  | [] => rfl
  | n :: ns => by
    have ih := fil_ints p f ns
    rw [List.map_cons, List.filter_cons, List.filter_cons]
    show ((if onI p (.int n) = true then _ else _) : List V).map _ = _
    show ((if p n = true then _ else _) : List V).map _ = _
    cases hp : p n with
    | true => rw [if_pos rfl, if_pos rfl, List.map_cons, List.map_cons, ih]; rfl
    | false => rw [if_neg Bool.false_ne_true, if_neg Bool.false_ne_true, ih]
theorem lcT_int (p : Int → Bool) (f : Int → V) (hs : SqT K H a (ns.map V.int)) (hz : ns.length ≤ 10000) (ht : ∀ x ∈ ns, ∀ H2 (QB : Bool → Hp → Prop), Same H H2 → QB (p x) H2 → tt ((wipe σ vs).set j (some (.int x))) H2 QB)
    (he : ∀ x ∈ ns, ∀ H2 (Q : VK), Same H H2 → p x = true → Q (f x) H2 → te ((wipe σ vs).set j (some (.int x))) H2 Q)
    (k : ∀ D, Fresh H D → Q (.ref D) (upd H D (.lst ((ns.filter p).map f)))) (hw : ∀ x, wipe ((wipe σ vs).set j (some x)) vs = wipe σ vs := by intro _; rfl) : LcT K (gName j) tt te vs σ (.ref a) H Q :=
  lcT_fil (onI p) (mapI f) hs (by rw [List.length_map]; exact hz) (fun x hx H2 QB hs q => by
    obtain ⟨z, hz, rfl⟩ := List.mem_map.mp hx
    exact ht z hz H2 QB hs q) (fun x hx H2 Q hs hp q => by
    obtain ⟨z, hz, rfl⟩ := List.mem_map.mp hx
    exact he z hz H2 Q hs hp q) (fun D hD => by
    rw [fil_ints]
    exact k D hD) hw
theorem lcL_int (p : Int → Bool) (f : Int → V) (hs : SqL K H a (ns.map V.int)) (hz : ns.length ≤ 10000) (ht : ∀ x ∈ ns, ∀ H2 (QB : Bool → Hp → Prop), Same H H2 → QB (p x) H2 → tt ((wipe σ vs).set j (some (.int x))) H2 QB)
    (he : ∀ x ∈ ns, ∀ H2 (Q : VK), Same H H2 → p x = true → Q (f x) H2 → te ((wipe σ vs).set j (some (.int x))) H2 Q)
    (k : ∀ D, Fresh H D → Q (.ref D) (upd H D (.lst ((ns.filter p).map f)))) (hw : ∀ x, wipe ((wipe σ vs).set j (some x)) vs = wipe σ vs := by intro _; rfl) : LcL K (gName j) tt te vs σ (.ref a) H Q :=
  lcL_fil (onI p) (mapI f) hs (by rw [List.length_map]; exact hz) (fun x hx H2 QB hs q => by
    obtain ⟨z, hz, rfl⟩ := List.mem_map.mp hx
    exact ht z hz H2 QB hs q) (fun x hx H2 Q hs hp q => by
    obtain ⟨z, hz, rfl⟩ := List.mem_map.mp hx
    exact he z hz H2 Q hs hp q) (fun D hD => by
    rw [fil_ints]
    exact k D hD) hw
/-! ### the same, test and element making new things -/
def GrowAt (l : List V) (H : Hp) (D : Addr) (H' : Hp) : Prop := Same H H' ∧ H' D = some (.lst l)
theorem grow_turn {b : Bool} {y : V} {l l' : List V} {D : Addr} {σ1 : St} {H' : Hp} (hD : Fresh H D) (hz : l.length < sizeLine) (h : GrowAt l H D H') (hl : l' = if b = true then l ++ [y] else l) (ht : ∀ H2 (QB : Bool → Hp → Prop), Same H H2 → (∀ H3, Same H2 H3 → QB b H3) → tt σ1 H2 QB)
    (he : ∀ H2 (Q : VK), Same H H2 → b = true → (∀ H3, Same H2 H3 → Q y H3) → te σ1 H2 Q) :
    tt σ1 H' fun b H4 => if b = true then te σ1 H4 fun y H5 => ∃ acc, H5 D = some (.lst acc) ∧ acc.length < sizeLine ∧ GrowAt l' H D (upd H5 D (.lst (acc ++ [y]))) else GrowAt l' H D H4 := by
  refine ht _ _ h.1 fun H3 s3 => ?_
  have S3 := h.1.trans s3
  cases b with
  | true =>
    rw [if_pos rfl] at hl
    refine iteT (he _ _ S3 rfl fun H4 s4 => ⟨l, s4 _ _ (s3 _ _ h.2), hz, fun a o e => ?_, ?_⟩)
    · rw [upd_ne (ne_of_none e hD)]
      exact s4 _ _ (S3 _ _ e)
    · rw [upd_same, hl]
  | false =>
    rw [if_neg Bool.false_ne_true] at hl
    refine iteF ⟨S3, ?_⟩
    rw [hl]
    exact s3 _ _ h.2
theorem fil_take {p : V → Bool} {f : V → V} {x : V} {i : Nat} (hx : xs[i]? = some x) : ((xs.take (i + 1)).filter p).map f = if p x = true then ((xs.take i).filter p).map f ++ [f x] else ((xs.take i).filter p).map f := by
  have tk : xs.take (i + 1) = xs.take i ++ [x] := by
    rw [List.take_add_one, hx]
    rfl
  rw [tk, List.filter_append, List.map_append]
  by_cases h : p x = true
  · rw [if_pos h, List.filter_cons_of_pos h]
    rfl
  · rw [if_neg h, List.filter_cons_of_neg h, List.filter_nil, List.map_nil, List.append_nil]
theorem fil_short {p : V → Bool} {f : V → V} {i : Nat} (hz : xs.length ≤ 10000) : (((xs.take i).filter p).map f).length < sizeLine := by
  have := List.length_filter_le p (xs.take i)
  rw [List.length_take] at this
  rw [List.length_map, sizeLine_eq]
  omega
theorem lcT_grow (p : V → Bool) (f : V → V) (hs : SqT K H a xs) (hz : xs.length ≤ 10000) (ht : ∀ x ∈ xs, ∀ H2 (QB : Bool → Hp → Prop), Same H H2 → (∀ H3, Same H2 H3 → QB (p x) H3) → tt ((wipe σ vs).set j (some x)) H2 QB)
    (he : ∀ x ∈ xs, ∀ H2 (Q : VK), Same H H2 → p x = true → (∀ H3, Same H2 H3 → Q (f x) H3) → te ((wipe σ vs).set j (some x)) H2 Q)
    (k : ∀ D H', Fresh H D → Same H H' → H' D = some (.lst ((xs.filter p).map f)) → Q (.ref D) H') (hw : ∀ x, wipe ((wipe σ vs).set j (some x)) vs = wipe σ vs := by intro _; rfl) : LcT K (gName j) tt te vs σ (.ref a) H Q :=
  lc_T hs (fun D i H' => GrowAt (((xs.take i).filter p).map f) H D H') (fun D hD => ⟨fun b u e => (upd_ne (ne_of_none e hD)).trans e, upd_same⟩) (fun D i H' _ h => Same.seqT h.1 hs) (fun D i x H' hD hx h => ⟨hw x, by
    have hm := List.mem_of_getElem? hx
    exact grow_turn (b := p x) (y := f x) hD (fil_short hz) h (fil_take hx) (fun H2 QB hs q => ht x hm H2 QB hs q) (fun H2 Q hs hp q => he x hm H2 Q hs hp q)⟩) fun D H' hD h => by
    rw [List.take_length] at h
    exact k D H' hD h.1 h.2
theorem lcL_grow (p : V → Bool) (f : V → V) (hs : SqL K H a xs) (hz : xs.length ≤ 10000) (ht : ∀ x ∈ xs, ∀ H2 (QB : Bool → Hp → Prop), Same H H2 → (∀ H3, Same H2 H3 → QB (p x) H3) → tt ((wipe σ vs).set j (some x)) H2 QB)
    (he : ∀ x ∈ xs, ∀ H2 (Q : VK), Same H H2 → p x = true → (∀ H3, Same H2 H3 → Q (f x) H3) → te ((wipe σ vs).set j (some x)) H2 Q)
    (k : ∀ D H', Fresh H D → Same H H' → H' D = some (.lst ((xs.filter p).map f)) → Q (.ref D) H') (hw : ∀ x, wipe ((wipe σ vs).set j (some x)) vs = wipe σ vs := by intro _; rfl) : LcL K (gName j) tt te vs σ (.ref a) H Q :=
  lc_L hs (fun D i H' => GrowAt (((xs.take i).filter p).map f) H D H') (fun D hD => ⟨fun b u e => (upd_ne (ne_of_none e hD)).trans e, upd_same⟩) (fun D i H' _ h => Same.seq h.1 hs) (fun D i x H' hD hx h => ⟨hw x, by
    have hm := List.mem_of_getElem? hx
    exact grow_turn (b := p x) (y := f x) hD (fil_short hz) h (fil_take hx) (fun H2 QB hs q => ht x hm H2 QB hs q) (fun H2 Q hs hp q => he x hm H2 Q hs hp q)⟩) fun D H' hD h => by
    rw [List.take_length] at h
    exact k D H' hD h.1 h.2
theorem lcT_igrow (p : Int → Bool) (f : Int → V) (hs : SqT K H a (ns.map V.int)) (hz : ns.length ≤ 10000) (ht : ∀ x ∈ ns, ∀ H2 (QB : Bool → Hp → Prop), Same H H2 → (∀ H3, Same H2 H3 → QB (p x) H3) → tt ((wipe σ vs).set j (some (.int x))) H2 QB)
    (he : ∀ x ∈ ns, ∀ H2 (Q : VK), Same H H2 → p x = true → (∀ H3, Same H2 H3 → Q (f x) H3) → te ((wipe σ vs).set j (some (.int x))) H2 Q)
    (k : ∀ D H', Fresh H D → Same H H' → H' D = some (.lst ((ns.filter p).map f)) → Q (.ref D) H') (hw : ∀ x, wipe ((wipe σ vs).set j (some x)) vs = wipe σ vs := by intro _; rfl) : LcT K (gName j) tt te vs σ (.ref a) H Q :=
  lcT_grow (onI p) (mapI f) hs (by rw [List.length_map]; exact hz) (fun x hx H2 QB hs q => by
    obtain ⟨z, hz, rfl⟩ := List.mem_map.mp hx
    exact ht z hz H2 QB hs q) (fun x hx H2 Q hs hp q => by
    obtain ⟨z, hz, rfl⟩ := List.mem_map.mp hx
    exact he z hz H2 Q hs hp q) (fun D H' hD hS e => by
    rw [fil_ints] at e
    exact k D H' hD hS e) hw
theorem lcR_grow (p : Nat → Bool) (f : Nat → V) (hz : -(2 ^ 62) ≤ n ∧ n ≤ 10000) (ht : ∀ i : Nat, (i : Int) < n → ∀ H2 (QB : Bool → Hp → Prop), Same H H2 → (∀ H3, Same H2 H3 → QB (p i) H3) → tt ((wipe σ vs).set j (some (.int (i : Int)))) H2 QB)
    (he : ∀ i : Nat, (i : Int) < n → ∀ H2 (Q : VK), Same H H2 → p i = true → (∀ H3, Same H2 H3 → Q (f i) H3) → te ((wipe σ vs).set j (some (.int (i : Int)))) H2 Q)
    (k : ∀ D H', Fresh H D → Same H H' → H' D = some (.lst (((List.range n.toNat).filter p).map f)) → Q (.ref D) H') (hw : ∀ x, wipe ((wipe σ vs).set j (some x)) vs = wipe σ vs := by intro _; rfl) : LcR1 (gName j) tt te vs σ (.int n) H Q :=
  lc_R1 (by omega) (fun D i H' => GrowAt (((List.range i).filter p).map f) H D H') (fun D hD => ⟨fun b u e => (upd_ne (ne_of_none e hD)).trans e, upd_same⟩) (fun D i H' hD hi h => ⟨hw _, by
    refine grow_turn (b := p i) (y := f i) hD ?_ h ?_ (fun H2 QB hs q => ht i hi H2 QB hs q) (fun H2 Q hs hp q => he i hi H2 Q hs hp q)
    · have := List.length_filter_le p (List.range i)
      rw [List.length_range] at this
      rw [List.length_map, sizeLine_eq]
      omega
    · rw [List.range_succ, List.filter_append, List.map_append]
      by_cases h : p i = true
      · rw [if_pos h, List.filter_cons_of_pos h]
        rfl
      · rw [if_neg h, List.filter_cons_of_neg h, List.filter_nil, List.map_nil, List.append_nil]⟩) fun D H' hD h => k D H' hD h.1 h.2
end
end Z

/-! Zb: bits: numbers as sets of seats. -/
namespace Z
open PySem PySem.Spec L2
open PyProof.Rows hiding St
section
variable {X : Cx}
theorem ip_or : PIp X .BitOr (ipI fun i j => Builtin.bitOr i j) := by
  intro pins s σ H x y v u Q I r1 r2 h
  obtain ⟨i, j, e1, e2, q⟩ := h
  subst e1; subst e2
  obtain ⟨t, rfl⟩ := r1
  obtain ⟨t', rfl⟩ := r2
  exact ior_int ⟨.int _, _, I.tok _, ⟨_, rfl⟩, q⟩
end
/-! ### the words over Nat -/
theorem and_nat (a b : Nat) : Builtin.bitAnd (a : Int) (b : Int) = ((a &&& b : Nat) : Int) := bitAnd_pp (Int.natCast_nonneg a) (Int.natCast_nonneg b)
theorem not_not (x : Int) : Builtin.bitNot (Builtin.bitNot x) = x := by
  unfold Builtin.bitNot
  omega
theorem or_nat (a b : Nat) : Builtin.bitOr (a : Int) (b : Int) = ((a ||| b : Nat) : Int) := by
  have h : ∀ n : Nat, ¬ 0 ≤ Builtin.bitNot (n : Int) := fun n => by
    unfold Builtin.bitNot
    omega
  show Builtin.bitNot (Builtin.bitAnd (Builtin.bitNot a) (Builtin.bitNot b)) = _
  rw [bitAnd_nn (h a) (h b), not_not, not_not, not_not]
  rfl
theorem shl_one (k : Nat) : (1 : Int) * 2 ^ ((k : Int)).toNat = ((2 ^ k : Nat) : Int) := by
  rw [Int.toNat_natCast, Int.one_mul, Int.natCast_pow]
  rfl
theorem shr_nat (a k : Nat) : (a : Int) / 2 ^ ((k : Int)).toNat = ((a >>> k : Nat) : Int) := by
  rw [Int.toNat_natCast, Nat.shiftRight_eq_div_pow, Int.natCast_ediv, Int.natCast_pow]
  rfl
theorem bits_nat (a : Nat) : Builtin.Int.intBits (a : Int) = if a = 0 then 0 else a.log2 + 1 := by
  unfold Builtin.Int.intBits
  by_cases h : a = 0
  · subst h
    rfl
  · rw [if_neg h, if_neg (by simpa using h), Int.natAbs_natCast]
/-- the least bit -/
theorem low_nat (a : Nat) (h : 0 < a) : Builtin.bitAnd (a : Int) (-(a : Int)) = ((a - (a &&& (a - 1)) : Nat) : Int) := by
  have e : Builtin.bitNot (-(a : Int)) = ((a - 1 : Nat) : Int) := by
    unfold Builtin.bitNot
    omega
  rw [bitAnd_pn (by omega) (by omega), e, Int.toNat_natCast, Int.toNat_natCast]
  have : a &&& (a - 1) ≤ a := Nat.and_le_left
  omega
/-! ### sets of seats as numbers -/
def bitsN : List Int → Nat
  | [] => 0
  | d :: r => 2 ^ d.toNat ||| bitsN r
theorem bitsN_app : ∀ a b : List Int, bitsN (a ++ b) = bitsN a ||| bitsN b
  | [], b => (Nat.zero_or _).symm
  | d :: a, b => by
    rw [List.cons_append, bitsN, bitsN, bitsN_app a b, Nat.or_assoc]
theorem bitsN_test : ∀ {l : List Int}, (∀ d ∈ l, 0 ≤ d) → ∀ i : Nat, (bitsN l).testBit i = decide ((i : Int) ∈ l)
  | [], _, i => by
    rw [bitsN, Nat.zero_testBit]
    simp
  | d :: r, h, i => by
    rw [bitsN, Nat.testBit_or, bitsN_test (fun x hx => h x (List.mem_cons_of_mem _ hx)), Nat.testBit_two_pow]
    have h0 := h d List.mem_cons_self
    rw [show decide ((i : Int) ∈ d :: r) = decide ((i : Int) = d ∨ (i : Int) ∈ r) from decide_eq_decide.mpr List.mem_cons, Bool.decide_or]
    congr 1
    exact decide_eq_decide.mpr ⟨fun e => by omega, fun e => by omega⟩
theorem bitsN_lt {m : Nat} : ∀ {l : List Int}, (∀ d ∈ l, 0 ≤ d ∧ d < m) → bitsN l < 2 ^ m
  | [], _ => Nat.two_pow_pos m
  | d :: r, h => by
    have h0 := h d List.mem_cons_self
    rw [bitsN]
    exact Nat.or_lt_two_pow (Nat.pow_lt_pow_right (by decide) (by omega)) (bitsN_lt fun x hx => h x (List.mem_cons_of_mem _ hx))
theorem pw_ext : ∀ {a b : List Int}, a.Pairwise (· < ·) → b.Pairwise (· < ·) → (∀ x, x ∈ a ↔ x ∈ b) → a = b
  | [], [], _, _, _ => rfl
  | [], y :: b, _, _, h => absurd ((h y).mpr List.mem_cons_self) List.not_mem_nil
  | x :: a, [], _, _, h => absurd ((h x).mp List.mem_cons_self) List.not_mem_nil
  | x :: a, y :: b, ha, hb, h => by
    have ha' := List.pairwise_cons.mp ha
    have hb' := List.pairwise_cons.mp hb
    have e : x = y := by
      rcases List.mem_cons.mp ((h x).mp List.mem_cons_self) with e | hx
      · exact e
      rcases List.mem_cons.mp ((h y).mpr List.mem_cons_self) with e | hy
      · exact e.symm
      have := ha'.1 y hy
      have := hb'.1 x hx
      omega
    subst e
    rw [pw_ext ha'.2 hb'.2 fun z => ⟨fun hz => by
      rcases List.mem_cons.mp ((h z).mp (List.mem_cons_of_mem _ hz)) with e | hz'
      · have := ha'.1 z hz
        omega
      · exact hz', fun hz => by
      rcases List.mem_cons.mp ((h z).mpr (List.mem_cons_of_mem _ hz)) with e | hz'
      · have := hb'.1 z hz
        omega
      · exact hz'⟩]
/-- the seats of a number -/
def seatsN (n : Nat) : List Int := ((List.range (Builtin.Int.intBits (n : Int))).filter fun i => n.testBit i).map fun (i : Nat) => (i : Int)
theorem seatsN_mem (n : Nat) (x : Int) : x ∈ seatsN n ↔ 0 ≤ x ∧ n.testBit x.toNat = true := by
  unfold seatsN
  rw [List.mem_map]
  constructor
  · rintro ⟨i, hi, rfl⟩
    have := (List.mem_filter.mp hi).2
    exact ⟨by omega, by rw [Int.toNat_natCast]; exact this⟩
  · rintro ⟨h0, h1⟩
    refine ⟨x.toNat, List.mem_filter.mpr ⟨List.mem_range.mpr ?_, h1⟩, by omega⟩
    rw [bits_nat]
    split
    · rename_i e
      rw [e, Nat.zero_testBit] at h1
      cases h1
    · have := Nat.ge_two_pow_of_testBit h1
      rcases Nat.lt_or_ge x.toNat (n.log2 + 1) with hl | hl
      · exact hl
      · have a : n < 2 ^ (n.log2 + 1) := Nat.lt_log2_self
        have b : 2 ^ (n.log2 + 1) ≤ 2 ^ x.toNat := Nat.pow_le_pow_right (by decide) hl
        omega
theorem seatsN_up (n : Nat) : (seatsN n).Pairwise (· < ·) := by
  unfold seatsN
  rw [List.pairwise_map]
  exact (List.pairwise_lt_range.filter _).imp fun h => by omega
theorem seats_bits {l : List Int} (up : l.Pairwise (· < ·)) (h : ∀ d ∈ l, 0 ≤ d) : seatsN (bitsN l) = l := pw_ext (seatsN_up _) up fun x => by
  rw [seatsN_mem]
  constructor
  · rintro ⟨h0, h1⟩
    rw [bitsN_test h] at h1
    have := of_decide_eq_true h1
    rw [Int.toNat_of_nonneg h0] at this
    exact this
  · intro hx
    refine ⟨h x hx, ?_⟩
    rw [bitsN_test h, Int.toNat_of_nonneg (h x hx)]
    exact decide_eq_true hx
theorem bitsN_and {a b : List Int} (ha : ∀ d ∈ a, 0 ≤ d) (hb : ∀ d ∈ b, 0 ≤ d) (i : Nat) : (bitsN a &&& bitsN b).testBit i = decide ((i : Int) ∈ a ∧ (i : Int) ∈ b) := by
  rw [Nat.testBit_and, bitsN_test ha, bitsN_test hb, Bool.decide_and]
theorem bitsN_inj {a b : List Int} (ua : a.Pairwise (· < ·)) (ub : b.Pairwise (· < ·)) (ha : ∀ d ∈ a, 0 ≤ d) (hb : ∀ d ∈ b, 0 ≤ d) : bitsN a = bitsN b ↔ a = b :=
  ⟨fun e => by rw [← seats_bits ua ha, e, seats_bits ub hb], fun e => by rw [e]⟩
/-- other & one == other -/
theorem bitsN_sub {a b : List Int} (ha : ∀ d ∈ a, 0 ≤ d) (hb : ∀ d ∈ b, 0 ≤ d) : bitsN a &&& bitsN b = bitsN a ↔ ∀ x ∈ a, x ∈ b := by
  constructor
  · intro e x hx
    have h0 := ha x hx
    have q : (bitsN a &&& bitsN b).testBit x.toNat = (bitsN a).testBit x.toNat := by rw [e]
    rw [bitsN_and ha hb, bitsN_test ha, Int.toNat_of_nonneg h0] at q
    have : decide (x ∈ a) = true := decide_eq_true hx
    rw [this] at q
    exact (of_decide_eq_true q).2
  · intro h
    refine Nat.eq_of_testBit_eq fun i => ?_
    rw [bitsN_and ha hb, bitsN_test ha]
    exact decide_eq_decide.mpr ⟨fun z => z.1, fun z => ⟨z, h _ z⟩⟩
theorem bitsN_apart {a b : List Int} (ha : ∀ d ∈ a, 0 ≤ d) (hb : ∀ d ∈ b, 0 ≤ d) : bitsN a &&& bitsN b = 0 ↔ ∀ x ∈ a, x ∉ b := by
  constructor
  · intro e x hx hx'
    have h0 := ha x hx
    have q : (bitsN a &&& bitsN b).testBit x.toNat = false := by rw [e, Nat.zero_testBit]
    rw [bitsN_and ha hb, Int.toNat_of_nonneg h0] at q
    exact of_decide_eq_false q ⟨hx, hx'⟩
  · intro h
    refine Nat.eq_of_testBit_eq fun i => ?_
    rw [bitsN_and ha hb, Nat.zero_testBit]
    exact decide_eq_false fun z => h _ z.1 z.2
/-- n & -n is the power of the least bit -/
theorem low_bit {n i : Nat} (hi : n.testBit i = true) (hl : ∀ j, j < i → n.testBit j = false) : n - (n &&& (n - 1)) = 2 ^ i := by
  obtain ⟨q, hq⟩ : ∃ q, n = q * 2 ^ (i + 1) + 2 ^ i := by
    refine ⟨n / 2 ^ (i + 1), ?_⟩
    have e : n % 2 ^ (i + 1) = 2 ^ i := by
      refine Nat.eq_of_testBit_eq fun j => ?_
      rw [Nat.testBit_mod_two_pow, Nat.testBit_two_pow]
      by_cases h : j = i
      · subst h
        simp [hi]
      · by_cases h2 : j < i
        · rw [hl j h2]
          simp [Ne.symm h]
        · simp [Ne.symm h]
          omega
    have := Nat.div_add_mod n (2 ^ (i + 1))
    rw [e, Nat.mul_comm] at this
    exact this.symm
  have p : 0 < 2 ^ i := Nat.two_pow_pos i
  have e2 : n - 1 = q * 2 ^ (i + 1) + (2 ^ i - 1) := by omega
  have e3 : n &&& (n - 1) = q * 2 ^ (i + 1) := by
    refine Nat.eq_of_testBit_eq fun j => ?_
    rw [Nat.testBit_and, e2, hq, Nat.mul_comm q, Nat.testBit_two_pow_mul_add _ (by rw [Nat.pow_succ]; omega), Nat.testBit_two_pow_mul_add _ (by rw [Nat.pow_succ]; omega), Nat.testBit_two_pow_mul]
    by_cases h : j < i + 1
    · rw [if_pos h, if_pos h, Nat.testBit_two_pow, Nat.testBit_two_pow_sub_one]
      have : decide (j ≥ i + 1) = false := decide_eq_false (by omega)
      rw [this, Bool.false_and, Bool.and_eq_false_iff]
      by_cases h2 : i = j
      · exact .inr (decide_eq_false (by omega))
      · exact .inl (decide_eq_false h2)
    · rw [if_neg h, if_neg h, Bool.and_self]
      have : decide (j ≥ i + 1) = true := decide_eq_true (by omega)
      rw [this, Bool.true_and]
  rw [e3, hq]
  omega
theorem bits_pow (i : Nat) : Builtin.Int.intBits ((2 ^ i : Nat) : Int) = i + 1 := by
  rw [bits_nat, if_neg (Nat.ne_of_gt (Nat.two_pow_pos i)), Nat.log2_two_pow]
/-! ### steps -/
section
variable {K : PySem.W.Frag} {σ : St} {H : Hp} {Q : VK} {QB : Bool → Hp → Prop} {ta : TE} {x : V} {a b k : Nat} {m : Int}
theorem o_shl1 (hk : k ≤ 1000) (h : Q (.int ((2 ^ k : Nat) : Int)) H) : zShl (.int 1) (.int (k : Int)) H Q := ⟨1, (k : Int), rfl, rfl, by
  refine ⟨by omega, ?_, ?_⟩ <;> first | decide | omega, by dsimp only; rw [shl_one]; exact h⟩
theorem o_shr (h : Q (.int ((a >>> k : Nat) : Int)) H) : zShr (.int (a : Int)) (.int (k : Int)) H Q := ⟨(a : Int), (k : Int), rfl, rfl, by omega, by dsimp only; rw [shr_nat]; exact h⟩
theorem o_and (h : Q (.int ((a &&& b : Nat) : Int)) H) : zAnd (.int (a : Int)) (.int (b : Int)) H Q := ⟨(a : Int), (b : Int), rfl, rfl, by dsimp only; rw [and_nat]; exact h⟩
theorem o_or (h : Q (.int ((a ||| b : Nat) : Int)) H) : zOr (.int (a : Int)) (.int (b : Int)) H Q := ⟨(a : Int), (b : Int), rfl, rfl, by dsimp only; rw [or_nat]; exact h⟩
theorem o_and1 (h : Q (.int ((a % 2 : Nat) : Int)) H) : zAnd (.int (a : Int)) (.int 1) H Q := ⟨(a : Int), 1, rfl, rfl, by
  dsimp only
  rw [show (1 : Int) = ((1 : Nat) : Int) from rfl, and_nat, Nat.and_one_is_mod]
  exact h⟩
theorem o_low (ha : 0 < a) (h : Q (.int ((a - (a &&& (a - 1)) : Nat) : Int)) H) : zAnd (.int (a : Int)) (.int (-(a : Int))) H Q := ⟨(a : Int), -(a : Int), rfl, rfl, by dsimp only; rw [low_nat a ha]; exact h⟩
theorem o_ipOr (h : Q (.int ((a ||| b : Nat) : Int)) H) : ipI (fun i j => Builtin.bitOr i j) (.int (a : Int)) (.int (b : Int)) H Q := ⟨(a : Int), (b : Int), rfl, rfl, by dsimp only; rw [or_nat]; exact h⟩
theorem g_lst {n : Nat} {ts : TGs} {c : Addr} {xs : List V} {QS : St → Hp → Prop} (h : SqL K H c xs) (hn : xs.length = n) (k : ts xs σ H QS) : gLst K n ts (.ref c) σ H QS := ⟨c, xs, rfl, h, hn, k⟩
theorem dLI_inj {a b : List (List Int)} : dLI a = dLI b ↔ a = b := by
  refine ⟨fun h => ?_, fun h => by rw [h]⟩
  have : ∀ {a b : List (List Int)}, a.map dI = b.map dI → a = b := fun {a} => by
    induction a with
    | nil => intro b h; cases b with
      | nil => rfl
      | cons _ _ => cases h
    | cons x a ih => intro b h; cases b with
      | nil => cases h
      | cons y b =>
        rw [List.map_cons, List.map_cons, List.cons.injEq] at h
        rw [dI_inj.mp h.1, ih h.2]
  exact this (PyData.list.inj h)
/-- lists of tuples of ints -/
theorem o_neLI {c d : Addr} {us ws : List V} {as bs : List (List Int)} (ha : SqL K H c us) (hb : SqL K H d ws) (ta : TIs H us as) (tb : TIs H ws bs) (h : Q (.bl (!decide (as = bs))) H) : zNe K (.ref c) (.ref d) H Q :=
  o_neD (.lst ha ta.dp) (.lst hb tb.dp) (pl_dLI.shaped (by decide)) (pl_dLI.shaped (by decide)) (by rw [pl_dLI.eqv pl_dLI dLI_inj]; exact h)
theorem o_eqLI {c d : Addr} {us ws : List V} {as bs : List (List Int)} (ha : SqL K H c us) (hb : SqL K H d ws) (ta : TIs H us as) (tb : TIs H ws bs) (h : Q (.bl (decide (as = bs))) H) : zEq K (.ref c) (.ref d) H Q :=
  o_eqD (.lst ha ta.dp) (.lst hb tb.dp) (pl_dLI.shaped (by decide)) (pl_dLI.shaped (by decide)) (by rw [pl_dLI.eqv pl_dLI dLI_inj]; exact h)
theorem s_asgU {n : Nat} {ts : TGs} {D : Ends} {te : TE} (h : te σ H fun v H1 => gLst K n ts v σ H1 D.nx) : tAsg te (gLst K n ts) D σ H := h
theorem e_bits (h : ta σ H fun x H1 => ∃ i, x = .int i ∧ Q (.int (Builtin.Int.intBits i : Nat)) H1) : tBits ta σ H Q := h
theorem bits_ {P : V → Prop} (h : P (.int (Builtin.Int.intBits m : Nat))) : ∃ i, V.int m = .int i ∧ P (.int (Builtin.Int.intBits i : Nat)) := ⟨m, rfl, h⟩
theorem t_bit (h : QB (a.testBit k) H) : ∃ q, TruV K (.int ((a >>> k % 2 : Nat) : Int)) H q ∧ QB q H := by
  refine t_int ?_
  have e : ((((a >>> k) % 2 : Nat) : Int) != 0) = a.testBit k := by
    rw [Nat.testBit_eq_decide_div_mod_eq, Nat.shiftRight_eq_div_pow]
    rcases Nat.mod_two_eq_zero_or_one (a / 2 ^ k) with z | z
    · rw [z]
      rfl
    · rw [z]
      rfl
  have e2 : ((((a >>> k % 2 : Nat)) : Int) != 0) = a.testBit k := e
  rw [e2]
  exact h
end
/-! ### what a part made, frozen -/
theorem gr_of_same {F H H' : Hp} {D : Addr} (hF : Same F H) (s : Same H H') (hD : Fresh H D) : ∃ F', Gr M0 F H F' H' ∧ F' D = none ∧ ∀ b o, H b = none → b ≠ D → H' b = some o → F' b = some o := by
  refine ⟨fun b => if ((H b).isNone && decide (b ≠ D)) = true then H' b else F b, ⟨fun b u e => ?_, fun b u e => ?_, fun b o _ e => s b o e, fun b o e f => ?_⟩, ?_, fun b o e1 e2 e3 => ?_⟩
  · rw [hF b u e, if_neg (by simp)]
    exact e
  · split at e
    · exact e
    · exact s b u (hF b u e)
  · show (if _ then _ else _) = _
    rw [e, if_neg (by simp)]
    exact f
  · show (if _ then _ else _) = _
    rw [if_neg (by simp)]
    exact fresh_F hF hD
  · show (if _ then _ else _) = _
    rw [e1, if_pos (by simp [e2])]
    exact e3
section
variable {K : PySem.W.Frag} {σ : St} {H : Hp} {tl te : TE} {c : TT} {Q : VK} {i j : Nat} {g : TG} {a : Addr} {xs : List V} {vs : List Nat} {ns : List Int}
def LcE (K : PySem.W.Frag) (g : TG) (tt : TT) (te : TE) (vs : List Nat) (σ : St) (x : V) (H : Hp) (Q : VK) : Prop := ∃ a xs, [x] = [V.ref a] ∧ SqL K H a xs ∧ LcW (Ite K a) g tt te vs σ H Q
theorem e_lcE (h : tl σ H fun x H1 => LcE K g c te vs σ x H1 Q) : tLc (iEnum K (tCons tl tNil)) g c te vs σ H Q := h
theorem lc_E (hs : SqL K H a xs) (Pv : Addr → Nat → Hp → Prop) (h0 : ∀ D, Fresh H D → Pv D 0 (upd H D (.lst []))) (hl : ∀ D i H', i ≤ xs.length → Pv D i H' → SqL K H' a xs)
    (hb : ∀ D i x H' q, Fresh H D → xs[i]? = some x → Pv D i H' → Fresh H' q → g (.ref q) (wipe σ vs) (upd H' q (.tup [.int (i : Int), x])) fun σ2 H3 => wipe σ2 vs = wipe σ vs ∧ c σ2 H3 fun b H4 =>
      if b = true then te σ2 H4 fun y H5 => ∃ acc, H5 D = some (.lst acc) ∧ acc.length < sizeLine ∧ Pv D (i + 1) (upd H5 D (.lst (acc ++ [y]))) else Pv D (i + 1) H4)
    (hd : ∀ D H', Fresh H D → Pv D xs.length H' → Q (.ref D) H') : LcE K g c te vs σ (.ref a) H Q := by
  refine ⟨a, xs, rfl, hs, fun D nD => ⟨fun i m H' => m = xs.length - i ∧ i ≤ xs.length ∧ Pv D i H', ⟨xs.length, by simp, Nat.zero_le _, h0 D nD⟩, ?_⟩⟩
  rintro i m H' ⟨rfl, hi, pv⟩
  have sq := hl D i H' hi pv
  by_cases cc : i < xs.length
  · refine .inr ⟨⟨xs, xs[i], sq, List.getElem?_eq_getElem cc⟩, Pv D (i + 1), fun H2 p2 => ⟨xs.length - (i + 1), by omega, rfl, cc, p2⟩, fun x H2 y => ?_⟩
    obtain ⟨q, z, rfl, nq, rfl, f⟩ := y
    exact hb D i z H' q nD (f xs sq) pv nq
  · have e : i = xs.length := by omega
    subst e
    exact .inl ⟨⟨xs, sq, Nat.le_refl _⟩, hd D H' nD pv⟩
/-- what the turns of a comprehension have made -/
def RelAt (R : Nat → V → Hp → Prop) (H : Hp) (D : Addr) (i : Nat) (H' : Hp) : Prop := Same H H' ∧ ∃ ys, H' D = some (.lst ys) ∧ ys.length = i ∧ ∀ j y, ys[j]? = some y → R j y H' ∧ y ≠ .ref D
/-- what a relation of made values must bear -/
structure Stab (R : Nat → V → Hp → Prop) : Prop where
  mono : ∀ i y H1 H2, Same H1 H2 → R i y H1 → R i y H2
  put : ∀ i y H1 D acc acc', H1 D = some (.lst acc) → y ≠ .ref D → R i y H1 → R i y (upd H1 D (.lst acc'))
theorem rel_turn {R : Nat → V → Hp → Prop} (S : Stab R) {D : Addr} {n : Nat} {H' H2 : Hp} {te : TE} {σ1 : St} (nD : Fresh H D) (hz : n ≤ 10000) (h : RelAt R H D n H') (s2 : Same H' H2)
    (he : ∀ (Q : VK), (∀ y H3, Same H2 H3 → (∀ b, y = .ref b → Fresh H2 b ∨ ∃ o, H b = some o) → R n y H3 → Q y H3) → te σ1 H2 Q) :
    te σ1 H2 fun y H5 => ∃ acc, H5 D = some (.lst acc) ∧ acc.length < sizeLine ∧ RelAt R H D (n + 1) (upd H5 D (.lst (acc ++ [y]))) := by
  obtain ⟨sH, ys, eD, ly, hy⟩ := h
  refine he _ fun y H3 s3 fr r => ?_
  have eD3 := s3 _ _ (s2 _ _ eD)
  have ny : y ≠ .ref D := fun e => by
    rcases fr D e with f | ⟨o, f⟩
    · rw [Fresh, s2 _ _ eD] at f
      cases f
    · rw [Fresh, f] at nD
      cases nD
  refine ⟨ys, eD3, by rw [sizeLine_eq]; omega, fun b o e => ?_, ys ++ [y], upd_same, by rw [List.length_append, ly]; rfl, fun j z ez => ?_⟩
  · rw [upd_ne (ne_of_none e nD)]
    exact s3 _ _ (s2 _ _ (sH _ _ e))
  · rcases Nat.lt_or_ge j ys.length with l | l
    · rw [List.getElem?_append_left l] at ez
      have q := hy j z ez
      exact ⟨S.put _ _ _ _ _ _ eD3 q.2 (S.mono _ _ _ _ (s2.trans s3) q.1), q.2⟩
    · rw [List.getElem?_append_right l] at ez
      have l0 : j - ys.length = 0 := by
        have := (List.getElem?_eq_some_iff.mp ez).1
        simp only [List.length_singleton] at this
        omega
      rw [l0, List.getElem?_cons_zero] at ez
      obtain rfl : y = z := Option.some.inj ez
      rw [show j = n by omega]
      exact ⟨S.put _ _ _ _ _ _ eD3 ny r, ny⟩
theorem rel_start {R : Nat → V → Hp → Prop} {D : Addr} (nD : Fresh H D) : RelAt R H D 0 (upd H D (.lst [])) := ⟨fun b o e => (upd_ne (ne_of_none e nD)).trans e, [], upd_same, rfl, fun j y h => by cases h⟩
theorem lcL_rel (R : Nat → V → Hp → Prop) (S : Stab R) (hs : SqL K H a xs) (hz : xs.length ≤ 10000)
    (he : ∀ i x, xs[i]? = some x → ∀ H2 (Q : VK), Same H H2 → (∀ y H3, Same H2 H3 → (∀ b, y = .ref b → Fresh H2 b ∨ ∃ o, H b = some o) → R i y H3 → Q y H3) → te ((wipe σ vs).set j (some x)) H2 Q)
    (k : ∀ D H' ys, Fresh H D → Same H H' → H' D = some (.lst ys) → ys.length = xs.length → (∀ i y, ys[i]? = some y → R i y H') → Q (.ref D) H') (hw : ∀ x, wipe ((wipe σ vs).set j (some x)) vs = wipe σ vs := by intro _; rfl) : LcL K (gName j) tYes te vs σ (.ref a) H Q :=
  lc_L hs (fun D i H' => RelAt R H D i H') (fun D nD => rel_start nD) (fun D i H' _ h => Same.seq h.1 hs) (fun D i x H' nD hx h => ⟨hw x, c_yes (iteT (rel_turn S nD (by have := (List.getElem?_eq_some_iff.mp hx).1; omega) h (Same.refl _) fun Q q => he i x hx H' Q h.1 q))⟩)
    fun D H' nD ⟨sH, ys, eD, ly, hy⟩ => k D H' ys nD sH eD ly fun i y e => (hy i y e).1
theorem lcT_rel (R : Nat → V → Hp → Prop) (S : Stab R) (hs : SqT K H a xs) (hz : xs.length ≤ 10000)
    (he : ∀ i x, xs[i]? = some x → ∀ H2 (Q : VK), Same H H2 → (∀ y H3, Same H2 H3 → (∀ b, y = .ref b → Fresh H2 b ∨ ∃ o, H b = some o) → R i y H3 → Q y H3) → te ((wipe σ vs).set j (some x)) H2 Q)
    (k : ∀ D H' ys, Fresh H D → Same H H' → H' D = some (.lst ys) → ys.length = xs.length → (∀ i y, ys[i]? = some y → R i y H') → Q (.ref D) H') (hw : ∀ x, wipe ((wipe σ vs).set j (some x)) vs = wipe σ vs := by intro _; rfl) : LcT K (gName j) tYes te vs σ (.ref a) H Q :=
  lc_T hs (fun D i H' => RelAt R H D i H') (fun D nD => rel_start nD) (fun D i H' _ h => Same.seqT h.1 hs) (fun D i x H' nD hx h => ⟨hw x, c_yes (iteT (rel_turn S nD (by have := (List.getElem?_eq_some_iff.mp hx).1; omega) h (Same.refl _) fun Q q => he i x hx H' Q h.1 q))⟩)
    fun D H' nD ⟨sH, ys, eD, ly, hy⟩ => k D H' ys nD sH eD ly fun i y e => (hy i y e).1
theorem lcR_rel {n : Int} (R : Nat → V → Hp → Prop) (S : Stab R) (hn : -(2 ^ 62) ≤ n ∧ n ≤ 10000)
    (he : ∀ i : Nat, (i : Int) < n → ∀ H2 (Q : VK), Same H H2 → (∀ y H3, Same H2 H3 → (∀ b, y = .ref b → Fresh H2 b ∨ ∃ o, H b = some o) → R i y H3 → Q y H3) → te ((wipe σ vs).set j (some (.int (i : Int)))) H2 Q)
    (k : ∀ D H' ys, Fresh H D → Same H H' → H' D = some (.lst ys) → ys.length = n.toNat → (∀ i y, ys[i]? = some y → R i y H') → Q (.ref D) H') (hw : ∀ x, wipe ((wipe σ vs).set j (some x)) vs = wipe σ vs := by intro _; rfl) : LcR1 (gName j) tYes te vs σ (.int n) H Q :=
  lc_R1 (by omega) (fun D i H' => RelAt R H D i H') (fun D nD => rel_start nD) (fun D i H' nD hi h => ⟨hw _, c_yes (iteT (rel_turn S nD (by omega) h (Same.refl _) fun Q q => he i hi H' Q h.1 q))⟩)
    fun D H' nD ⟨sH, ys, eD, ly, hy⟩ => k D H' ys nD sH eD ly fun i y e => (hy i y e).1
theorem lcE_rel (R : Nat → V → Hp → Prop) (S : Stab R) (hs : SqL K H a xs) (hz : xs.length ≤ 10000)
    (he : ∀ n x, xs[n]? = some x → ∀ H2 (Q : VK), Same H H2 → (∀ y H3, Same H2 H3 → (∀ b, y = .ref b → Fresh H2 b ∨ ∃ o, H b = some o) → R n y H3 → Q y H3) → te (((wipe σ vs).set i (some (.int (n : Int)))).set j (some x)) H2 Q)
    (k : ∀ D H' ys, Fresh H D → Same H H' → H' D = some (.lst ys) → ys.length = xs.length → (∀ i y, ys[i]? = some y → R i y H') → Q (.ref D) H')
    (hw : ∀ x y, wipe (((wipe σ vs).set i (some x)).set j (some y)) vs = wipe σ vs := by intro _ _; rfl) : LcE K (gTup K 2 (gCons (gName i) (gCons (gName j) gNil))) tYes te vs σ (.ref a) H Q :=
  lc_E hs (fun D i H' => RelAt R H D i H') (fun D nD => rel_start nD) (fun D i H' _ h => Same.seq h.1 hs) (fun D n x H' q nD hx h nq => by
    have s2 : Same H' (upd H' q (.tup [.int (n : Int), x])) := fun b o e => (upd_ne (ne_of_none e nq)).trans e
    refine g_tup (SqT.of upd_same) rfl (g_cons (g_name (g_cons (g_name (g_nil ⟨hw _ _, c_yes (iteT ?_)⟩)))))
    exact rel_turn S nD (by have := (List.getElem?_eq_some_iff.mp hx).1; omega) h s2 fun Q q => he n x hx _ Q (h.1.trans s2) q)
    fun D H' nD ⟨sH, ys, eD, ly, hy⟩ => k D H' ys nD sH eD ly fun i y e => (hy i y e).1
theorem stab_val {f : Nat → V → Prop} : Stab fun i y _ => f i y := ⟨fun _ _ _ _ _ h => h, fun _ _ _ _ _ _ _ _ h => h⟩
theorem stab_TI {f : Nat → List Int → Prop} : Stab fun i y H => ∃ ns, f i ns ∧ TI H y ns := ⟨fun _ _ _ _ s ⟨ns, h, t⟩ => ⟨ns, h, t.mono s⟩, fun i y H1 D acc acc' e _ ⟨ns, h, t, e1, e2⟩ => ⟨ns, h, t, e1, by
  rw [upd_ne]
  · exact e2
  · intro z
    rw [z, e] at e2
    cases e2⟩⟩
theorem lcL_igrow (p : Int → Bool) (f : Int → V) (hs : SqL K H a (ns.map V.int)) (hz : ns.length ≤ 10000) {tt : TT} (ht : ∀ x ∈ ns, ∀ H2 (QB : Bool → Hp → Prop), Same H H2 → (∀ H3, Same H2 H3 → QB (p x) H3) → tt ((wipe σ vs).set j (some (.int x))) H2 QB)
    (he : ∀ x ∈ ns, ∀ H2 (Q : VK), Same H H2 → p x = true → (∀ H3, Same H2 H3 → Q (f x) H3) → te ((wipe σ vs).set j (some (.int x))) H2 Q)
    (k : ∀ D H', Fresh H D → Same H H' → H' D = some (.lst ((ns.filter p).map f)) → Q (.ref D) H') (hw : ∀ x, wipe ((wipe σ vs).set j (some x)) vs = wipe σ vs := by intro _; rfl) : LcL K (gName j) tt te vs σ (.ref a) H Q :=
  lcL_grow (onI p) (mapI f) hs (by rw [List.length_map]; exact hz) (fun x hx H2 QB hs q => by
    obtain ⟨z, hz, rfl⟩ := List.mem_map.mp hx
    exact ht z hz H2 QB hs q) (fun x hx H2 Q hs hp q => by
    obtain ⟨z, hz, rfl⟩ := List.mem_map.mp hx
    exact he z hz H2 Q hs hp q) (fun D H' hD hS e => by
    rw [fil_ints] at e
    exact k D H' hD hS e) hw
/-! ### filters by place, growing -/
theorem rng_step (p : Nat → Bool) (f : Nat → V) (i : Nat) : ((List.range (i + 1)).filter p).map f = if p i = true then ((List.range i).filter p).map f ++ [f i] else ((List.range i).filter p).map f := by
  rw [List.range_succ, List.filter_append, List.map_append]
  by_cases h : p i = true
  · rw [if_pos h, List.filter_cons_of_pos h]
    rfl
  · rw [if_neg h, List.filter_cons_of_neg h, List.filter_nil, List.map_nil, List.append_nil]
theorem rng_short (p : Nat → Bool) (f : Nat → V) {i : Nat} (h : i ≤ 10000) : (((List.range i).filter p).map f).length < sizeLine := by
  have := List.length_filter_le p (List.range i)
  rw [List.length_range] at this
  rw [List.length_map, sizeLine_eq]
  omega
theorem lcL_ig {tt : TT} (p : Nat → Bool) (f : Nat → V) (hs : SqL K H a xs) (hz : xs.length ≤ 10000) (ht : ∀ i x, xs[i]? = some x → ∀ H2 (QB : Bool → Hp → Prop), Same H H2 → (∀ H3, Same H2 H3 → QB (p i) H3) → tt ((wipe σ vs).set j (some x)) H2 QB)
    (he : ∀ i x, xs[i]? = some x → ∀ H2 (Q : VK), Same H H2 → p i = true → (∀ H3, Same H2 H3 → Q (f i) H3) → te ((wipe σ vs).set j (some x)) H2 Q)
    (k : ∀ D H', Fresh H D → Same H H' → H' D = some (.lst (((List.range xs.length).filter p).map f)) → Q (.ref D) H') (hw : ∀ x, wipe ((wipe σ vs).set j (some x)) vs = wipe σ vs := by intro _; rfl) : LcL K (gName j) tt te vs σ (.ref a) H Q :=
  lc_L hs (fun D i H' => GrowAt (((List.range i).filter p).map f) H D H') (fun D hD => ⟨fun b u e => (upd_ne (ne_of_none e hD)).trans e, upd_same⟩) (fun D i H' _ h => Same.seq h.1 hs) (fun D i x H' hD hx h => ⟨hw x,
    grow_turn (b := p i) (y := f i) hD (rng_short p f (by have := (List.getElem?_eq_some_iff.mp hx).1; omega)) h (rng_step p f i) (fun H2 QB hs q => ht i x hx H2 QB hs q) (fun H2 Q hs hp q => he i x hx H2 Q hs hp q)⟩) fun D H' hD h => k D H' hD h.1 h.2
theorem lcT_ig {tt : TT} (p : Nat → Bool) (f : Nat → V) (hs : SqT K H a xs) (hz : xs.length ≤ 10000) (ht : ∀ i x, xs[i]? = some x → ∀ H2 (QB : Bool → Hp → Prop), Same H H2 → (∀ H3, Same H2 H3 → QB (p i) H3) → tt ((wipe σ vs).set j (some x)) H2 QB)
    (he : ∀ i x, xs[i]? = some x → ∀ H2 (Q : VK), Same H H2 → p i = true → (∀ H3, Same H2 H3 → Q (f i) H3) → te ((wipe σ vs).set j (some x)) H2 Q)
    (k : ∀ D H', Fresh H D → Same H H' → H' D = some (.lst (((List.range xs.length).filter p).map f)) → Q (.ref D) H') (hw : ∀ x, wipe ((wipe σ vs).set j (some x)) vs = wipe σ vs := by intro _; rfl) : LcT K (gName j) tt te vs σ (.ref a) H Q :=
  lc_T hs (fun D i H' => GrowAt (((List.range i).filter p).map f) H D H') (fun D hD => ⟨fun b u e => (upd_ne (ne_of_none e hD)).trans e, upd_same⟩) (fun D i H' _ h => Same.seqT h.1 hs) (fun D i x H' hD hx h => ⟨hw x,
    grow_turn (b := p i) (y := f i) hD (rng_short p f (by have := (List.getElem?_eq_some_iff.mp hx).1; omega)) h (rng_step p f i) (fun H2 QB hs q => ht i x hx H2 QB hs q) (fun H2 Q hs hp q => he i x hx H2 Q hs hp q)⟩) fun D H' hD h => k D H' hD h.1 h.2
theorem ones_of (p : Nat → Bool) (n : Nat) : HO.lst (((List.range n).filter p).map fun _ => V.int 1) = ones ((List.range n).filter p).length ∧ (((List.range n).filter p).length = 0 ↔ ∀ i, i < n → p i = false) := by
  constructor
  · unfold ones
    congr 1
    rw [List.map_replicate]
    exact List.map_const'
  · rw [List.length_eq_zero_iff, List.filter_eq_nil_iff]
    exact ⟨fun h i hi => Bool.eq_false_iff.mpr (h i (List.mem_range.mpr hi)), fun h i hi => Bool.eq_false_iff.mp (h i (List.mem_range.mp hi))⟩
/-- [1 for x in xs if ..], the test making new things -/
theorem lcL_onesG {tt : TT} (p : Nat → Bool) (hs : SqL K H a xs) (hz : xs.length ≤ 10000) (ht : ∀ i x, xs[i]? = some x → ∀ H2 (QB : Bool → Hp → Prop), Same H H2 → (∀ H3, Same H2 H3 → QB (p i) H3) → tt ((wipe σ vs).set j (some x)) H2 QB)
    (k : ∀ D c H', Fresh H D → Same H H' → H' D = some (ones c) → (c = 0 ↔ ∀ i, i < xs.length → p i = false) → Q (.ref D) H') (hw : ∀ x, wipe ((wipe σ vs).set j (some x)) vs = wipe σ vs := by intro _; rfl) : LcL K (gName j) tt (tC (.int 1)) vs σ (.ref a) H Q :=
  lcL_ig p (fun _ => .int 1) hs hz ht (fun i x hx H2 Q s hp q => q _ (Same.refl _)) (fun D H' nD s e => k D _ H' nD s (e.trans (congrArg some (ones_of p _).1)) (ones_of p _).2) hw
theorem lcT_onesG {tt : TT} (p : Nat → Bool) (hs : SqT K H a xs) (hz : xs.length ≤ 10000) (ht : ∀ i x, xs[i]? = some x → ∀ H2 (QB : Bool → Hp → Prop), Same H H2 → (∀ H3, Same H2 H3 → QB (p i) H3) → tt ((wipe σ vs).set j (some x)) H2 QB)
    (k : ∀ D c H', Fresh H D → Same H H' → H' D = some (ones c) → (c = 0 ↔ ∀ i, i < xs.length → p i = false) → Q (.ref D) H') (hw : ∀ x, wipe ((wipe σ vs).set j (some x)) vs = wipe σ vs := by intro _; rfl) : LcT K (gName j) tt (tC (.int 1)) vs σ (.ref a) H Q :=
  lcT_ig p (fun _ => .int 1) hs hz ht (fun i x hx H2 Q s hp q => q _ (Same.refl _)) (fun D H' nD s e => k D _ H' nD s (e.trans (congrArg some (ones_of p _).1)) (ones_of p _).2) hw
/-! ### lists by place; lists of ints -/
theorem paired_of {α β : Type} {R : α → β → Prop} : ∀ {ws : List α} {ns : List β}, ws.length = ns.length → (∀ (i : Nat) (y : α), ws[i]? = some y → ∃ n, ns[i]? = some n ∧ R y n) → Paired R ws ns
  | [], [], _, _ => .nil
  | [], _ :: _, h, _ => by cases h
  | _ :: _, [], h, _ => by cases h
  | w :: ws, n :: ns, l, h => .cons (by
      obtain ⟨m, e, r⟩ := h 0 w rfl
      cases e
      exact r) (paired_of (by simpa using l) fun i y e => h (i + 1) y e)
theorem paired_get {α β : Type} {R : α → β → Prop} : ∀ {ws : List α} {ns : List β} {i : Nat} {y : α}, Paired R ws ns → ws[i]? = some y → ∃ n, ns[i]? = some n ∧ R y n
  | _, _, 0, _, .cons h _, e => by
    rw [List.getElem?_cons_zero] at e
    cases e
    exact ⟨_, rfl, h⟩
  | _, _, i + 1, _, .cons _ t, e => by
    rw [List.getElem?_cons_succ] at e ⊢
    exact paired_get t e
theorem ys_of {ys zs : List V} (l : ys.length = zs.length) (h : ∀ (i : Nat) (y : V), ys[i]? = some y → zs[i]? = some y) : ys = zs := List.ext_getElem? fun i => by
  cases e : ys[i]? with
  | some y => exact (h i y e).symm
  | none =>
    rw [List.getElem?_eq_none_iff] at e
    exact (List.getElem?_eq_none_iff.mpr (by omega)).symm
/-- v is a list of the ints ns -/
def LI (H : Hp) (v : V) (ns : List Int) : Prop := ∃ t, v = .ref t ∧ H t = some (.lst (ns.map V.int))
theorem LI.mono {H' : Hp} (e : Same H H') {v : V} {ns : List Int} (h : LI H v ns) : LI H' v ns := by
  obtain ⟨t, rfl, h⟩ := h
  exact ⟨t, rfl, e _ _ h⟩
theorem LI.dp {v : V} {ns : List Int} (h : LI H v ns) : Dp K H v (dL ns) := by
  obtain ⟨t, rfl, h⟩ := h
  exact .lst (SqL.of h) (dpAll_ints ns)
abbrev LIs (H : Hp) : List V → List (List Int) → Prop := Paired (LI H)
theorem LIs.mono {H' : Hp} (e : Same H H') {vs : List V} {nss : List (List Int)} (h : LIs H vs nss) : LIs H' vs nss := Paired.mono (fun _ _ => LI.mono e) h
theorem LIs.dp : ∀ {vs : List V} {nss : List (List Int)}, LIs H vs nss → DpAll K H vs (nss.map dL)
  | _, _, .nil => .nil
  | _, _, .cons h t => .cons h.dp (LIs.dp t)
theorem stab_LI {f : Nat → List Int → Prop} : Stab fun i y H => ∃ ns, f i ns ∧ LI H y ns := ⟨fun _ _ _ _ s ⟨ns, h, t⟩ => ⟨ns, h, t.mono s⟩, fun i y H1 D acc acc' e ny ⟨ns, h, t, e1, e2⟩ => ⟨ns, h, t, e1, by
  rw [upd_ne]
  · exact e2
  · intro z
    rw [e1, z] at ny
    exact ny rfl⟩⟩
theorem fresh_back {H' : Hp} {p : Addr} (s : Same H H') (h : Fresh H' p) : Fresh H p := by
  cases e : H p with
  | none => exact e
  | some o =>
    rw [Fresh, s _ _ e] at h
    cases h
/-- tuples stay when a list is changed -/
theorem ti_put {c : Addr} {us as : List V} {nss : List (List Int)} (h : TIs H us nss) (e : H c = some (.lst as)) {bs : List V} : TIs (upd H c (.lst bs)) us nss := Paired.mono (fun v ns h => by
  obtain ⟨t, rfl, h⟩ := h
  refine ⟨t, rfl, ?_⟩
  rw [upd_ne]
  · exact h
  · intro z
    rw [z, e] at h
    cases h) h
theorem li_put {c : Addr} {us bs : List V} {nss : List (List Int)} (h : LIs H us nss) (e : ∀ u ∈ us, u ≠ .ref c) : LIs (upd H c (.lst bs)) us nss := paired_of h.length fun i y ey => by
  obtain ⟨n, hn, t, rfl, ht⟩ := paired_get h ey
  refine ⟨n, hn, t, rfl, ?_⟩
  rw [upd_ne]
  · exact ht
  · exact fun z => e _ (List.mem_of_getElem? ey) (by rw [z])
theorem li_app {us ws : List V} {as bs : List (List Int)} (h : LIs H us as) (k : LIs H ws bs) : LIs H (us ++ ws) (as ++ bs) := by
  induction h with
  | nil => exact k
  | cons a _ ih => exact .cons a ih
theorem gr_same0 {F H' : Hp} (hF : Same F H) (s : Same H H') : Gr M0 F H F H' := ⟨Same.refl _, hF.trans s, fun b o _ e => s b o e, fun _ _ _ e => e⟩
end
end Z

/-! Zs: sorted(t), t a tuple. -/
namespace PySem
open PyProof.Rows
section
variable {prog : Program} {w : World} {A : Around} {E : Value → Shared → Prop} {s : Shared}
theorem z_collect_tup {l : Addr} {o : Obj} {n : Nat} {vs : List Value} {Q : List Value → Shared → Prop} (ho : s.heap.get? l = some o) (hc : o.cls = .type "tuple") (hd : o.data = .seq vs.toArray n)
    (h : Q vs { s with heap := (s.heap.push (seqObj "list" #[] 0)).update s.heap.objs.size (Obj.mapSeq (· ++ vs.toArray)) }) (hsz : vs.length ≤ sizeLine) :
    wpAny (model prog w) A (collect (.ref l)) Q E s := by
  unfold collect
  refine wpAny_bind (wpAny_runValue (codeAny_builtin entry_proto_collect' ?_))
  show wpAny _ _ (do again (.builtin "list.__iadd__" ⟨[← newList [], .ref l], []⟩)) _ _ s
  refine wpAny_bind (wpAny_newList (wpAny_pure ⟨Code.quiet_builtin _ (by decide +kernel), codeAny_builtin entry_list_iadd' ?_⟩))
  show wpAny _ _ (Builtin.List.listExtendWith (.ref s.heap.objs.size) (.ref l) (.ref s.heap.objs.size)) _ _ { s with heap := s.heap.push (seqObj "list" #[] 0) }
  unfold Builtin.List.listExtendWith
  have ho' : (s.heap.push (seqObj "list" #[] 0)).get? l = some o := Heap.get?_push_of_some _ ho
  refine wpAny_bind (wpAny_typeOf (T := "tuple") ⟨o, ho', hc⟩ ?_)
  have ht : (Value.type "tuple" == Value.type "tuple") = true := by rfl
  rw [if_pos (by rw [ht]; simp)]
  refine wpAny_bind (listItems_at ho' hd ?_)
  refine wpAny_bind (listItems_at (xs := #[]) (n := 0) (Heap.get?_push_size _ rfl) rfl ?_)
  rw [if_neg (by simp)]
  refine wpAny_bind (listUpdate_at (xs := #[]) (n := 0) (Heap.get?_push_size _ rfl) rfl ?_ (Nat.zero_le _) (by show (#[] ++ vs.toArray).size ≤ sizeLine + 1; simp only [Array.size_append, List.size_toArray, List.length_nil]; omega))
  refine wpAny_pure ?_
  show wpAny (model prog w) A (do
      let o ← load s.heap.objs.size
      match o.data with
      | .seq xs _ => pure xs.toList
      | _ => unsupported "internal:collect") Q E { s with heap := (s.heap.push (seqObj "list" #[] 0)).update s.heap.objs.size (Obj.mapSeq (· ++ vs.toArray)) }
  refine wpAny_bind (wpAny_load (get?_update_seq (Heap.get?_push_size _ rfl) _) ?_)
  show wpAny _ _ (pure ((#[] : Array Value) ++ vs.toArray).toList) Q E _
  rw [show ((#[] : Array Value) ++ vs.toArray).toList = vs by simp]
  exact wpAny_pure h
end
end PySem
namespace SrtO
open PySem PyProof.Rows
section
variable {prog : Program} {w : World} {A : Around} {E : Value → Shared → Prop} {s : Shared}
theorem z_sorted_ordT {l : Addr} {o : Obj} {n : Nat} {vs : List Value} {ltv : Value → Value → Bool} {Q : Value → Shared → Prop} (O : Swo ltv) (ho : s.heap.get? l = some o) (hc : o.cls = .type "tuple") (hd : o.data = .seq vs.toArray n) (hz : vs.length ≤ sizeLine)
    (hS : 2 ≤ vs.length → ∀ (h₁ : Heap) (a : Addr), h₁.get? a = some (seqObj "list" vs.toArray 0) → (∀ b o, s.heap.get? b = some o → b ≠ a ∧ h₁.get? b = some o) → SortableO prog w A.in1.in1 { s with heap := h₁ } a vs ltv)
    (h : ∀ out : List Value, Srtd ltv out → Stb ltv out vs → Q (.ref (s.heap.objs.size + 1)) { s with heap := sortedAll s.heap vs out.toArray }) :
    wpAny (model prog w) A (call (.builtin "sorted") [.ref l]) Q E s := by
  refine Calls.call_function_entry kind_sorted plain_sorted entry_sorted (args_sorted1 _) ?_
  unfold Builtin.«sorted»
  refine wpAny_bind (m := checkCount "sorted" 1 1 _) (wpAny_pure ?_)
  refine wpAny_bind (z_collect_tup ho hc hd ?_ hz)
  refine wpAny_bind (wpAny_newList ?_ hz)
  have hsz : ((s.heap.push (seqObj "list" #[] 0)).update s.heap.objs.size (Obj.mapSeq (· ++ vs.toArray))).objs.size = s.heap.objs.size + 1 := by
    rw [Heap.size_update, size_push']
  have hoL : (((s.heap.push (seqObj "list" #[] 0)).update s.heap.objs.size (Obj.mapSeq (· ++ vs.toArray))).push (seqObj "list" vs.toArray 0)).get? (s.heap.objs.size + 1) = some (seqObj "list" vs.toArray 0) := by
    rw [← hsz]; exact Heap.get?_push_size _ rfl
  have keep : ∀ b o, s.heap.get? b = some o → b ≠ s.heap.objs.size + 1 ∧ (((s.heap.push (seqObj "list" #[] 0)).update s.heap.objs.size (Obj.mapSeq (· ++ vs.toArray))).push (seqObj "list" vs.toArray 0)).get? b = some o := fun b o q => by
    have hlt : b < s.heap.objs.size := Heap.lt_size q
    refine ⟨Nat.ne_of_lt (Nat.lt_succ_of_lt hlt), Heap.get?_push_of_some _ ?_⟩
    rw [Heap.get?_update_ne _ _ _ _ (Nat.ne_of_lt hlt)]
    exact Heap.get?_push_of_some _ q
  show wpAny _ _ _ _ _ { s with heap := ((s.heap.push (seqObj "list" #[] 0)).update s.heap.objs.size (Obj.mapSeq (· ++ vs.toArray))).push (seqObj "list" vs.toArray 0) }
  rw [hsz]
  refine wpAny_bind (wpAny_holding (wpAny_call_entry slot_list_sort ⟨_, hoL, rfl⟩ entry_list_sort (list_sort_ord O hoL hz (fun h2 => hS h2 _ _ hoL keep) fun out hs hb => ⟨_, rfl, ?_⟩) (args_list_sort _)))
  exact wpAny_pure ⟨_, rfl, h out hs hb⟩
end
end SrtO
namespace Z
open PySem PySem.Spec L2
open PyProof.Rows hiding St
/-- sorted(t), t a tuple of ints -/
def rSortedIT (K : PySem.W.Frag) : List V → Hp → VK → Prop := fun vs H Q => ∃ (a : Addr) (ns : List Int), vs = [V.ref a] ∧ SqT K H a (ns.map V.int) ∧ ∀ (ns' : List Int) (p : Addr), ns'.Perm ns → ns'.Pairwise (· ≤ ·) → H p = none → Q (.ref p) (upd H p (.lst (ns'.map V.int)))
section
variable {X : Cx}
theorem cr_sortedIT : CallR X (.builtin "sorted") (rSortedIT X.K) := by
  intro pins s σ H vs us Q I r h
  obtain ⟨a, ns, rfl, hs, q⟩ := h
  obtain ⟨its, rv, ⟨o, ho, hc, n, hd⟩, hz⟩ := I.tuple hs
  rw [Vals.ref1 r]
  have hi := rv.ints
  refine SrtO.z_sorted_ordT SrtO.swo_int ho hc hd (by rw [← rv.length]; exact hz) (fun h2 h₁ a' _ _ => SrtO.ints_sortable hi h2) fun out h1 h2 => ?_
  obtain ⟨k1, k2, k3⟩ := SrtO.ints_out hi h1 h2
  obtain ⟨ep, he'⟩ := PyProof.Rows.sortedAll_at s.heap its out.toArray
  have hlen : ((out.map SrtO.iv).map V.int).length ≤ sizeLine := by
    rw [List.length_map, k2.length_eq]
    rw [List.length_map] at hz
    exact hz
  exact ⟨.ref _, upd H (s.heap.objs.size + 1) (.lst ((out.map SrtO.iv).map V.int)), I.laid (t' := s.toks) (fun _ _ => PyProof.Rows.sortedAll_old) (Nat.le_succ _) ⟨hlen, out, ep, vals_of_ints k1, he'⟩, rfl, q _ _ k2 k3 (I.hok.fresh (Nat.le_succ _))⟩
def zSortedT (K : PySem.W.Frag) (w : World) : List V → Hp → VK → Prop := orC (zSorted K w) (rSortedIT K)
theorem cr_zSortedT (hc : X.calm = true) : CallR X (.builtin "sorted") (zSortedT X.K X.w) := cr_or2 (cr_zSorted hc) cr_sortedIT
end
section
variable {K : PySem.W.Frag} {w0 : World} {σ : L2.St} {H : Hp} {Q : VK} {a b : Addr} {ta tb : TE} {v : V} {ns : List Int}
theorem o_sortIT (hs : SqT K H a (ns.map V.int)) (h : ∀ (ns' : List Int) (p : Addr), ns'.Perm ns → ns'.Pairwise (· ≤ ·) → Fresh H p → Q (.ref p) (upd H p (.lst (ns'.map V.int)))) : zSortedT K w0 [.ref a] H Q := .inr ⟨a, ns, rfl, hs, h⟩
theorem e_dget (h : ta σ H fun x H1 => tb σ H1 fun y H2 => ∃ a v, x = .ref a ∧ DGet H2 a y (some v) ∧ Q v H2) : tDGet ta tb σ H Q := h
theorem dget_T {P : V → Prop} {ks : List Key} {kvs : List (List Key × V)} (ha : H a = some (.dT kvs)) (hb : H b = some (.tup (ks.map kV))) (hv : valV kvs ks = some v) (h : P v) : ∃ a' v', V.ref a = .ref a' ∧ DGet H a' (.ref b) (some v') ∧ P v' := ⟨a, v, rfl, by rw [← hv]; exact DGet.t ha hb, h⟩
theorem e_dnin' {ta tb : TE} (h : ta σ H fun y H1 => tb σ H1 fun x H2 => ∃ a o, x = .ref a ∧ DGet H2 a y o ∧ Q (.bl (!o.isSome)) H2) : tDNotIn ta tb σ H Q := h
end
end Z

/-! Zt: sorted(xs), xs a list of tuples of ints, none of them empty. -/
namespace SrtO
open PySem PyProof.Rows Srt
section
variable {prog : Program} {w : World} {A : Around} {E : Value → Shared → Prop} {s : Shared}
def lexD (D : Bool) : List Int → List Int → Bool
  | x :: xs, y :: ys => if x = y then lexD D xs ys else decide (x < y)
  | _, _ => D
theorem lexD_eq : ∀ ns ms : List Int, HT.lexLt ns ms = lexD (decide (ns.length < ms.length)) ns ms
  | [], [] => rfl
  | [], _ :: _ => by simp [HT.lexLt, lexD]
  | _ :: _, [] => by simp [HT.lexLt, lexD]
  | x :: xs, y :: ys => by
    rw [HT.lexLt_cons, lexD, lexD_eq xs ys]
    have : decide ((x :: xs).length < (y :: ys).length) = decide (xs.length < ys.length) := decide_eq_decide.mpr (by simp)
    rw [this]
theorem lexD_ints {D b : Bool} {Q : Bool → Shared → Prop} {xs ys : List Value} {ns ms : List Int} (hx : IntsAre xs ns) (hy : IntsAre ys ms) (i : Nat) (h : Q (lexD D ns ms) s) : PySem.W.KatLex prog w A b D Q (xs.zip ys) i s := by
  induction hx generalizing ys ms i with
  | nil =>
    have e : lexD D [] ms = D := by cases ms <;> rfl
    rw [e] at h
    exact PySem.W.kat_nil h
  | @cons p t xs ns hx ih =>
    cases hy with
    | nil => exact PySem.W.kat_nil h
    | @cons q u ys ms hy =>
      show PySem.W.KatLex prog w A b D Q ((Value.int p t, Value.int q u) :: xs.zip ys) i s
      refine PySem.W.kat_cons (wpAny_eqBool_int ?_)
      by_cases e : p = q
      · subst e
        rw [beq_self_eq_true]
        have d : lexD D (p :: ns) (p :: ms) = lexD D ns ms := by rw [lexD, if_pos rfl]
        rw [d] at h
        exact PySem.W.kat_yes (ih hy (i + 1) h)
      · rw [show (p == q) = false from beq_eq_false_iff_ne.mpr e]
        refine PySem.W.kat_no (TS.oneLt_ints _ ?_)
        have d : lexD D (p :: ns) (q :: ms) = decide (p < q) := by rw [lexD, if_neg e]
        rw [d] at h
        exact h
theorem ti_cmp {vs : List Value} {k : Value → List Int} (hp : ∀ v ∈ vs, TS.TupInts s.heap v (k v)) : Cmp prog w A s (tuples' true) (fun p => p.1 ∈ vs) (lt2 fun v u => HT.lexLt (k v) (k u)) := by
  intro p q hm hm'
  show wpAny (model prog w) A (keyLt' (tuples' true) p.1 q.1) (fun r s' => s' = s ∧ r = HT.lexLt (k p.1) (k q.1)) (fun _ _ => False) s
  obtain ⟨a, xs, e1, ⟨o, ho, hc, n, hdt⟩, i⟩ := hp _ hm
  obtain ⟨a', ys, e2, ⟨o', ho', hc', n', hdt'⟩, i'⟩ := hp _ hm'
  generalize k p.1 = ns at i ⊢
  generalize k q.1 = ms at i' ⊢
  rw [e1, e2]
  refine PySem.W.kat_lt ho hdt ho' hdt' ?_
  have sz : decide (xs.size < ys.size) = decide (ns.length < ms.length) := by
    have l1 := i.length
    have l2 := i'.length
    rw [Array.length_toList] at l1 l2
    rw [l1, l2]
  rw [sz]
  exact lexD_ints i i' 0 ⟨rfl, (lexD_eq ns ms).symm⟩
theorem ti_firsts {h : Heap} {k : Value → List Int} : ∀ vs : List Value, (∀ v ∈ vs, TS.TupInts h v (k v) ∧ k v ≠ []) → ∃ fs, PySem.W.KatTups h vs fs ∧ fs.length = vs.length ∧ ∀ f, f ∈ fs → ∃ n t, f = Value.int n t
  | [], _ => ⟨[], PySem.W.KatTups.nil, rfl, fun f hf => by simp at hf⟩
  | v :: vs, x => by
    obtain ⟨fs, kt, hl, hi⟩ := ti_firsts vs fun u hu => x u (List.mem_cons_of_mem _ hu)
    obtain ⟨⟨a, xs, rfl, ⟨o, ho, hc, n, hdt⟩, i⟩, hn⟩ := x v (List.mem_cons_self ..)
    obtain ⟨y, ys, e⟩ : ∃ y ys, xs.toList = y :: ys := by
      cases q : xs.toList with
      | nil =>
        rw [q] at i
        have l := i.length
        rw [List.length_nil] at l
        exact absurd (List.length_eq_zero_iff.mp l.symm) hn
      | cons y ys => exact ⟨y, ys, rfl⟩
    obtain ⟨m, t, hy⟩ := i.all y (by rw [e]; exact List.mem_cons_self ..)
    refine ⟨y :: fs, PySem.W.KatTups.cons ho hc hdt ?_ kt, by simp [hl], ?_⟩
    · have z := congrArg (fun l : List Value => l[0]?) e
      simpa using z
    · intro f hf
      rcases List.mem_cons.mp hf with rfl | hf
      · exact ⟨m, t, hy⟩
      · exact hi f hf
theorem ti_sortable {a : Addr} {vs : List Value} {k : Value → List Int} (h0 : 0 < vs.length) (hp : ∀ v ∈ vs, TS.TupInts s.heap v (k v) ∧ k v ≠ []) (ha : ∀ o, s.heap.get? a = some o → o.cls ≠ .type "tuple") : SortableO prog w A s a vs fun v u => HT.lexLt (k v) (k u) := by
  intro h' keep
  have hp' : ∀ v ∈ vs, TS.TupInts h' v (k v) ∧ k v ≠ [] := fun v hm => ⟨(hp v hm).1.keeps fun b o e c => keep b o (fun z => by subst z; exact ha o e c) e, (hp v hm).2⟩
  obtain ⟨fs, h1, h2, h3⟩ := ti_firsts vs hp'
  refine ⟨tuples' true, fun Q E hq => ?_, ti_cmp fun v hm => (hp' v hm).1⟩
  refine PySem.W.kat_kind (T := .type "int") h1 (by omega) (fun f hm => ?_) (by rfl) ?_
  · obtain ⟨x, t, rfl⟩ := h3 f hm
    exact PySem.W.Looks.now
  · have e : (Value.type "int" != Value.type "tuple") = true := by first | decide +kernel | rfl | decide
    rw [e]
    exact hq
end
end SrtO
namespace Z
open PySem PySem.Spec L2
open PyProof.Rows hiding St
/-- sorted(xs), xs tuples of ints, none empty -/
def rSortedTI (K : PySem.W.Frag) : List V → Hp → VK → Prop := fun vs H Q => ∃ (a : Addr) (xs : List V) (dss : List (List Int)), vs = [V.ref a] ∧ SqL K H a xs ∧ TIs H xs dss ∧ (∀ d ∈ dss, d ≠ []) ∧
  ∀ ys ess p, TIs H ys ess → ys.Perm xs → ess.Perm dss → ess.Pairwise (fun d e => HT.lexLt e d = false) → H p = none → Q (.ref p) (upd H p (.lst ys))
theorem pair_map {α β : Type} {R : α → β → Prop} (f : α → β) : ∀ {xs : List α} {ds : List β}, Paired R xs ds → (∀ x d, x ∈ xs → R x d → f x = d) → ds = xs.map f
  | _, _, .nil, _ => rfl
  | _, _, .cons a r, hf => by rw [List.map_cons, hf _ _ (List.mem_cons_self ..) a, ← pair_map f r fun x d hx r => hf x d (List.mem_cons_of_mem _ hx) r]
theorem pair_all {α β γ : Type} {R : γ → β → Prop} (g : α → γ) (f : α → β) : ∀ {ys : List α}, (∀ y ∈ ys, R (g y) (f y)) → Paired R (ys.map g) (ys.map f)
  | [], _ => .nil
  | y :: ys, h => .cons (h y (List.mem_cons_self ..)) (pair_all g f fun z hz => h z (List.mem_cons_of_mem _ hz))
theorem pair_back {α β γ : Type} {R : γ → β → Prop} (g : α → γ) : ∀ {xs : List α} {ds : List β}, Paired R (xs.map g) ds → Paired (fun v d => R (g v) d) xs ds
  | [], _, .nil => .nil
  | _ :: _, _, .cons a r => .cons a (pair_back g r)
section
variable {X : Cx}
theorem cr_sortedTI : CallR X (.builtin "sorted") (rSortedTI X.K) := by
  intro pins s σ H vs us Q I r h
  obtain ⟨a, xs, dss, rfl, hs, ht, hn, q⟩ := h
  obtain ⟨its, rv, hl, hz⟩ := I.list hs
  obtain ⟨u, rfl, ru⟩ := vals1 r
  obtain rfl : u = Value.ref a := ru
  obtain ⟨e1, e2⟩ := refs_back rv fun x m => by
    obtain ⟨j, hj, rfl⟩ := List.getElem_of_mem m
    obtain ⟨d, _, t, e, _⟩ := ht.get (List.getElem?_eq_getElem hj)
    exact ⟨t, e⟩
  have tup : ∀ v ∈ its, TS.TupInts s.heap v (TS.intsOf s.heap v) ∧ TS.intsOf s.heap v ≠ [] ∧ TI H (backV v) (TS.intsOf s.heap v) := fun v hv => by
    obtain ⟨t, rfl⟩ := e2 v hv
    have hm : V.ref t ∈ xs := by rw [e1]; exact List.mem_map.mpr ⟨_, hv, rfl⟩
    obtain ⟨j, hj, ej⟩ := List.getElem_of_mem hm
    obtain ⟨d, hd, t', e, et⟩ := ht.get (List.getElem?_eq_getElem hj)
    rw [ej] at e
    cases e
    obtain ⟨_, its2, r2, o, ho, hc, n, hdt⟩ := I.hok _ _ et
    have ti : TS.TupInts s.heap (.ref t) d := ⟨t, its2.toArray, rfl, ⟨o, ho, hc, n, hdt⟩, r2.ints⟩
    rw [ti.ints]
    exact ⟨ti, hn d (List.mem_of_getElem? hd), t, rfl, et⟩
  have hzs : its.length ≤ sizeLine := by rw [← rv.length]; exact hz
  refine SrtO.sorted_ord (NtL.swo_lexL (TS.intsOf s.heap)) hl.isList hzs (fun h2 h₁ a' ha kk => ?_) fun out h1 h2 => ?_
  · refine SrtO.ti_sortable (s := { s with heap := h₁ }) (by omega) (fun v hv => ⟨(tup v hv).1.keeps fun b o e _ => (kk b o e).2, (tup v hv).2.1⟩) fun o e => ?_
    have e' : some o = some (seqObj "list" its.toArray 0) := e.symm.trans ha
    cases e'
    intro c
    exact absurd (Value.type.inj c) (by decide)
  · obtain ⟨ep, he'⟩ := PyProof.Rows.sortedAll_at s.heap its out.toArray
    have hp := h2.perm
    have h3 : ∀ u ∈ out, ∃ a, u = Value.ref a := fun u hu => e2 u (hp.mem_iff.mp hu)
    have e0 : dss = its.map (TS.intsOf s.heap) := by
      have hf : ∀ x d, x ∈ its → TI H (backV x) d → TS.intsOf s.heap x = d := fun x d hx r => by
        obtain ⟨t, et, e⟩ := r
        obtain ⟨t', et', e'⟩ := (tup x hx).2.2
        rw [et] at et'
        cases et'
        rw [e] at e'
        have := Option.some.inj e'
        injection this with this
        exact ((List.map_inj_right fun a b h => by cases h; rfl).mp this).symm
      rw [e1] at ht
      exact pair_map _ (pair_back backV ht) hf
    have hlen : (out.map backV).length ≤ sizeLine := by
      rw [List.length_map, hp.length_eq]
      exact hzs
    refine ⟨.ref _, upd H (s.heap.objs.size + 1) (.lst (out.map backV)), I.laid (t' := s.toks) (fun _ _ => PyProof.Rows.sortedAll_old) (Nat.le_succ _) ⟨hlen, out, ep, vals_back h3, he'⟩, rfl, q _ (out.map (TS.intsOf s.heap)) _ (pair_all _ _ fun v hv => (tup v (hp.mem_iff.mp hv)).2.2) (by rw [e1]; exact hp.map backV) ?_ ?_ (I.hok.fresh (Nat.le_succ _))⟩
    · rw [e0]
      exact hp.map _
    · exact List.pairwise_map.mpr (h1.imp fun {x y} z => z)
/-! ### two sorted lists of the same tuples are the same -/
theorem lex_tot : ∀ {a b : List Int}, HT.lexLt a b = false → HT.lexLt b a = false → a = b
  | [], [], _, _ => rfl
  | [], _ :: _, h, _ => by cases h
  | _ :: _, [], _, h => by cases h
  | x :: r, y :: t, h1, h2 => by
    rw [HT.lexLt_cons] at h1 h2
    by_cases e : x = y
    · subst e
      rw [if_pos rfl] at h1 h2
      rw [lex_tot h1 h2]
    · rw [if_neg e, decide_eq_false_iff_not] at h1
      rw [if_neg (fun z => e z.symm), decide_eq_false_iff_not] at h2
      omega
theorem sorted_one {a b : List (List Int)} (ha : a.Pairwise fun d e => HT.lexLt e d = false) (hb : b.Pairwise fun d e => HT.lexLt e d = false) (p : a.Perm b) : a = b := p.eq_of_pairwise (fun _ _ _ _ h1 h2 => lex_tot h2 h1) ha hb
theorem o_sortTI {a : Addr} {xs : List V} {dss : List (List Int)} {K : PySem.W.Frag} {H : Hp} {Q : VK} (hs : SqL K H a xs) (ht : TIs H xs dss) (hn : ∀ d ∈ dss, d ≠ []) (h : ∀ ys ess p, TIs H ys ess → ys.Perm xs → ess.Perm dss → ess.Pairwise (fun d e => HT.lexLt e d = false) → H p = none → Q (.ref p) (upd H p (.lst ys))) : rSortedTI K [.ref a] H Q := ⟨a, xs, dss, rfl, hs, ht, hn, h⟩
end
end Z

/-! Zc: own classes: fields, stores, methods, making, len of an object with its own __len__; powers of wide numbers. -/
namespace Z
open PySem PySem.Spec L2
open PyProof.Rows hiding St
section
variable {K : PySem.W.Frag} {σ : L2.St} {H : Hp} {Q : VK} {D : Ends} {ta tv : TE} {t : TA} {f m : Str} {C a dx : Addr} {fs : List (Str × V)} {v y : V} {sp : Sp} {dvs : List V} {E : XK}
/-! ### fields -/
def RFld (K : PySem.W.Frag) (f : Str) (x : V) (H : Hp) (Q : VK) : Prop := ∃ a C dx fs v, x = .ref a ∧ H a = some (.ins C dx fs) ∧ Cls K C ∧ NoAttr K C f ∧ fs.lookup f = some v ∧ Q v H
theorem e_fld (h : ta σ H fun x H1 => RFld K f x H1 Q) : tFld K ta f σ H Q := h
theorem o_fld (e : H a = some (.ins C dx fs)) (c : Cls K C) (n : NoAttr K C f) (l : fs.lookup f = some v) (h : Q v H) : RFld K f (.ref a) H Q := ⟨a, C, dx, fs, v, rfl, e, c, n, l, h⟩
def RSet (K : PySem.W.Frag) (f : Str) (y x : V) (H : Hp) (QH : Hp → Prop) : Prop := ∃ a C dx fs, x = .ref a ∧ H a = some (.ins C dx fs) ∧ Cls K C ∧ NoAttr K C f ∧ fs.length < 1000 ∧ QH (upd H a (.ins C dx (putF f y fs)))
theorem s_fld (h : tv σ H fun y H1 => ta σ H1 fun x H2 => RSet K f y x H2 (D.nx σ)) : sFld K ta tv f D σ H := h
theorem o_fset {QH : Hp → Prop} {gs : List (Str × V)} (e : H a = some (.ins C dx fs)) (c : Cls K C) (n : NoAttr K C f) (l : fs.length < 1000) (g : putF f y fs = gs) (h : QH (upd H a (.ins C dx gs))) : RSet K f y (.ref a) H QH :=
  ⟨a, C, dx, fs, rfl, e, c, n, l, by rw [g]; exact h⟩
theorem lk_here {k : Str} {v : V} {r : List (Str × V)} : List.lookup k ((k, v) :: r) = some v := by
  have e : (k == k) = true := beq_self_eq_true k
  simp only [List.lookup, e]
theorem lk_past {k g : Str} {v : V} {r : List (Str × V)} {o : Option V} (h : (k == g) = false) (t : List.lookup k r = o) : List.lookup k ((g, v) :: r) = o := by
  simp only [List.lookup, h]
  exact t
theorem lk_nil {k : Str} : List.lookup k ([] : List (Str × V)) = none := rfl
theorem put_here {f : Str} {v x : V} {r : List (Str × V)} : putF f v ((f, x) :: r) = (f, v) :: r := if_pos rfl
theorem put_past {f g : Str} {v x : V} {r s : List (Str × V)} (h : ¬ g = f) (t : putF f v r = s) : putF f v ((g, x) :: r) = (g, x) :: s := (if_neg h).trans (congrArg _ t)
theorem put_nil {f : Str} {v : V} : putF f v [] = [(f, v)] := rfl
/-! ### methods, making -/
def RMe (C : Addr) (m : Str) (x : V) (H : Hp) (P : Prop) : Prop := ∃ a dx fs, x = .ref a ∧ H a = some (.ins C dx fs) ∧ fs.lookup m = none ∧ P
theorem e_meth (h : ta σ H fun x H1 => RMe C m x H1 (t σ H1 fun vs H2 => sp (x :: (vs ++ dvs)) H2 Q E)) : tMeth C m sp dvs E ta t σ H Q := by
  revert h
  have : (fun x H1 => RMe C m x H1 (t σ H1 fun vs H2 => sp (x :: (vs ++ dvs)) H2 Q E)) = fun x H1 => ∃ a dx fs, x = .ref a ∧ H1 a = some (.ins C dx fs) ∧ fs.lookup m = none ∧ t σ H1 fun vs H2 => sp (x :: (vs ++ dvs)) H2 Q E := rfl
  rw [this]
  exact fun h => h
theorem o_me {P : Prop} (e : H a = some (.ins C dx fs)) (l : fs.lookup m = none) (h : P) : RMe C m (.ref a) H P := ⟨a, dx, fs, rfl, e, l, h⟩
def RMk (C : Addr) (sp : Sp) (vs : List V) (E : XK) (H : Hp) (Q : VK) : Prop := ∀ x dx, H x = none → H dx = none → dx ≠ x → sp (.ref x :: vs) (upd (upd H dx (.own x)) x (.ins C dx [])) (fun v H2 => v = .non ∧ Q (.ref x) H2) E
theorem e_make (h : t σ H fun vs H1 => RMk C sp (vs ++ dvs) E H1 Q) : tMake C sp dvs E t σ H Q := h
/-- what stands behind a new instance -/
theorem made_same {x : Addr} (nx : H x = none) (nd : H dx = none) {o p : HO} : Same H (upd (upd H dx o) x p) := fun b u e => by
  rw [upd_ne (ne_of_none e nx), upd_ne (ne_of_none e nd)]
  exact e
/-! ### len of an own object -/
def rLenO (C : Addr) (sp : Sp) : List V → Hp → VK → Prop := fun xs H Q => ∃ a dx fs, xs = [V.ref a] ∧ H a = some (.ins C dx fs) ∧ sp [V.ref a] H (fun v H2 => ∃ n : Nat, v = .int n ∧ (n : Int) < 2 ^ 62 ∧ Q (.int n) H2) E0
theorem o_lenO (e : H a = some (.ins C dx fs)) (h : sp [V.ref a] H (fun v H2 => ∃ n : Nat, v = .int n ∧ (n : Int) < 2 ^ 62 ∧ Q (.int n) H2) E0) : rLenO C sp [.ref a] H Q := ⟨a, dx, fs, rfl, e, h⟩
end
theorem cr_lenO {X : Cx} {k : Nat} {f C : Addr} {fd : FuncData} {sp : Sp} (F : FnOk X.prog X.w X.K X.mg X.base CX0 k f fd ["self"] sp) (hr : Room (k + 1) X.A) (hb : Binds X.K fd ["self"] []) (hm : Meth X.K C "__len__" f) : CallR X (.builtin "len") (rLenO C sp) := by
  intro pins s σ H xs us Q I r h
  obtain ⟨a, dx, fs, rfl, ea, q⟩ := h
  obtain ⟨u, rfl, ru⟩ := vals1 r
  obtain rfl : u = Value.ref a := ru
  obtain ⟨mA, O, _⟩ := ins_get I.hok ea
  obtain ⟨od, J, _⟩ := O.look
  obtain ⟨m, Fm⟩ := I.fr
  refine PySem.W.len_K Fm I.ok.mod.kin J hm.at_ hm.fn ?_
  have rv : Vals [V.ref a] [Value.ref a] := .cons rfl .nil
  refine wpAny_call (codeAny_mono (F.run X.A.in1 X.stack s H ⟨[.ref a], []⟩ [.ref a] [.ref a] _ E0 hr.in1 I.env0.in1 (hb s [.ref a] I.kIn rfl) rv q) fun r s' hq => ?_)
  cases r with
  | error e => exact hq.elim
  | ok fl =>
    cases fl with
    | ret u =>
      obtain ⟨v, H2, I2, rv, n, rfl, hn, q2⟩ := I.after hq
      obtain ⟨t, rfl⟩ := rv
      exact ⟨⟨by omega, by omega⟩, .int n, H2, I2.tok _, ⟨_, rfl⟩, q2⟩
    | next => exact False.elim hq
    | brk => exact False.elim hq
    | cont => exact False.elim hq
/-! ### x.f, *rest = a tuple -/
def gFld (K : PySem.W.Frag) (f : Str) (to : TE) : TG := fun v σ H Q => to σ H fun x H1 => RSet K f v x H1 (Q σ)
theorem g_fld {K : PySem.W.Frag} {σ : L2.St} {H : Hp} {Q : L2.St → Hp → Prop} {f : Str} {to : TE} {v : V} (h : to σ H fun x H1 => RSet K f v x H1 (Q σ)) : gFld K f to v σ H Q := h
theorem pg_fld {X : Cx} {o : Expr} {f : Str} {pos : Pos} {to : TE} (ho : PE X o to) : PG X (.Attribute o f pos) (gFld X.K f to) := by
  refine ⟨fun pins s σ H v u Q I r h => ?_⟩
  rw [arm_assign_Attribute]
  refine wpAny_bind (wpAny_holding (thn (ho.run pins s σ H _ I h) fun ov s1 ⟨x, H1, I1, rx, a, C, dx, fs, ex, ea, c, n, l, q⟩ => ?_))
  subst ex
  obtain rfl : ov = Value.ref a := rx
  refine wpAny_bind (wpAny_standAt (wpAny_bind (wpAny_holding (setattr_ok I1 ea c n l r fun s3 I3 => wpAny_release ⟨σ, _, I3, q⟩))))
theorem Walks.tail {prog : Program} {w : World} {A : Around} {I : Addr} {fp wr : List Addr} {n : Nat} {P : Nat → Value → Prop} {St : Nat → Heap → Prop} (W : Walks prog w A I fp wr (n + 1) P St) : Walks prog w A I fp wr n (fun i => P (i + 1)) (fun i => St (i + 1)) where
  sub := W.sub
  frame := fun i h h' => W.frame (i + 1) h h'
  item := fun i s Q E hi st hQ => W.item (i + 1) s Q E (by omega) st hQ
  done := fun s Q E st hQ => W.done s Q E st hQ
  self := fun i s Q E st hQ => W.self (i + 1) s Q E st hQ
theorem unpackStar {prog : Program} {w : World} {A : Around} {E : Value → Shared → Prop} {s : Shared} {t : Addr} {x : Value} {xs : List Value} {Q : List Value → Shared → Prop} (hh : A.handled = none) (ht : s.heap.IsTuple t (x :: xs).toArray) (hz : xs.length ≤ sizeLine)
    (hQ : ∀ (h' : Heap) tk, (∀ b o, s.heap.get? b = some o → h'.get? b = some o) → Q [x, .ref h'.objs.size] { s with heap := h'.push { cls := .type "list", data := .seq xs.toArray }, toks := tk }) : wpAny (model prog w) A (unpackItems (.ref t) 2 (some 1)) Q E s := by
  have hlt : t < s.heap.objs.size := by
    obtain ⟨o, ho, _⟩ := ht
    exact Heap.lt_size ho
  unfold unpackItems
  refine wpAny_bind ?_
  unfold notIterableAtAll
  refine wpAny_bind (wpAny_specialOf ht.typeIs F.slot_tuple_iter.lookup ?_)
  refine wpAny_pure ?_
  simp only [Bool.false_eq_true, if_false]
  refine wpAny_bind (wpAny_holding (wpAny_pyIter_tuple ht ?_))
  have hne : t ≠ s.heap.objs.size := Nat.ne_of_lt hlt
  refine wpAny_bind (wpAny_holding (wpAny_draw_tuple hne 1 0 _ _ ⟨_, Heap.get?_push_size _ rfl, rfl, rfl⟩ (ht.push _) (by simp) fun h₁ hit₁ hs₁ => ?_))
  have ht₁ : h₁.IsTuple t (x :: xs).toArray := (ht.push _).extBut hs₁.extBut hne
  rw [if_neg (by simp)]
  have W : Walks prog w A.in1 s.heap.objs.size [s.heap.objs.size, t] [s.heap.objs.size] (xs.length + 1) (fun i v => (x :: xs).toArray[i]? = some v) (fun i h => h.IsTupleIter s.heap.objs.size t i ∧ h.IsTuple t (x :: xs).toArray) :=
    Walks.tuple (A := A.in1) hh s.heap.objs.size t hne (x :: xs).toArray
  have keep₁ : ∀ b o, s.heap.get? b = some o → h₁.get? b = some o := fun b o e => hs₁.extBut b o (Nat.ne_of_lt (Heap.lt_size e)) (Heap.get?_push_of_some _ e)
  have sz₁ : s.heap.objs.size < h₁.objs.size := by
    obtain ⟨o, ho, _⟩ := hit₁
    exact Heap.lt_size ho
  refine wpAny_bind (wpAny_holding (wpAny_collect_iter (T := "tuple_iterator") (.inr (.inr (.inr rfl))) (Walks.tail W).toS (fun i s' st => st.1.typeIs) ⟨hit₁, ht₁⟩ (fun b hb => ?_) (by simp) (fun s' acc mv it => ?_) hz))
  · rcases List.mem_cons.mp hb with rfl | hb
    · exact sz₁
    · rw [List.mem_singleton.mp hb]
      exact Nat.lt_trans hlt sz₁
  · have el : acc.toList = xs := by
      refine List.ext_getElem? fun j => ?_
      have sz := it.1
      rcases Nat.lt_or_ge j xs.length with h | h
      · obtain ⟨v, hv⟩ : ∃ v, acc[j]? = some v := ⟨_, Array.getElem?_eq_getElem (by omega)⟩
        have := it.2 j v hv
        rw [Array.getElem?_toList, hv, ← this]
        simp
      · rw [List.getElem?_eq_none h, List.getElem?_eq_none (by simpa [sz] using h)]
    rw [el]
    have es : s' = { s with heap := s'.heap, toks := s'.toks } := by
      obtain ⟨h9, g9, d9, t9, o9⟩ := s'
      obtain rfl : g9 = s.gens := mv.gens
      obtain rfl : d9 = s.drawn := mv.drawn
      obtain rfl : o9 = s.os := mv.os
      rfl
    have keep₂ : ∀ b o, s.heap.get? b = some o → s'.heap.get? b = some o := fun b o e => mv.heap b o (by
      rw [List.mem_singleton]
      exact Nat.ne_of_lt (Heap.lt_size e)) (keep₁ b o e)
    have tk : List.take (xs.length - (2 - 1 - 1)) xs = xs := List.take_of_length_le (by omega)
    have dr : List.drop (xs.length - (2 - 1 - 1)) xs = [] := List.drop_of_length_le (by omega)
    rw [if_neg (by omega)]
    rw [tk, dr]
    refine wpAny_bind (wpAny_newList (wpAny_pure ?_) hz)
    show Q [x, .ref s'.heap.objs.size] _
    rw [es]
    exact hQ s'.heap s'.toks keep₂
/-- t of the first one and of a new list of the others -/
def gStar (K : PySem.W.Frag) (t : TGs) : TG := fun v σ H Q => ∃ a x xs, v = .ref a ∧ SqT K H a (x :: xs) ∧ ∀ q, H q = none → t [x, .ref q] σ (upd H q (.lst xs)) Q
theorem pg_star {X : Cx} {e0 e1 : Expr} {p : Pos} {k : Nat} {pos : Pos} {t : TGs} (hc : X.calm = true) (h : PGs X [e0, e1] t)
    (hs : assignEach [e0, .Starred e1 p] X.env = [(false, assign e0 X.env), (true, assign e1 X.env)] := by rfl) (hs' : (assignEach [e0, e1] X.env).map (·.2) = [assign e0 X.env, assign e1 X.env] := by rfl) : PG X (.Tuple [e0, .Starred e1 p] k pos) (gStar X.K t) := by
  refine ⟨fun pins s σ H v u Q I r hw => ?_⟩
  obtain ⟨a, x, xs, rfl, hq, hw⟩ := hw
  obtain rfl : u = Value.ref a := r
  obtain ⟨its, rv, ht, hz⟩ := I.tuple hq
  cases rv with
  | @cons _ y _ ys r1 r2 =>
    rw [arm_assign_Tuple]
    refine wpAny_bind (wpAny_standAt ?_)
    rw [hs]
    unfold unpack
    have hys : ys.length ≤ sizeLine := by
      have := r2.length
      rw [List.length_cons] at hz
      omega
    refine wpAny_bind (wpAny_holding (unpackStar (I.ok.hd hc) ht hys fun h' tk keep => ?_))
    have I0 : Inv X pins σ H { s with heap := h', toks := tk } := I.kept keep
    have nq := I0.hok.fresh (Nat.le_refl _)
    have I1 : Inv X pins σ (upd H h'.objs.size (.lst xs)) { s with heap := h'.push { cls := .type "list", data := .seq ys.toArray }, toks := tk } :=
      I0.laid (fun b o e => Heap.get?_push_of_some _ e) (Nat.le_refl _) ⟨by rw [List.length_cons] at hz; omega, ys, 0, r2, Heap.get?_push_size _ rfl⟩
    have := h.run pins _ σ _ [x, .ref h'.objs.size] [y, .ref h'.objs.size] Q I1 (.cons r1 (.cons rfl .nil)) (hw _ nq)
    rw [hs'] at this
    exact this
theorem g_star {K : PySem.W.Frag} {σ : L2.St} {H : Hp} {Q : L2.St → Hp → Prop} {t : TGs} {a : Addr} {x : V} {xs : List V} (hq : SqT K H a (x :: xs)) (h : ∀ q, H q = none → t [x, .ref q] σ (upd H q (.lst xs)) Q) : gStar K t (.ref a) σ H Q := ⟨a, x, xs, rfl, hq, h⟩
theorem s_asgStar {K : PySem.W.Frag} {σ : L2.St} {H : Hp} {t : TGs} {D : Ends} {te : TE} (h : te σ H fun v H1 => gStar K t v σ H1 D.nx) : tAsg te (gStar K t) D σ H := h
end Z

/-! Zu: sorted of a tuple of tuples of ints; powers of wide numbers; the law's script with its bits. -/
namespace SrtO
open PySem PyProof.Rows Srt
section
variable {prog : Program} {w : World} {A : Around} {E : Value → Shared → Prop} {s : Shared}
theorem sorted_ordT {l : Addr} {vs : List Value} {ltv : Value → Value → Bool} {Q : Value → Shared → Prop} (O : Swo ltv) (hl : IsTup s.heap l vs.toArray) (hz : vs.length ≤ sizeLine)
    (hS : 2 ≤ vs.length → ∀ (h₁ : Heap) (a : Addr), h₁.get? a = some (seqObj "list" vs.toArray 0) → (∀ b o, s.heap.get? b = some o → b ≠ a ∧ h₁.get? b = some o) → SortableO prog w A.in1.in1 { s with heap := h₁ } a vs ltv)
    (h : ∀ (out : List Value) (h₁ : Heap), Srtd ltv out → Stb ltv out vs → (∀ b o, s.heap.get? b = some o → h₁.get? b = some o) → Q (.ref h₁.objs.size) { s with heap := sortedHeap (h₁.push (seqObj "list" vs.toArray 0)) h₁.objs.size vs out.toArray }) :
    wpAny (model prog w) A (call (.builtin "sorted") [.ref l]) Q E s := by
  obtain ⟨o, ho, hc, n, hd⟩ := hl
  refine Calls.call_function_entry kind_sorted plain_sorted entry_sorted (args_sorted1 _) ?_
  unfold Builtin.«sorted»
  refine wpAny_bind (m := checkCount "sorted" 1 1 _) (wpAny_pure ?_)
  refine wpAny_bind (wpAny_collect_seq l (.inr rfl) ho hc hd (fun h₁ k₁ => ?_) (by simpa using hz))
  refine wpAny_bind (wpAny_newList ?_ (by simpa using hz))
  have hoL : (h₁.push (seqObj "list" vs.toArray 0)).get? h₁.objs.size = some (seqObj "list" vs.toArray 0) := Heap.get?_push_size _ rfl
  have keep : ∀ b o, s.heap.get? b = some o → b ≠ h₁.objs.size ∧ (h₁.push (seqObj "list" vs.toArray 0)).get? b = some o := fun b o q =>
    ⟨Nat.ne_of_lt (Heap.lt_size (k₁ b o q)), Heap.get?_push_of_some _ (k₁ b o q)⟩
  show wpAny _ _ _ _ _ { s with heap := h₁.push (seqObj "list" vs.toArray 0) }
  refine wpAny_bind (wpAny_holding (wpAny_call_entry slot_list_sort ⟨_, hoL, rfl⟩ entry_list_sort (list_sort_ord O hoL hz (fun h2 => hS h2 _ _ hoL keep) fun out hs hb => ⟨_, rfl, ?_⟩) (args_list_sort _)))
  exact wpAny_pure ⟨_, rfl, h out h₁ hs hb k₁⟩
end
end SrtO
namespace Z
open PySem PySem.Spec L2
open PyProof.Rows hiding St
/-- sorted(t), t a tuple of tuples of ints, none empty -/
def rSortedTT (K : PySem.W.Frag) : List V → Hp → VK → Prop := fun vs H Q => ∃ (a : Addr) (xs : List V) (dss : List (List Int)), vs = [V.ref a] ∧ SqT K H a xs ∧ TIs H xs dss ∧ (∀ d ∈ dss, d ≠ []) ∧
  ∀ ys ess p, TIs H ys ess → ys.Perm xs → ess.Perm dss → ess.Pairwise (fun d e => HT.lexLt e d = false) → H p = none → Q (.ref p) (upd H p (.lst ys))
section
variable {X : Cx}
theorem cr_sortedTT : CallR X (.builtin "sorted") (rSortedTT X.K) := by
  intro pins s σ H vs us Q I r h
  obtain ⟨a, xs, dss, rfl, hs, ht, hn, q⟩ := h
  obtain ⟨its, rv, hl, hz⟩ := I.tuple hs
  obtain ⟨u, rfl, ru⟩ := vals1 r
  obtain rfl : u = Value.ref a := ru
  obtain ⟨e1, e2⟩ := refs_back rv fun x m => by
    obtain ⟨j, hj, rfl⟩ := List.getElem_of_mem m
    obtain ⟨d, _, t, e, _⟩ := ht.get (List.getElem?_eq_getElem hj)
    exact ⟨t, e⟩
  have tup : ∀ v ∈ its, TS.TupInts s.heap v (TS.intsOf s.heap v) ∧ TS.intsOf s.heap v ≠ [] ∧ TI H (backV v) (TS.intsOf s.heap v) := fun v hv => by
    obtain ⟨t, rfl⟩ := e2 v hv
    have hm : V.ref t ∈ xs := by rw [e1]; exact List.mem_map.mpr ⟨_, hv, rfl⟩
    obtain ⟨j, hj, ej⟩ := List.getElem_of_mem hm
    obtain ⟨d, hd, t', e, et⟩ := ht.get (List.getElem?_eq_getElem hj)
    rw [ej] at e
    cases e
    obtain ⟨_, its2, r2, o, ho, hc, n, hdt⟩ := I.hok _ _ et
    have ti : TS.TupInts s.heap (.ref t) d := ⟨t, its2.toArray, rfl, ⟨o, ho, hc, n, hdt⟩, r2.ints⟩
    rw [ti.ints]
    exact ⟨ti, hn d (List.mem_of_getElem? hd), t, rfl, et⟩
  have hzs : its.length ≤ sizeLine := by rw [← rv.length]; exact hz
  refine SrtO.sorted_ordT (NtL.swo_lexL (TS.intsOf s.heap)) hl hzs (fun h2 h₁ a' ha kk => ?_) fun out h₁ h1 h2 k₁ => ?_
  · refine SrtO.ti_sortable (s := { s with heap := h₁ }) (by omega) (fun v hv => ⟨(tup v hv).1.keeps fun b o e _ => (kk b o e).2, (tup v hv).2.1⟩) fun o e => ?_
    have e' : some o = some (seqObj "list" its.toArray 0) := e.symm.trans ha
    cases e'
    intro c
    exact absurd (Value.type.inj c) (by decide)
  · have hp := h2.perm
    have h3 : ∀ u ∈ out, ∃ a, u = Value.ref a := fun u hu => e2 u (hp.mem_iff.mp hu)
    have e0 : dss = its.map (TS.intsOf s.heap) := by
      have hf : ∀ x d, x ∈ its → TI H (backV x) d → TS.intsOf s.heap x = d := fun x d hx r => by
        obtain ⟨t, et, e⟩ := r
        obtain ⟨t', et', e'⟩ := (tup x hx).2.2
        rw [et] at et'
        cases et'
        rw [e] at e'
        have := Option.some.inj e'
        injection this with this
        exact ((List.map_inj_right fun a b h => by cases h; rfl).mp this).symm
      rw [e1] at ht
      exact pair_map _ (pair_back backV ht) hf
    have hlen : (out.map backV).length ≤ sizeLine := by
      rw [List.length_map, hp.length_eq]
      exact hzs
    have I1 : Inv X pins σ H { s with heap := h₁ } := I.kept (t' := s.toks) k₁
    have hoL : (h₁.push (seqObj "list" its.toArray 0)).get? h₁.objs.size = some (seqObj "list" its.toArray 0) := Heap.get?_push_size _ rfl
    obtain ⟨ep, he'⟩ := PyProof.Rows.sortedHeap_at (h := h₁.push (seqObj "list" its.toArray 0)) (a := h₁.objs.size) (vs := its) (n := 0) (out := out.toArray) hoL
    have k2 : ∀ b o, h₁.get? b = some o → (sortedHeap (h₁.push (seqObj "list" its.toArray 0)) h₁.objs.size its out.toArray).get? b = some o := fun b o e => by
      have lt := Heap.lt_size e
      rw [PyProof.Rows.sortedHeap_old (Nat.ne_of_lt lt) (by rw [size_push']; exact Nat.lt_succ_of_lt lt)]
      exact Heap.get?_push_of_some _ e
    refine ⟨.ref _, upd H h₁.objs.size (.lst (out.map backV)), I1.laid (t' := s.toks) k2 (Nat.le_refl _) ⟨hlen, out, ep, vals_back h3, he'⟩, rfl, q _ (out.map (TS.intsOf s.heap)) _ (pair_all _ _ fun v hv => ((tup v (hp.mem_iff.mp hv)).2.2)) ?_ ?_ ?_ (I1.hok.fresh (Nat.le_refl _))⟩
    · rw [e1]
      exact hp.map _
    · rw [e0]
      exact hp.map _
    · exact List.pairwise_map.mpr (h1.imp fun {x y} z => z)
theorem o_sortTT {a : Addr} {xs : List V} {dss : List (List Int)} {K : PySem.W.Frag} {H : Hp} {Q : VK} (hs : SqT K H a xs) (ht : TIs H xs dss) (hn : ∀ d ∈ dss, d ≠ []) (h : ∀ ys ess p, TIs H ys ess → ys.Perm xs → ess.Perm dss → ess.Pairwise (fun d e => HT.lexLt e d = false) → H p = none → Q (.ref p) (upd H p (.lst ys))) : rSortedTT K [.ref a] H Q := ⟨a, xs, dss, rfl, hs, ht, hn, h⟩
/-! ### powers of wide numbers -/
def zPowW : R2 := rI (fun i j => 0 ≤ j ∧ (Builtin.Int.intBits i : Int) * j ≤ 2 ^ 27) fun i j => .int (i ^ j.toNat)
theorem op_powW : OpR X (binaryOp .Pow) zPowW := opI fun _ _ _ _ _ _ _ hc q => pow_int hc.1 hc.2 q
theorem o_powW {m n : Int} {H : Hp} {Q : VK} (h0 : 0 ≤ n) (hc : (Builtin.Int.intBits m : Int) * n ≤ 2 ^ 27) (h : Q (.int (m ^ n.toNat)) H) : zPowW (.int m) (.int n) H Q := ⟨m, n, rfl, rfl, ⟨h0, hc⟩, h⟩
end
/-! ### the law's own promise, with the bits of the script -/
def spLawB (K : PySem.W.Frag) : Sp := fun vs H Q _ => ∃ (a : Addr) (ns : List Int), vs = [.ref a] ∧ ns.length ≤ 63 ∧ (∀ z ∈ ns, Builtin.Int.intBits z ≤ 1048576) ∧ SqL K H a (ns.map V.int) ∧ ∀ H', Q (.bl true) H'
theorem spLawB_in {K : PySem.W.Frag} {H : Hp} {a : Addr} {ns : List Int} {E : XK} (hl : ns.length ≤ 63) (hb : ∀ z ∈ ns, Builtin.Int.intBits z ≤ 1048576) (hS : SqL K H a (ns.map V.int)) : spLawB K [.ref a] H (fun v _ => v = .bl true) E := ⟨a, ns, rfl, hl, hb, hS, fun _ => rfl⟩
end Z

open PySem PySem.Spec L2
open PyProof.Rows hiding St
local macro_rules | `(tactic| walk_at "ne") => `(tactic| first
  | with_reducible assumption
  | (refine Ne.symm ?_; with_reducible assumption)
  | exact Z.ne_fresh (by assumption) (by walk_at "at")
  | exact Z.fresh_ne (by assumption) (by walk_at "at"))
local macro_rules | `(tactic| walk_at "at") => `(tactic| first
  | with_reducible assumption
  | exact upd_same
  | exact Eq.trans (upd_ne (by walk_at "ne")) (by walk_at "at")
  | exact Z.Gr.hh (by assumption) _ _ (by first | (intro hh; exact hh) | walk_at "ne") (by walk_at "at")
  | (exact Z.Gr.fh (by assumption) _ _ (by assumption)))
local macro_rules | `(tactic| walk_at "same") => `(tactic| first
  | with_reducible assumption
  | with_reducible exact Same.refl _
  | exact Z.Gr.fh (by assumption)
  | exact Z.Gr.same (by assumption)
  | (refine Z.same_new ?_ (by assumption); walk_at "same")
  | (refine Z.same_mut ?_ (by assumption); walk_at "same"))
local macro_rules | `(tactic| walk_at "sqL") => `(tactic| first
  | with_reducible assumption
  | exact SqL.of (by walk_at "at")
  | ((refine Same.seq ?_ (by with_reducible assumption)); · walk_at "same"))
local macro_rules | `(tactic| walk_at "sqT") => `(tactic| first
  | with_reducible assumption
  | exact SqT.of (by walk_at "at")
  | ((refine Z.Same.seqT ?_ (by with_reducible assumption)); · walk_at "same"))
local macro_rules | `(tactic| walk_at "len") => `(tactic| first
  | assumption
  | omega
  | (simp only [List.length_append, List.length_cons, List.length_nil, List.length_map, List.length_set, List.length_replicate, List.length_range, sizeLine_eq]; omega)
  | (simp only [sizeLine_eq]; omega))
local macro_rules | `(tactic| walk_at "side") => `(tactic| first
  | rfl
  | assumption
  | omega
  | exact Or.inl ⟨by omega, by omega⟩
  | exact Or.inr ⟨by omega, by omega⟩
  | walk_at "len")
local macro_rules | `(tactic| walk_at "s1") => `(tactic| first
  | with_reducible apply Z.e_var rfl
  | with_reducible apply Z.e_c
  | with_reducible apply Z.e_op
  | with_reducible apply Z.s_seq
  | with_reducible apply Z.s_asgN
  | with_reducible apply Z.s_ifS
  | with_reducible apply Z.a_cons
  | with_reducible apply Z.a_nil
  | with_reducible apply Z.c_test
  | with_reducible apply Z.bl_if
  | with_reducible apply Z.o_eqI
  | with_reducible apply Z.o_neI
  | with_reducible apply Z.o_eqS
  | with_reducible apply Z.o_neS
  | with_reducible apply Z.o_neB
  | with_reducible apply Z.o_eqB
  | with_reducible apply Z.o_isT
  | with_reducible apply Z.s_aug rfl
  | with_reducible apply Z.o_ipOr
  | with_reducible apply Z.o_ipI
  | with_reducible apply Z.o_and1
  | with_reducible apply Z.o_and
  | with_reducible apply Z.o_or
  | with_reducible apply Z.o_shr
  | with_reducible apply Z.e_bits
  | with_reducible apply Z.bits_
  | with_reducible apply Z.e_lcE
  | with_reducible apply Z.e_tupRg2
  | with_reducible apply Z.e_tupRg1
  | with_reducible apply Z.e_lstRg2
  | with_reducible apply Z.e_lstRg1
  | with_reducible apply Z.o_lt
  | with_reducible apply Z.o_le
  | with_reducible apply Z.o_gt
  | with_reducible apply Z.o_ge
  | with_reducible apply Z.o_add
  | with_reducible apply Z.o_sub
  | ((with_reducible refine Z.o_pow ?_ ?_); (· exact ⟨by decide, by decide, by decide⟩); (try simp only [Int.reduceToNat, Int.reducePow]))
  | ((with_reducible refine Z.o_powW ?_ ?_ ?_); (· decide); (· decide +kernel); (try simp only [Int.reduceToNat, Int.reducePow]))
  | ((with_reducible refine Z.o_mod ?_ ?_); · walk_at "side")
  | ((with_reducible refine Z.o_div ?_ ?_ ?_); iterate 2 (· walk_at "side"))
  | ((with_reducible refine Z.o_div70 ?_ ?_ ?_); iterate 2 (· walk_at "side"))
  | ((with_reducible refine Z.o_mul ?_ ?_); · walk_at "side")
  | with_reducible apply Z.e_cb
  | ((with_reducible apply Z.o_lenL); · walk_at "sqL")
  | ((with_reducible apply Z.o_lenT); · walk_at "sqT")
  | ((with_reducible apply Z.o_ixL); (· walk_at "sqL"); (· rfl))
  | ((with_reducible apply Z.o_ixT); (· walk_at "sqT"); (· rfl))
  | ((with_reducible apply Z.o_setL); (· walk_at "at"); (· rfl))
  | ((with_reducible apply Z.o_sum); (· walk_at "sqL"))
  | with_reducible apply Z.s_ret
  | with_reducible apply Z.s_retN
  | with_reducible apply Z.s_next
  | with_reducible apply Z.s_drop
  | with_reducible apply Z.c_and
  | with_reducible apply Z.c_or
  | with_reducible apply Z.c_not
  | with_reducible apply Z.c_tru
  | with_reducible apply Z.c_B
  | with_reducible apply Z.e_un
  | with_reducible apply Z.o_neg
  | with_reducible apply Z.e_if
  | with_reducible apply Z.e_call
  | with_reducible apply Z.e_callD
  | with_reducible apply Z.e_fld
  | with_reducible apply Z.s_fld
  | with_reducible apply Z.e_meth
  | with_reducible apply Z.e_make
  | with_reducible apply Z.g_fld
  | with_reducible apply Z.s_asgStar
  | walk_at "fld"
  | with_reducible apply Z.e_callN
  | with_reducible apply Z.e_callNS
  | with_reducible refine Z.kw_go rfl rfl ?_
  | with_reducible apply Z.e_tup
  | with_reducible apply Z.e_lst
  | with_reducible apply Z.e_chain
  | with_reducible apply Z.s_asgS
  | with_reducible apply Z.s_asgT
  | with_reducible apply Z.s_asgU
  | with_reducible apply Z.s_forL
  | with_reducible apply Z.s_forV
  | with_reducible apply Z.e_lc2TL
  | with_reducible apply Z.s_forT
  | with_reducible apply Z.s_forR1
  | with_reducible apply Z.s_forR2
  | with_reducible apply Z.s_forE
  | with_reducible apply Z.e_lcL
  | with_reducible apply Z.e_lcT
  | with_reducible apply Z.e_lcR1
  | with_reducible apply Z.e_lcR2
  | with_reducible apply Z.c_yes
  | with_reducible apply Z.s_break
  | with_reducible apply Z.s_cont
  | with_reducible apply Z.o_isNr
  | with_reducible apply Z.o_isNi
  | with_reducible apply Z.o_isNs
  | with_reducible apply Z.o_isNn
  | with_reducible apply Z.o_notNr
  | with_reducible apply Z.o_notNi
  | with_reducible apply Z.o_notNs
  | with_reducible apply Z.o_notNn
  | with_reducible apply Z.t_bl
  | with_reducible apply Z.o_isN
  | with_reducible apply Z.o_notN
  | with_reducible apply Z.e_bm
  | with_reducible apply Z.e_bm0
  | with_reducible apply Z.g_name
  | with_reducible apply Z.g_cons
  | with_reducible apply Z.g_nil
  | with_reducible apply Z.g_sub
  | with_reducible apply Z.e_andV
  | with_reducible apply Z.e_orV
  | with_reducible apply Z.e_notV
  | with_reducible apply Z.e_notT
  | ((with_reducible apply Z.g_tup); (· walk_at "sqT"); (· rfl))
  | ((with_reducible apply Z.g_lst); (· walk_at "sqL"); (· rfl))
  | with_reducible apply Z.e_dget
  | with_reducible apply Z.e_dnin'
  | with_reducible apply Z.e_dcL
  | with_reducible apply Z.e_dnin
  | with_reducible apply Z.o_nisF
  | with_reducible apply Z.o_nisT
  | with_reducible apply Z.s_raise
  | with_reducible apply Z.e_mkO
  | with_reducible apply Z.e_callS
  | with_reducible apply Z.e_veI
  | with_reducible apply Z.s_ost
  | with_reducible apply Z.e_xfA
  | with_reducible apply Z.s_try
  | with_reducible apply Z.e_dnewT
  | with_reducible apply Z.e_dnewK
  | with_reducible apply Z.s_par
  | with_reducible apply Z.par_
  | with_reducible apply Z.s_dput
  | with_reducible apply Z.e_din
  | with_reducible apply Z.e_sl
  | with_reducible apply Z.p_none
  | with_reducible apply Z.p_some
  | with_reducible apply Z.p_int
  | with_reducible apply Z.z_int1
  | with_reducible apply Z.z_int1b
  | with_reducible apply Z.z_abs
  | with_reducible apply Z.z_max2
  | with_reducible apply Z.z_min2
  | ((with_reducible refine Z.w_split ?_ ?_); · rfl)
  | with_reducible apply Z.i_int_int
  | ((with_reducible apply Z.i_T_tuple); · walk_at "sqT")
  | ((with_reducible apply Z.i_L_tuple); · walk_at "sqL")
  | ((with_reducible apply Z.i_T_list); · walk_at "sqT")
  | ((with_reducible apply Z.i_L_list); · walk_at "sqL")
  | ((with_reducible apply Z.i_T_int); · walk_at "sqT")
  | ((with_reducible apply Z.i_L_int); · walk_at "sqL")
  | ((with_reducible apply Z.i_T_bool); · walk_at "sqT")
  | ((with_reducible apply Z.i_L_bool); · walk_at "sqL")
  | ((with_reducible apply Z.i_T_str); · walk_at "sqT")
  | ((with_reducible apply Z.i_L_str); · walk_at "sqL")
  | with_reducible apply Z.i_int_bool
  | with_reducible apply Z.i_int_str
  | with_reducible apply Z.i_int_tuple
  | with_reducible apply Z.i_int_list
  | with_reducible apply Z.i_str_str
  | with_reducible apply Z.i_str_tuple
  | with_reducible apply Z.i_str_list
  | with_reducible apply Z.i_str_int
  | with_reducible apply Z.i_str_bool
  | with_reducible apply Z.i_bl_int
  | with_reducible apply Z.i_bl_bool
  | with_reducible apply Z.i_bl_str
  | with_reducible apply Z.i_bl_tuple
  | with_reducible apply Z.i_bl_list
  | with_reducible apply Z.i_non_int
  | with_reducible apply Z.i_non_bool
  | with_reducible apply Z.i_non_str
  | with_reducible apply Z.i_non_tuple
  | with_reducible apply Z.i_non_list)
local macro_rules | `(tactic| walk_at "dec") => `(tactic| first | assumption | with_reducible rfl | omega | exact Z.ref_ne | exact Z.int_ne | exact Z.str_ne | (simp only [List.length_nil, List.length_cons]; omega) | decide)
local macro_rules | `(tactic| walk_at "s2") => `(tactic| first
  | with_reducible refine iteT ?_
  | with_reducible refine iteF ?_
  | with_reducible refine Z.iteNT ?_
  | with_reducible refine Z.iteNF ?_
  | ((with_reducible refine Z.if_t ?_ ?_); (· walk_at "dec"))
  | ((with_reducible refine Z.if_f ?_ ?_); (· walk_at "dec"))
  | ((with_reducible refine Z.if_nt ?_ ?_); (· walk_at "dec"))
  | ((with_reducible refine Z.if_nf ?_ ?_); (· walk_at "dec")))
local macro_rules | `(tactic| walk_at "rd") => `(tactic| repeat (first | walk_at "s1" | walk_at "s2"))
local macro_rules | `(tactic| walk_at "if") => `(tactic| first
  | with_reducible refine Z.if_dec (fun h => ?_) (fun h => ?_)
  | with_reducible refine Z.if_ndec (fun h => ?_) (fun h => ?_)
  | with_reducible refine Z.if_nb (fun h => ?_) (fun h => ?_)
  | with_reducible refine Z.if_b (fun h => ?_) (fun h => ?_))

namespace Y
open PySem PySem.Spec L2 Z
open PyProof.Rows hiding St
structure Ad where
  P : Program
  w : World
  Desk : Addr
structure Oc (K : PySem.W.Frag) (ad : Ad) : Prop where
  cl_Desk : Cls K ad.Desk
  n_Desk_holder : NoAttr K ad.Desk "holder"
  n_Desk_queue : NoAttr K ad.Desk "queue"
  n_Desk_called : NoAttr K ad.Desk "called"
def dk_Desk (ad : Ad) (dx : Addr) (v0 v1 v2 : V) : HO := .ins ad.Desk dx [("holder", v0), ("queue", v1), ("called", v2)]
theorem f_Desk_holder {K : PySem.W.Frag} {ad : Ad} {a dx : Addr} {v0 v1 v2 : V} {H : Hp} {Q : VK} (O : Oc K ad) (e : H a = some (dk_Desk ad dx v0 v1 v2)) (h : Q v0 H) : RFld K "holder" (.ref a) H Q := o_fld e O.cl_Desk O.n_Desk_holder lk_here h
theorem s_Desk_holder {K : PySem.W.Frag} {ad : Ad} {a dx : Addr} {v0 v1 v2 : V} {y : V} {H : Hp} {QH : Hp → Prop} (O : Oc K ad) (e : H a = some (dk_Desk ad dx v0 v1 v2)) (h : QH (upd H a (dk_Desk ad dx y v1 v2))) : RSet K "holder" y (.ref a) H QH := o_fset e O.cl_Desk O.n_Desk_holder (Nat.lt_of_lt_of_le (show 3 < 1000 by decide) (Nat.le_refl _)) put_here h
theorem i_Desk_holder {K : PySem.W.Frag} {ad : Ad} {a dx : Addr} {y : V} {H : Hp} {QH : Hp → Prop} (O : Oc K ad) (e : H a = some (.ins ad.Desk dx [])) (h : QH (upd H a (.ins ad.Desk dx [("holder", y)]))) : RSet K "holder" y (.ref a) H QH := o_fset e O.cl_Desk O.n_Desk_holder (Nat.lt_of_lt_of_le (show 0 < 1000 by decide) (Nat.le_refl _)) put_nil h
theorem f_Desk_queue {K : PySem.W.Frag} {ad : Ad} {a dx : Addr} {v0 v1 v2 : V} {H : Hp} {Q : VK} (O : Oc K ad) (e : H a = some (dk_Desk ad dx v0 v1 v2)) (h : Q v1 H) : RFld K "queue" (.ref a) H Q := o_fld e O.cl_Desk O.n_Desk_queue (lk_past (by decide +kernel) lk_here) h
theorem s_Desk_queue {K : PySem.W.Frag} {ad : Ad} {a dx : Addr} {v0 v1 v2 : V} {y : V} {H : Hp} {QH : Hp → Prop} (O : Oc K ad) (e : H a = some (dk_Desk ad dx v0 v1 v2)) (h : QH (upd H a (dk_Desk ad dx v0 y v2))) : RSet K "queue" y (.ref a) H QH := o_fset e O.cl_Desk O.n_Desk_queue (Nat.lt_of_lt_of_le (show 3 < 1000 by decide) (Nat.le_refl _)) (put_past (by decide +kernel) put_here) h
theorem i_Desk_queue {K : PySem.W.Frag} {ad : Ad} {a dx : Addr} {v0 : V} {y : V} {H : Hp} {QH : Hp → Prop} (O : Oc K ad) (e : H a = some (.ins ad.Desk dx [("holder", v0)])) (h : QH (upd H a (.ins ad.Desk dx [("holder", v0), ("queue", y)]))) : RSet K "queue" y (.ref a) H QH := o_fset e O.cl_Desk O.n_Desk_queue (Nat.lt_of_lt_of_le (show 1 < 1000 by decide) (Nat.le_refl _)) (put_past (by decide +kernel) put_nil) h
theorem f_Desk_called {K : PySem.W.Frag} {ad : Ad} {a dx : Addr} {v0 v1 v2 : V} {H : Hp} {Q : VK} (O : Oc K ad) (e : H a = some (dk_Desk ad dx v0 v1 v2)) (h : Q v2 H) : RFld K "called" (.ref a) H Q := o_fld e O.cl_Desk O.n_Desk_called (lk_past (by decide +kernel) (lk_past (by decide +kernel) lk_here)) h
theorem s_Desk_called {K : PySem.W.Frag} {ad : Ad} {a dx : Addr} {v0 v1 v2 : V} {y : V} {H : Hp} {QH : Hp → Prop} (O : Oc K ad) (e : H a = some (dk_Desk ad dx v0 v1 v2)) (h : QH (upd H a (dk_Desk ad dx v0 v1 y))) : RSet K "called" y (.ref a) H QH := o_fset e O.cl_Desk O.n_Desk_called (Nat.lt_of_lt_of_le (show 3 < 1000 by decide) (Nat.le_refl _)) (put_past (by decide +kernel) (put_past (by decide +kernel) put_here)) h
theorem i_Desk_called {K : PySem.W.Frag} {ad : Ad} {a dx : Addr} {v0 v1 : V} {y : V} {H : Hp} {QH : Hp → Prop} (O : Oc K ad) (e : H a = some (.ins ad.Desk dx [("holder", v0), ("queue", v1)])) (h : QH (upd H a (dk_Desk ad dx v0 v1 y))) : RSet K "called" y (.ref a) H QH := o_fset e O.cl_Desk O.n_Desk_called (Nat.lt_of_lt_of_le (show 2 < 1000 by decide) (Nat.le_refl _)) (put_past (by decide +kernel) (put_past (by decide +kernel) put_nil)) h
theorem m_Desk_take_ask {ad : Ad} {a dx : Addr} {v0 v1 v2 : V} {H : Hp} {P : Prop} (e : H a = some (dk_Desk ad dx v0 v1 v2)) (h : P) : RMe ad.Desk "take_ask" (.ref a) H P := o_me e (lk_past (by decide +kernel) (lk_past (by decide +kernel) (lk_past (by decide +kernel) lk_nil))) h
theorem m_Desk_settle {ad : Ad} {a dx : Addr} {v0 v1 v2 : V} {H : Hp} {P : Prop} (e : H a = some (dk_Desk ad dx v0 v1 v2)) (h : P) : RMe ad.Desk "settle" (.ref a) H P := o_me e (lk_past (by decide +kernel) (lk_past (by decide +kernel) (lk_past (by decide +kernel) lk_nil))) h
local macro_rules | `(tactic| walk_at "fld") => `(tactic| first
  | with_reducible refine f_Desk_holder (by assumption) (by with_reducible assumption) ?_
  | with_reducible refine s_Desk_holder (by assumption) (by with_reducible assumption) ?_
  | with_reducible refine i_Desk_holder (by assumption) (by first | with_reducible assumption | exact upd_same) ?_
  | with_reducible refine f_Desk_queue (by assumption) (by with_reducible assumption) ?_
  | with_reducible refine s_Desk_queue (by assumption) (by with_reducible assumption) ?_
  | with_reducible refine i_Desk_queue (by assumption) (by first | with_reducible assumption | exact upd_same) ?_
  | with_reducible refine f_Desk_called (by assumption) (by with_reducible assumption) ?_
  | with_reducible refine s_Desk_called (by assumption) (by with_reducible assumption) ?_
  | with_reducible refine i_Desk_called (by assumption) (by first | with_reducible assumption | exact upd_same) ?_
  | with_reducible refine m_Desk_take_ask (by with_reducible assumption) ?_
  | with_reducible refine m_Desk_settle (by with_reducible assumption) ?_)
theorem gthn {M : Addr → Prop} {F H F' H' H'' : Hp} (g : Gr M F H F' H') (s : Same H' H'') : Gr M F H F' H'' := ⟨g.ff, g.fh.trans s, fun b o n e => s _ _ (g.hh b o n e), g.nw⟩

/-! ### the desk -/
def HoldV (F : Hp) (v : V) : Option (List Int) → Prop
  | none => v = .non
  | some d => TI F v d
theorem HoldV.mono {F F' : Hp} (s : Same F F') {v : V} : ∀ {h : Option (List Int)}, HoldV F v h → HoldV F' v h
  | none, h => h
  | some _, h => TI.mono s h
def DeskAt (ad : Ad) (F H : Hp) (p : Addr) (h : Option (List Int)) (q : List (List Int)) (c : Bool) : Prop := ∃ dx hv qa vs, H p = some (dk_Desk ad dx hv (.ref qa) (.bl c)) ∧ HoldV F hv h ∧ F qa = some (.tup vs) ∧ TIs F vs q
theorem DeskAt.mono {ad : Ad} {F F' H H' : Hp} {p : Addr} {h : Option (List Int)} {q : List (List Int)} {c : Bool} (sF : Same F F') (s : Same H H') (D : DeskAt ad F H p h q c) : DeskAt ad F' H' p h q c := by
  obtain ⟨dx, hv, qa, vs, e, hh, eq, ts⟩ := D
  exact ⟨dx, hv, qa, vs, s _ _ e, hh.mono sF, sF _ _ eq, ts.mono sF⟩
abbrev dTI (q : List (List Int)) : PyData := .tuple (q.map dI)
theorem pl_dTI {q : List (List Int)} : Pl 2 (dTI q) := pl_tup fun d hd => by
  obtain ⟨ns, _, rfl⟩ := List.mem_map.mp hd
  exact pl_dI
theorem dTI_inj {a b : List (List Int)} : dTI a = dTI b ↔ a = b := by
  constructor
  · intro h
    exact (List.map_inj_right fun x y h => dI_inj.mp h).mp (PyData.tuple.inj h)
  · intro h
    rw [h]
/-- what an ask tells -/
def dSay (w : Str) (d : List Int) : PyData := .list [.tuple [.str w, dI d]]
theorem say_dp {K : PySem.W.Frag} {H : Hp} {r t : Addr} {w : Str} {v : V} {d : List Int} (er : H r = some (.lst [.ref t])) (et : H t = some (.tup [.str w, v])) (hv : TI H v d) : Dp K H (.ref r) (dSay w d) :=
  .lst (SqL.of er) (.cons (.tup (SqT.of et) (.cons (.str w) (.cons hv.dp .nil))) .nil)
theorem o_addTS {K : PySem.W.Frag} {H : Hp} {Q : VK} {a b : Addr} {xs ys : List V} (ha : SqT K H a xs) (hb : SqT K H b ys) (hl : xs.length + ys.length ≤ sizeLine) (h : ∀ c H2, Same H H2 → SqT K H2 c (xs ++ ys) → Q (.ref c) H2) : zAdd K (.ref a) (.ref b) H Q :=
  o_addT ha hb hl (fun e => h b H (Same.refl H) (by rw [e]; exact hb)) (fun _ e => h a H (Same.refl H) (by rw [e, List.append_nil]; exact ha)) fun _ _ c nc => h c _ (up_keep nc) (SqT.of upd_same)
/-- what stands in the frozen part of the same values -/
theorem TIs.back {F H : Hp} (hF : Same F H) {zs : List V} {dss : List (List Int)} (hz : TIs F zs dss) : ∀ {ys : List V} {ess : List (List Int)}, (∀ y ∈ ys, y ∈ zs) → TIs H ys ess → TIs F ys ess
  | _, _, _, .nil => .nil
  | y :: ys, e :: ess, m, .cons h t => .cons (by
      obtain ⟨j, hj, ej⟩ := List.getElem_of_mem (m y (List.mem_cons_self ..))
      obtain ⟨d, _, u, eu, et⟩ := hz.get (List.getElem?_eq_getElem hj)
      obtain ⟨u', eu', et'⟩ := h
      rw [ej] at eu
      rw [eu] at eu'
      cases eu'
      have := (hF _ _ et).symm.trans et'
      injection this with this
      injection this with this
      refine ⟨u, eu, ?_⟩
      rw [et, this]) (TIs.back hF hz (fun y hy => m y (List.mem_cons_of_mem _ hy)) t)
inductive q_Desk___init__ (K : PySem.W.Frag) (ad : Ad) : V → Hp → VK → Prop
  | mk {p dx : Addr} {H : Hp} {Q : VK} (e : H p = some (.ins ad.Desk dx [])) (k : ∀ qa H', H qa = none → H' p = some (dk_Desk ad dx .non (.ref qa) (.bl false)) → H' qa = some (.tup []) → (∀ b o, b ≠ p → H b = some o → H' b = some o) → Q .non H') : q_Desk___init__ K ad (.ref p) H Q
def sp_Desk___init__ (K : PySem.W.Frag) (ad : Ad) : Sp := fun vs H Q _ => match vs with | [x0] => q_Desk___init__ K ad x0 H Q | _ => False
theorem c_Desk___init__ {K : PySem.W.Frag} {ad : Ad} {x0 : V} {H : Hp} {Q : VK} {E : XK} (h : q_Desk___init__ K ad x0 H Q) : sp_Desk___init__ K ad ([x0] ++ []) H Q E := h
theorem cm_Desk___init__ {K : PySem.W.Frag} {ad : Ad} {x0 : V} {H : Hp} {Q : VK} {E : XK} (h : q_Desk___init__ K ad x0 H Q) : sp_Desk___init__ K ad (x0 :: ([] ++ [])) H Q E := h
theorem cl_Desk___init__ {K : PySem.W.Frag} {ad : Ad} {x0 : V} {H : Hp} {Q : VK} {E : XK} (h : q_Desk___init__ K ad x0 H Q) : sp_Desk___init__ K ad [x0] H Q E := h
theorem n_Desk___init__ {K : PySem.W.Frag} {ad : Ad} {vs : List V} {H : Hp} {Q : VK} {E : XK} (h : sp_Desk___init__ K ad vs H Q E) : ∃ x0, vs = [x0] ∧ q_Desk___init__ K ad x0 H Q := match vs, h with | [x0], h => ⟨x0, rfl, h⟩
def t_Desk___init__ (K : PySem.W.Frag) (ad : Ad) : TS := (tSeq (sFld K (tVar 0) (tC .non) "holder")
    (tSeq (sFld K (tVar 0) (tTup tNil) "queue")
    (sFld K (tVar 0) (tC (.bl false)) "called")))
theorem w_Desk___init__ {K : PySem.W.Frag} {ad : Ad} {x0 : V} {H : Hp} {Q : VK} (O : Oc K ad) (h : q_Desk___init__ K ad x0 H Q) : t_Desk___init__ K ad ⟨fun _ H' => Q .non H', Q, fun _ _ => False, fun _ _ => False⟩ [some x0] H := by
  cases h with
  | @mk p dx _ _ e k =>
    unfold t_Desk___init__
    walk_at "rd"
    refine o_new (Nat.zero_le _) fun qa nq => ?_
    have nqp : qa ≠ p := fresh_ne nq upd_same
    have e2 : (upd (upd H p (.ins ad.Desk dx [("holder", V.non)])) qa (.tup [])) p = some (.ins ad.Desk dx [("holder", V.non)]) := (upd_ne nqp.symm).trans upd_same
    have nqH : H qa = none := (upd_ne nqp).symm.trans nq
    walk_at "rd"
    refine k qa _ nqH upd_same ?_ fun b o nb eb => ?_
    · rw [upd_ne nqp, upd_ne nqp, upd_same]
    · have nbq : b ≠ qa := fun z => by
        rw [z, nqH] at eb
        cases eb
      rw [upd_ne nb, upd_ne nb, upd_ne nbq, upd_ne nb]
      exact eb
inductive q_Desk___len__ (K : PySem.W.Frag) (ad : Ad) : V → Hp → VK → Prop
  | mk {p : Addr} {h : Option (List Int)} {q : List (List Int)} {c : Bool} {F H : Hp} {Q : VK} (hF : Same F H) (D : DeskAt ad F H p h q c) (k : Q (.int (q.length : Nat)) H) : q_Desk___len__ K ad (.ref p) H Q
def sp_Desk___len__ (K : PySem.W.Frag) (ad : Ad) : Sp := fun vs H Q _ => match vs with | [x0] => q_Desk___len__ K ad x0 H Q | _ => False
theorem c_Desk___len__ {K : PySem.W.Frag} {ad : Ad} {x0 : V} {H : Hp} {Q : VK} {E : XK} (h : q_Desk___len__ K ad x0 H Q) : sp_Desk___len__ K ad ([x0] ++ []) H Q E := h
theorem cm_Desk___len__ {K : PySem.W.Frag} {ad : Ad} {x0 : V} {H : Hp} {Q : VK} {E : XK} (h : q_Desk___len__ K ad x0 H Q) : sp_Desk___len__ K ad (x0 :: ([] ++ [])) H Q E := h
theorem cl_Desk___len__ {K : PySem.W.Frag} {ad : Ad} {x0 : V} {H : Hp} {Q : VK} {E : XK} (h : q_Desk___len__ K ad x0 H Q) : sp_Desk___len__ K ad [x0] H Q E := h
theorem n_Desk___len__ {K : PySem.W.Frag} {ad : Ad} {vs : List V} {H : Hp} {Q : VK} {E : XK} (h : sp_Desk___len__ K ad vs H Q E) : ∃ x0, vs = [x0] ∧ q_Desk___len__ K ad x0 H Q := match vs, h with | [x0], h => ⟨x0, rfl, h⟩
def t_Desk___len__ (K : PySem.W.Frag) (ad : Ad) : TS := (tRet (tCB (zLen K) (tCons (tFld K (tVar 0) "queue") tNil)))
theorem w_Desk___len__ {K : PySem.W.Frag} {ad : Ad} {x0 : V} {H : Hp} {Q : VK} (O : Oc K ad) (h : q_Desk___len__ K ad x0 H Q) : t_Desk___len__ K ad ⟨fun _ H' => Q .non H', Q, fun _ _ => False, fun _ _ => False⟩ [some x0] H := by
  cases h with
  | @mk p hh q c F _ _ hF D k =>
    obtain ⟨dx, hv, qa, vs, e, _, eq, ts⟩ := D
    have eqH := hF _ _ eq
    unfold t_Desk___len__
    walk_at "rd"
    rw [ts.length]
    exact k
inductive q_Desk_settle (K : PySem.W.Frag) (ad : Ad) : V → Hp → VK → Prop
  | held {p : Addr} {e : List Int} {q : List (List Int)} {c : Bool} {F H : Hp} {Q : VK} (hF : Same F H) (D : DeskAt ad F H p (some e) q c) (k : ∀ r H', Same H H' → H' r = some (.lst []) → Q (.ref r) H') : q_Desk_settle K ad (.ref p) H Q
  | free {p : Addr} {d : List Int} {q : List (List Int)} {c : Bool} {F H : Hp} {Q : VK} (hF : Same F H) (fp : F p = none) (D : DeskAt ad F H p none (d :: q) c) (k : ∀ r F' H', Dp K H' (.ref r) (dSay "vote" d) → DeskAt ad F' H' p (some d) q false → Gr (M1 p) F H F' H' → Q (.ref r) H') : q_Desk_settle K ad (.ref p) H Q
def sp_Desk_settle (K : PySem.W.Frag) (ad : Ad) : Sp := fun vs H Q _ => match vs with | [x0] => q_Desk_settle K ad x0 H Q | _ => False
theorem c_Desk_settle {K : PySem.W.Frag} {ad : Ad} {x0 : V} {H : Hp} {Q : VK} {E : XK} (h : q_Desk_settle K ad x0 H Q) : sp_Desk_settle K ad ([x0] ++ []) H Q E := h
theorem cm_Desk_settle {K : PySem.W.Frag} {ad : Ad} {x0 : V} {H : Hp} {Q : VK} {E : XK} (h : q_Desk_settle K ad x0 H Q) : sp_Desk_settle K ad (x0 :: ([] ++ [])) H Q E := h
theorem cl_Desk_settle {K : PySem.W.Frag} {ad : Ad} {x0 : V} {H : Hp} {Q : VK} {E : XK} (h : q_Desk_settle K ad x0 H Q) : sp_Desk_settle K ad [x0] H Q E := h
theorem n_Desk_settle {K : PySem.W.Frag} {ad : Ad} {vs : List V} {H : Hp} {Q : VK} {E : XK} (h : sp_Desk_settle K ad vs H Q E) : ∃ x0, vs = [x0] ∧ q_Desk_settle K ad x0 H Q := match vs, h with | [x0], h => ⟨x0, rfl, h⟩
def t_Desk_settle (K : PySem.W.Frag) (ad : Ad) : TS := (tSeq (tIfS (tTest (tOp zNotN (tFld K (tVar 0) "holder") (tC .non))) (tRet (tLst tNil)) tNext)
    (tSeq (sFld K (tVar 0) (tC (.bl false)) "called")
    (tSeq (tIfS (tTest (tOp (zEq K) (tFld K (tVar 0) "queue") (tTup tNil))) (tRet (tLst tNil)) tNext)
    (tSeq (tAsg (tFld K (tVar 0) "queue") (gStar K (gCons (gFld K "holder" (tVar 0)) (gCons (gName 1) gNil))))
    (tSeq (sFld K (tVar 0) (tCB (zTuple K) (tCons (tVar 1) tNil)) "queue")
    (tRet (tLst (tCons (tTup (tCons (tC (.str "vote")) (tCons (tFld K (tVar 0) "holder") tNil))) tNil))))))))
theorem w_Desk_settle {K : PySem.W.Frag} {ad : Ad} {x0 : V} {H : Hp} {Q : VK} (O : Oc K ad) (h : q_Desk_settle K ad x0 H Q) : t_Desk_settle K ad ⟨fun _ H' => Q .non H', Q, fun _ _ => False, fun _ _ => False⟩ [some x0, none] H := by
  cases h with
  | @held p e q c F _ _ hF D k =>
    obtain ⟨dx, hv, qa, vs, ep, ⟨t, rfl, et⟩, eq, ts⟩ := D
    unfold t_Desk_settle
    walk_at "rd"
    refine o_new (Nat.zero_le _) fun r nr => ?_
    walk_at "rd"
    exact k r _ (up_keep nr) upd_same
  | @free p d q c F _ _ hF fp D k =>
    obtain ⟨dx, hv, qa, vs, ep, rfl, eq, ts⟩ := D
    cases ts with
    | @cons v _ ws _ tv tw =>
    unfold t_Desk_settle
    walk_at "rd"
    have G1 : Gr (M1 p) F H F (upd H p (dk_Desk ad dx .non (.ref qa) (.bl false))) := (Gr.refl hF).put1 fp
    have e1 := upd_same (H := H) (a := p) (o := dk_Desk ad dx .non (.ref qa) (.bl false))
    generalize upd H p (dk_Desk ad dx .non (.ref qa) (.bl false)) = H1 at *
    walk_at "rd"
    refine o_new (Nat.zero_le _) fun z nz => ?_
    have s2 : Same H1 (upd H1 z (.tup [])) := up_keep nz
    have ez := upd_same (H := H1) (a := z) (o := .tup [])
    have G2 := gthn G1 s2
    have e2 := s2 _ _ e1
    generalize upd H1 z (.tup []) = H2 at *
    have eq2 := G2.fh _ _ eq
    refine o_eqD (d := dTI (d :: q)) (e := dTI []) (.tup (SqT.of eq2) (TIs.dp (.cons (tv.mono G2.fh) (TIs.mono G2.fh tw)))) (.tup (SqT.of ez) .nil) (pl_dTI.shaped (by decide)) (pl_dTI.shaped (by decide)) ?_
    rw [pl_dTI.eqv pl_dTI dTI_inj, decide_eq_false (by intro h; cases h)]
    walk_at "rd"
    refine g_star (SqT.of eq2) fun rest nrest => ?_
    have s3 : Same H2 (upd H2 rest (.lst ws)) := up_keep nrest
    have er := upd_same (H := H2) (a := rest) (o := .lst ws)
    have G3 := gthn G2 s3
    have e3 := s3 _ _ e2
    generalize upd H2 rest (.lst ws) = H3 at *
    walk_at "rd"
    have np : rest ≠ p := fun z => by
      rw [z, e3] at er
      cases er
    have G4 : Gr (M1 p) F H F (upd H3 p (dk_Desk ad dx v (.ref qa) (.bl false))) := G3.put1 fp
    have e4 := upd_same (H := H3) (a := p) (o := dk_Desk ad dx v (.ref qa) (.bl false))
    have er4 := (upd_ne np (o := dk_Desk ad dx v (.ref qa) (.bl false))).trans er
    generalize upd H3 p (dk_Desk ad dx v (.ref qa) (.bl false)) = H4 at *
    walk_at "rd"
    refine o_tupleL (SqL.of er4) fun qb nqb => ?_
    have nqbp : qb ≠ p := fresh_ne nqb e4
    have G5 := G4.addF nqb (o := .tup ws) nqbp
    have s5 : Same H4 (upd H4 qb (.tup ws)) := up_keep nqb
    have e5 := s5 _ _ e4
    have fqb := upd_same (H := F) (a := qb) (o := .tup ws)
    have ff : Same F (upd F qb (.tup ws)) := up_keep (fresh_F G4.fh nqb)
    have fp5 : (upd F qb (.tup ws)) p = none := (upd_ne nqbp.symm).trans fp
    generalize upd H4 qb (.tup ws) = H5 at *
    generalize upd F qb (.tup ws) = F5 at *
    walk_at "rd"
    have G6 : Gr (M1 p) F H F5 (upd H5 p (dk_Desk ad dx v (.ref qb) (.bl false))) := G5.put1 fp5
    have e6 := upd_same (H := H5) (a := p) (o := dk_Desk ad dx v (.ref qb) (.bl false))
    generalize upd H5 p (dk_Desk ad dx v (.ref qb) (.bl false)) = H6 at *
    walk_at "rd"
    refine o_new (by walk_at "len") fun t nt => ?_
    have s7 : Same H6 (upd H6 t (.tup [.str "vote", v])) := up_keep nt
    have et := upd_same (H := H6) (a := t) (o := .tup [.str "vote", v])
    have e7 := s7 _ _ e6
    generalize upd H6 t (.tup [.str "vote", v]) = H7 at *
    walk_at "rd"
    refine o_new (by walk_at "len") fun r nr => ?_
    have s8 : Same H7 (upd H7 r (.lst [.ref t])) := up_keep nr
    have er8 := upd_same (H := H7) (a := r) (o := .lst [.ref t])
    have G8 := gthn G6 (s7.trans s8)
    walk_at "rd"
    exact k r F5 _ (say_dp er8 (s8 _ _ et) ((tv.mono ff).mono G8.fh)) ⟨dx, v, qb, ws, s8 _ _ e7, tv.mono ff, fqb, TIs.mono ff tw⟩ G8
inductive q_Desk_take_ask (K : PySem.W.Frag) (ad : Ad) : V → V → Hp → VK → Prop
  | mk {p sa : Addr} {d : List Int} {h : Option (List Int)} {q : List (List Int)} {c : Bool} {F H : Hp} {Q : VK} (hF : Same F H) (fp : F p = none) (D : DeskAt ad F H p h q c) (hd : F sa = some (.tup (d.map V.int))) (dn : d ≠ []) (qn : ∀ e ∈ q, e ≠ []) (hl : q.length ≤ 1000) (h0 : h = none → q = [])
      (k0 : h = none → ∀ r F' H', Dp K H' (.ref r) (dSay "vote" d) → DeskAt ad F' H' p (some d) [] false → Gr (M1 p) F H F' H' → Q (.ref r) H')
      (k1 : ∀ e, h = some e → HT.lexLt d e = true → c = false → ∀ r q2 F' H', q2.Perm (q ++ [d]) → q2.Pairwise (fun d e => HT.lexLt e d = false) → Dp K H' (.ref r) (dSay "back" e) → DeskAt ad F' H' p (some e) q2 true → Gr (M1 p) F H F' H' → Q (.ref r) H')
      (k2 : ∀ e, h = some e → ¬ (HT.lexLt d e = true ∧ c = false) → ∀ r q2 F' H', q2.Perm (q ++ [d]) → q2.Pairwise (fun d e => HT.lexLt e d = false) → H' r = some (.lst []) → DeskAt ad F' H' p (some e) q2 c → Gr (M1 p) F H F' H' → Q (.ref r) H') : q_Desk_take_ask K ad (.ref p) (.ref sa) H Q
def sp_Desk_take_ask (K : PySem.W.Frag) (ad : Ad) : Sp := fun vs H Q _ => match vs with | [x0, x1] => q_Desk_take_ask K ad x0 x1 H Q | _ => False
theorem c_Desk_take_ask {K : PySem.W.Frag} {ad : Ad} {x0 x1 : V} {H : Hp} {Q : VK} {E : XK} (h : q_Desk_take_ask K ad x0 x1 H Q) : sp_Desk_take_ask K ad ([x0, x1] ++ []) H Q E := h
theorem cm_Desk_take_ask {K : PySem.W.Frag} {ad : Ad} {x0 x1 : V} {H : Hp} {Q : VK} {E : XK} (h : q_Desk_take_ask K ad x0 x1 H Q) : sp_Desk_take_ask K ad (x0 :: ([x1] ++ [])) H Q E := h
theorem cl_Desk_take_ask {K : PySem.W.Frag} {ad : Ad} {x0 x1 : V} {H : Hp} {Q : VK} {E : XK} (h : q_Desk_take_ask K ad x0 x1 H Q) : sp_Desk_take_ask K ad [x0, x1] H Q E := h
theorem n_Desk_take_ask {K : PySem.W.Frag} {ad : Ad} {vs : List V} {H : Hp} {Q : VK} {E : XK} (h : sp_Desk_take_ask K ad vs H Q E) : ∃ x0 x1, vs = [x0, x1] ∧ q_Desk_take_ask K ad x0 x1 H Q := match vs, h with | [x0, x1], h => ⟨x0, x1, rfl, h⟩
def t_Desk_take_ask (K : PySem.W.Frag) (ad : Ad) : TS := (tSeq (sFld K (tVar 0) (tCB (zTuple K) (tCons (tCB (rSortedTT K) (tCons (tOp (zAdd K) (tFld K (tVar 0) "queue") (tTup (tCons (tVar 1) tNil))) tNil)) tNil)) "queue")
    (tSeq (tIfS (tAnd (tTest (tOp zNotN (tFld K (tVar 0) "holder") (tC .non))) (tAnd (tTest (tOp (zLt K) (tVar 1) (tFld K (tVar 0) "holder"))) (tNot (zTru K (tFld K (tVar 0) "called"))))) (tSeq (sFld K (tVar 0) (tC (.bl true)) "called")
    (tRet (tLst (tCons (tTup (tCons (tC (.str "back")) (tCons (tFld K (tVar 0) "holder") tNil))) tNil)))) tNext)
    (tRet (tMeth ad.Desk "settle" (sp_Desk_settle K ad) [] E0 (tVar 0) tNil))))
theorem w_Desk_take_ask {K : PySem.W.Frag} {ad : Ad} {x0 x1 : V} {H : Hp} {Q : VK} (O : Oc K ad) (h : q_Desk_take_ask K ad x0 x1 H Q) : t_Desk_take_ask K ad ⟨fun _ H' => Q .non H', Q, fun _ _ => False, fun _ _ => False⟩ [some x0, some x1] H := by
  cases h with
  | @mk p sa d hh q c F _ _ hF fp D hd dn qn hl h0 k0 k1 k2 =>
    obtain ⟨dx, hv, qa, vs, ep, hhv, eq, ts⟩ := D
    have lv := ts.length
    unfold t_Desk_take_ask
    have eqH := hF _ _ eq
    walk_at "rd"
    refine o_new (by walk_at "len") fun u nu => ?_
    have s1 : Same H (upd H u (.tup [.ref sa])) := up_keep nu
    have eu := upd_same (H := H) (a := u) (o := .tup [.ref sa])
    have eq1 := s1 _ _ eqH
    generalize upd H u (.tup [.ref sa]) = H1 at *
    refine o_addTS (SqT.of eq1) (SqT.of eu) (by rw [lv, sizeLine_eq, List.length_singleton]; omega) fun b H2 s2 eb => ?_
    have S2 := s1.trans s2
    have hF2 := hF.trans S2
    have tall : TIs F (vs ++ [.ref sa]) (q ++ [d]) := ts.app (.cons ⟨sa, rfl, hd⟩ .nil)
    walk_at "rd"
    refine o_sortTT eb (tall.mono hF2) (fun e he => ?_) fun ys ess w tys pys pess so nw => ?_
    · rcases List.mem_append.mp he with he | he
      · exact qn e he
      · rw [List.mem_singleton.mp he]
        exact dn
    have s3 : Same H2 (upd H2 w (.lst ys)) := up_keep nw
    have ew := upd_same (H := H2) (a := w) (o := .lst ys)
    generalize upd H2 w (.lst ys) = H3 at *
    have S3 := S2.trans s3
    have tysF : TIs F ys ess := TIs.back hF2 tall (fun y hy => pys.mem_iff.mp hy) tys
    have ep3 := S3 _ _ ep
    have G3 : Gr (M1 p) F H F H3 := gthn (Gr.refl hF) S3
    walk_at "rd"
    refine o_tupleL (SqL.of ew) fun qb nqb => ?_
    have nqbp : qb ≠ p := fresh_ne nqb ep3
    have G5 := G3.addF nqb (o := .tup ys) nqbp
    have s5 : Same H3 (upd H3 qb (.tup ys)) := up_keep nqb
    have ep5 := s5 _ _ ep3
    have fqb := upd_same (H := F) (a := qb) (o := .tup ys)
    have ff : Same F (upd F qb (.tup ys)) := up_keep (fresh_F G3.fh nqb)
    have fp5 : (upd F qb (.tup ys)) p = none := (upd_ne nqbp.symm).trans fp
    generalize upd H3 qb (.tup ys) = H5 at *
    generalize upd F qb (.tup ys) = F5 at *
    walk_at "rd"
    have G6 : Gr (M1 p) F H F5 (upd H5 p (dk_Desk ad dx hv (.ref qb) (.bl c))) := G5.put1 fp5
    have ep6 := upd_same (H := H5) (a := p) (o := dk_Desk ad dx hv (.ref qb) (.bl c))
    generalize upd H5 p (dk_Desk ad dx hv (.ref qb) (.bl c)) = H6 at *
    have tysF5 := tysF.mono ff
    cases hh with
    | none =>
      obtain rfl : hv = .non := hhv
      obtain rfl := h0 rfl
      have he : ess = [d] := List.perm_singleton.mp pess
      subst he
      walk_at "rd"
      apply cm_Desk_settle
      refine q_Desk_settle.free G6.fh fp5 ⟨dx, _, qb, ys, ep6, rfl, fqb, tysF5⟩ fun r F7 H7 dr D7 g7 => ?_
      walk_at "rd"
      exact k0 rfl r F7 H7 dr D7 (G6.tr1 g7 ep6)
    | some e =>
      obtain ⟨t, rfl, et⟩ := hhv
      have et6 := G6.fh _ _ (ff _ _ et)
      have et26 := G6.fh _ _ (ff _ _ hd)
      walk_at "rd"
      refine o_ltT (SqT.of et26) (SqT.of et6) ?_
      have held : ∀ c', c' = c → ¬ (HT.lexLt d e = true ∧ c = false) → q_Desk_settle K ad (.ref p) H6 Q := fun c' _ no => q_Desk_settle.held G6.fh ⟨dx, _, qb, ys, ep6, ⟨t, rfl, ff _ _ et⟩, fqb, tysF5⟩ fun r H7 s7 er => k2 e rfl no r ess F5 H7 pess so er ⟨dx, _, qb, ys, s7 _ _ ep6, ⟨t, rfl, ff _ _ et⟩, fqb, tysF5⟩ (gthn G6 s7)
      cases hlt : HT.lexLt d e with
      | false =>
        rw [hlt] at held
        walk_at "rd"
        apply cm_Desk_settle
        exact held c rfl fun h => by cases h.1
      | true =>
        walk_at "rd"
        cases c with
        | true =>
          walk_at "rd"
          apply cm_Desk_settle
          exact held true rfl fun h => by cases h.2
        | false =>
          walk_at "rd"
          have G7 : Gr (M1 p) F H F5 (upd H6 p (dk_Desk ad dx (.ref t) (.ref qb) (.bl true))) := G6.put1 fp5
          have ep7 := upd_same (H := H6) (a := p) (o := dk_Desk ad dx (.ref t) (.ref qb) (.bl true))
          generalize upd H6 p (dk_Desk ad dx (.ref t) (.ref qb) (.bl true)) = H7 at *
          walk_at "rd"
          refine o_new (by walk_at "len") fun w2 nw2 => ?_
          have s8 : Same H7 (upd H7 w2 (.tup [.str "back", .ref t])) := up_keep nw2
          have ew2 := upd_same (H := H7) (a := w2) (o := .tup [.str "back", .ref t])
          generalize upd H7 w2 (.tup [.str "back", .ref t]) = H8 at *
          walk_at "rd"
          refine o_new (by walk_at "len") fun r nr => ?_
          have s9 : Same H8 (upd H8 r (.lst [.ref w2])) := up_keep nr
          have er := upd_same (H := H8) (a := r) (o := .lst [.ref w2])
          have G9 := gthn G7 (s8.trans s9)
          walk_at "rd"
          exact k1 e rfl hlt rfl r ess F5 _ pess so (say_dp er (s9 _ _ ew2) ⟨t, rfl, G9.fh _ _ (ff _ _ et)⟩) ⟨dx, _, qb, ys, (s8.trans s9) _ _ ep7, ⟨t, rfl, ff _ _ et⟩, fqb, tysF5⟩ G9

/-! ### the same data -/
inductive Dn : Nat → PyData → Prop
  | non {n : Nat} : Dn n .none
  | bl {n : Nat} (b : Bool) : Dn n (.bool b)
  | int {n : Nat} (i : Int) : Dn n (.int i)
  | str {n : Nat} (x : Str) (h : PyData.canLay0 (.str x) = true) : Dn n (.str x)
  | tup {n : Nat} {ds : List PyData} (hl : ds.length ≤ 10000) (h : ∀ d ∈ ds, Dn n d) : Dn (n + 1) (.tuple ds)
  | lst {n : Nat} {ds : List PyData} (hl : ds.length ≤ 10000) (h : ∀ d ∈ ds, Dn n d) : Dn (n + 1) (.list ds)
theorem dpAll_len {K : PySem.W.Frag} {H : Hp} : ∀ {xs : List V} {ds : List PyData}, DpAll K H xs ds → xs.length = ds.length
  | _, _, .nil => rfl
  | _, _, .cons _ t => by rw [List.length_cons, List.length_cons, dpAll_len t]
theorem dpAll_get {K : PySem.W.Frag} {H : Hp} : ∀ {xs : List V} {ds : List PyData} {i : Nat} {d : PyData}, DpAll K H xs ds → ds[i]? = some d → ∃ x, xs[i]? = some x ∧ Dp K H x d
  | [], _, _, _, .nil, e => by cases e
  | _ :: _, _ :: _, 0, _, .cons h _, e => by
    cases e
    exact ⟨_, rfl, h⟩
  | v :: vs, _ :: ds, i + 1, d, .cons _ t, e => by
    obtain ⟨x, h1, h2⟩ := dpAll_get (i := i) t (by rw [List.getElem?_cons_succ] at e; exact e)
    exact ⟨x, by rw [List.getElem?_cons_succ]; exact h1, h2⟩
theorem dn_ints {n : Nat} {ns : List Int} (hl : ns.length ≤ 10000) : Dn (n + 1) (dI ns) := .tup (by rw [List.length_map]; exact hl) fun d hd => by
  obtain ⟨z, _, rfl⟩ := List.mem_map.mp hd
  exact .int z
inductive q__law_same (K : PySem.W.Frag) (ad : Ad) : Nat → V → V → Hp → VK → Prop
  | mk {d : Nat} {x y : V} {e : PyData} {H : Hp} {Q : VK} (hx : Dp K H x e) (hy : Dp K H y e) (hd : Dn d e) (k : Q (.bl true) H) : q__law_same K ad d x y H Q
def sp__law_same (K : PySem.W.Frag) (ad : Ad) : Nat → Sp
  | 0 => fun _ _ _ _ => False
  | d + 1 => fun vs H Q _ => match vs with | [x0, x1] => q__law_same K ad d x0 x1 H Q | _ => False
theorem c__law_same {K : PySem.W.Frag} {ad : Ad} {d : Nat} {x0 x1 : V} {H : Hp} {Q : VK} {E : XK} (h : q__law_same K ad d x0 x1 H Q) : sp__law_same K ad (d + 1) ([x0, x1] ++ []) H Q E := h
theorem n__law_same {K : PySem.W.Frag} {ad : Ad} {d : Nat} {vs : List V} {H : Hp} {Q : VK} {E : XK} (h : sp__law_same K ad (d + 1) vs H Q E) : ∃ x0 x1, vs = [x0, x1] ∧ q__law_same K ad d x0 x1 H Q := match vs, h with | [x0, x1], h => ⟨x0, x1, rfl, h⟩
def t__law_same (K : PySem.W.Frag) (ad : Ad) (d : Nat) : TS := (tSeq (tIfS (tOr (zTru K (tCB (rIsi K) (tCons (tVar 1) (tCons (tC (.ty "tuple")) tNil)))) (zTru K (tCB (rIsi K) (tCons (tVar 1) (tCons (tC (.ty "list")) tNil))))) (tSeq (tIfS (tOr (tTest (tOp (zNe K) (tCB (rIsi K) (tCons (tVar 0) (tCons (tC (.ty "tuple")) tNil))) (tCB (rIsi K) (tCons (tVar 1) (tCons (tC (.ty "tuple")) tNil))))) (tTest (tOp (zNe K) (tCB (rIsi K) (tCons (tVar 0) (tCons (tC (.ty "list")) tNil))) (tCB (rIsi K) (tCons (tVar 1) (tCons (tC (.ty "list")) tNil)))))) (tRet (tC (.bl false))) tNext)
    (tSeq (tIfS (tTest (tOp (zNe K) (tCB (zLen K) (tCons (tVar 0) tNil)) (tCB (zLen K) (tCons (tVar 1) tNil)))) (tRet (tC (.bl false))) tNext)
    (tSeq (tFor (iRng1 (tCons (tCB (zLen K) (tCons (tVar 1) tNil)) tNil)) (gName 2)
    (tIfS (tNot (zTru K (tCall (sp__law_same K ad d) [] E0 (tCons (tOp (rIx K) (tVar 0) (tVar 2)) (tCons (tOp (rIx K) (tVar 1) (tVar 2)) tNil))))) (tRet (tC (.bl false))) tNext))
    (tRet (tC (.bl true)))))) tNext)
    (tRet (tAndV (tOp (zEq K) (tCB (rIsi K) (tCons (tVar 0) (tCons (tC (.ty "bool")) tNil))) (tCB (rIsi K) (tCons (tVar 1) (tCons (tC (.ty "bool")) tNil)))) (tOp (zEq K) (tVar 0) (tVar 1)))))
theorem w__law_same {K : PySem.W.Frag} {ad : Ad} {d : Nat} {x0 x1 : V} {H : Hp} {Q : VK} (h : q__law_same K ad d x0 x1 H Q) : t__law_same K ad d ⟨fun _ H' => Q .non H', Q, fun _ _ => False, fun _ _ => False⟩ [some x0, some x1, none] H := by
  cases h with
  | @mk e _ _ hx hy hd k =>
    unfold t__law_same
    cases hd with
    | non =>
      cases hx
      cases hy
      walk_at "rd"
      refine o_eqD .non .non ((pl_none (n := 1)).shaped (by decide)) ((pl_none (n := 1)).shaped (by decide)) ?_
      rw [(pl_none (n := 1)).refl]
      exact k
    | bl b =>
      cases hx
      cases hy
      walk_at "rd"
      rw [decide_eq_true rfl]
      exact k
    | int i =>
      cases hx
      cases hy
      walk_at "rd"
      rw [decide_eq_true rfl]
      exact k
    | str x hx' =>
      cases hx
      cases hy
      walk_at "rd"
      rw [decide_eq_true rfl]
      exact k
    | @tup n ds dz hds =>
      cases hx with
      | @tup a xs _ hs ha =>
      cases hy with
      | @tup b ys _ ht hb =>
      have lx := dpAll_len ha
      have ly := dpAll_len hb
      walk_at "rd"
      rw [ly]
      refine lp_range1 (by omega) (fun i σ' H' => H' = H ∧ ∃ y2, σ' = [some (.ref a), some (.ref b), y2]) ⟨rfl, _, rfl⟩ ?_ ?_
      · rintro i σ' H' hi ⟨rfl, y2, rfl⟩
        have hi : i < ds.length := by omega
        obtain ⟨x, hx, dx⟩ := dpAll_get ha (List.getElem?_eq_getElem hi)
        obtain ⟨y, hy, dy⟩ := dpAll_get hb (List.getElem?_eq_getElem hi)
        walk_at "rd"
        refine o_ixT hs (atI_nat hx) ?_
        walk_at "rd"
        refine o_ixT ht (atI_nat hy) ?_
        walk_at "rd"
        apply c__law_same
        refine q__law_same.mk dx dy (hds _ (List.getElem_mem hi)) ?_
        walk_at "rd"
        exact ⟨rfl, _, rfl⟩
      · rintro σ' H' ⟨rfl, y2, rfl⟩
        walk_at "rd"
        exact k
    | @lst n ds dz hds =>
      cases hx with
      | @lst a xs _ hs ha =>
      cases hy with
      | @lst b ys _ ht hb =>
      have lx := dpAll_len ha
      have ly := dpAll_len hb
      walk_at "rd"
      rw [ly]
      refine lp_range1 (by omega) (fun i σ' H' => H' = H ∧ ∃ y2, σ' = [some (.ref a), some (.ref b), y2]) ⟨rfl, _, rfl⟩ ?_ ?_
      · rintro i σ' H' hi ⟨rfl, y2, rfl⟩
        have hi : i < ds.length := by omega
        obtain ⟨x, hx, dx⟩ := dpAll_get ha (List.getElem?_eq_getElem hi)
        obtain ⟨y, hy, dy⟩ := dpAll_get hb (List.getElem?_eq_getElem hi)
        walk_at "rd"
        refine o_ixL hs (atI_nat hx) ?_
        walk_at "rd"
        refine o_ixL ht (atI_nat hy) ?_
        walk_at "rd"
        apply c__law_same
        refine q__law_same.mk dx dy (hds _ (List.getElem_mem hi)) ?_
        walk_at "rd"
        exact ⟨rfl, _, rfl⟩
      · rintro σ' H' ⟨rfl, y2, rfl⟩
        walk_at "rd"
        exact k

theorem bits_lt {a : Int} {n : Nat} : Builtin.Int.intBits a ≤ n ↔ a.natAbs < 2 ^ n := by
  unfold Builtin.Int.intBits
  by_cases h : a = 0
  · subst h
    simp [Nat.two_pow_pos]
  · rw [if_neg (by simpa using h), Nat.add_one_le_iff, Nat.log2_lt (by omega)]
theorem bits_add {a b : Int} {n : Nat} (ha : Builtin.Int.intBits a ≤ n) (hb : Builtin.Int.intBits b ≤ n) : Builtin.Int.intBits (a + b) ≤ n + 1 := by
  rw [bits_lt] at *
  have := Int.natAbs_add_le a b
  rw [Nat.pow_succ]
  omega
theorem bits_small {a : Int} {n : Nat} (h : a.natAbs < 2 ^ 64) (hn : 64 ≤ n) : Builtin.Int.intBits a ≤ n := Nat.le_trans (bits_lt.mpr h) hn
inductive q__law_draws (K : PySem.W.Frag) (ad : Ad) : V → V → Hp → VK → Prop
  | mk {cell : Int} {a : Addr} {ts : List Int} {H : Hp} {Q : VK} (hc : Builtin.Int.intBits cell ≤ 1048576) (ht : SqL K H a (ts.map V.int)) (tp : ∀ t ∈ ts, 0 < t ∧ t ≤ 10 ^ 40) (tl : ts.length ≤ 100)
    (k : ∀ (r : Addr) (os : List Int) (H' : Hp), Same H H' → H r = none → H' r = some (.lst (os.map V.int)) → os.length = ts.length → Q (.ref r) H') : q__law_draws K ad (.int cell) (.ref a) H Q
def sp__law_draws (K : PySem.W.Frag) (ad : Ad) : Sp := fun vs H Q _ => match vs with | [x0, x1] => q__law_draws K ad x0 x1 H Q | _ => False
theorem c__law_draws {K : PySem.W.Frag} {ad : Ad} {x0 x1 : V} {H : Hp} {Q : VK} {E : XK} (h : q__law_draws K ad x0 x1 H Q) : sp__law_draws K ad ([x0, x1] ++ []) H Q E := h
theorem n__law_draws {K : PySem.W.Frag} {ad : Ad} {vs : List V} {H : Hp} {Q : VK} {E : XK} (h : sp__law_draws K ad vs H Q E) : ∃ x0 x1, vs = [x0, x1] ∧ q__law_draws K ad x0 x1 H Q := match vs, h with | [x0, x1], h => ⟨x0, x1, rfl, h⟩
def t__law_draws (K : PySem.W.Frag) (ad : Ad) : TS := (tSeq (tAsg (tLst tNil) (gName 2))
    (tSeq (tAsg (tOp zSub (tVar 0) (tOp zPowW (tC (.int 10)) (tC (.int 18)))) (gName 3))
    (tSeq (tFor (iRng1 (tCons (tCB (zLen K) (tCons (tVar 1) tNil)) tNil)) (gName 4)
    (tIfS (tTest (tOp zGe (tVar 3) (tC (.int 0)))) (tSeq (tDrop (tBM K "list" rAppend (tVar 2) (tCons (tOp zMod (tVar 3) (tOp (rIx K) (tVar 1) (tVar 4))) tNil)))
    (tAsg (tOp zDiv (tVar 3) (tOp (rIx K) (tVar 1) (tVar 4))) (gName 3))) (tSeq (tAsg (tOp zMod (tOp zPowW (tOp (zAdd K) (tVar 0) (tOp zMul (tC (.int 7919)) (tOp (zAdd K) (tVar 4) (tC (.int 1))))) (tC (.int 3))) (tC (.int 2147483629))) (gName 5))
    (tSeq (tAsg (tOp zDiv (tOp zMod (tOp zMul (tVar 5) (tOp (zAdd K) (tVar 5) (tC (.int 104729)))) (tC (.int 2147483587))) (tC (.int 8))) (gName 5))
    (tSeq (tIfS (tTest (tOp zGt (tOp (rIx K) (tVar 1) (tVar 4)) (tOp zPowW (tC (.int 10)) (tC (.int 8))))) (tAsg (tOp zPowW (tVar 5) (tC (.int 6))) (gName 5)) tNext)
    (tDrop (tBM K "list" rAppend (tVar 2) (tCons (tOp zMod (tVar 5) (tOp (rIx K) (tVar 1) (tVar 4))) tNil))))))))
    (tRet (tVar 2)))))
theorem w__law_draws {K : PySem.W.Frag} {ad : Ad} {x0 x1 : V} {H : Hp} {Q : VK} (h : q__law_draws K ad x0 x1 H Q) : t__law_draws K ad ⟨fun _ H' => Q .non H', Q, fun _ _ => False, fun _ _ => False⟩ [some x0, some x1, none, none, none, none] H := by
  cases h with
  | @mk cell a ts _ _ hc ht tp tl k =>
    unfold t__law_draws
    walk_at "rd"
    refine o_new (Nat.zero_le _) fun r nr => ?_
    have s1 : Same H (upd H r (.lst [])) := up_keep nr
    have er := upd_same (H := H) (a := r) (o := .lst [])
    generalize upd H r (.lst []) = H1 at *
    have ht1 := Same.seq s1 ht
    walk_at "rd"
    rw [List.length_map]
    refine lp_range1 (by omega) (fun i σ' H' => ∃ (rest : Int) (y4 y5 : Option V) (os : List Int), σ' = [some (.int cell), some (.ref a), some (.ref r), some (.int rest), y4, y5] ∧ Same H H' ∧ H' r = some (.lst (os.map V.int)) ∧ os.length = i) ⟨_, _, _, [], rfl, s1, er, rfl⟩ ?_ ?_
    · rintro i σ' H2 hi ⟨rest, y4, y5, os, rfl, s2, er2, lo⟩
      obtain ⟨t, hti⟩ : ∃ t, ts[i]? = some t := ⟨_, List.getElem?_eq_getElem (by omega)⟩
      have tb := tp t (List.mem_of_getElem? hti)
      have ht2 := Same.seq s2 ht
      have put : ∀ z : Int, Same H (upd H2 r (.lst (os.map V.int ++ [.int z]))) ∧ (upd H2 r (.lst (os.map V.int ++ [.int z]))) r = some (.lst ((os ++ [z]).map V.int)) ∧ SqL K (upd H2 r (.lst (os.map V.int ++ [.int z]))) a (ts.map V.int) := fun z => by
        have s3 : Same H (upd H2 r (.lst (os.map V.int ++ [.int z]))) := fun b o e => by
          rw [upd_ne (ne_of_none e nr)]
          exact s2 _ _ e
        refine ⟨s3, ?_, Same.seq s3 ht⟩
        rw [upd_same, List.map_append]
        rfl
      walk_at "rd"
      walk_at "if"
      · walk_at "rd"
        refine ⟨ty_list (SqL.of er2), ?_⟩
        walk_at "rd"
        refine o_ixL ht2 (atI_ints hti) ?_
        walk_at "rd"
        refine m_app er2 (by rw [List.length_map, sizeLine_eq]; omega) ?_
        obtain ⟨s3, e3, h3⟩ := put (rest % t)
        generalize upd H2 r (.lst (os.map V.int ++ [.int (rest % t)])) = H3 at *
        walk_at "rd"
        refine o_ixL h3 (atI_ints hti) ?_
        refine o_div70 tb.1 (by omega) ?_
        walk_at "rd"
        exact ⟨_, _, _, os ++ [rest % t], rfl, s3, e3, by walk_at "len"⟩
      · walk_at "rd"
        have b1 := bits_add hc (bits_small (a := 7919 * ((i : Int) + 1)) (n := 1048576) (by omega) (by decide))
        refine o_powW (by decide) (by omega) ?_
        generalize (cell + 7919 * ((i : Int) + 1)) ^ (3 : Int).toNat = big at *
        walk_at "rd"
        have c1 := Int.emod_nonneg big (b := 2147483629) (by decide)
        have c2 := Int.emod_lt_of_pos big (b := 2147483629) (by decide)
        generalize big % 2147483629 = one at *
        walk_at "rd"
        have d1 := Int.emod_nonneg (one * (one + 104729)) (b := 2147483587) (by decide)
        have d2 := Int.emod_lt_of_pos (one * (one + 104729)) (b := 2147483587) (by decide)
        generalize one * (one + 104729) % 2147483587 = two at *
        walk_at "rd"
        obtain ⟨u, hu⟩ : ∃ u, u = two / 8 := ⟨_, rfl⟩
        rw [← hu]
        have u1 : 0 ≤ u ∧ u < 2 ^ 28 := by omega
        clear hu
        walk_at "rd"
        refine o_ixL ht2 (atI_ints hti) ?_
        walk_at "rd"
        walk_at "if"
        · walk_at "rd"
          refine o_powW (by decide) ?_ ?_
          · have := bits_small (a := u) (n := 64) (by omega) (by decide)
            omega
          walk_at "rd"
          refine ⟨ty_list (SqL.of er2), ?_⟩
          walk_at "rd"
          refine o_ixL ht2 (atI_ints hti) ?_
          walk_at "rd"
          refine m_app er2 (by rw [List.length_map, sizeLine_eq]; omega) ?_
          obtain ⟨s3, e3, h3⟩ := put (u ^ (6 : Int).toNat % t)
          exact ⟨_, _, _, os ++ [u ^ (6 : Int).toNat % t], rfl, s3, e3, by walk_at "len"⟩
        · walk_at "rd"
          refine ⟨ty_list (SqL.of er2), ?_⟩
          walk_at "rd"
          refine o_ixL ht2 (atI_ints hti) ?_
          walk_at "rd"
          refine m_app er2 (by rw [List.length_map, sizeLine_eq]; omega) ?_
          obtain ⟨s3, e3, h3⟩ := put (u % t)
          exact ⟨_, _, _, os ++ [u % t], rfl, s3, e3, by walk_at "len"⟩
    · rintro σ' H2 ⟨rest, y4, y5, os, rfl, s2, er2, lo⟩
      walk_at "rd"
      exact k r os H2 s2 nr er2 (by omega)
inductive q__law_stamp (K : PySem.W.Frag) (ad : Ad) : V → Hp → VK → Prop
  | mk {cell : Int} {H : Hp} {Q : VK} (hc : Builtin.Int.intBits cell ≤ 1048576) (k : ∀ t (d : List Int) H', Same H H' → Fresh H' t → d.length = 3 → Q (.ref t) (upd H' t (.tup (d.map V.int)))) : q__law_stamp K ad (.int cell) H Q
def sp__law_stamp (K : PySem.W.Frag) (ad : Ad) : Sp := fun vs H Q _ => match vs with | [x0] => q__law_stamp K ad x0 H Q | _ => False
theorem c__law_stamp {K : PySem.W.Frag} {ad : Ad} {x0 : V} {H : Hp} {Q : VK} {E : XK} (h : q__law_stamp K ad x0 H Q) : sp__law_stamp K ad ([x0] ++ []) H Q E := h
theorem n__law_stamp {K : PySem.W.Frag} {ad : Ad} {vs : List V} {H : Hp} {Q : VK} {E : XK} (h : sp__law_stamp K ad vs H Q E) : ∃ x0, vs = [x0] ∧ q__law_stamp K ad x0 H Q := match vs, h with | [x0], h => ⟨x0, rfl, h⟩
def t__law_stamp (K : PySem.W.Frag) (ad : Ad) : TS := (tSeq (tAsg (tCall (sp__law_draws K ad) [] E0 (tCons (tVar 0) (tCons (tLst (tCons (tC (.int 6)) (tCons (tC (.int 3)) (tCons (tOp zPow (tC (.int 10)) (tC (.int 40))) (tCons (tC (.int 60)) (tCons (tOp zPow (tC (.int 10)) (tC (.int 9))) tNil)))))) tNil))) (gLst K 5 (gCons (gName 1) (gCons (gName 2) (gCons (gName 3) (gCons (gName 4) (gCons (gName 5) gNil)))))))
    (tSeq (tIfS (tTest (tOp (zLt K) (tVar 1) (tC (.int 3)))) (tRet (tTup (tCons (tVar 2) (tCons (tOp zMod (tVar 4) (tC (.int 4))) (tCons (tOp zMod (tVar 5) (tC (.int 2))) tNil))))) tNext)
    (tSeq (tIfS (tTest (tOp (zEq K) (tVar 1) (tC (.int 3)))) (tRet (tTup (tCons (tOp (zAdd K) (tOp zPow (tC (.int 10)) (tC (.int 39))) (tVar 2)) (tCons (tVar 4) (tCons (tOp zMod (tVar 5) (tC (.int 3))) tNil))))) tNext)
    (tRet (tTup (tCons (tVar 3) (tCons (tVar 4) (tCons (tVar 5) tNil))))))))
theorem w__law_stamp {K : PySem.W.Frag} {ad : Ad} {x0 : V} {H : Hp} {Q : VK} (h : q__law_stamp K ad x0 H Q) : t__law_stamp K ad ⟨fun _ H' => Q .non H', Q, fun _ _ => False, fun _ _ => False⟩ [some x0, none, none, none, none, none] H := by
  cases h with
  | @mk cell _ _ hc k =>
    unfold t__law_stamp
    walk_at "rd"
    refine o_new (by walk_at "len") fun a na => ?_
    walk_at "rd"
    apply c__law_draws
    refine q__law_draws.mk (ts := [6, 3, 10 ^ 40, 60, 10 ^ 9]) hc (SqL.of upd_same) (by decide) (by decide) fun r os H2 s2 _ er lo => ?_
    match os, lo, er with
    | [o1, o2, o3, o4, o5], _, er =>
    have S2 := Same.trans (up_keep na) s2
    have er : H2 r = some (.lst [.int o1, .int o2, .int o3, .int o4, .int o5]) := er
    walk_at "rd"
    walk_at "if"
    · walk_at "rd"
      refine o_new (by walk_at "len") fun t nt => ?_
      walk_at "rd"
      exact k t [_, _, _] H2 S2 nt rfl
    · walk_at "rd"
      walk_at "if"
      · walk_at "rd"
        refine o_new (by walk_at "len") fun t nt => ?_
        walk_at "rd"
        exact k t [_, _, _] H2 S2 nt rfl
      · walk_at "rd"
        refine o_new (by walk_at "len") fun t nt => ?_
        walk_at "rd"
        exact k t [_, _, _] H2 S2 nt rfl
theorem cut_all (xs : List V) {k : Nat} (h : xs.length ≤ k) : cutV xs (some ((0 : Nat) : Int)) (some (k : Int)) = xs := by
  unfold cutV
  rw [HT.sIx_nat, HT.sIx_nat, Nat.zero_min, List.drop_zero, Nat.sub_zero, Nat.min_eq_right h, List.take_length]
inductive q__law_cells (K : PySem.W.Frag) (ad : Ad) : V → V → Hp → VK → Prop
  | mk {a : Addr} {ns : List Int} {H : Hp} {Q : VK} (hs : SqL K H a (ns.map V.int)) (hl : ns.length ≤ 63) (hb : ∀ z ∈ ns, Builtin.Int.intBits z ≤ 1048576)
    (k : ∀ (r : Addr) (cs : List Int) (H' : Hp), Same H H' → H r = none → H' r = some (.lst (cs.map V.int)) → cs.length ≤ 63 → (∀ z ∈ cs, Builtin.Int.intBits z ≤ 1048576) → Q (.ref r) H') : q__law_cells K ad (.ref a) (.int 0) H Q
def sp__law_cells (K : PySem.W.Frag) (ad : Ad) : Sp := fun vs H Q _ => match vs with | [x0, x1] => q__law_cells K ad x0 x1 H Q | _ => False
theorem c__law_cells {K : PySem.W.Frag} {ad : Ad} {x0 x1 : V} {H : Hp} {Q : VK} {E : XK} (h : q__law_cells K ad x0 x1 H Q) : sp__law_cells K ad ([x0, x1] ++ []) H Q E := h
theorem n__law_cells {K : PySem.W.Frag} {ad : Ad} {vs : List V} {H : Hp} {Q : VK} {E : XK} (h : sp__law_cells K ad vs H Q E) : ∃ x0 x1, vs = [x0, x1] ∧ q__law_cells K ad x0 x1 H Q := match vs, h with | [x0, x1], h => ⟨x0, x1, rfl, h⟩
def t__law_cells (K : PySem.W.Frag) (ad : Ad) : TS := (tSeq (tAsg (tCB (zList K) (tCons (tSl (zSl K) (tVar 0) (tPart (tVar 1)) (tPart (tC (.int 63)))) tNil)) (gName 2))
    (tSeq (tFor (iRng2 (tCons (tCB (zLen K) (tCons (tVar 2) tNil)) (tCons (tC (.int 20)) tNil))) (gName 3)
    (tDrop (tBM K "list" rAppend (tVar 2) (tCons (tOp (zAdd K) (tOp zMul (tOp zMod (tCB (rSum K) (tCons (tSl (zSl K) (tVar 0) tNoPart (tPart (tC (.int 63)))) tNil)) (tC (.int 1000003))) (tC (.int 48271))) (tOp zMul (tC (.int 104729)) (tOp (zAdd K) (tVar 3) (tC (.int 1))))) tNil))))
    (tRet (tVar 2))))
theorem w__law_cells {K : PySem.W.Frag} {ad : Ad} {x0 x1 : V} {H : Hp} {Q : VK} (h : q__law_cells K ad x0 x1 H Q) : t__law_cells K ad ⟨fun _ H' => Q .non H', Q, fun _ _ => False, fun _ _ => False⟩ [some x0, some x1, none, none] H := by
  cases h with
  | @mk a ns _ _ hs hl hb k =>
    unfold t__law_cells
    walk_at "rd"
    refine sl_L hs fun u nu => ?_
    have e63 : cutV (ns.map V.int) (some 0) (some 63) = ns.map V.int := cut_all _ (k := 63) (by rw [List.length_map]; exact hl)
    rw [e63]
    have s1 : Same H (upd H u (.lst (ns.map V.int))) := up_keep nu
    have eu := upd_same (H := H) (a := u) (o := .lst (ns.map V.int))
    generalize upd H u (.lst (ns.map V.int)) = H1 at *
    walk_at "rd"
    refine o_listL (SqL.of eu) fun r nr => ?_
    have s2 : Same H1 (upd H1 r (.lst (ns.map V.int))) := up_keep nr
    have er := upd_same (H := H1) (a := r) (o := .lst (ns.map V.int))
    have nrH := fresh_back s1 nr
    generalize upd H1 r (.lst (ns.map V.int)) = H2 at *
    have S2 := s1.trans s2
    walk_at "rd"
    rw [List.length_map]
    refine lp_range2 (by omega) (fun i σ' H' => ∃ (y3 : Option V) (cs : List Int), σ' = [some (.ref a), some (.int 0), some (.ref r), y3] ∧ Same H H' ∧ H' r = some (.lst (cs.map V.int)) ∧ cs.length = ns.length + i ∧ (∀ z ∈ cs, Builtin.Int.intBits z ≤ 1048576)) ⟨_, ns, rfl, S2, er, rfl, hb⟩ ?_ ?_
    · rintro i σ' H3 hi ⟨y3, cs, rfl, s3, er3, lc, cb⟩
      walk_at "rd"
      refine ⟨ty_list (SqL.of er3), ?_⟩
      walk_at "rd"
      refine sl_L (Same.seq s3 hs) fun w nw => ?_
      have e0 : cutV (ns.map V.int) none (some 63) = ns.map V.int := (cut_lo _ 63).trans (List.take_of_length_le (by rw [List.length_map]; exact hl))
      rw [e0]
      have s4 : Same H3 (upd H3 w (.lst (ns.map V.int))) := up_keep nw
      have ew := upd_same (H := H3) (a := w) (o := .lst (ns.map V.int))
      have er4 := s4 _ _ er3
      generalize upd H3 w (.lst (ns.map V.int)) = H4 at *
      walk_at "rd"
      have c1 := Int.emod_nonneg ns.sum (b := 1000003) (by decide)
      have c2 := Int.emod_lt_of_pos ns.sum (b := 1000003) (by decide)
      generalize ns.sum % 1000003 = m at *
      walk_at "rd"
      refine m_app er4 (by rw [List.length_map, sizeLine_eq]; omega) ?_
      refine ⟨_, cs ++ [m * 48271 + 104729 * ((ns.length : Int) + (i : Int) + 1)], rfl, fun b o e => ?_, ?_, by walk_at "len", fun z hz => ?_⟩
      · rw [upd_ne (ne_of_none e nrH)]
        exact s4 _ _ (s3 _ _ e)
      · rw [upd_same, List.map_append]
        rfl
      · rcases List.mem_append.mp hz with hz | hz
        · exact cb z hz
        · rw [List.mem_singleton.mp hz]
          exact bits_small (by omega) (by decide)
    · rintro σ' H3 ⟨y3, cs, rfl, s3, er3, lc, cb⟩
      walk_at "rd"
      exact k r cs H3 s3 nrH er3 (by omega) cb
inductive q__law_desk (K : PySem.W.Frag) (ad : Ad) : V → V → V → V → Hp → VK → Prop
  | mk {p w : Addr} {hv : V} {h : Option (List Int)} {q : List (List Int)} {c : Bool} {ws : List V} {F H : Hp} {Q : VK} (hF : Same F H) (D : DeskAt ad F H p h q c) (hh : HoldV F hv h) (hn : ∀ d, h = some d → d.length ≤ 10000) (hq : q.length ≤ 1000) (ew : H w = some (.lst ws)) (tw : TIs F ws q)
      (k : ∀ H', Same H H' → Q (.bl true) H') : q__law_desk K ad (.ref p) hv (.ref w) (.bl c) H Q
def dHold : Option (List Int) → PyData
  | none => .none
  | some d => dI d
theorem dn_hold {h : Option (List Int)} (hn : ∀ d, h = some d → d.length ≤ 10000) : Dn 3 (dHold h) := by
  cases h with
  | none => exact .non
  | some d => exact dn_ints (hn d rfl)
theorem HoldV.dp {K : PySem.W.Frag} {F H : Hp} (hF : Same F H) {v : V} : ∀ {h : Option (List Int)}, HoldV F v h → Dp K H v (dHold h)
  | none, h => by
    rw [show v = .non from h]
    exact .non
  | some _, h => (TI.mono hF h).dp
def sp__law_desk (K : PySem.W.Frag) (ad : Ad) : Sp := fun vs H Q _ => match vs with | [x0, x1, x2, x3] => q__law_desk K ad x0 x1 x2 x3 H Q | _ => False
theorem c__law_desk {K : PySem.W.Frag} {ad : Ad} {x0 x1 x2 x3 : V} {H : Hp} {Q : VK} {E : XK} (h : q__law_desk K ad x0 x1 x2 x3 H Q) : sp__law_desk K ad ([x0, x1, x2, x3] ++ []) H Q E := h
theorem n__law_desk {K : PySem.W.Frag} {ad : Ad} {vs : List V} {H : Hp} {Q : VK} {E : XK} (h : sp__law_desk K ad vs H Q E) : ∃ x0 x1 x2 x3, vs = [x0, x1, x2, x3] ∧ q__law_desk K ad x0 x1 x2 x3 H Q := match vs, h with | [x0, x1, x2, x3], h => ⟨x0, x1, x2, x3, rfl, h⟩
def t__law_desk (K : PySem.W.Frag) (ad : Ad) : TS := (tSeq (tIfS (tOr (tNot (zTru K (tCall (sp__law_same K ad 4) [] E0 (tCons (tFld K (tVar 0) "holder") (tCons (tVar 1) tNil))))) (tNot (zTru K (tCall (sp__law_same K ad 4) [] E0 (tCons (tFld K (tVar 0) "called") (tCons (tVar 3) tNil)))))) (tRet (tC (.bl false))) tNext)
    (tRet (tAndV (tCB (rIsi K) (tCons (tFld K (tVar 0) "queue") (tCons (tC (.ty "tuple")) tNil))) (tAndV (tOp (zEq K) (tFld K (tVar 0) "queue") (tCB (zTuple K) (tCons (tVar 2) tNil))) (tOp (zEq K) (tCB (rLenO ad.Desk (sp_Desk___len__ K ad)) (tCons (tVar 0) tNil)) (tCB (zLen K) (tCons (tVar 2) tNil)))))))
theorem w__law_desk {K : PySem.W.Frag} {ad : Ad} {x0 x1 x2 x3 : V} {H : Hp} {Q : VK} (O : Oc K ad) (h : q__law_desk K ad x0 x1 x2 x3 H Q) : t__law_desk K ad ⟨fun _ H' => Q .non H', Q, fun _ _ => False, fun _ _ => False⟩ [some x0, some x1, some x2, some x3] H := by
  cases h with
  | @mk p w _ h q c ws F _ _ hF D hh hn hq ew tw k =>
    obtain ⟨dx, hv, qa, vs, ep, hh2, eq, ts⟩ := id D
    have eqH := hF _ _ eq
    have dn := dn_hold hn
    unfold t__law_desk
    walk_at "rd"
    apply c__law_same
    refine q__law_same.mk (hh2.dp hF) (hh.dp hF) dn ?_
    walk_at "rd"
    apply c__law_same
    refine q__law_same.mk (.bl c) (.bl c) (.bl c) ?_
    walk_at "rd"
    refine o_tupleL (SqL.of ew) fun u nu => ?_
    have s1 : Same H (upd H u (.tup ws)) := up_keep nu
    have eu := upd_same (H := H) (a := u) (o := .tup ws)
    have D1 : DeskAt ad F (upd H u (.tup ws)) p h q c := D.mono (Same.refl F) s1
    have ep1 := s1 _ _ ep
    have ew1 := s1 _ _ ew
    have hF1 := hF.trans s1
    generalize upd H u (.tup ws) = H1 at *
    refine o_eqD (d := dTI q) (e := dTI q) (.tup (SqT.of (s1 _ _ eqH)) (ts.mono hF1).dp) (.tup (SqT.of eu) (tw.mono hF1).dp) (pl_dTI.shaped (by decide)) (pl_dTI.shaped (by decide)) ?_
    rw [pl_dTI.refl]
    walk_at "rd"
    refine o_lenO ep1 (cl_Desk___len__ (q_Desk___len__.mk hF1 D1 ⟨q.length, rfl, ?_, ?_⟩))
    · omega
    walk_at "rd"
    rw [tw.length]
    walk_at "rd"
    rw [decide_eq_true rfl]
    exact k _ s1

theorem take_free {K : PySem.W.Frag} {ad : Ad} {p sa : Addr} {d : List Int} {c : Bool} {F H : Hp} {Q : VK} (hF : Same F H) (fp : F p = none) (D : DeskAt ad F H p none [] c) (hd : F sa = some (.tup (d.map V.int))) (dn : d ≠ [])
    (k : ∀ r F' H', Dp K H' (.ref r) (dSay "vote" d) → DeskAt ad F' H' p (some d) [] false → Gr (M1 p) F H F' H' → Q (.ref r) H') : q_Desk_take_ask K ad (.ref p) (.ref sa) H Q :=
  q_Desk_take_ask.mk hF fp D hd dn (fun _ h => by cases h) (Nat.zero_le _) (fun _ => rfl) (fun _ => k) (fun _ h => by cases h) (fun _ h => by cases h)
theorem take_back {K : PySem.W.Frag} {ad : Ad} {p sa : Addr} {d e : List Int} {q : List (List Int)} {F H : Hp} {Q : VK} (hF : Same F H) (fp : F p = none) (D : DeskAt ad F H p (some e) q false) (hd : F sa = some (.tup (d.map V.int))) (dn : d ≠ []) (qn : ∀ e ∈ q, e ≠ []) (hl : q.length ≤ 1000) (lt : HT.lexLt d e = true)
    (k : ∀ r q2 F' H', q2.Perm (q ++ [d]) → q2.Pairwise (fun d e => HT.lexLt e d = false) → Dp K H' (.ref r) (dSay "back" e) → DeskAt ad F' H' p (some e) q2 true → Gr (M1 p) F H F' H' → Q (.ref r) H') : q_Desk_take_ask K ad (.ref p) (.ref sa) H Q :=
  q_Desk_take_ask.mk hF fp D hd dn qn hl (fun h => by cases h) (fun h => by cases h) (fun e' h _ _ => by cases h; exact k) (fun e' h no => by cases h; exact absurd ⟨lt, rfl⟩ no)
theorem take_hold {K : PySem.W.Frag} {ad : Ad} {p sa : Addr} {d e : List Int} {q : List (List Int)} {c : Bool} {F H : Hp} {Q : VK} (hF : Same F H) (fp : F p = none) (D : DeskAt ad F H p (some e) q c) (hd : F sa = some (.tup (d.map V.int))) (dn : d ≠ []) (qn : ∀ e ∈ q, e ≠ []) (hl : q.length ≤ 1000) (no : ¬ (HT.lexLt d e = true ∧ c = false))
    (k : ∀ r q2 F' H', q2.Perm (q ++ [d]) → q2.Pairwise (fun d e => HT.lexLt e d = false) → Dp K H' (.ref r) (.list []) → DeskAt ad F' H' p (some e) q2 c → Gr (M1 p) F H F' H' → Q (.ref r) H') : q_Desk_take_ask K ad (.ref p) (.ref sa) H Q :=
  q_Desk_take_ask.mk hF fp D hd dn qn hl (fun h => by cases h) (fun h => by cases h) (fun e' h lt hc => by cases h; exact absurd ⟨lt, hc⟩ no) (fun e' h _ r q2 F' H' p1 p2 er => by cases h; exact k r q2 F' H' p1 p2 (.lst (SqL.of er) .nil))
theorem dn_say {w : Str} {d : List Int} (hw : PyData.canLay0 (.str w) = true) (hl : d.length ≤ 10000) : Dn 3 (dSay w d) := .lst (show 1 ≤ 10000 by decide) fun x hx => by
  rw [List.mem_singleton.mp hx]
  refine .tup (show 2 ≤ 10000 by decide) fun y hy => ?_
  rcases List.mem_cons.mp hy with rfl | hy
  · exact .str _ hw
  · rw [List.mem_singleton.mp hy]
    exact dn_ints hl
inductive q_law (K : PySem.W.Frag) (ad : Ad) : V → Hp → VK → Prop
  | mk {a : Addr} {ns : List Int} {H : Hp} {Q : VK} (hl : ns.length ≤ 63) (hb : ∀ z ∈ ns, Builtin.Int.intBits z ≤ 1048576) (hS : SqL K H a (ns.map V.int)) (k : ∀ H', Q (.bl true) H') : q_law K ad (.ref a) H Q

def sp_law (K : PySem.W.Frag) (ad : Ad) : Sp := fun vs H Q _ => match vs with | [x0] => q_law K ad x0 H Q | _ => False
theorem c_law {K : PySem.W.Frag} {ad : Ad} {x0 : V} {H : Hp} {Q : VK} {E : XK} (h : q_law K ad x0 H Q) : sp_law K ad ([x0] ++ []) H Q E := h
theorem n_law {K : PySem.W.Frag} {ad : Ad} {vs : List V} {H : Hp} {Q : VK} {E : XK} (h : sp_law K ad vs H Q E) : ∃ x0, vs = [x0] ∧ q_law K ad x0 H Q := match vs, h with | [x0], h => ⟨x0, rfl, h⟩
theorem spLaw_to {K : PySem.W.Frag} (ad : Ad) {vs : List V} {H : Hp} {Q : VK} {E : XK} (h : spLawB K vs H Q E) : sp_law K ad vs H Q E := by
  obtain ⟨a, ns, rfl, hl, hb, hS, k⟩ := h
  exact q_law.mk hl hb hS k
def t_law (K : PySem.W.Frag) (ad : Ad) : TS := (tSeq (tAsg (tMake ad.Desk (sp_Desk___init__ K ad) [] E0 tNil) (gName 1))
    (tSeq (tAsg (tC .non) (gName 2))
    (tSeq (tAsg (tLst tNil) (gName 3))
    (tSeq (tAsg (tC (.bl false)) (gName 4))
    (tSeq (tIfS (tNot (zTru K (tCall (sp__law_desk K ad) [] E0 (tCons (tVar 1) (tCons (tVar 2) (tCons (tVar 3) (tCons (tVar 4) tNil))))))) (tRet (tC (.bl false))) tNext)
    (tSeq (tFor (iList K (tCall (sp__law_cells K ad) [] E0 (tCons (tVar 0) (tCons (tC (.int 0)) tNil)))) (gName 5)
    (tSeq (tAsg (tCall (sp__law_stamp K ad) [] E0 (tCons (tVar 5) tNil)) (gName 6))
    (tIfS (tAnd (tTest (tOp (zNe K) (tVar 6) (tVar 2))) (tTest (tOp (zNotIn K) (tVar 6) (tVar 3)))) (tSeq (tAsg (tLst tNil) (gName 7))
    (tSeq (tIfS (tTest (tOp zIsN (tVar 2) (tC .non))) (tSeq (tAsg (tVar 6) (gName 2))
    (tAsg (tLst (tCons (tTup (tCons (tC (.str "vote")) (tCons (tVar 6) tNil))) tNil)) (gName 7))) (tSeq (tAsg (tCB (rSortedTI K) (tCons (tOp (zAdd K) (tVar 3) (tLst (tCons (tVar 6) tNil))) tNil)) (gName 3))
    (tIfS (tAnd (tTest (tOp (zLt K) (tVar 6) (tVar 2))) (tNot (zTru K (tVar 4)))) (tSeq (tAsg (tC (.bl true)) (gName 4))
    (tAsg (tLst (tCons (tTup (tCons (tC (.str "back")) (tCons (tVar 2) tNil))) tNil)) (gName 7))) tNext)))
    (tIfS (tOr (tNot (zTru K (tCall (sp__law_same K ad 4) [] E0 (tCons (tMeth ad.Desk "take_ask" (sp_Desk_take_ask K ad) [] E0 (tVar 1) (tCons (tVar 6) tNil)) (tCons (tVar 7) tNil))))) (tNot (zTru K (tCall (sp__law_desk K ad) [] E0 (tCons (tVar 1) (tCons (tVar 2) (tCons (tVar 3) (tCons (tVar 4) tNil)))))))) (tRet (tC (.bl false))) tNext))) tNext)))
    (tRet (tC (.bl true)))))))))
theorem w_law {K : PySem.W.Frag} {ad : Ad} {x0 : V} {H : Hp} {Q : VK} (O : Oc K ad) (h : q_law K ad x0 H Q) : t_law K ad ⟨fun _ H' => Q .non H', Q, fun _ _ => False, fun _ _ => False⟩ [some x0, none, none, none, none, none, none, none] H := by
  cases h with
  | @mk a ns _ _ hl hb hS k =>
    unfold t_law
    walk_at "rd"
    refine fun x dx nx nd ne => cm_Desk___init__ (q_Desk___init__.mk upd_same fun qa H1 nq ep eqa keep => ⟨rfl, ?_⟩)
    have s0 : Same H (upd (upd H dx (.own x)) x (.ins ad.Desk dx [])) := made_same nx nd
    have nqx : qa ≠ x := fun z => by
      rw [z, upd_same] at nq
      cases nq
    have nqH : H qa = none := s0.free nq
    have s1 : Same H H1 := fun b o e => keep b o (ne_of_none e nx) (s0 b o e)
    have fq : (upd H qa (.tup [])) qa = some (.tup []) := upd_same
    have fx : (upd H qa (.tup [])) x = none := (upd_ne nqx.symm).trans nx
    have G1 : Gr (M1 x) H H (upd H qa (.tup [])) H1 := ⟨up_keep nqH, fun b o e => by
      by_cases z : b = qa
      · rw [z, upd_same] at e
        rw [z, ← e]
        exact eqa
      · rw [upd_ne z] at e
        exact s1 b o e, fun b o _ e => s1 b o e, fun b o e f => (by rw [e] at f; cases f)⟩
    generalize upd H qa (.tup []) = F1 at *
    have D1 : DeskAt ad F1 H1 x none [] false := ⟨dx, .non, qa, [], ep, rfl, fq, .nil⟩
    clear keep s0 eqa fq nq
    walk_at "rd"
    refine o_new (Nat.zero_le _) fun w nw => ?_
    have s2 : Same H1 (upd H1 w (.lst [])) := up_keep nw
    have ew := upd_same (H := H1) (a := w) (o := .lst [])
    have nwx : w ≠ x := fresh_ne nw ep
    have D2 := D1.mono (Same.refl F1) s2
    have G2 := gthn G1 s2
    have ep2 := s2 _ _ ep
    generalize upd H1 w (.lst []) = H2 at *
    walk_at "rd"
    apply c__law_desk
    refine q__law_desk.mk (h := none) (q := []) G2.fh D2 rfl (fun _ h => by cases h) (Nat.zero_le _) ew .nil fun H3 s3 => ?_
    have G3 := gthn G2 s3
    have D3 := D2.mono (Same.refl F1) s3
    have ew3 := s3 _ _ ew
    have ep3 := s3 _ _ ep2
    walk_at "rd"
    apply c__law_cells
    refine q__law_cells.mk (Same.seq G3.fh (G3.ff.seq hS)) hl hb fun L cs H4 s4 nL eL lc cb => ?_
    have G4 := gthn G3 s4
    have D4 := D3.mono (Same.refl F1) s4
    have ew4 := s4 _ _ ew3
    have nLx : L ≠ x := fun z => by
      rw [z, ep3] at nL
      cases nL
    walk_at "rd"
    refine lp_list (SqL.of eL) (fun i σ' H' => ∃ (hv : V) (w : Addr) (c : Bool) (y5 y6 y7 : Option V) (F' : Hp) (h : Option (List Int)) (q : List (List Int)) (ws : List V), σ' = [some (.ref a), some (.ref x), some hv, some (.ref w), some (.bl c), y5, y6, y7] ∧ HoldV F' hv h ∧ H' w = some (.lst ws) ∧ w ≠ x ∧ TIs F' ws q ∧ DeskAt ad F' H' x h q c ∧
      F' x = none ∧ Gr (M1 x) H H F' H' ∧ (∀ d ∈ q, d.length = 3) ∧ (∀ d, h = some d → d.length = 3) ∧ q.length ≤ i ∧ (h = none → q = [] ∧ c = false) ∧ q.Pairwise (fun d e => HT.lexLt e d = false) ∧ H' L = some (.lst (cs.map V.int)))
      ⟨.non, w, false, _, _, _, F1, none, [], [], rfl, rfl, ew4, nwx, .nil, D4, fx, G4, fun _ h => (by cases h), fun _ h => (by cases h), Nat.zero_le _, fun _ => ⟨rfl, rfl⟩, .nil, eL⟩ (fun i σ' H' _ ⟨_, _, _, _, _, _, _, _, _, _, _, _, _, _, _, _, _, _, _, _, _, _, _, e⟩ => SqL.of e) ?_ ?_
    · clear ew4 D4 G4 eL s4 ep3 ew3 D3 G3 s3 ep2 G2 D2 ew s2 D1 G1 fx s1 ep nwx nw nL
      rintro i z σ' H1 hi ⟨hv, w, c, y5, y6, y7, F1, h, q, ws, rfl, hh, ew, nwx, tw, D, fx, G1, q3, h3, ql, hn, so, eL⟩
      have il := (List.getElem?_eq_some_iff.mp hi).1
      rw [List.length_map] at il
      rw [List.getElem?_map] at hi
      obtain ⟨cell, hc, rfl⟩ := Option.map_eq_some_iff.mp hi
      have cb1 := cb cell (List.mem_of_getElem? hc)
      have qne : ∀ d ∈ q, d ≠ [] := fun d hd z => by
        have := q3 d hd
        rw [z] at this
        cases this
      obtain ⟨dxp, hvp, qap, vsp, epx, _⟩ := id D
      walk_at "rd"
      apply c__law_stamp
      refine q__law_stamp.mk cb1 fun t d H2 s2 nt ld => ?_
      have dne : d ≠ [] := fun z => by
        rw [z] at ld
        cases ld
      have G2 := gthn G1 s2
      have ntx : t ≠ x := fresh_ne nt (s2 _ _ epx)
      have G3 := G2.addF nt (o := .tup (d.map V.int)) ntx
      have s3 : Same H2 (upd H2 t (.tup (d.map V.int))) := up_keep nt
      have ft := upd_same (H := F1) (a := t) (o := .tup (d.map V.int))
      have ff : Same F1 (upd F1 t (.tup (d.map V.int))) := up_keep (fresh_F G2.fh nt)
      have fx3 : (upd F1 t (.tup (d.map V.int))) x = none := (upd_ne ntx.symm).trans fx
      generalize upd H2 t (.tup (d.map V.int)) = H3 at *
      generalize upd F1 t (.tup (d.map V.int)) = F3 at *
      have S3 := s2.trans s3
      have D3 := D.mono ff S3
      have ew3 := S3 _ _ ew
      have eL3 := S3 _ _ eL
      have tw3 := TIs.mono ff tw
      have hh3 := hh.mono ff
      have et3 := G3.fh _ _ ft
      have td : TI F3 (.ref t) d := ⟨t, rfl, ft⟩
      have tdH : TI H3 (.ref t) d := ⟨t, rfl, et3⟩
      clear s2 s3 S3 D ew eL tw hh G2 nt fx
      have skip : ∃ (hv' : V) (w' : Addr) (c' : Bool) (z5 z6 z7 : Option V) (F' : Hp) (h : Option (List Int)) (q : List (List Int)) (ws : List V), [some (.ref a), some (.ref x), some hv, some (.ref w), some (.bl c), some (.int cell), some (.ref t), y7] = [some (.ref a), some (.ref x), some hv', some (.ref w'), some (.bl c'), z5, z6, z7] ∧ HoldV F' hv' h ∧ H3 w' = some (.lst ws) ∧ w' ≠ x ∧ TIs F' ws q ∧ DeskAt ad F' H3 x h q c' ∧
        F' x = none ∧ Gr (M1 x) H H F' H3 ∧ (∀ d ∈ q, d.length = 3) ∧ (∀ d, h = some d → d.length = 3) ∧ q.length ≤ i + 1 ∧ (h = none → q = [] ∧ c' = false) ∧ q.Pairwise (fun d e => HT.lexLt e d = false) ∧ H3 L = some (.lst (cs.map V.int)) := ⟨hv, w, c, _, _, _, F3, h, q, ws, rfl, hh3, ew3, nwx, tw3, D3, fx3, G3, q3, h3, by omega, hn, so, eL3⟩
      walk_at "rd"
      cases h with
      | none =>
        obtain rfl : hv = .non := hh3
        obtain ⟨rfl, rfl⟩ := hn rfl
        refine o_neD (d := dI d) (e := .none) tdH.dp .non (pl_dI.shaped (by decide)) ((pl_none (n := 1)).shaped (by decide)) ?_
        rw [pl_dI.eqv (pl_none (n := 1)) (p := False) ⟨fun h => (by cases h), fun h => h.elim⟩, decide_eq_false id]
        walk_at "rd"
        refine o_notInD tdH.dp (.lst (SqL.of ew3) (tw3.mono G3.fh).dp) (pl_dI.shaped (by decide)) (pl_dLI.shaped (by decide)) ?_
        rw [any_dI, decide_eq_false (by intro h; cases h)]
        walk_at "rd"
        refine o_new (Nat.zero_le _) fun u nu => ?_
        have s4 : Same H3 (upd H3 u (.lst [])) := up_keep nu
        generalize upd H3 u (.lst []) = H4 at *
        walk_at "rd"
        refine o_new (by walk_at "len") fun v nv => ?_
        have s5 : Same H4 (upd H4 v (.tup [.str "vote", .ref t])) := up_keep nv
        have ev := upd_same (H := H4) (a := v) (o := .tup [.str "vote", .ref t])
        generalize upd H4 v (.tup [.str "vote", .ref t]) = H5 at *
        walk_at "rd"
        refine o_new (by walk_at "len") fun r nr => ?_
        have s6 : Same H5 (upd H5 r (.lst [.ref v])) := up_keep nr
        have er := upd_same (H := H5) (a := r) (o := .lst [.ref v])
        have ev6 := s6 _ _ ev
        generalize upd H5 r (.lst [.ref v]) = H6 at *
        have S6 := (s4.trans s5).trans s6
        have G6 := gthn G3 S6
        have D6 := D3.mono (Same.refl F3) S6
        obtain ⟨_, _, _, _, e6x, _⟩ := id D6
        have nrx : r ≠ x := fun z => by
          rw [z, e6x] at er
          cases er
        have nvx : v ≠ x := fun z => by
          rw [z, e6x] at ev6
          cases ev6
        walk_at "rd"
        apply cm_Desk_take_ask
        refine take_free G6.fh fx3 D6 ft dne fun r2 F7 H7 dr D7 g7 => ?_
        have G7 := G6.tr1 g7 e6x
        have due : Dp K H7 (.ref r) (dSay "vote" d) := say_dp (g7.hh _ _ nrx er) (g7.hh _ _ nvx ev6) (td.mono (g7.ff.trans G7.fh))
        walk_at "rd"
        apply c__law_same
        refine q__law_same.mk dr due (dn_say (by decide +kernel) (by omega)) ?_
        walk_at "rd"
        have ew7 := g7.hh _ _ nwx (S6 _ _ ew3)
        apply c__law_desk
        refine q__law_desk.mk G7.fh D7 (td.mono g7.ff) (fun _ h => by cases h; omega) (Nat.zero_le _) ew7 (TIs.mono g7.ff tw3) fun H8 s8 => ?_
        walk_at "rd"
        exact ⟨.ref t, w, false, _, _, _, F7, some d, [], ws, rfl, td.mono g7.ff, s8 _ _ ew7, nwx, TIs.mono g7.ff tw3, D7.mono (Same.refl F7) s8, g7.nw _ _ e6x fx3, gthn G7 s8, fun _ h => (by cases h), fun _ h => (by cases h; exact ld), Nat.zero_le _, fun h => (by cases h), .nil, s8 _ _ (g7.hh _ _ nLx (S6 _ _ eL3))⟩
      | some e =>
        obtain ⟨te, rfl, fe⟩ := hh3
        have le := h3 e rfl
        refine o_neIT (SqT.of et3) (SqT.of (G3.fh _ _ fe)) ?_
        walk_at "rd"
        walk_at "if"
        rotate_left
        · walk_at "rd"
          exact skip
        rename_i nde
        walk_at "rd"
        refine o_notInD tdH.dp (.lst (SqL.of ew3) (tw3.mono G3.fh).dp) (pl_dI.shaped (by decide)) (pl_dLI.shaped (by decide)) ?_
        rw [any_dI]
        walk_at "rd"
        walk_at "if"
        rotate_left
        · walk_at "rd"
          exact skip
        clear skip
        walk_at "rd"
        refine o_new (Nat.zero_le _) fun u nu => ?_
        have s4 : Same H3 (upd H3 u (.lst [])) := up_keep nu
        have eu := upd_same (H := H3) (a := u) (o := .lst [])
        have ew4 := s4 _ _ ew3
        generalize upd H3 u (.lst []) = H4 at *
        walk_at "rd"
        refine o_new (by walk_at "len") fun v nv => ?_
        have s5 : Same H4 (upd H4 v (.lst [.ref t])) := up_keep nv
        have ev := upd_same (H := H4) (a := v) (o := .lst [.ref t])
        have ew5 := s5 _ _ ew4
        generalize upd H4 v (.lst [.ref t]) = H5 at *
        have lw := tw3.length
        refine o_addL ew5 ev (by rw [lw, sizeLine_eq, List.length_singleton]; omega) fun b nb => ?_
        have s6 : Same H5 (upd H5 b (.lst (ws ++ [.ref t]))) := up_keep nb
        have eb := upd_same (H := H5) (a := b) (o := .lst (ws ++ [.ref t]))
        generalize upd H5 b (.lst (ws ++ [.ref t])) = H6 at *
        have S6 := (s4.trans s5).trans s6
        have tall : TIs F3 (ws ++ [.ref t]) (q ++ [d]) := tw3.app (.cons td .nil)
        have hF6 := G3.fh.trans S6
        walk_at "rd"
        refine o_sortTI (SqL.of eb) (TIs.mono hF6 tall) (fun y hy => ?_) fun ys ess w2 tys pys pess so2 nw2 => ?_
        · rcases List.mem_append.mp hy with hy | hy
          · exact qne y hy
          · rw [List.mem_singleton.mp hy]
            exact dne
        have s7 : Same H6 (upd H6 w2 (.lst ys)) := up_keep nw2
        have ew7 := upd_same (H := H6) (a := w2) (o := .lst ys)
        generalize upd H6 w2 (.lst ys) = H7 at *
        have S7 := S6.trans s7
        have tysF : TIs F3 ys ess := TIs.back hF6 tall (fun y hy => pys.mem_iff.mp hy) tys
        have G7 := gthn G3 S7
        have D7 := D3.mono (Same.refl F3) S7
        obtain ⟨_, _, _, _, e7x, _⟩ := id D7
        have nw2x : w2 ≠ x := fun z => by
          rw [z, e7x] at ew7
          cases ew7
        have ess3 : ∀ y ∈ ess, y.length = 3 := fun y hy => by
          rcases List.mem_append.mp (pess.mem_iff.mp hy) with hy | hy
          · exact q3 y hy
          · rw [List.mem_singleton.mp hy]
            exact ld
        have essl : ess.length ≤ i + 1 := by
          rw [pess.length_eq, List.length_append, List.length_singleton]
          omega
        have il63 : ess.length ≤ 1000 := by omega
        have eu7 := (s5.trans (s6.trans s7)) _ _ eu
        have nux : u ≠ x := fun z => by
          rw [z, e7x] at eu7
          cases eu7
        have eL7 := S7 _ _ eL3
        have ft7 := G7.fh _ _ ft
        have fe7 := G7.fh _ _ fe
        clear tys eb ew5 ev ew4 eu s4 s5 s6 s7 S6 hF6 nu nv nb nw2 tall
        walk_at "rd"
        refine o_ltT (SqT.of ft7) (SqT.of fe7) ?_
        have stay : ∀ (F9 H9 : Hp), Gr (M1 x) F3 H7 F9 H9 → ∀ (cc : Bool) (q2 : List (List Int)), q2.Perm (q ++ [d]) → q2.Pairwise (fun d e => HT.lexLt e d = false) → DeskAt ad F9 H9 x (some e) q2 cc → q2 = ess ∧ HoldV F9 (.ref te) (some e) ∧ H9 w2 = some (.lst ys) ∧ TIs F9 ys ess ∧ F9 x = none ∧ Gr (M1 x) H H F9 H9 ∧ H9 L = some (.lst (cs.map V.int)) := fun F9 H9 g9 cc q2 p2 s2 D9 =>
          ⟨sorted_one s2 so2 (p2.trans pess.symm), ⟨te, rfl, g9.ff _ _ fe⟩, g9.hh _ _ nw2x ew7, TIs.mono g9.ff tysF, g9.nw _ _ e7x fx3, G7.tr1 g9 e7x, g9.hh _ _ nLx eL7⟩
        have hold : ∀ (cc : Bool), cc = c → ¬ (HT.lexLt d e = true ∧ c = false) → True := fun _ _ _ => trivial
        cases hlt : HT.lexLt d e with
        | false =>
          walk_at "rd"
          apply cm_Desk_take_ask
          refine take_hold G7.fh fx3 D7 ft dne qne (by omega) (fun h => by rw [hlt] at h; cases h.1) fun r q2 F9 H9 p2 s2 dr D9 g9 => ?_
          obtain ⟨rfl, hh9, ew9, tw9, fx9, G9, eL9⟩ := stay F9 H9 g9 c q2 p2 s2 D9
          walk_at "rd"
          apply c__law_same
          refine q__law_same.mk dr (.lst (SqL.of (g9.hh _ _ nux eu7)) .nil) (.lst (by decide) fun y hy => by cases hy) ?_
          walk_at "rd"
          apply c__law_desk
          refine q__law_desk.mk G9.fh D9 hh9 (fun _ h => by cases h; omega) il63 ew9 tw9 fun HA sA => ?_
          walk_at "rd"
          exact ⟨_, w2, c, _, _, _, F9, some e, q2, ys, rfl, hh9, sA _ _ ew9, nw2x, tw9, D9.mono (Same.refl F9) sA, fx9, gthn G9 sA, ess3, h3, essl, fun h => (by cases h), s2, sA _ _ eL9⟩
        | true =>
          walk_at "rd"
          cases c with
          | true =>
            walk_at "rd"
            apply cm_Desk_take_ask
            refine take_hold G7.fh fx3 D7 ft dne qne (by omega) (fun h => by cases h.2) fun r q2 F9 H9 p2 s2 dr D9 g9 => ?_
            obtain ⟨rfl, hh9, ew9, tw9, fx9, G9, eL9⟩ := stay F9 H9 g9 true q2 p2 s2 D9
            walk_at "rd"
            apply c__law_same
            refine q__law_same.mk dr (.lst (SqL.of (g9.hh _ _ nux eu7)) .nil) (.lst (by decide) fun y hy => by cases hy) ?_
            walk_at "rd"
            apply c__law_desk
            refine q__law_desk.mk G9.fh D9 hh9 (fun _ h => by cases h; omega) il63 ew9 tw9 fun HA sA => ?_
            walk_at "rd"
            exact ⟨_, w2, true, _, _, _, F9, some e, q2, ys, rfl, hh9, sA _ _ ew9, nw2x, tw9, D9.mono (Same.refl F9) sA, fx9, gthn G9 sA, ess3, h3, essl, fun h => (by cases h), s2, sA _ _ eL9⟩
          | false =>
            walk_at "rd"
            refine o_new (by walk_at "len") fun v nv => ?_
            have s8 : Same H7 (upd H7 v (.tup [.str "back", .ref te])) := up_keep nv
            have ev := upd_same (H := H7) (a := v) (o := .tup [.str "back", .ref te])
            generalize upd H7 v (.tup [.str "back", .ref te]) = H8 at *
            walk_at "rd"
            refine o_new (by walk_at "len") fun r nr => ?_
            have s9 : Same H8 (upd H8 r (.lst [.ref v])) := up_keep nr
            have er := upd_same (H := H8) (a := r) (o := .lst [.ref v])
            have ev9 := s9 _ _ ev
            generalize upd H8 r (.lst [.ref v]) = H9 at *
            have S9 := s8.trans s9
            have G9 := gthn G7 S9
            have D9 := D7.mono (Same.refl F3) S9
            have e9x := S9 _ _ e7x
            have nrx : r ≠ x := fun z => by
              rw [z, e9x] at er
              cases er
            have nvx : v ≠ x := fun z => by
              rw [z, e9x] at ev9
              cases ev9
            walk_at "rd"
            apply cm_Desk_take_ask
            refine take_back G9.fh fx3 D9 ft dne qne (by omega) hlt fun r2 q2 FA HA p2 s2 dr DA gA => ?_
            have gB : Gr (M1 x) F3 H7 FA HA := ⟨gA.ff, gA.fh, fun b o n e => gA.hh b o n (S9 _ _ e), fun b o e f => gA.nw b o (S9 _ _ e) f⟩
            obtain ⟨rfl, hhA, ewA, twA, fxA, GA, eLA⟩ := stay FA HA gB true q2 p2 s2 DA
            have due : Dp K HA (.ref r) (dSay "back" e) := say_dp (gA.hh _ _ nrx er) (gA.hh _ _ nvx ev9) ⟨te, rfl, GA.fh _ _ (gA.ff _ _ fe)⟩
            walk_at "rd"
            apply c__law_same
            refine q__law_same.mk dr due (dn_say (by decide +kernel) (by omega)) ?_
            walk_at "rd"
            apply c__law_desk
            refine q__law_desk.mk GA.fh DA hhA (fun _ h => by cases h; omega) il63 ewA twA fun HB sB => ?_
            walk_at "rd"
            exact ⟨_, w2, true, _, _, _, FA, some e, q2, ys, rfl, hhA, sB _ _ ewA, nw2x, twA, DA.mono (Same.refl FA) sB, fxA, gthn GA sB, ess3, h3, essl, fun h => (by cases h), s2, sB _ _ eLA⟩
    · rintro σ' H1 ⟨hv, w, c, y5, y6, y7, F1, h, q, ws, rfl, _⟩
      walk_at "rd"
      exact k _

def topS (i : Nat) : Stmt := PySem.Challenge.pw_soleseat_k61_votes_asked_for.main.body.getD i (.Pass ⟨0, 0, 0, 0⟩)
abbrev s_Desk___init__ : Stmt := inClass (topS 2) 0
abbrev N_Desk___init__ : List Str := ["self"]
theorem sc_Desk___init__ : FnScope N_Desk___init__ ["self"] (defScope s_Desk___init__) := ⟨rfl, rfl, rfl, by decide +kernel, rfl, by decide +kernel, by decide +kernel⟩
abbrev s_Desk___len__ : Stmt := inClass (topS 2) 1
abbrev N_Desk___len__ : List Str := ["self"]
theorem sc_Desk___len__ : FnScope N_Desk___len__ ["self"] (defScope s_Desk___len__) := ⟨rfl, rfl, rfl, by decide +kernel, rfl, by decide +kernel, by decide +kernel⟩
abbrev s_Desk_take_ask : Stmt := inClass (topS 2) 2
abbrev N_Desk_take_ask : List Str := ["self", "stamp"]
theorem sc_Desk_take_ask : FnScope N_Desk_take_ask ["self", "stamp"] (defScope s_Desk_take_ask) := ⟨rfl, rfl, rfl, by decide +kernel, rfl, by decide +kernel, by decide +kernel⟩
abbrev s_Desk_settle : Stmt := inClass (topS 2) 6
abbrev N_Desk_settle : List Str := ["self", "rest"]
theorem sc_Desk_settle : FnScope N_Desk_settle ["self"] (defScope s_Desk_settle) := ⟨rfl, rfl, rfl, by decide +kernel, rfl, by decide +kernel, by decide +kernel⟩
abbrev s__law_draws : Stmt := topS 4
abbrev N__law_draws : List Str := ["cell", "tops", "out", "rest", "k", "one"]
theorem sc__law_draws : FnScope N__law_draws ["cell", "tops"] (defScope s__law_draws) := ⟨rfl, rfl, rfl, by decide +kernel, rfl, by decide +kernel, by decide +kernel⟩
abbrev s__law_same : Stmt := topS 5
abbrev N__law_same : List Str := ["found", "due", "k"]
theorem sc__law_same : FnScope N__law_same ["found", "due"] (defScope s__law_same) := ⟨rfl, rfl, rfl, by decide +kernel, rfl, by decide +kernel, by decide +kernel⟩
abbrev s__law_stamp : Stmt := topS 6
abbrev N__law_stamp : List Str := ["cell", "way", "low", "many", "seat", "turn"]
theorem sc__law_stamp : FnScope N__law_stamp ["cell"] (defScope s__law_stamp) := ⟨rfl, rfl, rfl, by decide +kernel, rfl, by decide +kernel, by decide +kernel⟩
abbrev s__law_desk : Stmt := topS 7
abbrev N__law_desk : List Str := ["desk", "holder", "waiting", "called"]
theorem sc__law_desk : FnScope N__law_desk ["desk", "holder", "waiting", "called"] (defScope s__law_desk) := ⟨rfl, rfl, rfl, by decide +kernel, rfl, by decide +kernel, by decide +kernel⟩
abbrev s__law_cells : Stmt := topS 8
abbrev N__law_cells : List Str := ["script", "start", "found", "k"]
theorem sc__law_cells : FnScope N__law_cells ["script", "start"] (defScope s__law_cells) := ⟨rfl, rfl, rfl, by decide +kernel, rfl, by decide +kernel, by decide +kernel⟩
abbrev s_law : Stmt := topS 9
abbrev N_law : List Str := ["script", "desk", "holder", "waiting", "called", "cell", "stamp", "due"]
theorem sc_law : FnScope N_law ["script"] (defScope s_law) := ⟨rfl, rfl, rfl, by decide +kernel, rfl, by decide +kernel, by decide +kernel⟩
structure Txt (K : PySem.W.Frag) (mg : Str → Option Value) (ad : Ad) where
  f_Desk___init__ : Addr
  d_Desk___init__ : FuncData
  F_Desk___init__ : Fun K "__init__" "Desk.__init__" s_Desk___init__ f_Desk___init__ d_Desk___init__
  b_Desk___init__ : Binds K d_Desk___init__ ["self"] []
  mk_Desk : Mk K ad.Desk f_Desk___init__
  f_Desk___len__ : Addr
  d_Desk___len__ : FuncData
  F_Desk___len__ : Fun K "__len__" "Desk.__len__" s_Desk___len__ f_Desk___len__ d_Desk___len__
  b_Desk___len__ : Binds K d_Desk___len__ ["self"] []
  me_Desk___len__ : Meth K ad.Desk "__len__" f_Desk___len__
  f_Desk_take_ask : Addr
  d_Desk_take_ask : FuncData
  F_Desk_take_ask : Fun K "take_ask" "Desk.take_ask" s_Desk_take_ask f_Desk_take_ask d_Desk_take_ask
  b_Desk_take_ask : Binds K d_Desk_take_ask ["self", "stamp"] []
  me_Desk_take_ask : Meth K ad.Desk "take_ask" f_Desk_take_ask
  f_Desk_settle : Addr
  d_Desk_settle : FuncData
  F_Desk_settle : Fun K "settle" "Desk.settle" s_Desk_settle f_Desk_settle d_Desk_settle
  b_Desk_settle : Binds K d_Desk_settle ["self"] []
  me_Desk_settle : Meth K ad.Desk "settle" f_Desk_settle
  f__law_draws : Addr
  d__law_draws : FuncData
  F__law_draws : Fun K "_law_draws" "_law_draws" s__law_draws f__law_draws d__law_draws
  b__law_draws : Binds K d__law_draws ["cell", "tops"] []
  g__law_draws : mg "_law_draws" = some (.ref f__law_draws)
  f__law_same : Addr
  d__law_same : FuncData
  F__law_same : Fun K "_law_same" "_law_same" s__law_same f__law_same d__law_same
  b__law_same : Binds K d__law_same ["found", "due"] []
  g__law_same : mg "_law_same" = some (.ref f__law_same)
  f__law_stamp : Addr
  d__law_stamp : FuncData
  F__law_stamp : Fun K "_law_stamp" "_law_stamp" s__law_stamp f__law_stamp d__law_stamp
  b__law_stamp : Binds K d__law_stamp ["cell"] []
  g__law_stamp : mg "_law_stamp" = some (.ref f__law_stamp)
  f__law_desk : Addr
  d__law_desk : FuncData
  F__law_desk : Fun K "_law_desk" "_law_desk" s__law_desk f__law_desk d__law_desk
  b__law_desk : Binds K d__law_desk ["desk", "holder", "waiting", "called"] []
  g__law_desk : mg "_law_desk" = some (.ref f__law_desk)
  f__law_cells : Addr
  d__law_cells : FuncData
  F__law_cells : Fun K "_law_cells" "_law_cells" s__law_cells f__law_cells d__law_cells
  b__law_cells : Binds K d__law_cells ["script", "start"] []
  g__law_cells : mg "_law_cells" = some (.ref f__law_cells)
  f_law : Addr
  d_law : FuncData
  F_law : Fun K "law" "law" s_law f_law d_law
  b_law : Binds K d_law ["script"] []
  g_law : mg "law" = some (.ref f_law)
  m_bool : mg "bool" = none
  m_isinstance : mg "isinstance" = none
  m_len : mg "len" = none
  m_list : mg "list" = none
  m_range : mg "range" = none
  m_sorted : mg "sorted" = none
  m_sum : mg "sum" = none
  m_tuple : mg "tuple" = none
  g_Desk : mg "Desk" = some (.ref ad.Desk)
  oc : Oc K ad
theorem ok_Desk___init__ {K : PySem.W.Frag} {mg : Str → Option Value} {base : Heap} {ad : Ad} (T : Txt K mg ad) : FnOk ad.P ad.w K mg base CX0 1 T.f_Desk___init__ T.d_Desk___init__ ["self"] (sp_Desk___init__ K ad) := by
  refine T.F_Desk___init__.ok sc_Desk___init__ (fun vs H Q E h => ?_) (fun cdv A outer s H vs Q E hr h => ⟨t_Desk___init__ K ad, ?_, ?_⟩)
  · obtain ⟨x0, rfl, _⟩ := n_Desk___init__ h
    rfl
  · exact (pss_cons (ps_fld (pv 0) pe_non rfl)
    (pss_cons (ps_fld (pv 0) (pe_tup pa_nil) rfl)
    (pss_one (ps_fld (pv 0) pe_bl rfl))))
  · obtain ⟨x0, rfl, h⟩ := n_Desk___init__ h
    exact w_Desk___init__ T.oc h
theorem ok_Desk___len__ {K : PySem.W.Frag} {mg : Str → Option Value} {base : Heap} {ad : Ad} (T : Txt K mg ad) : FnOk ad.P ad.w K mg base CX0 1 T.f_Desk___len__ T.d_Desk___len__ ["self"] (sp_Desk___len__ K ad) := by
  refine T.F_Desk___len__.ok sc_Desk___len__ (fun vs H Q E h => ?_) (fun cdv A outer s H vs Q E hr h => ⟨t_Desk___len__ K ad, ?_, ?_⟩)
  · obtain ⟨x0, rfl, _⟩ := n_Desk___len__ h
    rfl
  · exact (pss_one (ps_ret (pe_callB cr_zLen (by rfl) T.m_len (by decide +kernel) (pa_cons (pe_fld (pv 0) rfl) pa_nil))))
  · obtain ⟨x0, rfl, h⟩ := n_Desk___len__ h
    exact w_Desk___len__ T.oc h
theorem ok_Desk_settle {K : PySem.W.Frag} {mg : Str → Option Value} {base : Heap} {ad : Ad} (T : Txt K mg ad) : FnOk ad.P ad.w K mg base CX0 1 T.f_Desk_settle T.d_Desk_settle ["self"] (sp_Desk_settle K ad) := by
  refine T.F_Desk_settle.ok sc_Desk_settle (fun vs H Q E h => ?_) (fun cdv A outer s H vs Q E hr h => ⟨t_Desk_settle K ad, ?_, ?_⟩)
  · obtain ⟨x0, rfl, _⟩ := n_Desk_settle h
    rfl
  · exact (pss_cons (ps_if (pt_cmpR op_zNotN (pe_fld (pv 0) rfl) pe_non (nomark _)) (pss_one (ps_ret (pe_lst pa_nil))) pss_nil)
    (pss_cons (ps_fld (pv 0) pe_bl rfl)
    (pss_cons (ps_if (pt_cmpR (op_zEq hr.units) (pe_fld (pv 0) rfl) (pe_tup pa_nil) (nomark _)) (pss_one (ps_ret (pe_lst pa_nil))) pss_nil)
    (pss_cons (ps_asg (pe_fld (pv 0) rfl) (pg_star rfl (pgs_cons (pg_fld (pv 0)) (pgs_cons (pg_name (i := 1) sc_Desk_settle.nd rfl (Or.inl rfl)) pgs_nil))))
    (pss_cons (ps_fld (pv 0) (pe_callTy cr_zTuple (by rfl) T.m_tuple (by decide +kernel) (pa_cons (pv 1) pa_nil)) rfl)
    (pss_one (ps_ret (pe_lst (pa_cons (pe_tup (pa_cons pe_str (pa_cons (pe_fld (pv 0) rfl) pa_nil))) pa_nil)))))))))
  · obtain ⟨x0, rfl, h⟩ := n_Desk_settle h
    exact w_Desk_settle T.oc h
theorem ok__law_draws {K : PySem.W.Frag} {mg : Str → Option Value} {base : Heap} {ad : Ad} (T : Txt K mg ad) : FnOk ad.P ad.w K mg base CX0 1 T.f__law_draws T.d__law_draws ["cell", "tops"] (sp__law_draws K ad) := by
  refine T.F__law_draws.ok sc__law_draws (fun vs H Q E h => ?_) (fun cdv A outer s H vs Q E hr h => ⟨t__law_draws K ad, ?_, ?_⟩)
  · obtain ⟨x0, x1, rfl, _⟩ := n__law_draws h
    rfl
  · exact (pss_cons (ps_set (i := 2) sc__law_draws.nd rfl (Or.inl rfl) (pe_lst pa_nil))
    (pss_cons (ps_set (i := 3) sc__law_draws.nd rfl (Or.inl rfl) (pe_op op_zSub (pv 0) (pe_op op_powW pe_int pe_int)))
    (pss_cons (ps_for PassesOwn.never rfl (pi_range1 (by rfl) T.m_range (pa_cons (pe_callB cr_zLen (by rfl) T.m_len (by decide +kernel) (pa_cons (pv 1) pa_nil)) pa_nil)) (pg_name (i := 4) sc__law_draws.nd rfl (Or.inl rfl))
    (pss_one (ps_if (pt_cmpR op_zGe (pv 3) pe_int (nomark _)) (pss_cons (ps_expr (pe_bm PySem.F.plainAttrs_list PySem.F.slot_list_append PySem.F.type_list_append mt_append (pv 2) (pa_cons (pe_op op_zMod (pv 3) (pe_ix ix_seq (pv 1) (pv 4) (fun _ _ => rfl))) pa_nil)))
    (pss_one (ps_set (i := 3) sc__law_draws.nd rfl (Or.inl rfl) (pe_op op_zDiv (pv 3) (pe_ix ix_seq (pv 1) (pv 4) (fun _ _ => rfl)))))) (pss_cons (ps_set (i := 5) sc__law_draws.nd rfl (Or.inl rfl) (pe_op op_zMod (pe_op op_powW (pe_op op_zAdd (pv 0) (pe_op op_zMul pe_int (pe_op op_zAdd (pv 4) pe_int))) pe_int) pe_int))
    (pss_cons (ps_set (i := 5) sc__law_draws.nd rfl (Or.inl rfl) (pe_op op_zDiv (pe_op op_zMod (pe_op op_zMul (pv 5) (pe_op op_zAdd (pv 5) pe_int)) pe_int) pe_int))
    (pss_cons (ps_if (pt_cmpR op_zGt (pe_ix ix_seq (pv 1) (pv 4) (fun _ _ => rfl)) (pe_op op_powW pe_int pe_int) (nomark _)) (pss_one (ps_set (i := 5) sc__law_draws.nd rfl (Or.inl rfl) (pe_op op_powW (pv 5) pe_int))) pss_nil)
    (pss_one (ps_expr (pe_bm PySem.F.plainAttrs_list PySem.F.slot_list_append PySem.F.type_list_append mt_append (pv 2) (pa_cons (pe_op op_zMod (pv 5) (pe_ix ix_seq (pv 1) (pv 4) (fun _ _ => rfl))) pa_nil))))))))))
    (pss_one (ps_ret (pv 2))))))
  · obtain ⟨x0, x1, rfl, h⟩ := n__law_draws h
    exact w__law_draws h
theorem ok__law_cells {K : PySem.W.Frag} {mg : Str → Option Value} {base : Heap} {ad : Ad} (T : Txt K mg ad) : FnOk ad.P ad.w K mg base CX0 1 T.f__law_cells T.d__law_cells ["script", "start"] (sp__law_cells K ad) := by
  refine T.F__law_cells.ok sc__law_cells (fun vs H Q E h => ?_) (fun cdv A outer s H vs Q E hr h => ⟨t__law_cells K ad, ?_, ?_⟩)
  · obtain ⟨x0, x1, rfl, _⟩ := n__law_cells h
    rfl
  · exact (pss_cons (ps_set (i := 2) sc__law_cells.nd rfl (Or.inl rfl) (pe_callTy cr_zList (by rfl) T.m_list (by decide +kernel) (pa_cons (pe_slice sl_z (pv 0) (po_some (pv 1)) (po_some pe_int)) pa_nil)))
    (pss_cons (ps_for PassesOwn.never rfl (pi_range2 (by rfl) T.m_range (pa_cons (pe_callB cr_zLen (by rfl) T.m_len (by decide +kernel) (pa_cons (pv 2) pa_nil)) (pa_cons pe_int pa_nil))) (pg_name (i := 3) sc__law_cells.nd rfl (Or.inl rfl))
    (pss_one (ps_expr (pe_bm PySem.F.plainAttrs_list PySem.F.slot_list_append PySem.F.type_list_append mt_append (pv 2) (pa_cons (pe_op op_zAdd (pe_op op_zMul (pe_op op_zMod (pe_callB (cr_sum rfl) (by rfl) T.m_sum (by decide +kernel) (pa_cons (pe_slice sl_z (pv 0) po_none (po_some pe_int)) pa_nil)) pe_int) pe_int) (pe_op op_zMul pe_int (pe_op op_zAdd (pv 3) pe_int))) pa_nil)))))
    (pss_one (ps_ret (pv 2)))))
  · obtain ⟨x0, x1, rfl, h⟩ := n__law_cells h
    exact w__law_cells h
theorem ok_Desk_take_ask {K : PySem.W.Frag} {mg : Str → Option Value} {base : Heap} {ad : Ad} (T : Txt K mg ad) : FnOk ad.P ad.w K mg base CX0 2 T.f_Desk_take_ask T.d_Desk_take_ask ["self", "stamp"] (sp_Desk_take_ask K ad) := by
  refine T.F_Desk_take_ask.ok sc_Desk_take_ask (fun vs H Q E h => ?_) (fun cdv A outer s H vs Q E hr h => ⟨t_Desk_take_ask K ad, ?_, ?_⟩)
  · obtain ⟨x0, x1, rfl, _⟩ := n_Desk_take_ask h
    rfl
  · exact (pss_cons (ps_fld (pv 0) (pe_callTy cr_zTuple (by rfl) T.m_tuple (by decide +kernel) (pa_cons (pe_callB cr_sortedTT (by rfl) T.m_sorted (by decide +kernel) (pa_cons (pe_op op_zAdd (pe_fld (pv 0) rfl) (pe_tup (pa_cons (pv 1) pa_nil))) pa_nil)) pa_nil)) rfl)
    (pss_cons (ps_if (PW.pt (pw_and (pt_cmpR op_zNotN (pe_fld (pv 0) rfl) pe_non (nomark _)) (pw_and (pt_cmpR (op_zLt hr.units0) (pv 1) (pe_fld (pv 0) rfl) (nomark _)) (pw_and1 (pt_not (pt_truth (pe_fld (pv 0) rfl) (by intro _; rfl))))))) (pss_cons (ps_fld (pv 0) pe_bl rfl)
    (pss_one (ps_ret (pe_lst (pa_cons (pe_tup (pa_cons pe_str (pa_cons (pe_fld (pv 0) rfl) pa_nil))) pa_nil))))) pss_nil)
    (pss_one (ps_ret (pe_meth0 (pv 0) T.oc.cl_Desk T.me_Desk_settle (ok_Desk_settle T) hr T.b_Desk_settle .nil pass0)))))
  · obtain ⟨x0, x1, rfl, h⟩ := n_Desk_take_ask h
    exact w_Desk_take_ask T.oc h
theorem ok__law_stamp {K : PySem.W.Frag} {mg : Str → Option Value} {base : Heap} {ad : Ad} (T : Txt K mg ad) : FnOk ad.P ad.w K mg base CX0 2 T.f__law_stamp T.d__law_stamp ["cell"] (sp__law_stamp K ad) := by
  refine T.F__law_stamp.ok sc__law_stamp (fun vs H Q E h => ?_) (fun cdv A outer s H vs Q E hr h => ⟨t__law_stamp K ad, ?_, ?_⟩)
  · obtain ⟨x0, rfl, _⟩ := n__law_stamp h
    rfl
  · exact (pss_cons (ps_asg (pe_call (ok__law_draws T) hr (by rfl) T.g__law_draws T.F__law_draws.kp T.b__law_draws .nil pass0 (pa_cons (pv 0) (pa_cons (pe_lst (pa_cons pe_int (pa_cons pe_int (pa_cons (pe_op op_zPow pe_int pe_int) (pa_cons pe_int (pa_cons (pe_op op_zPow pe_int pe_int) pa_nil)))))) pa_nil))) (pg_lst rfl (pgs_cons (pg_name (i := 1) sc__law_stamp.nd rfl (Or.inl rfl)) (pgs_cons (pg_name (i := 2) sc__law_stamp.nd rfl (Or.inl rfl)) (pgs_cons (pg_name (i := 3) sc__law_stamp.nd rfl (Or.inl rfl)) (pgs_cons (pg_name (i := 4) sc__law_stamp.nd rfl (Or.inl rfl)) (pgs_cons (pg_name (i := 5) sc__law_stamp.nd rfl (Or.inl rfl)) pgs_nil)))))))
    (pss_cons (ps_if (pt_cmpR (op_zLt hr.units0) (pv 1) pe_int (nomark _)) (pss_one (ps_ret (pe_tup (pa_cons (pv 2) (pa_cons (pe_op op_zMod (pv 4) pe_int) (pa_cons (pe_op op_zMod (pv 5) pe_int) pa_nil)))))) pss_nil)
    (pss_cons (ps_if (pt_cmpR (op_zEq hr.units) (pv 1) pe_int (nomark _)) (pss_one (ps_ret (pe_tup (pa_cons (pe_op op_zAdd (pe_op op_zPow pe_int pe_int) (pv 2)) (pa_cons (pv 4) (pa_cons (pe_op op_zMod (pv 5) pe_int) pa_nil)))))) pss_nil)
    (pss_one (ps_ret (pe_tup (pa_cons (pv 3) (pa_cons (pv 4) (pa_cons (pv 5) pa_nil)))))))))
  · obtain ⟨x0, rfl, h⟩ := n__law_stamp h
    exact w__law_stamp h
theorem ok__law_same {K : PySem.W.Frag} {mg : Str → Option Value} {base : Heap} {ad : Ad} (T : Txt K mg ad) : ∀ d : Nat, FnOk ad.P ad.w K mg base CX0 (1 + d) T.f__law_same T.d__law_same ["found", "due"] (sp__law_same K ad d)
  | 0 => T.F__law_same.ok sc__law_same (fun vs H Q E h => h.elim) (fun cdv A outer s H vs Q E hr h => h.elim)
  | d + 1 => by
    refine T.F__law_same.ok sc__law_same (fun vs H Q E h => ?_) (fun cdv A outer s H vs Q E hr h => ⟨t__law_same K ad d, ?_, ?_⟩)
    · obtain ⟨x0, x1, rfl, _⟩ := n__law_same h
      rfl
    · exact (pss_cons (ps_if (PW.pt (pw_or (pt_truth (pe_callB call_isi (by rfl) T.m_isinstance (by decide +kernel) (pa_cons (pv 1) (pa_cons (pe_bltn (by rfl) T.m_tuple (by decide +kernel) rfl) pa_nil))) (by intro _; rfl)) (pw_or1 (pt_truth (pe_callB call_isi (by rfl) T.m_isinstance (by decide +kernel) (pa_cons (pv 1) (pa_cons (pe_bltn (by rfl) T.m_list (by decide +kernel) rfl) pa_nil))) (by intro _; rfl))))) (pss_cons (ps_if (PW.pt (pw_or (pt_cmpR (op_zNe hr.units) (pe_callB call_isi (by rfl) T.m_isinstance (by decide +kernel) (pa_cons (pv 0) (pa_cons (pe_bltn (by rfl) T.m_tuple (by decide +kernel) rfl) pa_nil))) (pe_callB call_isi (by rfl) T.m_isinstance (by decide +kernel) (pa_cons (pv 1) (pa_cons (pe_bltn (by rfl) T.m_tuple (by decide +kernel) rfl) pa_nil))) (nomark _)) (pw_or1 (pt_cmpR (op_zNe hr.units) (pe_callB call_isi (by rfl) T.m_isinstance (by decide +kernel) (pa_cons (pv 0) (pa_cons (pe_bltn (by rfl) T.m_list (by decide +kernel) rfl) pa_nil))) (pe_callB call_isi (by rfl) T.m_isinstance (by decide +kernel) (pa_cons (pv 1) (pa_cons (pe_bltn (by rfl) T.m_list (by decide +kernel) rfl) pa_nil))) (nomark _))))) (pss_one (ps_ret pe_bl)) pss_nil)
    (pss_cons (ps_if (pt_cmpR (op_zNe hr.units) (pe_callB cr_zLen (by rfl) T.m_len (by decide +kernel) (pa_cons (pv 0) pa_nil)) (pe_callB cr_zLen (by rfl) T.m_len (by decide +kernel) (pa_cons (pv 1) pa_nil)) (nomark _)) (pss_one (ps_ret pe_bl)) pss_nil)
    (pss_cons (ps_for PassesOwn.never rfl (pi_range1 (by rfl) T.m_range (pa_cons (pe_callB cr_zLen (by rfl) T.m_len (by decide +kernel) (pa_cons (pv 1) pa_nil)) pa_nil)) (pg_name (i := 2) sc__law_same.nd rfl (Or.inl rfl))
    (pss_one (ps_if (pt_not (pt_truth (pe_call (ok__law_same T d) hr (by rfl) T.g__law_same T.F__law_same.kp T.b__law_same .nil pass0 (pa_cons (pe_ix ix_seq (pv 0) (pv 2) (fun _ _ => rfl)) (pa_cons (pe_ix ix_seq (pv 1) (pv 2) (fun _ _ => rfl)) pa_nil))) (by intro _; rfl))) (pss_one (ps_ret pe_bl)) pss_nil)))
    (pss_one (ps_ret pe_bl))))) pss_nil)
    (pss_one (ps_ret (pe_and (pe_cmpR (op_zEq hr.units) (pe_callB call_isi (by rfl) T.m_isinstance (by decide +kernel) (pa_cons (pv 0) (pa_cons (pe_bltn (by rfl) T.m_bool (by decide +kernel) rfl) pa_nil))) (pe_callB call_isi (by rfl) T.m_isinstance (by decide +kernel) (pa_cons (pv 1) (pa_cons (pe_bltn (by rfl) T.m_bool (by decide +kernel) rfl) pa_nil))) (nomark _)) (pe_one (pe_cmpR (op_zEq hr.units) (pv 0) (pv 1) (nomark _)))))))
    · obtain ⟨x0, x1, rfl, h⟩ := n__law_same h
      exact w__law_same h
theorem ok__law_desk {K : PySem.W.Frag} {mg : Str → Option Value} {base : Heap} {ad : Ad} (T : Txt K mg ad) : FnOk ad.P ad.w K mg base CX0 6 T.f__law_desk T.d__law_desk ["desk", "holder", "waiting", "called"] (sp__law_desk K ad) := by
  refine T.F__law_desk.ok sc__law_desk (fun vs H Q E h => ?_) (fun cdv A outer s H vs Q E hr h => ⟨t__law_desk K ad, ?_, ?_⟩)
  · obtain ⟨x0, x1, x2, x3, rfl, _⟩ := n__law_desk h
    rfl
  · exact (pss_cons (ps_if (PW.pt (pw_or (pt_not (pt_truth (pe_call (ok__law_same T 4) hr (by rfl) T.g__law_same T.F__law_same.kp T.b__law_same .nil pass0 (pa_cons (pe_fld (pv 0) rfl) (pa_cons (pv 1) pa_nil))) (by intro _; rfl))) (pw_or1 (pt_not (pt_truth (pe_call (ok__law_same T 4) hr (by rfl) T.g__law_same T.F__law_same.kp T.b__law_same .nil pass0 (pa_cons (pe_fld (pv 0) rfl) (pa_cons (pv 3) pa_nil))) (by intro _; rfl)))))) (pss_one (ps_ret pe_bl)) pss_nil)
    (pss_one (ps_ret (pe_and (pe_callB call_isi (by rfl) T.m_isinstance (by decide +kernel) (pa_cons (pe_fld (pv 0) rfl) (pa_cons (pe_bltn (by rfl) T.m_tuple (by decide +kernel) rfl) pa_nil))) (pe_and (pe_cmpR (op_zEq hr.units) (pe_fld (pv 0) rfl) (pe_callTy cr_zTuple (by rfl) T.m_tuple (by decide +kernel) (pa_cons (pv 2) pa_nil)) (nomark _)) (pe_one (pe_cmpR (op_zEq hr.units) (pe_callB (cr_lenO (ok_Desk___len__ T) (hr.mono (by decide)) T.b_Desk___len__ T.me_Desk___len__) (by rfl) T.m_len (by decide +kernel) (pa_cons (pv 0) pa_nil)) (pe_callB cr_zLen (by rfl) T.m_len (by decide +kernel) (pa_cons (pv 2) pa_nil)) (nomark _))))))))
  · obtain ⟨x0, x1, x2, x3, rfl, h⟩ := n__law_desk h
    exact w__law_desk T.oc h
theorem ok_law {K : PySem.W.Frag} {mg : Str → Option Value} {base : Heap} {ad : Ad} (T : Txt K mg ad) : FnOk ad.P ad.w K mg base CX0 7 T.f_law T.d_law ["script"] (sp_law K ad) := by
  refine T.F_law.ok sc_law (fun vs H Q E h => ?_) (fun cdv A outer s H vs Q E hr h => ⟨t_law K ad, ?_, ?_⟩)
  · obtain ⟨x0, rfl, _⟩ := n_law h
    rfl
  · exact (pss_cons (ps_set (i := 1) sc_law.nd rfl (Or.inl rfl) (pe_make0 T.mk_Desk (ok_Desk___init__ T) (hr.mono (by decide)) (by rfl) T.g_Desk T.b_Desk___init__ .nil pass0))
    (pss_cons (ps_set (i := 2) sc_law.nd rfl (Or.inl rfl) pe_non)
    (pss_cons (ps_set (i := 3) sc_law.nd rfl (Or.inl rfl) (pe_lst pa_nil))
    (pss_cons (ps_set (i := 4) sc_law.nd rfl (Or.inl rfl) pe_bl)
    (pss_cons (ps_if (pt_not (pt_truth (pe_call (ok__law_desk T) hr (by rfl) T.g__law_desk T.F__law_desk.kp T.b__law_desk .nil pass0 (pa_cons (pv 1) (pa_cons (pv 2) (pa_cons (pv 3) (pa_cons (pv 4) pa_nil))))) (by intro _; rfl))) (pss_one (ps_ret pe_bl)) pss_nil)
    (pss_cons (ps_for PassesOwn.never rfl (pi_list (pe_call (ok__law_cells T) (hr.mono (by decide)) (by rfl) T.g__law_cells T.F__law_cells.kp T.b__law_cells .nil pass0 (pa_cons (pv 0) (pa_cons pe_int pa_nil)))) (pg_name (i := 5) sc_law.nd rfl (Or.inl rfl))
    (pss_cons (ps_set (i := 6) sc_law.nd rfl (Or.inl rfl) (pe_call (ok__law_stamp T) (hr.mono (by decide)) (by rfl) T.g__law_stamp T.F__law_stamp.kp T.b__law_stamp .nil pass0 (pa_cons (pv 5) pa_nil)))
    (pss_one (ps_if (PW.pt (pw_and (pt_cmpR (op_zNe hr.units) (pv 6) (pv 2) (nomark _)) (pw_and1 (pt_cmpR (op_zNotIn hr.units65) (pv 6) (pv 3) (by rfl))))) (pss_cons (ps_set (i := 7) sc_law.nd rfl (Or.inl rfl) (pe_lst pa_nil))
    (pss_cons (ps_if (pt_cmpR op_zIsN (pv 2) pe_non (nomark _)) (pss_cons (ps_set (i := 2) sc_law.nd rfl (Or.inl rfl) (pv 6))
    (pss_one (ps_set (i := 7) sc_law.nd rfl (Or.inl rfl) (pe_lst (pa_cons (pe_tup (pa_cons pe_str (pa_cons (pv 6) pa_nil))) pa_nil))))) (pss_cons (ps_set (i := 3) sc_law.nd rfl (Or.inl rfl) (pe_callB cr_sortedTI (by rfl) T.m_sorted (by decide +kernel) (pa_cons (pe_op op_zAdd (pv 3) (pe_lst (pa_cons (pv 6) pa_nil))) pa_nil)))
    (pss_one (ps_if (PW.pt (pw_and (pt_cmpR (op_zLt hr.units0) (pv 6) (pv 2) (nomark _)) (pw_and1 (pt_not (pt_truth (pv 4) (by intro _; rfl)))))) (pss_cons (ps_set (i := 4) sc_law.nd rfl (Or.inl rfl) pe_bl)
    (pss_one (ps_set (i := 7) sc_law.nd rfl (Or.inl rfl) (pe_lst (pa_cons (pe_tup (pa_cons pe_str (pa_cons (pv 2) pa_nil))) pa_nil))))) pss_nil))))
    (pss_one (ps_if (PW.pt (pw_or (pt_not (pt_truth (pe_call (ok__law_same T 4) (hr.mono (by decide)) (by rfl) T.g__law_same T.F__law_same.kp T.b__law_same .nil pass0 (pa_cons (pe_meth (pv 1) T.oc.cl_Desk T.me_Desk_take_ask (ok_Desk_take_ask T) (hr.mono (by decide)) T.b_Desk_take_ask .nil pass0 (pa_cons (pv 6) pa_nil)) (pa_cons (pv 7) pa_nil))) (by intro _; rfl))) (pw_or1 (pt_not (pt_truth (pe_call (ok__law_desk T) hr (by rfl) T.g__law_desk T.F__law_desk.kp T.b__law_desk .nil pass0 (pa_cons (pv 1) (pa_cons (pv 2) (pa_cons (pv 3) (pa_cons (pv 4) pa_nil))))) (by intro _; rfl)))))) (pss_one (ps_ret pe_bl)) pss_nil)))) pss_nil))))
    (pss_one (ps_ret pe_bl))))))))
  · obtain ⟨x0, rfl, h⟩ := n_law h
    exact w_law T.oc h
theorem all_mk {l : PySem.W.OpenLaw} {w : World} {K : PySem.W.Frag} {h : Heap} {mg : Str → Option Value} {fa : Addr} (X : K.In h) (G : h.Ns mainGlobals mg) (hfa : mg "law" = some (.ref fa))
    {A_Desk : Addr}
    (a_Desk : PySem.W.nsIn K mainGlobals "Desk" = some (some (.ref A_Desk)))
    (pg_Desk : PySem.W.plainGet K A_Desk Str.empty = true)
    (hd_Desk : PySem.W.hasDictIn K A_Desk = true)
    (po_Desk : PySem.W.plainOver K A_Desk = true)
    (sa_Desk : PySem.W.findIn K (.ref A_Desk) "__setattr__" = some (some (.builtin "object.__setattr__")))
    (mk_Desk : PySem.W.makesIn K A_Desk = true)
    (kc_Desk : PySem.W.keepIn K (.ref A_Desk) = true)
    (n_Desk_holder : PySem.W.findIn K (.ref A_Desk) "holder" = some none)
    (n_Desk_queue : PySem.W.findIn K (.ref A_Desk) "queue" = some none)
    (n_Desk_called : PySem.W.findIn K (.ref A_Desk) "called" = some none)
    {f_Desk___init__ : Addr} {oc_Desk___init__ kV_Desk___init__ dc_Desk___init__ pm_Desk___init__ cd_Desk___init__ ct_Desk___init__ : Value} {od_Desk___init__ an_Desk___init__ : Option Addr} {sl_Desk___init__ : Array (Option Value)}
    (a_Desk___init__ : PySem.W.findIn K (.ref A_Desk) "__init__" = some (some (.ref f_Desk___init__)))
    (i_Desk___init__ : PySem.W.isFn K (.ref f_Desk___init__) = true)
    (l_Desk___init__ : K.lookup f_Desk___init__ = some ⟨oc_Desk___init__, od_Desk___init__, .func (PySem.W.fnOf "__init__" "Desk.__init__" (defArgs s_Desk___init__) (defBody s_Desk___init__) (defScope s_Desk___init__) .none kV_Desk___init__ dc_Desk___init__ pm_Desk___init__ an_Desk___init__ cd_Desk___init__ ct_Desk___init__), sl_Desk___init__⟩) (c_Desk___init__ : PySem.W.codeIn K cd_Desk___init__ "Desk.__init__" = true) (k_Desk___init__ : PySem.W.keepIn K (.ref f_Desk___init__) = true)
    {f_Desk___len__ : Addr} {oc_Desk___len__ kV_Desk___len__ dc_Desk___len__ pm_Desk___len__ cd_Desk___len__ ct_Desk___len__ : Value} {od_Desk___len__ an_Desk___len__ : Option Addr} {sl_Desk___len__ : Array (Option Value)}
    (a_Desk___len__ : PySem.W.findIn K (.ref A_Desk) "__len__" = some (some (.ref f_Desk___len__)))
    (i_Desk___len__ : PySem.W.isFn K (.ref f_Desk___len__) = true)
    (l_Desk___len__ : K.lookup f_Desk___len__ = some ⟨oc_Desk___len__, od_Desk___len__, .func (PySem.W.fnOf "__len__" "Desk.__len__" (defArgs s_Desk___len__) (defBody s_Desk___len__) (defScope s_Desk___len__) .none kV_Desk___len__ dc_Desk___len__ pm_Desk___len__ an_Desk___len__ cd_Desk___len__ ct_Desk___len__), sl_Desk___len__⟩) (c_Desk___len__ : PySem.W.codeIn K cd_Desk___len__ "Desk.__len__" = true) (k_Desk___len__ : PySem.W.keepIn K (.ref f_Desk___len__) = true)
    {f_Desk_take_ask : Addr} {oc_Desk_take_ask kV_Desk_take_ask dc_Desk_take_ask pm_Desk_take_ask cd_Desk_take_ask ct_Desk_take_ask : Value} {od_Desk_take_ask an_Desk_take_ask : Option Addr} {sl_Desk_take_ask : Array (Option Value)}
    (a_Desk_take_ask : PySem.W.findIn K (.ref A_Desk) "take_ask" = some (some (.ref f_Desk_take_ask)))
    (i_Desk_take_ask : PySem.W.isFn K (.ref f_Desk_take_ask) = true)
    (l_Desk_take_ask : K.lookup f_Desk_take_ask = some ⟨oc_Desk_take_ask, od_Desk_take_ask, .func (PySem.W.fnOf "take_ask" "Desk.take_ask" (defArgs s_Desk_take_ask) (defBody s_Desk_take_ask) (defScope s_Desk_take_ask) .none kV_Desk_take_ask dc_Desk_take_ask pm_Desk_take_ask an_Desk_take_ask cd_Desk_take_ask ct_Desk_take_ask), sl_Desk_take_ask⟩) (c_Desk_take_ask : PySem.W.codeIn K cd_Desk_take_ask "Desk.take_ask" = true) (k_Desk_take_ask : PySem.W.keepIn K (.ref f_Desk_take_ask) = true)
    {f_Desk_settle : Addr} {oc_Desk_settle kV_Desk_settle dc_Desk_settle pm_Desk_settle cd_Desk_settle ct_Desk_settle : Value} {od_Desk_settle an_Desk_settle : Option Addr} {sl_Desk_settle : Array (Option Value)}
    (a_Desk_settle : PySem.W.findIn K (.ref A_Desk) "settle" = some (some (.ref f_Desk_settle)))
    (i_Desk_settle : PySem.W.isFn K (.ref f_Desk_settle) = true)
    (l_Desk_settle : K.lookup f_Desk_settle = some ⟨oc_Desk_settle, od_Desk_settle, .func (PySem.W.fnOf "settle" "Desk.settle" (defArgs s_Desk_settle) (defBody s_Desk_settle) (defScope s_Desk_settle) .none kV_Desk_settle dc_Desk_settle pm_Desk_settle an_Desk_settle cd_Desk_settle ct_Desk_settle), sl_Desk_settle⟩) (c_Desk_settle : PySem.W.codeIn K cd_Desk_settle "Desk.settle" = true) (k_Desk_settle : PySem.W.keepIn K (.ref f_Desk_settle) = true)
    {f__law_draws : Addr} {oc__law_draws kV__law_draws dc__law_draws pm__law_draws cd__law_draws ct__law_draws : Value} {od__law_draws an__law_draws : Option Addr} {sl__law_draws : Array (Option Value)}
    (a__law_draws : PySem.W.nsIn K mainGlobals "_law_draws" = some (some (.ref f__law_draws)))
    (l__law_draws : K.lookup f__law_draws = some ⟨oc__law_draws, od__law_draws, .func (PySem.W.fnOf "_law_draws" "_law_draws" (defArgs s__law_draws) (defBody s__law_draws) (defScope s__law_draws) .none kV__law_draws dc__law_draws pm__law_draws an__law_draws cd__law_draws ct__law_draws), sl__law_draws⟩) (c__law_draws : PySem.W.codeIn K cd__law_draws "_law_draws" = true) (k__law_draws : PySem.W.keepIn K (.ref f__law_draws) = true)
    {f__law_same : Addr} {oc__law_same kV__law_same dc__law_same pm__law_same cd__law_same ct__law_same : Value} {od__law_same an__law_same : Option Addr} {sl__law_same : Array (Option Value)}
    (a__law_same : PySem.W.nsIn K mainGlobals "_law_same" = some (some (.ref f__law_same)))
    (l__law_same : K.lookup f__law_same = some ⟨oc__law_same, od__law_same, .func (PySem.W.fnOf "_law_same" "_law_same" (defArgs s__law_same) (defBody s__law_same) (defScope s__law_same) .none kV__law_same dc__law_same pm__law_same an__law_same cd__law_same ct__law_same), sl__law_same⟩) (c__law_same : PySem.W.codeIn K cd__law_same "_law_same" = true) (k__law_same : PySem.W.keepIn K (.ref f__law_same) = true)
    {f__law_stamp : Addr} {oc__law_stamp kV__law_stamp dc__law_stamp pm__law_stamp cd__law_stamp ct__law_stamp : Value} {od__law_stamp an__law_stamp : Option Addr} {sl__law_stamp : Array (Option Value)}
    (a__law_stamp : PySem.W.nsIn K mainGlobals "_law_stamp" = some (some (.ref f__law_stamp)))
    (l__law_stamp : K.lookup f__law_stamp = some ⟨oc__law_stamp, od__law_stamp, .func (PySem.W.fnOf "_law_stamp" "_law_stamp" (defArgs s__law_stamp) (defBody s__law_stamp) (defScope s__law_stamp) .none kV__law_stamp dc__law_stamp pm__law_stamp an__law_stamp cd__law_stamp ct__law_stamp), sl__law_stamp⟩) (c__law_stamp : PySem.W.codeIn K cd__law_stamp "_law_stamp" = true) (k__law_stamp : PySem.W.keepIn K (.ref f__law_stamp) = true)
    {f__law_desk : Addr} {oc__law_desk kV__law_desk dc__law_desk pm__law_desk cd__law_desk ct__law_desk : Value} {od__law_desk an__law_desk : Option Addr} {sl__law_desk : Array (Option Value)}
    (a__law_desk : PySem.W.nsIn K mainGlobals "_law_desk" = some (some (.ref f__law_desk)))
    (l__law_desk : K.lookup f__law_desk = some ⟨oc__law_desk, od__law_desk, .func (PySem.W.fnOf "_law_desk" "_law_desk" (defArgs s__law_desk) (defBody s__law_desk) (defScope s__law_desk) .none kV__law_desk dc__law_desk pm__law_desk an__law_desk cd__law_desk ct__law_desk), sl__law_desk⟩) (c__law_desk : PySem.W.codeIn K cd__law_desk "_law_desk" = true) (k__law_desk : PySem.W.keepIn K (.ref f__law_desk) = true)
    {f__law_cells : Addr} {oc__law_cells kV__law_cells dc__law_cells pm__law_cells cd__law_cells ct__law_cells : Value} {od__law_cells an__law_cells : Option Addr} {sl__law_cells : Array (Option Value)}
    (a__law_cells : PySem.W.nsIn K mainGlobals "_law_cells" = some (some (.ref f__law_cells)))
    (l__law_cells : K.lookup f__law_cells = some ⟨oc__law_cells, od__law_cells, .func (PySem.W.fnOf "_law_cells" "_law_cells" (defArgs s__law_cells) (defBody s__law_cells) (defScope s__law_cells) .none kV__law_cells dc__law_cells pm__law_cells an__law_cells cd__law_cells ct__law_cells), sl__law_cells⟩) (c__law_cells : PySem.W.codeIn K cd__law_cells "_law_cells" = true) (k__law_cells : PySem.W.keepIn K (.ref f__law_cells) = true)
    {f_law : Addr} {oc_law kV_law dc_law pm_law cd_law ct_law : Value} {od_law an_law : Option Addr} {sl_law : Array (Option Value)}
    (a_law : PySem.W.nsIn K mainGlobals "law" = some (some (.ref f_law)))
    (l_law : K.lookup f_law = some ⟨oc_law, od_law, .func (PySem.W.fnOf "law" "law" (defArgs s_law) (defBody s_law) (defScope s_law) .none kV_law dc_law pm_law an_law cd_law ct_law), sl_law⟩) (c_law : PySem.W.codeIn K cd_law "law" = true) (k_law : PySem.W.keepIn K (.ref f_law) = true)
    (z_bool : PySem.W.nsIn K mainGlobals "bool" = some none)
    (z_isinstance : PySem.W.nsIn K mainGlobals "isinstance" = some none)
    (z_len : PySem.W.nsIn K mainGlobals "len" = some none)
    (z_list : PySem.W.nsIn K mainGlobals "list" = some none)
    (z_range : PySem.W.nsIn K mainGlobals "range" = some none)
    (z_sorted : PySem.W.nsIn K mainGlobals "sorted" = some none)
    (z_sum : PySem.W.nsIn K mainGlobals "sum" = some none)
    (z_tuple : PySem.W.nsIn K mainGlobals "tuple" = some none) :
    ∃ fd : FuncData, (∀ (s : Shared) (v : Value), BindsTo s fd ⟨[v], []⟩ [("script", v)]) ∧ ∀ base : Heap, K.In base → base.Ns mainGlobals mg → FnOk l.prog w K mg base CX0 7 fa fd ["script"] (spLawB K) := by
  have e := hfa.symm.trans (PySem.W.mg_of X G a_law)
  cases e
  let ad : Ad := { P := l.prog, w := w, Desk := A_Desk }
  let T : Txt K mg ad := {
    f_Desk___init__ := f_Desk___init__,
    d_Desk___init__ := _,
    F_Desk___init__ := fun_mk (st := s_Desk___init__) l_Desk___init__ c_Desk___init__ k_Desk___init__,
    b_Desk___init__ := (fun_mk (st := s_Desk___init__) l_Desk___init__ c_Desk___init__ k_Desk___init__).binds (ps := ["self"]) fun _ _ _ _ _ _ us hl => match us, hl with | [_], _ => rfl,
    mk_Desk := ⟨mk_Desk, a_Desk___init__, i_Desk___init__, kc_Desk⟩,
    f_Desk___len__ := f_Desk___len__,
    d_Desk___len__ := _,
    F_Desk___len__ := fun_mk (st := s_Desk___len__) l_Desk___len__ c_Desk___len__ k_Desk___len__,
    b_Desk___len__ := (fun_mk (st := s_Desk___len__) l_Desk___len__ c_Desk___len__ k_Desk___len__).binds (ps := ["self"]) fun _ _ _ _ _ _ us hl => match us, hl with | [_], _ => rfl,
    me_Desk___len__ := ⟨a_Desk___len__, i_Desk___len__, k_Desk___len__⟩,
    f_Desk_take_ask := f_Desk_take_ask,
    d_Desk_take_ask := _,
    F_Desk_take_ask := fun_mk (st := s_Desk_take_ask) l_Desk_take_ask c_Desk_take_ask k_Desk_take_ask,
    b_Desk_take_ask := (fun_mk (st := s_Desk_take_ask) l_Desk_take_ask c_Desk_take_ask k_Desk_take_ask).binds (ps := ["self", "stamp"]) fun _ _ _ _ _ _ us hl => match us, hl with | [_, _], _ => rfl,
    me_Desk_take_ask := ⟨a_Desk_take_ask, i_Desk_take_ask, k_Desk_take_ask⟩,
    f_Desk_settle := f_Desk_settle,
    d_Desk_settle := _,
    F_Desk_settle := fun_mk (st := s_Desk_settle) l_Desk_settle c_Desk_settle k_Desk_settle,
    b_Desk_settle := (fun_mk (st := s_Desk_settle) l_Desk_settle c_Desk_settle k_Desk_settle).binds (ps := ["self"]) fun _ _ _ _ _ _ us hl => match us, hl with | [_], _ => rfl,
    me_Desk_settle := ⟨a_Desk_settle, i_Desk_settle, k_Desk_settle⟩,
    f__law_draws := f__law_draws,
    d__law_draws := _,
    F__law_draws := fun_mk (st := s__law_draws) l__law_draws c__law_draws k__law_draws,
    b__law_draws := (fun_mk (st := s__law_draws) l__law_draws c__law_draws k__law_draws).binds (ps := ["cell", "tops"]) fun _ _ _ _ _ _ us hl => match us, hl with | [_, _], _ => rfl,
    g__law_draws := PySem.W.mg_of X G a__law_draws,
    f__law_same := f__law_same,
    d__law_same := _,
    F__law_same := fun_mk (st := s__law_same) l__law_same c__law_same k__law_same,
    b__law_same := (fun_mk (st := s__law_same) l__law_same c__law_same k__law_same).binds (ps := ["found", "due"]) fun _ _ _ _ _ _ us hl => match us, hl with | [_, _], _ => rfl,
    g__law_same := PySem.W.mg_of X G a__law_same,
    f__law_stamp := f__law_stamp,
    d__law_stamp := _,
    F__law_stamp := fun_mk (st := s__law_stamp) l__law_stamp c__law_stamp k__law_stamp,
    b__law_stamp := (fun_mk (st := s__law_stamp) l__law_stamp c__law_stamp k__law_stamp).binds (ps := ["cell"]) fun _ _ _ _ _ _ us hl => match us, hl with | [_], _ => rfl,
    g__law_stamp := PySem.W.mg_of X G a__law_stamp,
    f__law_desk := f__law_desk,
    d__law_desk := _,
    F__law_desk := fun_mk (st := s__law_desk) l__law_desk c__law_desk k__law_desk,
    b__law_desk := (fun_mk (st := s__law_desk) l__law_desk c__law_desk k__law_desk).binds (ps := ["desk", "holder", "waiting", "called"]) fun _ _ _ _ _ _ us hl => match us, hl with | [_, _, _, _], _ => rfl,
    g__law_desk := PySem.W.mg_of X G a__law_desk,
    f__law_cells := f__law_cells,
    d__law_cells := _,
    F__law_cells := fun_mk (st := s__law_cells) l__law_cells c__law_cells k__law_cells,
    b__law_cells := (fun_mk (st := s__law_cells) l__law_cells c__law_cells k__law_cells).binds (ps := ["script", "start"]) fun _ _ _ _ _ _ us hl => match us, hl with | [_, _], _ => rfl,
    g__law_cells := PySem.W.mg_of X G a__law_cells,
    f_law := fa,
    d_law := _,
    F_law := fun_mk (st := s_law) l_law c_law k_law,
    b_law := (fun_mk (st := s_law) l_law c_law k_law).binds (ps := ["script"]) fun _ _ _ _ _ _ us hl => match us, hl with | [_], _ => rfl,
    g_law := PySem.W.mg_of X G a_law,
    m_bool := PySem.W.mg_none_of X G z_bool,
    m_isinstance := PySem.W.mg_none_of X G z_isinstance,
    m_len := PySem.W.mg_none_of X G z_len,
    m_list := PySem.W.mg_none_of X G z_list,
    m_range := PySem.W.mg_none_of X G z_range,
    m_sorted := PySem.W.mg_none_of X G z_sorted,
    m_sum := PySem.W.mg_none_of X G z_sum,
    m_tuple := PySem.W.mg_none_of X G z_tuple,
    g_Desk := PySem.W.mg_of X G a_Desk,
    oc := { cl_Desk := ⟨pg_Desk, hd_Desk, po_Desk, sa_Desk⟩, n_Desk_holder := n_Desk_holder, n_Desk_queue := n_Desk_queue, n_Desk_called := n_Desk_called } }
  exact ⟨PySem.W.fnOf "law" "law" (defArgs s_law) (defBody s_law) (defScope s_law) .none kV_law dc_law pm_law an_law cd_law ct_law, fun s v => .of_eq rfl, fun base _ _ => (ok_law (ad := ad) T).imp fun vs H Q E h => spLaw_to ad h⟩
end Y
open PySem PySem.W PyProof.Rows
set_option maxRecDepth 100000 in
set_option maxHeartbeats 0 in
theorem PySem.Challenge.cw_soleseat_k61_votes_asked_for_holds : PySem.Challenge.rw_soleseat_k61_votes_asked_for.Holds := by
  w_on; o_law; k_head; (case hw => w_witness2)
  k_fill
  refine L2.walk_ofB (l := PySem.Challenge.rw_soleseat_k61_votes_asked_for) (n := 63) (k := 7) (x := "script") (CX := fun _ => L2.CX0) (sp := fun w => Z.spLawB _) rfl (by decide) rfl ⟨rfl, by decide, by decide⟩ (fun w h Y => PySem.W.kIn_of Y) ?F (fun _ _ a ns hl hb _ hS => Z.spLawB_in hl hb hS) (fun _ _ _ _ _ h => h)
  case F =>
    intro w mg fa h KX G hmg
    refine' Y.all_mk KX G hmg ?a_Desk ?pg_Desk ?hd_Desk ?po_Desk ?sa_Desk ?mk_Desk ?kc_Desk ?n_Desk_holder ?n_Desk_queue ?n_Desk_called ?a_Desk___init__ ?i_Desk___init__ ?l_Desk___init__ ?c_Desk___init__ ?k_Desk___init__ ?a_Desk___len__ ?i_Desk___len__ ?l_Desk___len__ ?c_Desk___len__ ?k_Desk___len__ ?a_Desk_take_ask ?i_Desk_take_ask ?l_Desk_take_ask ?c_Desk_take_ask ?k_Desk_take_ask ?a_Desk_settle ?i_Desk_settle ?l_Desk_settle ?c_Desk_settle ?k_Desk_settle ?a__law_draws ?l__law_draws ?c__law_draws ?k__law_draws ?a__law_same ?l__law_same ?c__law_same ?k__law_same ?a__law_stamp ?l__law_stamp ?c__law_stamp ?k__law_stamp ?a__law_desk ?l__law_desk ?c__law_desk ?k__law_desk ?a__law_cells ?l__law_cells ?c__law_cells ?k__law_cells ?a_law ?l_law ?c_law ?k_law ?z_bool ?z_isinstance ?z_len ?z_list ?z_range ?z_sorted ?z_sum ?z_tuple
    (case a_Desk => k_is)
    (case pg_Desk => k_is)
    (case hd_Desk => k_is)
    (case po_Desk => k_is)
    (case sa_Desk => k_is)
    (case mk_Desk => k_is)
    (case kc_Desk => k_is)
    (case n_Desk_holder => k_is)
    (case n_Desk_queue => k_is)
    (case n_Desk_called => k_is)
    (case a_Desk___init__ => k_is)
    (case i_Desk___init__ => k_is)
    (case l_Desk___init__ => k_is)
    (case c_Desk___init__ => k_is)
    (case k_Desk___init__ => k_is)
    (case a_Desk___len__ => k_is)
    (case i_Desk___len__ => k_is)
    (case l_Desk___len__ => k_is)
    (case c_Desk___len__ => k_is)
    (case k_Desk___len__ => k_is)
    (case a_Desk_take_ask => k_is)
    (case i_Desk_take_ask => k_is)
    (case l_Desk_take_ask => k_is)
    (case c_Desk_take_ask => k_is)
    (case k_Desk_take_ask => k_is)
    (case a_Desk_settle => k_is)
    (case i_Desk_settle => k_is)
    (case l_Desk_settle => k_is)
    (case c_Desk_settle => k_is)
    (case k_Desk_settle => k_is)
    (case a__law_draws => k_is)
    (case l__law_draws => k_is)
    (case c__law_draws => k_is)
    (case k__law_draws => k_is)
    (case a__law_same => k_is)
    (case l__law_same => k_is)
    (case c__law_same => k_is)
    (case k__law_same => k_is)
    (case a__law_stamp => k_is)
    (case l__law_stamp => k_is)
    (case c__law_stamp => k_is)
    (case k__law_stamp => k_is)
    (case a__law_desk => k_is)
    (case l__law_desk => k_is)
    (case c__law_desk => k_is)
    (case k__law_desk => k_is)
    (case a__law_cells => k_is)
    (case l__law_cells => k_is)
    (case c__law_cells => k_is)
    (case k__law_cells => k_is)
    (case a_law => k_is)
    (case l_law => k_is)
    (case c_law => k_is)
    (case k_law => k_is)
    (case z_bool => k_is)
    (case z_isinstance => k_is)
    (case z_len => k_is)
    (case z_list => k_is)
    (case z_range => k_is)
    (case z_sorted => k_is)
    (case z_sum => k_is)
    (case z_tuple => k_is)

