import PyProof.Rows.All
import Wide.All
import OpenK.AllK
import Wide.FinOn
import HandS.ForMost
import HandS.SetFor
import HandS.Strs
import HandS.Wide
import HandS.WideBits
import HandS.Deep
import HandS.IsInst
import HandS.TupAny
import HandS.Evl
import HandS.Flow
import HandS.More
import HandS.SortInts
import HandS.Style
import HandS.Conv
import HandS.TryOnly
import HandS.SortOrd
import HandS.WordsExc
import HandS.ExcInit
import HandS.ExcField
import HandS.ExcIs
import HandS.TryMany
import HandS.ExcOwn
import HandS.DictComp
import KE.KExcIs
import HandS.Defaults
import HandS.NamedTupSort
import PySem.Challenge.RW_soleseat_k55_families_joined
set_option Elab.async false
set_option linter.all false
set_option maxRecDepth 100000
set_option maxHeartbeats 8000000
/-! Zset: set(list of ints) as a value, and sorted of it. -/
namespace Z
open PySem PySem.Spec PySem.Calls L2
open PyProof.Rows hiding St
def Fresh (H : Hp) (p : Addr) : Prop := H p = none
section
variable {P : Program} {w : World} {A : Around} {E : Value → Shared → Prop} {s : Shared}
abbrev mS (w : World) : Obj := { cls := .type "set", dict := none, data := .set #[] 0 (.fresh 0 0 (!w.params.followText "set-order")) }
abbrev hS1 (w : World) (s : Shared) : Heap := s.heap.push (mS w)
theorem set_of_list {l : Addr} {zs : Array Value} (ns : List Int) {Q : Value → Shared → Prop} (quiet : A.handled = none) (isl : s.heap.IsList l zs) (allI : IntsAre zs.toList ns) (few : ns.length + 1 < scanBound)
    (fin : ∀ (h2 : Heap) (tk c : Nat), SetR w h2 s.heap.objs.size (fun j => decide (j ∈ ns)) c → c ≤ ns.length →
      (∀ b o, s.heap.get? b = some o → h2.get? b = some o) → Q (.ref s.heap.objs.size) { s with heap := h2, toks := tk }) : wpAny (model P w) A (call (.type "set") [.ref l]) Q E s := by
  have hn : zs.size = ns.length := by
    have e := IntsAre.length allI
    rwa [Array.length_toList] at e
  obtain ⟨c, tl, hmro⟩ := F.called_set.mro
  have hmade := F.called_set.made
  have hsub := F.called_set.sub
  refine wpAny_call (codeAny_of_tree ?_)
  show wpAny _ _ (callAny (.type "set") _) _ _ _
  refine wpAny_pure ⟨Code.quiet_builtin _ (by decide +kernel), codeAny_builtin F.entry_type_call ?_⟩
  rw [Around.under_plain (weight_type_call_type "set" [.ref l] []) rfl]
  have a1 := F.called_set.notType
  have a2 := F.called_set.canCreate
  have a3 := F.typeCall_set_1 (.ref l)
  repeat (any_goals (first | assumption | wp_step))
  refine codeAny_mono (code_set_led1 (.ref l) (E := E) (Q₁ := fun ob s1 => ob = .ref s.heap.objs.size ∧ s1 = { s with heap := hS1 w s }) ⟨rfl, rfl⟩) fun r s1 hr => ?_
  cases r with
  | error e => exact hr
  | ok fl => cases fl with
    | ret ob =>
      obtain ⟨rfl, rfl⟩ := hr
      have g0 : (hS1 w s).get? s.heap.objs.size = some (mS w) := Heap.get?_push_size _ rfl
      have g1 : Shared.TypeIs { s with heap := hS1 w s } (.ref s.heap.objs.size) "set" := ⟨_, g0, rfl⟩
      have a4 := F.called_set.init.lookup
      have a5 := F.called_set.init.bind (.ref s.heap.objs.size)
      repeat (any_goals (first | assumption | wp_step))
      refine codeAny_mono (codeAny_call_builtin (R := wants (fun v s2 => v = .none ∧ ∃ h2 tk c, s2 = { s with heap := h2, toks := tk } ∧
        SetR w h2 s.heap.objs.size (fun j => decide (j ∈ ns)) c ∧ c ≤ ns.length ∧ ∀ b o, s.heap.get? b = some o → h2.get? b = some o) E)
        F.called_set.init.plain F.entry_set_init (check_set_init_1 g1 ?_)) fun r2 s2 hr2 => ?_
      · obtain ⟨ol, e1, e2, nl, e4⟩ := isl
        obtain ⟨oc, od, oda, osl⟩ := ol
        simp only at e2 e4
        subst e2; subst e4
        have g2 := Heap.get?_push_of_some (h := s.heap) (mS w) e1
        have u1 := F.sub_list_set
        have u2 := F.sub_list_frozenset
        have u3 : (Value.type "list" == Value.type "dict") = false := by decide
        have isl1 : (hS1 w s).IsList l zs := ⟨_, g2, rfl, nl, rfl⟩
        unfold Builtin.«set.__init__» noKeywords Builtin.Frozenset.updateFrom
        generalize hPI : pyIter = PI
        wp_walk
        subst hPI
        refine wpAny_pyIter_list isl1 ?_
        refine wpAny_bind (wpAny_runValue ?_)
        have l0 : l < s.heap.objs.size := Heap.lt_size e1
        have q3 : A.in1.in1.in1.handled = none := by simp [quiet]
        have z1 : (hS1 w s).objs.size = s.heap.objs.size + 1 := Heap.size_push ..
        have lI : l ≠ (hS1 w s).objs.size := by
          rw [z1]
          exact Nat.ne_of_lt (Nat.lt_succ_of_lt l0)
        have sf : s.heap.objs.size ∉ [(hS1 w s).objs.size, l] := fun z => by
          rw [z1] at z
          rcases List.mem_cons.mp z with z | z
          · exact Nat.ne_of_lt (Nat.lt_succ_self _) z
          · exact Nat.ne_of_gt l0 (List.mem_singleton.mp z)
        have vals : ∀ (i : Nat) (v : Value), zs[i]? = some v → ∃ k t, ns[i]? = some k ∧ v = .int k t := fun i v hv => by
          have hi : i < ns.length := hn ▸ (Array.getElem?_eq_some_iff.mp hv).1
          obtain ⟨t, e⟩ := IntsAre.int_at allI i v (by rw [Array.getElem?_toList]; exact hv)
          refine ⟨ns[i], t, List.getElem?_eq_getElem hi, e.trans ?_⟩
          rw [List.getD_eq_getElem?_getD, List.getElem?_eq_getElem hi]
          rfl
        refine set_update_ints ((Walks.list q3 _ l lI zs).toS) s.heap.objs.size sf ns hn few vals (zs.size - 0) 0 _ (by omega) (Nat.zero_le _)
          ⟨⟨_, Heap.get?_push_size _ rfl, rfl, rfl⟩, isl1.push _⟩ ⟨0, Nat.le_refl 0, setR_new_at (Heap.get?_push_of_some _ g0)⟩ fun s3 c3 mv hc3 hR => ?_
        obtain ⟨h3, g3, d3, t3, o3⟩ := s3
        obtain rfl : g3 = s.gens := mv.gens
        obtain rfl : d3 = s.drawn := mv.drawn
        obtain rfl : o3 = s.os := mv.os
        show wpAny _ _ _ _ _ _
        refine wpAny_pure ?_
        show wpAny _ _ (ret Value.none) _ _ _
        rw [hn] at hc3
        refine wpAny_pure ⟨rfl, h3, t3, c3, rfl, hR, hc3, fun b o e => ?_⟩
        have b0 : b < s.heap.objs.size := Heap.lt_size e
        refine mv.heap b o (fun z => ?_) (Heap.get?_push_of_some _ (Heap.get?_push_of_some _ e))
        rcases List.mem_cons.mp z with z | z
        · exact Nat.ne_of_lt b0 z
        · have z := List.mem_singleton.mp z
          rw [z1] at z
          exact Nat.ne_of_lt (Nat.lt_succ_of_lt b0) z
      · cases r2 with
        | error e => exact hr2
        | ok f2 => cases f2 with
          | ret v =>
            obtain ⟨rfl, h3, tk, c3, rfl, hR, hc3, hk⟩ := hr2
            repeat (any_goals (first | assumption | wp_step))
            exact fin _ _ _ hR hc3 hk
          | _ => exact hr2.elim
    | _ => exact hr.elim
end
section
variable {X : Cx}
/-- set(l), l a list or a tuple of ints -/
def zSet (K : PySem.W.Frag) (w : World) : List V → Hp → VK → Prop := fun xs H Q => ∃ (l : Addr) (ns : List Int), xs = [V.ref l] ∧ (SqL K H l (ns.map V.int) ∨ SqT K H l (ns.map V.int)) ∧ ns.length ≤ 1000 ∧
  ∀ (p : Addr) (c : Nat), c ≤ ns.length → Fresh H p → Q (.ref p) (upd H p (SetO w p (fun j => decide (j ∈ ns)) c))
theorem cr_zSet (quiet : X.calm = true) : CallR X (.type "set") (zSet X.K X.w) := by
  intro pins s σ H xs us Q I r h
  obtain ⟨l, ns, rfl, hl, few, q⟩ := h
  rw [Vals.ref1 r]
  have bnd : ns.length + 1 < scanBound := by
    unfold scanBound
    omega
  have new : H s.heap.objs.size = none := I.hok.fresh (Nat.le_refl _)
  rcases hl with hl | hl
  · obtain ⟨its, rv, pl, _⟩ := I.list hl
    exact set_of_list ns (I.ok.hd quiet) pl.isList (by simpa using ints_of_vals rv) bnd fun h2 tk c R hc k =>
      ⟨.ref _, _, I.laid (t' := tk) k (Nat.le_refl _) (setO_new R), rfl, q _ c hc new⟩
  · obtain ⟨its, rv, pl, _⟩ := I.tuple hl
    exact call_set_tupI ns (I.ok.hd quiet) pl (by simpa using ints_of_vals rv) bnd fun h2 tk c R hc k =>
      ⟨.ref _, _, I.laid (t' := tk) k (Nat.le_refl _) (setO_new R), rfl, q _ c hc new⟩
end
end Z

/-! Zp: joined operators (the kind is found as the walk goes), one lemma a step, tactics that walk. -/
namespace Z
open PySem PySem.Spec L2
open PyProof.Rows hiding St

/-! ### heaps -/
structure Gr (M : Addr → Prop) (F H F' H' : Hp) : Prop where
  ff : Same F F'
  fh : Same F' H'
  hh : ∀ b o, ¬ M b → H b = some o → H' b = some o
  nw : ∀ b o, H b = some o → F b = none → F' b = none
abbrev M0 : Addr → Prop := fun _ => False
abbrev M1 (p : Addr) : Addr → Prop := fun b => b = p
section
variable {M M' : Addr → Prop} {F H F' H' F'' H'' : Hp} {p q a b : Addr} {o u : HO} {K : PySem.W.Frag} {xs : List V}
theorem Gr.refl (h : Same F H) : Gr M F H F H := ⟨Same.refl _, h, fun _ _ _ e => e, fun _ _ _ e => e⟩
theorem Gr.trans (g : Gr M F H F' H') (k : Gr M F' H' F'' H'') (hM : ∀ b, M b → ∃ o, H b = some o) (hM' : ∀ b, M b → F b = none) (hk : ∀ b, M b → ∃ o, H' b = some o) : Gr M F H F'' H'' :=
  ⟨g.ff.trans k.ff, k.fh, fun b o n e => k.hh b o n (g.hh b o n e), fun b o e f => by
    have f' := g.nw b o e f
    by_cases hb : M b
    · obtain ⟨o', e'⟩ := hk b hb
      exact k.nw b o' e' f'
    · exact k.nw b o (g.hh b o hb e) f'⟩
theorem Gr.trans0 (g : Gr M0 F H F' H') (k : Gr M F' H' F'' H'') : Gr M F H F'' H'' :=
  ⟨g.ff.trans k.ff, k.fh, fun b o n e => k.hh b o n (g.hh b o (fun z => z) e), fun b o e f => k.nw b o (g.hh b o (fun z => z) e) (g.nw b o e f)⟩
theorem Gr.tr0 (g : Gr M F H F' H') (k : Gr M0 F' H' F'' H'') (hk : ∀ b, M b → ∃ o, H' b = some o) : Gr M F H F'' H'' :=
  ⟨g.ff.trans k.ff, k.fh, fun b o n e => k.hh b o (fun z => z) (g.hh b o n e), fun b o e f => by
    have f' := g.nw b o e f
    by_cases hb : M b
    · obtain ⟨o', e'⟩ := hk b hb
      exact k.nw b o' e' f'
    · exact k.nw b o (g.hh b o hb e) f'⟩
theorem Gr.tr1 (g : Gr (M1 p) F H F' H') (k : Gr (M1 p) F' H' F'' H'') (hp : H' p = some o) : Gr (M1 p) F H F'' H'' :=
  ⟨g.ff.trans k.ff, k.fh, fun b o n e => k.hh b o n (g.hh b o n e), fun b o' e f => by
    have f' := g.nw b o' e f
    by_cases hb : b = p
    · subst hb
      exact k.nw b o hp f'
    · exact k.nw b o' (g.hh b o' hb e) f'⟩
theorem Gr.up (g : Gr M0 F H F' H') : Gr M F H F' H' := ⟨g.ff, g.fh, fun b o _ e => g.hh b o (fun z => z) e, g.nw⟩
theorem same_new (h : Same F H) (hp : Fresh H p) : Same F (upd H p o) := fun b u e => by
  rw [upd_ne (ne_of_none (h b u e) hp)]
  exact h b u e
theorem same_mut (h : Same F H) (hp : F p = none) : Same F (upd H p o) := fun b u e => by
  rw [upd_ne (ne_of_none e hp)]
  exact h b u e
/-- a new object, not frozen -/
theorem Gr.new (h : Same F H) (hp : Fresh H p) : Gr M F H F (upd H p o) := ⟨Same.refl _, same_new h hp, fun b u _ e => by
  rw [upd_ne (ne_of_none e hp)]
  exact e, fun _ _ _ e => e⟩
/-- a new object, frozen at once -/
theorem Gr.newF (h : Same F H) (hp : Fresh H p) : Gr M F H (upd F p o) (upd H p o) :=
  ⟨fun b u e => by
    rw [upd_ne (ne_of_none (h b u e) hp)]
    exact e, fun b u e => by
    by_cases hb : b = p
    · subst hb
      rw [upd_same] at e ⊢
      exact e
    · rw [upd_ne hb] at e ⊢
      exact h b u e, fun b u _ e => by
    rw [upd_ne (ne_of_none e hp)]
    exact e, fun b u e f => by
    rw [upd_ne (ne_of_none e hp)]
    exact f⟩
/-- a change -/
theorem Gr.mut (h : Same F H) (hp : F p = none) (hM : M p) : Gr M F H F (upd H p o) := ⟨Same.refl _, same_mut h hp, fun b u n e => by
  rw [upd_ne (fun z => n (by rw [z]; exact hM))]
  exact e, fun _ _ _ e => e⟩
/-- an object that came since is frozen from now on -/
theorem Gr.frz (g : Gr M F H F' H') (hn : H p = none) (hp : H' p = some o) (hf : F' p = none) : Gr M F H (upd F' p o) H' :=
  ⟨fun b u e => by
    have e' := g.ff b u e
    rw [upd_ne (ne_of_none e' hf)]
    exact e', fun b u e => by
    by_cases hb : b = p
    · subst hb
      rw [upd_same] at e
      rw [hp]
      exact e
    · rw [upd_ne hb] at e
      exact g.fh b u e, g.hh, fun b u e f => by
    rw [upd_ne (ne_of_none e hn)]
    exact g.nw b u e f⟩
theorem Gr.put (g : Gr M F H F' H') (hf : F' p = none) (hM : M p) : Gr M F H F' (upd H' p o) := ⟨g.ff, same_mut g.fh hf, fun b u n e => by
  rw [upd_ne (fun z => n (by rw [z]; exact hM))]
  exact g.hh b u n e, g.nw⟩
theorem Gr.put1 (g : Gr (M1 p) F H F' H') (hf : F' p = none) : Gr (M1 p) F H F' (upd H' p o) := g.put hf rfl
theorem Gr.add (g : Gr M F H F' H') (hn : Fresh H' p) : Gr M F H F' (upd H' p o) := ⟨g.ff, same_new g.fh hn, fun b u n e => by
  have e' := g.hh b u n e
  rw [upd_ne (ne_of_none e' hn)]
  exact e', g.nw⟩
theorem Gr.addF (g : Gr M F H F' H') (hn : Fresh H' p) (hm : ¬ M p) : Gr M F H (upd F' p o) (upd H' p o) := by
  have k := Gr.newF (M := M) (o := o) g.fh hn
  refine ⟨g.ff.trans k.ff, k.fh, fun b u n e => k.hh b u n (g.hh b u n e), fun b u e f => ?_⟩
  have f' := g.nw b u e f
  by_cases hb : b = p
  · subst hb
    rw [Fresh, g.hh b u hm e] at hn
    cases hn
  · rw [upd_ne hb]
    exact f'
theorem Gr.same (g : Gr M0 F H F' H') : Same H H' := fun b o e => g.hh b o (fun z => z) e
/-- a change of what came since -/
theorem Gr.own (g : Gr M F H F' H') (hf : F' p = none) (hn : H p = none) : Gr M F H F' (upd H' p o) := ⟨g.ff, same_mut g.fh hf, fun b u n e => by
  rw [upd_ne (ne_of_none e hn)]
  exact g.hh b u n e, g.nw⟩
theorem Gr.nof (g : Gr M F H F' H') (h : F p = none) (h2 : H p = some o) : F' p = none := g.nw p o h2 h
theorem Gr.fresh (g : Gr M F H F' H') (hn : Fresh H' p) (hM : ∀ b, M b → ∃ o, H' b = some o) : Fresh H p := by
  unfold Fresh at *
  cases e : H p with
  | none => rfl
  | some u =>
    by_cases hb : M p
    · obtain ⟨o', e'⟩ := hM p hb
      rw [hn] at e'
      cases e'
    · rw [g.hh p u hb e] at hn
      cases hn
theorem Gr.fr1 (g : Gr (M1 p) F H F' H') (hp : H' p = some o) (hn : Fresh H' q) : Fresh H q := g.fresh hn fun b hb => ⟨o, by rw [show b = p from hb]; exact hp⟩
theorem Gr.fr0 (g : Gr M0 F H F' H') (hn : Fresh H' q) : Fresh H q := g.fresh hn fun b hb => hb.elim
theorem fresh_ne (hn : Fresh H q) (hp : H p = some o) : q ≠ p := fun e => by
  subst e
  rw [Fresh, hp] at hn
  cases hn
theorem ne_fresh (hn : Fresh H q) (hp : H p = some o) : p ≠ q := (fresh_ne hn hp).symm
theorem fresh_upd (hn : Fresh (upd H p o) q) : Fresh H q ∧ q ≠ p := by
  by_cases e : q = p
  · subst e
    rw [Fresh, upd_same] at hn
    cases hn
  · rw [Fresh, upd_ne e] at hn
    exact ⟨hn, e⟩
theorem fresh_F (h : Same F H) (hn : Fresh H p) : F p = none := by
  cases e : F p with
  | none => rfl
  | some u =>
    rw [Fresh, h p u e] at hn
    cases hn
/-- behind a part that changed p alone, p new since the beginning -/
theorem Gr.drop (g : Gr (M1 p) F H F' H') (hn : H p = none) : Gr M F H F' H' := ⟨g.ff, g.fh, fun b o _ e => g.hh b o (ne_of_none e hn) e, g.nw⟩
theorem Same.seqT (e : Same H H') (h : SqT K H a xs) : SqT K H' a xs := by
  rcases h with (h | ⟨o, h⟩) | h
  · exact .inl (.inl (e _ _ h))
  · exact .inl (.inr ⟨o, e _ _ h⟩)
  · exact .inr h
mutual
theorem Dp.mono (e : Same H H') : ∀ (d : PyData) (v : V), Dp K H v d → Dp K H' v d
  | .none, _, h => by cases h; exact .non
  | .bool _, _, h => by cases h; exact .bl _
  | .int _, _, h => by cases h; exact .int _
  | .str _, _, h => by cases h; exact .str _
  | .list ds, _, h => by
    cases h with
    | lst h1 h2 => exact .lst (e.seq h1) (DpAll.mono e ds _ h2)
  | .tuple ds, _, h => by
    cases h with
    | tup h1 h2 => exact .tup (Same.seqT e h1) (DpAll.mono e ds _ h2)
  | .dict _, _, h => by cases h
theorem DpAll.mono (e : Same H H') : ∀ (ds : List PyData) (vs : List V), DpAll K H vs ds → DpAll K H' vs ds
  | [], _, h => by cases h; exact .nil
  | d :: ds, _, h => by
    cases h with
    | cons h1 h2 => exact .cons (Dp.mono e d _ h1) (DpAll.mono e ds _ h2)
end
end

/-! ### operators of any kind -/
section
variable {X : Cx} {f : Value → Value → Sem Value} {r r' : R2}
def orR (r r' : R2) : R2 := fun x y H Q => r x y H Q ∨ r' x y H Q
theorem op_or2 (h : OpR X f r) (h' : OpR X f r') : OpR X f (orR r r') := fun pins s σ H x y v u Q I rx ry q => q.elim (h pins s σ H x y v u Q I rx ry) (h' pins s σ H x y v u Q I rx ry)
theorem ix_or2 (h : IxR X r) (h' : IxR X r') : IxR X (orR r r') := fun a b pins s σ H x y v u Q I rx ry q => q.elim (h a b pins s σ H x y v u Q I rx ry) (h' a b pins s σ H x y v u Q I rx ry)
def orC (r r' : List V → Hp → VK → Prop) : List V → Hp → VK → Prop := fun xs H Q => r xs H Q ∨ r' xs H Q
theorem cr_or2 {f : Value} {r r' : List V → Hp → VK → Prop} (h : CallR X f r) (h' : CallR X f r') : CallR X f (orC r r') := fun pins s σ H xs us Q I rx q => q.elim (h pins s σ H xs us Q I rx) (h' pins s σ H xs us Q I rx)

def zAddI : R2 := rI0 fun i j => .int (i + j)
def zAddS : R2 := fun x y H Q => ∃ i j, x = .str i ∧ y = .str j ∧ i.length + j.length ≤ sizeLine ∧ Q (.str (i ++ j)) H
def zAdd (K : PySem.W.Frag) : R2 := orR zAddI (orR zAddS (orR rCat (rCatA K)))
theorem op_zAdd : OpR X (binaryOp .Add) (zAdd X.K) := op_or2 op_add (op_or2 op_add_str (op_or2 op_cat op_catA))
def zSub : R2 := rI0 fun i j => .int (i - j)
theorem op_zSub : OpR X (binaryOp .Sub) zSub := op_sub
def zMulI : R2 := rI CMul fun i j => .int (i * j)
def zMulW : R2 := rI CMulW fun i j => .int (i * j)
def zMul : R2 := orR zMulI (orR zMulW rRep)
theorem op_zMul : OpR X (binaryOp .Mult) zMul := op_or2 op_mul (op_or2 op_mulW op_rep)
def zMod : R2 := rI (fun _ j => 0 < j) fun i j => .int (i % j)
theorem op_zMod : OpR X (binaryOp .Mod) zMod := op_mod
def zDivS : R2 := rI CDiv fun i j => .int (i / j)
def zDivW : R2 := rI CDivW fun i j => .int (i / j)
def zDiv : R2 := orR zDivS zDivW
theorem op_zDiv : OpR X (binaryOp .FloorDiv) zDiv := op_or2 op_fdiv op_fdivW
def zPow : R2 := rI CPow fun i j => .int (i ^ j.toNat)
theorem op_zPow : OpR X (binaryOp .Pow) zPow := op_pow
def zShl : R2 := rI CPow fun i j => .int (i * 2 ^ j.toNat)
theorem op_zShl : OpR X (binaryOp .LShift) zShl := op_shl
def zShr : R2 := rI (fun _ j => 0 ≤ j) fun i j => .int (i / 2 ^ j.toNat)
theorem op_zShr : OpR X (binaryOp .RShift) zShr := op_shr
def zAnd : R2 := rI0 fun i j => .int (Builtin.bitAnd i j)
theorem op_zAnd : OpR X (binaryOp .BitAnd) zAnd := op_and
def zOr : R2 := rI0 fun i j => .int (Builtin.bitOr i j)
theorem op_zOr : OpR X (binaryOp .BitOr) zOr := op_or
def zEq (K : PySem.W.Frag) : R2 := orR rEq (rEqD K)
theorem op_zEq (hu : X.A.units + 64 < cLine) : OpR X (compareOp .Eq) (zEq X.K) := op_or2 op_eq (op_eqD hu)
def zNe (K : PySem.W.Frag) : R2 := orR rNe (rNeD K)
theorem op_zNe (hu : X.A.units + 64 < cLine) : OpR X (compareOp .NotEq) (zNe X.K) := op_or2 op_ne (op_neD hu)
def zLtI : R2 := rI0 fun i j => .bl (decide (i < j))
def zLt (K : PySem.W.Frag) : R2 := orR zLtI (rLtT K)
theorem op_zLt (hu : X.A.units < cLine) : OpR X (compareOp .Lt) (zLt X.K) := op_or2 op_lt (op_ltT hu)
def zLe : R2 := rI0 fun i j => .bl (decide (i ≤ j))
theorem op_zLe : OpR X (compareOp .LtE) zLe := op_le
def zGt : R2 := rI0 fun i j => .bl (decide (j < i))
theorem op_zGt : OpR X (compareOp .Gt) zGt := op_gt
def zGe : R2 := rI0 fun i j => .bl (decide (j ≤ i))
theorem op_zGe : OpR X (compareOp .GtE) zGe := op_ge
def zIn (K : PySem.W.Frag) : R2 := orR (rIn K false) (orR (rInD K) fun x y H Q => ∃ i j, x = .str i ∧ y = .str j ∧ Q (.bl (!(Builtin.Str.occurrences j i 0 j.length 1).isEmpty)) H)
theorem op_zIn (hu : X.A.units + 65 < cLine) : OpR X (compareOp .In) (zIn X.K) := op_or2 op_in_seq (op_or2 (op_inD hu) op_in_str)
def zNotIn (K : PySem.W.Frag) : R2 := orR (rIn K true) (orR (rNotInD K) fun x y H Q => ∃ i j, x = .str i ∧ y = .str j ∧ Q (.bl (!(!(Builtin.Str.occurrences j i 0 j.length 1).isEmpty))) H)
theorem op_zNotIn (hu : X.A.units + 65 < cLine) : OpR X (compareOp .NotIn) (zNotIn X.K) := op_or2 op_notIn_seq (op_or2 (op_notInD hu) op_notin_str)
def zIsN : R2 := fun x y H Q => y = .non ∧ Q (.bl (decide (x = .non))) H
theorem op_zIsN : OpR X (compareOp .Is) zIsN := op_isN
def zNotN : R2 := fun x y H Q => y = .non ∧ Q (.bl (!decide (x = .non))) H
theorem op_zNotN : OpR X (compareOp .IsNot) zNotN := op_notN
def zLen (K : PySem.W.Frag) : List V → Hp → VK → Prop := fun xs H Q => ∃ x n, xs = [x] ∧ LenV K x H n ∧ Q (.int n) H
theorem cr_zLen : CallR X (.builtin "len") (zLen X.K) := call_len
def zList (K : PySem.W.Frag) : List V → Hp → VK → Prop := fun xs H Q => ∃ p ys, xs = [.ref p] ∧ (SqL K H p ys ∨ SqT K H p ys) ∧ ∀ l, H l = none → Q (.ref l) (upd H l (.lst ys))
theorem cr_zList : CallR X (.type "list") (zList X.K) := call_list_of
def zTuple (K : PySem.W.Frag) : List V → Hp → VK → Prop := fun xs H Q => ∃ p ys, xs = [.ref p] ∧ ((SqL K H p ys ∧ ∀ l, H l = none → Q (.ref l) (upd H l (.tup ys))) ∨ (SqT K H p ys ∧ Q (.ref p) H))
theorem cr_zTuple : CallR X (.type "tuple") (zTuple X.K) := call_tuple_of
theorem _root_.L2.Room.units65 {k : Nat} {A : Around} (r : Room k A) : A.units + 65 < cLine := by
  have := r.un
  omega
def zInt1 : List V → Hp → VK → Prop := fun xs H Q => (∃ i, xs = [.int i] ∧ Q (.int i) H) ∨ ∃ k, xs = [.bl k] ∧ Q (.int (if k then 1 else 0)) H
def zAbs : List V → Hp → VK → Prop := fun xs H Q => ∃ i, xs = [.int i] ∧ Q (.int (if i < 0 then -i else i)) H
def zMax2 : List V → Hp → VK → Prop := fun xs H Q => ∃ i j, xs = [.int i, .int j] ∧ Q (.int (if j > i then j else i)) H
def zMin2 : List V → Hp → VK → Prop := fun xs H Q => ∃ i j, xs = [.int i, .int j] ∧ Q (.int (if j < i then j else i)) H
def zSl (K : PySem.W.Frag) : V → Option Int → Option Int → Hp → VK → Prop := fun x lo hi H Q => rSlL K x lo hi H Q ∨ rSlA K x lo hi H Q
theorem sl_z : SlR X (zSl X.K) := SlR.or sl_list sl_tupA
def zTru (K : PySem.W.Frag) (ta : TE) : TT := fun σ H Q => ta σ H fun x H' => ∃ k, TruV K x H' k ∧ Q k H'
end

/-! ### one lemma a step -/
section
variable {K : PySem.W.Frag} {σ : St} {H : Hp} {D : Ends} {t u : TS} {ta tb tc te : TE} {c c' : TT} {v w x y z : V} {Q : VK} {QB : Bool → Hp → Prop} {QA : List V → Hp → Prop} {i j : Nat} {r r' : R2} {g : TG} {p q a b : Addr} {xs ys : List V} {tA tR : TA} {m n : Int} {k : Bool}
theorem s_seq (h : t { D with nx := u D } σ H) : tSeq t u D σ H := h
theorem s_asgN (h : te σ H fun v H1 => D.nx (σ.set i (some v)) H1) : tAsg te (gName i) D σ H := h
theorem s_asgS (h : te σ H fun v H1 => ta σ H1 fun o H1 => tb σ H1 fun i H2 => rSetL o i v H2 fun H3 => D.nx σ H3) : tAsg te (gSub ta tb rSetL) D σ H := h
theorem s_asgT {n : Nat} {ts : TGs} (h : te σ H fun v H1 => gTup K n ts v σ H1 D.nx) : tAsg te (gTup K n ts) D σ H := h
theorem s_drop (h : te σ H fun _ H1 => D.nx σ H1) : tDrop te D σ H := h
theorem s_ret (h : te σ H fun v H1 => D.rt v H1) : tRet te D σ H := h
theorem s_retN (h : D.rt .non H) : tRetN D σ H := h
theorem s_ifS (h : c σ H fun b H1 => if b = true then t D σ H1 else u D σ H1) : tIfS c t u D σ H := h
theorem s_next (h : D.nx σ H) : tNext D σ H := h
theorem s_break (h : D.bk σ H) : tBreak D σ H := h
theorem s_cont (h : D.ct σ H) : tCont D σ H := h
theorem s_aug {ti : TIp} (h1 : σ[i]? = some (some x)) (h : te σ H fun y H1 => ti x y H1 fun z H2 => D.nx (σ.set i (some z)) H2) : tAug i te ti D σ H := ⟨x, h1, h⟩
theorem e_var (h1 : σ[i]? = some (some v)) (h : Q v H) : tVar i σ H Q := ⟨v, h1, h⟩
theorem e_c (h : Q v H) : tC v σ H Q := h
theorem e_op (h : ta σ H fun x H1 => tb σ H1 fun y H2 => r x y H2 Q) : tOp r ta tb σ H Q := h
theorem e_un {r : V → Hp → VK → Prop} (h : ta σ H fun x H1 => r x H1 Q) : tUn r ta σ H Q := h
theorem e_chain (h : ta σ H fun x H1 => tb σ H1 fun y H2 => r x y H2 fun z H3 => ∃ k, z = .bl k ∧ (if k = true then tc σ H3 fun w' H4 => r' y w' H4 Q else Q (.bl false) H3)) : tChain r r' ta tb tc σ H Q := h
theorem e_cb {r : List V → Hp → VK → Prop} (h : tA σ H fun vs H1 => r vs H1 Q) : tCB r tA σ H Q := h
theorem e_call {sp : Sp} {E : XK} (h : tA σ H fun vs H1 => sp (vs ++ []) H1 Q E) : tCall sp [] E tA σ H Q := h
theorem a_nil (h : QA [] H) : tNil σ H QA := h
theorem a_cons (h : ta σ H fun x H1 => tR σ H1 fun xs H2 => QA (x :: xs) H2) : tCons ta tR σ H QA := h
theorem e_if (h : c σ H fun b H1 => if b = true then ta σ H1 Q else tb σ H1 Q) : tIf c ta tb σ H Q := h
theorem e_andV (h : ta σ H fun x H1 => ∃ c, x = .bl c ∧ if c = true then tb σ H1 Q else Q (.bl false) H1) : tAndV ta tb σ H Q := h
theorem e_orV (h : ta σ H fun x H1 => ∃ c, x = .bl c ∧ if c = true then Q (.bl true) H1 else tb σ H1 Q) : tOrV ta tb σ H Q := h
theorem e_notV (h : ta σ H fun x H1 => ∃ c, x = .bl c ∧ Q (.bl (!c)) H1) : tNotV ta σ H Q := h
theorem c_test (h : ta σ H fun x H1 => ∃ k, x = .bl k ∧ QB k H1) : tTest ta σ H QB := h
theorem c_B (h : ta σ H fun x H1 => ∃ k, x = .bl k ∧ QB k H1) : tB ta σ H QB := h
theorem c_and (h : c σ H fun b H1 => if b = true then c' σ H1 QB else QB false H1) : tAnd c c' σ H QB := h
theorem c_or (h : c σ H fun b H1 => if b = true then QB true H1 else c' σ H1 QB) : tOr c c' σ H QB := h
theorem c_not (h : c σ H fun b H1 => QB (!b) H1) : tNot c σ H QB := h
theorem c_tru (h : ta σ H fun x H' => ∃ k, TruV K x H' k ∧ QB k H') : zTru K ta σ H QB := h
theorem bl_ (h : QB k H) : ∃ k', V.bl k = .bl k' ∧ QB k' H := ⟨k, rfl, h⟩
theorem if_dec {p A B : Prop} {_inst : Decidable p} (h1 : p → A) (h2 : ¬ p → B) : if decide p = true then A else B := by
  by_cases h : p
  · rw [decide_eq_true h]
    exact iteT (h1 h)
  · rw [decide_eq_false h]
    exact iteF (h2 h)
theorem if_ndec {p A B : Prop} {_inst : Decidable p} (h1 : ¬ p → A) (h2 : p → B) : if (!decide p) = true then A else B := by
  by_cases h : p
  · rw [decide_eq_true h]
    exact iteF (h2 h)
  · rw [decide_eq_false h]
    exact iteT (h1 h)
theorem if_t {p A B : Prop} {_inst : Decidable p} (h : p) (h1 : A) : if decide p = true then A else B := if_dec (fun _ => h1) fun z => absurd h z
theorem if_f {p A B : Prop} {_inst : Decidable p} (h : ¬ p) (h1 : B) : if decide p = true then A else B := if_dec (fun z => absurd z h) fun _ => h1
theorem if_nt {p A B : Prop} {_inst : Decidable p} (h : ¬ p) (h1 : A) : if (!decide p) = true then A else B := if_ndec (fun _ => h1) fun z => absurd z h
theorem if_nf {p A B : Prop} {_inst : Decidable p} (h : p) (h1 : B) : if (!decide p) = true then A else B := if_ndec (fun z => absurd h z) fun _ => h1
theorem ref_ne {a : Addr} : ¬ (V.ref a = V.non) := fun h => by cases h
theorem int_ne {i : Int} : ¬ (V.int i = V.non) := fun h => by cases h
theorem str_ne {z : Str} : ¬ (V.str z = V.non) := fun h => by cases h
theorem if_b {b : Bool} {A B : Prop} (h1 : b = true → A) (h2 : b = false → B) : if b = true then A else B := by
  cases b with
  | true => exact iteT (h1 rfl)
  | false => exact iteF (h2 rfl)
theorem if_nb {b : Bool} {A B : Prop} (h1 : b = false → A) (h2 : b = true → B) : if (!b) = true then A else B := by
  cases b with
  | true => exact iteF (h2 rfl)
  | false => exact iteT (h1 rfl)
theorem iteNT {A B : Prop} (h : B) : if (!true) = true then A else B := iteF h
theorem iteNF {A B : Prop} (h : A) : if (!false) = true then A else B := iteT h
theorem o_isNr {a : Addr} {H : Hp} {Q : VK} (h : Q (.bl false) H) : zIsN (.ref a) .non H Q := ⟨rfl, h⟩
theorem o_isNi {i : Int} {H : Hp} {Q : VK} (h : Q (.bl false) H) : zIsN (.int i) .non H Q := ⟨rfl, h⟩
theorem o_isNs {i : Str} {H : Hp} {Q : VK} (h : Q (.bl false) H) : zIsN (.str i) .non H Q := ⟨rfl, h⟩
theorem o_isNn {H : Hp} {Q : VK} (h : Q (.bl true) H) : zIsN .non .non H Q := ⟨rfl, h⟩
theorem o_notNr {a : Addr} {H : Hp} {Q : VK} (h : Q (.bl true) H) : zNotN (.ref a) .non H Q := ⟨rfl, h⟩
theorem o_notNi {i : Int} {H : Hp} {Q : VK} (h : Q (.bl true) H) : zNotN (.int i) .non H Q := ⟨rfl, h⟩
theorem o_notNs {i : Str} {H : Hp} {Q : VK} (h : Q (.bl true) H) : zNotN (.str i) .non H Q := ⟨rfl, h⟩
theorem o_notNn {H : Hp} {Q : VK} (h : Q (.bl false) H) : zNotN .non .non H Q := ⟨rfl, h⟩
theorem t_bl {K : PySem.W.Frag} {b : Bool} {H : Hp} {QB : Bool → Hp → Prop} (h : QB b H) : ∃ k, TruV K (.bl b) H k ∧ QB k H := ⟨b, rfl, h⟩
theorem t_int {K : PySem.W.Frag} {i : Int} {H : Hp} {QB : Bool → Hp → Prop} (h : QB (i != 0) H) : ∃ k, TruV K (.int i) H k ∧ QB k H := ⟨_, rfl, h⟩
theorem t_lst {K : PySem.W.Frag} {a : Addr} {xs : List V} {H : Hp} {QB : Bool → Hp → Prop} (hs : SqL K H a xs) (h : QB (!xs.isEmpty) H) : ∃ k, TruV K (.ref a) H k ∧ QB k H := ⟨_, .inl ⟨xs, hs, rfl⟩, h⟩
theorem bl_if {k : Bool} {P : Bool → Prop} (h : P k) : ∃ k', V.bl k = .bl k' ∧ P k' := ⟨k, rfl, h⟩
theorem e_tup (h : tA σ H fun xs H1 => xs.length ≤ sizeLine ∧ ∀ p, H1 p = none → Q (.ref p) (upd H1 p (.tup xs))) : tTup tA σ H Q := h
theorem e_lst (h : tA σ H fun xs H1 => xs.length ≤ sizeLine ∧ ∀ p, H1 p = none → Q (.ref p) (upd H1 p (.lst xs))) : tLst tA σ H Q := h
theorem g_tup {n : Nat} {ts : TGs} {QS : St → Hp → Prop} (h : SqT K H a xs) (hn : xs.length = n) (k : ts xs σ H QS) : gTup K n ts (.ref a) σ H QS := ⟨a, xs, rfl, h, hn, k⟩
theorem g_name {QS : St → Hp → Prop} (h : QS (σ.set i (some v)) H) : gName i v σ H QS := h
theorem g_cons {ts : TGs} {QS : St → Hp → Prop} (h : g v σ H fun σ' H' => ts xs σ' H' QS) : gCons g ts (v :: xs) σ H QS := ⟨v, xs, rfl, h⟩
theorem g_nil {QS : St → Hp → Prop} (h : QS σ H) : gNil [] σ H QS := ⟨rfl, h⟩
-- operators by values
theorem o_add (h : Q (.int (m + n)) H) : zAdd K (.int m) (.int n) H Q := .inl ⟨m, n, rfl, rfl, h⟩
theorem o_addS {m n : Str} (hl : m.length + n.length ≤ sizeLine) (h : Q (.str (m ++ n)) H) : zAdd K (.str m) (.str n) H Q := .inr (.inl ⟨m, n, rfl, rfl, hl, h⟩)
theorem o_addL (ha : H a = some (.lst xs)) (hb : H b = some (.lst ys)) (hl : xs.length + ys.length ≤ sizeLine) (h : ∀ p, Fresh H p → Q (.ref p) (upd H p (.lst (xs ++ ys)))) : zAdd K (.ref a) (.ref b) H Q := .inr (.inr (.inl ⟨a, b, xs, ys, rfl, rfl, ha, hb, hl, h⟩))
theorem o_addT (ha : SqT K H a xs) (hb : SqT K H b ys) (hl : xs.length + ys.length ≤ sizeLine) (h1 : xs = [] → Q (.ref b) H) (h2 : xs ≠ [] → ys = [] → Q (.ref a) H) (h : xs ≠ [] → ys ≠ [] → ∀ p, Fresh H p → Q (.ref p) (upd H p (.tup (xs ++ ys)))) :
    zAdd K (.ref a) (.ref b) H Q := .inr (.inr (.inr ⟨a, b, xs, ys, rfl, rfl, ha, hb, hl, h1, h2, h⟩))
theorem o_sub (h : Q (.int (m - n)) H) : zSub (.int m) (.int n) H Q := ⟨m, n, rfl, rfl, h⟩
theorem o_mul (hc : CMul m n) (h : Q (.int (m * n)) H) : zMul (.int m) (.int n) H Q := .inl ⟨m, n, rfl, rfl, hc, h⟩
theorem o_mulW (hc : CMulW m n) (h : Q (.int (m * n)) H) : zMul (.int m) (.int n) H Q := .inr (.inl ⟨m, n, rfl, rfl, hc, h⟩)
theorem o_rep (ha : H a = some (.lst xs)) (h1 : -(2 ^ 63) ≤ n) (h2 : n < 2 ^ 63) (hl : xs.length * n.toNat ≤ sizeLine) (h : rRep (.ref a) (.int n) H Q) : zMul (.ref a) (.int n) H Q := .inr (.inr h)
theorem o_mod (hc : 0 < n) (h : Q (.int (m % n)) H) : zMod (.int m) (.int n) H Q := ⟨m, n, rfl, rfl, hc, h⟩
theorem o_div (hc : 0 < n) (hn : n < 1073741824) (h : Q (.int (m / n)) H) : zDiv (.int m) (.int n) H Q := .inl ⟨m, n, rfl, rfl, ⟨hc, hn⟩, h⟩
theorem o_divW (hc : CDivW m n) (h : Q (.int (m / n)) H) : zDiv (.int m) (.int n) H Q := .inr ⟨m, n, rfl, rfl, hc, h⟩
theorem o_pow (hc : CPow m n) (h : Q (.int (m ^ n.toNat)) H) : zPow (.int m) (.int n) H Q := ⟨m, n, rfl, rfl, hc, h⟩
theorem o_lt (h : Q (.bl (decide (m < n))) H) : zLt K (.int m) (.int n) H Q := .inl ⟨m, n, rfl, rfl, h⟩
theorem o_ltT {ms ns : List Int} (ha : SqT K H a (ms.map V.int)) (hb : SqT K H b (ns.map V.int)) (h : Q (.bl (HT.lexLt ms ns)) H) : zLt K (.ref a) (.ref b) H Q := .inr ⟨a, b, ms, ns, rfl, rfl, ha, hb, h⟩
theorem o_le (h : Q (.bl (decide (m ≤ n))) H) : zLe (.int m) (.int n) H Q := ⟨m, n, rfl, rfl, h⟩
theorem o_gt (h : Q (.bl (decide (n < m))) H) : zGt (.int m) (.int n) H Q := ⟨m, n, rfl, rfl, h⟩
theorem o_ge (h : Q (.bl (decide (n ≤ m))) H) : zGe (.int m) (.int n) H Q := ⟨m, n, rfl, rfl, h⟩
theorem o_eq (hs : scal x y = true) (h : Q (.bl (decide (x = y))) H) : zEq K x y H Q := .inl ⟨hs, h⟩
theorem o_ne (hs : scal x y = true) (h : Q (.bl (!decide (x = y))) H) : zNe K x y H Q := .inl ⟨hs, h⟩
theorem o_eqI (h : Q (.bl (decide (m = n))) H) : zEq K (.int m) (.int n) H Q := .inl ⟨rfl, (decide_eq_decide.mpr ⟨fun e => V.int.inj e, fun e => by rw [e]⟩ : decide (V.int m = V.int n) = decide (m = n)) ▸ h⟩
theorem o_neI (h : Q (.bl (!decide (m = n))) H) : zNe K (.int m) (.int n) H Q := .inl ⟨rfl, (decide_eq_decide.mpr ⟨fun e => V.int.inj e, fun e => by rw [e]⟩ : decide (V.int m = V.int n) = decide (m = n)) ▸ h⟩
theorem o_eqD {d e : PyData} (hx : Dp K H x d) (hy : Dp K H y e) (sd : SeqAt.shaped d = true) (se : SeqAt.shaped e = true) (h : Q (.bl (PyData.eqv d e)) H) : zEq K x y H Q := .inr ⟨d, e, hx, hy, sd, se, h⟩
theorem o_neD {d e : PyData} (hx : Dp K H x d) (hy : Dp K H y e) (sd : SeqAt.shaped d = true) (se : SeqAt.shaped e = true) (h : Q (.bl (!PyData.eqv d e)) H) : zNe K x y H Q := .inr ⟨d, e, hx, hy, sd, se, h⟩
theorem o_isN (h : Q (.bl (decide (x = .non))) H) : zIsN x .non H Q := ⟨rfl, h⟩
theorem o_notN (h : Q (.bl (!decide (x = .non))) H) : zNotN x .non H Q := ⟨rfl, h⟩
theorem o_neg (h : Q (.int (-m)) H) : rU (fun i => .int (-i)) (.int m) H Q := ⟨m, rfl, h⟩
theorem o_ixL (hl : SqL K H a xs) (hi : atI xs m = some v) (h : Q v H) : rIx K (.ref a) (.int m) H Q := .inl ⟨a, xs, m, v, rfl, rfl, hl, hi, h⟩
theorem o_ixT (hl : SqT K H a xs) (hi : atI xs m = some v) (h : Q v H) : rIx K (.ref a) (.int m) H Q := .inr (.inl ⟨a, xs, m, v, rfl, rfl, hl, hi, h⟩)
theorem o_setL (hl : H a = some (.lst xs)) (hi : ixN xs.length m = some j) {QH : Hp → Prop} (h : QH (upd H a (.lst (xs.set j v)))) : rSetL (.ref a) (.int m) v H QH := ⟨a, xs, m, j, rfl, rfl, hl, hi, h⟩
theorem o_lenL (hl : SqL K H a xs) (h : Q (.int xs.length) H) : zLen K [.ref a] H Q := ⟨_, _, rfl, .inl ⟨xs, hl, rfl⟩, h⟩
theorem o_lenT (hl : SqT K H a xs) (h : Q (.int xs.length) H) : zLen K [.ref a] H Q := ⟨_, _, rfl, .inr ⟨xs, hl, rfl⟩, h⟩
theorem o_lenS {m : Str} (hl : m.length ≤ sizeLine) (h : Q (.int m.length) H) : zLen K [.str m] H Q := ⟨_, _, rfl, ⟨hl, rfl⟩, h⟩
theorem o_listL (hl : SqL K H a xs) (h : ∀ p, Fresh H p → Q (.ref p) (upd H p (.lst xs))) : zList K [.ref a] H Q := ⟨a, xs, rfl, .inl hl, h⟩
theorem o_listT (hl : SqT K H a xs) (h : ∀ p, Fresh H p → Q (.ref p) (upd H p (.lst xs))) : zList K [.ref a] H Q := ⟨a, xs, rfl, .inr hl, h⟩
theorem o_tupleL (hl : SqL K H a xs) (h : ∀ p, Fresh H p → Q (.ref p) (upd H p (.tup xs))) : zTuple K [.ref a] H Q := ⟨a, xs, rfl, .inl ⟨hl, h⟩⟩
theorem o_tupleT (hl : SqT K H a xs) (h : Q (.ref a) H) : zTuple K [.ref a] H Q := ⟨a, xs, rfl, .inr ⟨hl, h⟩⟩
theorem o_sum {ns : List Int} (hl : SqL K H a (ns.map V.int)) (h : Q (.int ns.sum) H) : rSum K [.ref a] H Q := ⟨a, ns, rfl, hl, h⟩
theorem o_ipI {f : Int → Int → Int} (h : Q (.int (f m n)) H) : ipI f (.int m) (.int n) H Q := ⟨m, n, rfl, rfl, h⟩
theorem m_app (hl : H a = some (.lst xs)) (hz : xs.length < sizeLine) (h : Q .non (upd H a (.lst (xs ++ [v])))) : rAppend (.ref a) [v] H Q := ⟨a, xs, v, rfl, rfl, hl, hz, h⟩
theorem e_bm {T : String} {r : V → List V → Hp → VK → Prop} (h : ta σ H fun x H1 => tyV K T x H1 ∧ tA σ H1 fun xs H2 => r x xs H2 Q) : tBM K T r ta tA σ H Q := h
theorem e_bm0 {T : String} {r : V → List V → Hp → VK → Prop} (h : ta σ H fun x H1 => tyV K T x H1 ∧ r x [] H1 Q) : tBM0 K T r ta σ H Q := h
theorem ty_list (hl : SqL K H a xs) : tyV K "list" (.ref a) H := .inl ⟨rfl, xs, hl⟩
-- loops
def LpW (J : It) (g : TG) (t : TS) (D : Ends) (σ : St) (H : Hp) : Prop := ∃ W : Nat → Nat → St → Hp → Prop, (∃ m, W 0 m σ H) ∧ ∀ i m σ' H', W i m σ' H' →
  (J.stop i H' ∧ D.nx σ' H') ∨ (J.go i H' ∧ ∃ N : St → Hp → Prop, (∀ σ2 H2, N σ2 H2 → ∃ m', m' < m ∧ W (i + 1) m' σ2 H2) ∧ ∀ x H2, J.yld i H' x H2 → g x σ' H2 fun σ3 H3 => t { D with nx := N, ct := N, bk := D.nx } σ3 H3)
def LpL (K : PySem.W.Frag) (g : TG) (t : TS) (D : Ends) (σ : St) (x : V) (H : Hp) : Prop := ∃ a, x = .ref a ∧ (∃ xs, SqL K H a xs) ∧ LpW (Itl K a) g t D σ H
def LpT (K : PySem.W.Frag) (g : TG) (t : TS) (D : Ends) (σ : St) (x : V) (H : Hp) : Prop := ∃ a, x = .ref a ∧ (∃ xs, SqT K H a xs) ∧ LpW (Itt K a) g t D σ H
def LpR1 (g : TG) (t : TS) (D : Ends) (σ : St) (x : V) (H : Hp) : Prop := ∃ j : Int, [x] = [V.int j] ∧ -(2 ^ 62) ≤ j ∧ j < 2 ^ 62 ∧ LpW (Itr 0 j.toNat) g t D σ H
def LpR2 (g : TG) (t : TS) (D : Ends) (σ : St) (x y : V) (H : Hp) : Prop := ∃ i j : Int, [x, y] = [V.int i, V.int j] ∧ (-(2 ^ 62) ≤ i ∧ i < 2 ^ 62 ∧ -(2 ^ 62) ≤ j ∧ j < 2 ^ 62) ∧ LpW (Itr i (j - i).toNat) g t D σ H
def LpE (K : PySem.W.Frag) (g : TG) (t : TS) (D : Ends) (σ : St) (x : V) (H : Hp) : Prop := ∃ a xs, [x] = [V.ref a] ∧ SqL K H a xs ∧ LpW (Ite K a) g t D σ H
theorem s_forL (h : ta σ H fun x H1 => LpL K g t D σ x H1) : tFor (iList K ta) g t D σ H := h
theorem s_forT (h : ta σ H fun x H1 => LpT K g t D σ x H1) : tFor (iTup K ta) g t D σ H := h
theorem s_forR1 (h : ta σ H fun x H1 => LpR1 g t D σ x H1) : tFor (iRng1 (tCons ta tNil)) g t D σ H := h
theorem s_forR2 (h : ta σ H fun x H1 => tb σ H1 fun y H2 => LpR2 g t D σ x y H2) : tFor (iRng2 (tCons ta (tCons tb tNil))) g t D σ H := h
theorem s_forE (h : ta σ H fun x H1 => LpE K g t D σ x H1) : tFor (iEnum K (tCons ta tNil)) g t D σ H := h
theorem lp_list (hs : SqL K H a xs) (Pv : Nat → St → Hp → Prop) (h0 : Pv 0 σ H) (hl : ∀ i σ' H', i ≤ xs.length → Pv i σ' H' → SqL K H' a xs)
    (hb : ∀ i x σ' H', xs[i]? = some x → Pv i σ' H' → g x σ' H' fun σ2 H2 => t { D with nx := Pv (i + 1), ct := Pv (i + 1), bk := D.nx } σ2 H2) (hd : ∀ σ' H', Pv xs.length σ' H' → D.nx σ' H') : LpL K g t D σ (.ref a) H :=
  ⟨a, rfl, ⟨xs, hs⟩, for_list Pv h0 hl hb hd⟩
theorem lp_tup (hs : SqT K H a xs) (Pv : Nat → St → Hp → Prop) (h0 : Pv 0 σ H) (hl : ∀ i σ' H', i ≤ xs.length → Pv i σ' H' → SqT K H' a xs)
    (hb : ∀ i x σ' H', xs[i]? = some x → Pv i σ' H' → g x σ' H' fun σ2 H2 => t { D with nx := Pv (i + 1), ct := Pv (i + 1), bk := D.nx } σ2 H2) (hd : ∀ σ' H', Pv xs.length σ' H' → D.nx σ' H') : LpT K g t D σ (.ref a) H :=
  ⟨a, rfl, ⟨xs, hs⟩, for_tup Pv h0 hl hb hd⟩
theorem lp_range1 (hr : -(2 ^ 62) ≤ n ∧ n < 2 ^ 62) (Pv : Nat → St → Hp → Prop) (h0 : Pv 0 σ H)
    (hb : ∀ (i : Nat) σ' H', (i : Int) < n → Pv i σ' H' → g (.int (i : Int)) σ' H' fun σ2 H2 => t { D with nx := Pv (i + 1), ct := Pv (i + 1), bk := D.nx } σ2 H2) (hd : ∀ σ' H', Pv n.toNat σ' H' → D.nx σ' H') : LpR1 g t D σ (.int n) H :=
  ⟨n, rfl, hr.1, hr.2, for_range (lo := 0) Pv h0 (fun i σ' H' hi p => by
    have e : (0 : Int) + (i : Int) = (i : Int) := Int.zero_add _
    rw [e]
    exact hb i σ' H' (by omega) p) hd⟩
theorem lp_range2 (hr : -(2 ^ 62) ≤ m ∧ m < 2 ^ 62 ∧ -(2 ^ 62) ≤ n ∧ n < 2 ^ 62) (Pv : Nat → St → Hp → Prop) (h0 : Pv 0 σ H)
    (hb : ∀ (i : Nat) σ' H', m + (i : Int) < n → Pv i σ' H' → g (.int (m + i)) σ' H' fun σ2 H2 => t { D with nx := Pv (i + 1), ct := Pv (i + 1), bk := D.nx } σ2 H2) (hd : ∀ σ' H', Pv (n - m).toNat σ' H' → D.nx σ' H') : LpR2 g t D σ (.int m) (.int n) H :=
  ⟨m, n, rfl, hr, for_range Pv h0 (fun i σ' H' hi p => hb i σ' H' (by
    have h : i < (n - m).toNat := hi
    omega) p) hd⟩
theorem lp_enum (hs : SqL K H a xs) (Pv : Nat → St → Hp → Prop) (h0 : Pv 0 σ H) (hl : ∀ i σ' H', i ≤ xs.length → Pv i σ' H' → SqL K H' a xs)
    (hb : ∀ i x σ' H' q, xs[i]? = some x → Pv i σ' H' → Fresh H' q → g (.ref q) σ' (upd H' q (.tup [.int (i : Int), x])) fun σ2 H2 => t { D with nx := Pv (i + 1), ct := Pv (i + 1), bk := D.nx } σ2 H2)
    (hd : ∀ σ' H', Pv xs.length σ' H' → D.nx σ' H') : LpE K g t D σ (.ref a) H := by
  refine ⟨a, xs, rfl, hs, fun i m σ' H' => m = xs.length - i ∧ i ≤ xs.length ∧ Pv i σ' H', ⟨xs.length, by simp, Nat.zero_le _, h0⟩, ?_⟩
  rintro i m σ' H' ⟨rfl, hi, pv⟩
  have sq := hl i σ' H' hi pv
  by_cases c : i < xs.length
  · refine .inr ⟨⟨xs, xs[i], sq, List.getElem?_eq_getElem c⟩, Pv (i + 1), fun σ2 H2 p2 => ⟨xs.length - (i + 1), by omega, rfl, c, p2⟩, fun x H2 y => ?_⟩
    obtain ⟨q, z, rfl, nq, rfl, f⟩ := y
    exact hb i z σ' H' q (f xs sq) pv nq
  · have e : i = xs.length := by omega
    subst e
    exact .inl ⟨⟨xs, sq, Nat.le_refl _⟩, hd σ' H' pv⟩
end

end Z

/-! Zd: plain data (no truth, no dict): == is equality; tuples of ints. -/
namespace Z
open PySem PySem.Spec L2
open PyProof.Rows hiding St
mutual
def nob : PyData → Bool
  | .none | .int _ | .str _ => true
  | .bool _ | .dict _ => false
  | .list xs | .tuple xs => nobAll xs
def nobAll : List PyData → Bool
  | [] => true
  | x :: xs => nob x && nobAll xs
end
structure Pl (n : Nat) (d : PyData) : Prop where
  lay : d.canLay0 = true
  dep : d.depth ≤ n
  nob : nob d = true
theorem all_iff {f : PyData → Bool} {g : List PyData → Bool} (h0 : g [] = true) (h1 : ∀ x xs, g (x :: xs) = (f x && g xs)) : ∀ xs, (∀ x ∈ xs, f x = true) → g xs = true
  | [], _ => h0
  | x :: xs, h => by
    rw [h1, h x List.mem_cons_self, all_iff h0 h1 xs fun y hy => h y (List.mem_cons_of_mem _ hy)]
    rfl
theorem depthAll_le {n : Nat} : ∀ xs : List PyData, (∀ x ∈ xs, x.depth ≤ n) → PyData.depthAll xs ≤ n
  | [], _ => Nat.zero_le _
  | x :: xs, h => by
    show max x.depth (PyData.depthAll xs) ≤ n
    have a := h x List.mem_cons_self
    have b := depthAll_le xs fun y hy => h y (List.mem_cons_of_mem _ hy)
    omega
theorem pl_none {n : Nat} : Pl n .none := ⟨rfl, Nat.zero_le _, rfl⟩
theorem pl_int {n : Nat} {i : Int} : Pl n (.int i) := ⟨rfl, Nat.zero_le _, rfl⟩
theorem pl_str {n : Nat} {x : Str} (h : PyData.canLay0 (.str x) = true := by decide +kernel) : Pl n (.str x) := ⟨h, Nat.zero_le _, rfl⟩
theorem pl_tup {n : Nat} {ds : List PyData} (h : ∀ d ∈ ds, Pl n d) : Pl (n + 1) (.tuple ds) :=
  ⟨all_iff (f := PyData.canLay0) (g := PyData.canLayAll0) rfl (fun _ _ => rfl) ds fun d hd => (h d hd).lay, Nat.succ_le_succ (depthAll_le ds fun d hd => (h d hd).dep), all_iff (f := nob) (g := nobAll) rfl (fun _ _ => rfl) ds fun d hd => (h d hd).nob⟩
theorem pl_lst {n : Nat} {ds : List PyData} (h : ∀ d ∈ ds, Pl n d) : Pl (n + 1) (.list ds) :=
  ⟨all_iff (f := PyData.canLay0) (g := PyData.canLayAll0) rfl (fun _ _ => rfl) ds fun d hd => (h d hd).lay, Nat.succ_le_succ (depthAll_le ds fun d hd => (h d hd).dep), all_iff (f := nob) (g := nobAll) rfl (fun _ _ => rfl) ds fun d hd => (h d hd).nob⟩
theorem Pl.shaped {n : Nat} {d : PyData} (h : Pl n d) (hn : n ≤ 64) : SeqAt.shaped d = true := by
  unfold SeqAt.shaped
  rw [h.lay, Bool.true_and]
  exact decide_eq_true (Nat.le_trans h.dep hn)
mutual
theorem eqv_iff : ∀ d e : PyData, nob d = true → nob e = true → (PyData.eqv d e = true ↔ d = e)
  | .none, e, _, he => by cases e <;> simp_all [PyData.eqv, nob]
  | .bool _, _, hd, _ => by cases hd
  | .int i, e, _, he => by cases e <;> simp_all [PyData.eqv, nob]
  | .str x, e, _, he => by cases e <;> simp_all [PyData.eqv, nob]
  | .list xs, e, hd, he => by
    cases e with
    | list ys =>
      have h := eqvAll_iff xs ys hd he
      show PyData.eqvAll xs ys = true ↔ _
      rw [h]
      exact ⟨fun z => by rw [z], fun z => by cases z; rfl⟩
    | bool _ => cases he
    | dict _ => cases he
    | none => simp [PyData.eqv]
    | int _ => simp [PyData.eqv]
    | str _ => simp [PyData.eqv]
    | tuple _ => simp [PyData.eqv]
  | .tuple xs, e, hd, he => by
    cases e with
    | tuple ys =>
      have h := eqvAll_iff xs ys hd he
      show PyData.eqvAll xs ys = true ↔ _
      rw [h]
      exact ⟨fun z => by rw [z], fun z => by cases z; rfl⟩
    | bool _ => cases he
    | dict _ => cases he
    | none => simp [PyData.eqv]
    | int _ => simp [PyData.eqv]
    | str _ => simp [PyData.eqv]
    | list _ => simp [PyData.eqv]
  | .dict _, _, hd, _ => by cases hd
theorem eqvAll_iff : ∀ xs ys : List PyData, nobAll xs = true → nobAll ys = true → (PyData.eqvAll xs ys = true ↔ xs = ys)
  | [], [], _, _ => by simp [PyData.eqvAll]
  | [], _ :: _, _, _ => by simp [PyData.eqvAll]
  | _ :: _, [], _, _ => by simp [PyData.eqvAll]
  | x :: xs, y :: ys, h1, h2 => by
    have a := Bool.and_eq_true_iff.mp (show (nob x && nobAll xs) = true from h1)
    have b := Bool.and_eq_true_iff.mp (show (nob y && nobAll ys) = true from h2)
    show (PyData.eqv x y && PyData.eqvAll xs ys) = true ↔ _
    rw [Bool.and_eq_true_iff, eqv_iff x y a.1 b.1, eqvAll_iff xs ys a.2 b.2, List.cons.injEq]
end
theorem Pl.eqv {n m : Nat} {d e : PyData} (a : Pl n d) (b : Pl m e) {p : Prop} [Decidable p] (h : d = e ↔ p) : PyData.eqv d e = decide p := by
  have q := (eqv_iff d e a.nob b.nob).trans h
  by_cases hp : p
  · rw [decide_eq_true hp]
    exact q.mpr hp
  · rw [decide_eq_false hp]
    exact Bool.eq_false_iff.mpr fun z => hp (q.mp z)
theorem Pl.refl {n : Nat} {d : PyData} (a : Pl n d) : PyData.eqv d d = true := (eqv_iff d d a.nob a.nob).mpr rfl

/-! ### tuples of ints -/
abbrev dI (ns : List Int) : PyData := .tuple (ns.map .int)
abbrev dLI (dss : List (List Int)) : PyData := .list (dss.map dI)
theorem pl_dI {ns : List Int} : Pl 1 (dI ns) := pl_tup fun d hd => by
  obtain ⟨i, _, rfl⟩ := List.mem_map.mp hd
  exact pl_int
theorem pl_dLI {dss : List (List Int)} : Pl 2 (dLI dss) := pl_lst fun d hd => by
  obtain ⟨i, _, rfl⟩ := List.mem_map.mp hd
  exact pl_dI
theorem map_int_inj : ∀ {a b : List Int}, a.map PyData.int = b.map PyData.int → a = b
  | [], [], _ => rfl
  | [], _ :: _, h => by cases h
  | _ :: _, [], h => by cases h
  | x :: a, y :: b, h => by
    rw [List.map_cons, List.map_cons, List.cons.injEq] at h
    rw [PyData.int.inj h.1, map_int_inj h.2]
theorem dI_inj {a b : List Int} : dI a = dI b ↔ a = b := ⟨fun h => map_int_inj (PyData.tuple.inj h), fun h => by rw [h]⟩
theorem map_V_inj : ∀ {a b : List Int}, a.map V.int = b.map V.int → a = b
  | [], [], _ => rfl
  | [], _ :: _, h => by cases h
  | _ :: _, [], h => by cases h
  | x :: a, y :: b, h => by
    rw [List.map_cons, List.map_cons, List.cons.injEq] at h
    rw [V.int.inj h.1, map_V_inj h.2]
section
variable {K : PySem.W.Frag} {H H' F : Hp}
theorem dpAll_ints : ∀ ns : List Int, DpAll K H (ns.map V.int) (ns.map PyData.int)
  | [] => .nil
  | n :: ns => .cons (.int n) (dpAll_ints ns)
/-- v is a tuple of the ints ns -/
def TI (H : Hp) (v : V) (ns : List Int) : Prop := ∃ t, v = .ref t ∧ H t = some (.tup (ns.map V.int))
theorem TI.mono (e : Same H H') {v : V} {ns : List Int} (h : TI H v ns) : TI H' v ns := by
  obtain ⟨t, rfl, h⟩ := h
  exact ⟨t, rfl, e _ _ h⟩
theorem TI.dp {v : V} {ns : List Int} (h : TI H v ns) : Dp K H v (dI ns) := by
  obtain ⟨t, rfl, h⟩ := h
  exact .tup (SqT.of h) (dpAll_ints ns)
abbrev TIs (H : Hp) : List V → List (List Int) → Prop := Paired (TI H)
theorem TIs.mono (e : Same H H') {vs : List V} {nss : List (List Int)} (h : TIs H vs nss) : TIs H' vs nss := Paired.mono (fun _ _ => TI.mono e) h
theorem TIs.dp : ∀ {vs : List V} {nss : List (List Int)}, TIs H vs nss → DpAll K H vs (nss.map dI)
  | _, _, .nil => .nil
  | _, _, .cons h t => .cons h.dp (TIs.dp t)
theorem TIs.get : ∀ {vs : List V} {nss : List (List Int)} {i : Nat} {v : V}, TIs H vs nss → vs[i]? = some v → ∃ ns, nss[i]? = some ns ∧ TI H v ns
  | _, _, 0, _, .cons h _, e => by
    rw [List.getElem?_cons_zero] at e
    cases e
    exact ⟨_, rfl, h⟩
  | _, _, i + 1, _, .cons _ t, e => by
    rw [List.getElem?_cons_succ] at e ⊢
    exact TIs.get t e
theorem TIs.app {vs ws : List V} {nss mss : List (List Int)} (h : TIs H vs nss) (k : TIs H ws mss) : TIs H (vs ++ ws) (nss ++ mss) := by
  induction h with
  | nil => exact k
  | cons a _ ih => exact .cons a ih
theorem TIs.take : ∀ {vs : List V} {nss : List (List Int)} (n : Nat), TIs H vs nss → TIs H (vs.take n) (nss.take n)
  | _, _, 0, _ => .nil
  | _, _, _ + 1, .nil => .nil
  | _, _, n + 1, .cons h t => .cons h (TIs.take n t)
theorem TIs.drop : ∀ {vs : List V} {nss : List (List Int)} (n : Nat), TIs H vs nss → TIs H (vs.drop n) (nss.drop n)
  | _, _, 0, h => h
  | _, _, _ + 1, .nil => .nil
  | _, _, n + 1, .cons _ t => TIs.drop n t
theorem TIs.set {v : V} {ns : List Int} (h : TI H v ns) : ∀ {vs : List V} {nss : List (List Int)} (i : Nat), TIs H vs nss → TIs H (vs.set i v) (nss.set i ns)
  | _, _, _, .nil => .nil
  | _, _, 0, .cons _ t => .cons h t
  | _, _, i + 1, .cons a t => .cons a (TIs.set h i t)
theorem TIs.erase : ∀ {vs : List V} {nss : List (List Int)} (i : Nat), TIs H vs nss → TIs H (vs.eraseIdx i) (nss.eraseIdx i)
  | _, _, _, .nil => .nil
  | _, _, 0, .cons _ t => t
  | _, _, i + 1, .cons a t => .cons a (TIs.erase i t)
theorem any_dI {ns : List Int} : ∀ dss : List (List Int), ((dss.map dI).any fun z => PyData.eqv z (dI ns)) = decide (ns ∈ dss)
  | [] => by simp
  | d :: dss => by
    rw [List.map_cons, List.any_cons, any_dI dss, pl_dI.eqv pl_dI (p := ns = d) (dI_inj.trans ⟨Eq.symm, Eq.symm⟩)]
    rw [show decide (ns ∈ d :: dss) = decide (ns = d ∨ ns ∈ dss) from decide_eq_decide.mpr List.mem_cons, Bool.decide_or]
end
end Z

/-! Zq: steps: pairs, dicts, slices, comprehensions, sorted, isinstance. -/
namespace Z
open PySem PySem.Spec L2
open PyProof.Rows hiding St
section
variable {X : Cx}
def rInsert : V → List V → Hp → VK → Prop := fun x vs H Q => ∃ (l : Addr) (xs : List V) (i : Int) (y : V), x = .ref l ∧ vs = [.int i, y] ∧ H l = some (.lst xs) ∧ xs.length < sizeLine ∧ 0 ≤ i ∧ i < 2 ^ 63 ∧
  Q .non (upd H l (.lst (xs.take i.toNat ++ [y] ++ xs.drop i.toNat)))
theorem mt_zInsert : MtR X "list.insert" rInsert := mt_insert
def zSorted (K : PySem.W.Frag) (w : World) : List V → Hp → VK → Prop := orC (rSortedSet w) (rSortedI K)
theorem cr_zSorted (hc : X.calm = true) : CallR X (.builtin "sorted") (zSorted X.K X.w) := cr_or2 (cr_sortedSet hc) cr_sortedI
end
section
variable {K : PySem.W.Frag} {w0 : World} {σ : St} {H : Hp} {D : Ends} {t u : TS} {ta tb tc te tl : TE} {to' tl' th' : TO} {c c' : TT} {v w x y z : V} {Q : VK} {QH : Hp → Prop} {QS : St → Hp → Prop} {QB : Bool → Hp → Prop} {QO : Option Int → Hp → Prop} {i j : Nat} {g : TG} {p q a b l : Addr} {xs ys : List V} {tA : TA} {m n : Int} {vs : List Nat} {ns : List Int}
theorem s_par (h : ta σ H fun x H1 => tb σ H1 fun y H2 => ∃ v w, [x, y] = [v, w] ∧ D.nx ((σ.set i (some v)).set j (some w)) H2) : tPar i j (tCons ta (tCons tb tNil)) D σ H := h
theorem par_ {P : V → V → Prop} (h : P x y) : ∃ v w, [x, y] = [v, w] ∧ P v w := ⟨x, y, rfl, h⟩
theorem s_dput (h : tc σ H fun v H1 => ta σ H1 fun x H2 => tb σ H2 fun y H3 => ∃ a H4, x = .ref a ∧ DPut H3 a y v H4 ∧ D.nx σ H4) : sDPut ta tb tc D σ H := h
theorem dput_T {ks : List Key} {kvs : List (List Key × V)} (ha : H a = some (.dT kvs)) (hb : H b = some (.tup (ks.map kV))) (hl : kvs.length < sizeLine) (h : QH (upd H a (.dT (putK kvs ks v)))) :
    ∃ a' H4, V.ref a = .ref a' ∧ DPut H a' (.ref b) v H4 ∧ QH H4 := ⟨a, _, rfl, DPut.t ha hb hl, h⟩
theorem e_din (h : ta σ H fun y H1 => tb σ H1 fun x H2 => ∃ a o, x = .ref a ∧ DGet H2 a y o ∧ Q (.bl o.isSome) H2) : tDIn ta tb σ H Q := h
theorem din_T {ks : List Key} {kvs : List (List Key × V)} {P : Option V → Prop} (ha : H a = some (.dT kvs)) (hb : H b = some (.tup (ks.map kV))) (h : P (valV kvs ks)) : ∃ a' o, V.ref a = .ref a' ∧ DGet H a' (.ref b) o ∧ P o :=
  ⟨a, _, rfl, DGet.t ha hb, h⟩
theorem e_dnewT (h : ∀ p, Fresh H p → Q (.ref p) (upd H p (.dT []))) : tDNewT σ H Q := h
theorem e_dnewK (h : ∀ p, Fresh H p → Q (.ref p) (upd H p (.dK []))) : tDNewK σ H Q := h
theorem kv_ints (ns : List Int) : (ns.map (Sum.inl : Int → Key)).map kV = ns.map V.int := by
  rw [List.map_map]
  rfl
theorem e_sl {r : V → Option Int → Option Int → Hp → VK → Prop} (h : te σ H fun x H1 => tl' σ H1 fun l H2 => th' σ H2 fun u H3 => r x l u H3 Q) : tSl r te tl' th' σ H Q := h
theorem p_none (h : QO none H) : tNoPart σ H QO := h
theorem p_some (h : te σ H fun x H1 => ∃ i, x = .int i ∧ QO (some i) H1) : tPart te σ H QO := h
theorem p_int {P : Int → Prop} (h : P m) : ∃ i, V.int m = .int i ∧ P i := ⟨m, rfl, h⟩
theorem sl_L {lo hi : Option Int} (hs : SqL K H a xs) (h : ∀ p, Fresh H p → Q (.ref p) (upd H p (.lst (cutV xs lo hi)))) : zSl K (.ref a) lo hi H Q := .inl ⟨a, xs, rfl, hs, h⟩
theorem sl_T {lo hi : Option Int} (hs : SqT K H a xs) (h1 : HT.sIx xs.length 0 lo = 0 ∧ HT.sIx xs.length xs.length hi = xs.length → Q (.ref a) H)
    (h2 : ¬ (HT.sIx xs.length 0 lo = 0 ∧ HT.sIx xs.length xs.length hi = xs.length) → ∀ p, Fresh H p → Q (.ref p) (upd H p (.tup (cutV xs lo hi)))) : zSl K (.ref a) lo hi H Q := .inr ⟨a, xs, rfl, hs, h1, h2⟩
/-- a slice of a tuple, the same or a new one: what is known of it -/
theorem sl_Tk {lo hi : Option Int} (hs : SqT K H a xs) (h : ∀ p H', Same H H' → (H' = H ∨ Fresh H p ∧ H' = upd H p (.tup (cutV xs lo hi))) → SqT K H' p (cutV xs lo hi) → Q (.ref p) H') : zSl K (.ref a) lo hi H Q :=
  sl_T hs (fun ⟨e1, e2⟩ => h a H (Same.refl H) (.inl rfl) (by
    have e : cutV xs lo hi = xs := by
      unfold cutV
      rw [e1, e2, List.drop_zero, Nat.sub_zero, List.take_length]
    rw [e]
    exact hs)) fun _ p np => h p _ (fun b o e => by
      rw [upd_ne (ne_of_none e np)]
      exact e) (.inr ⟨np, rfl⟩) (SqT.of upd_same)
theorem cut_lo (xs : List V) (k : Nat) : cutV xs none (some (k : Int)) = xs.take k := by
  unfold cutV
  rw [HT.sIx_none, HT.sIx_nat, List.drop_zero, Nat.sub_zero]
  rcases Nat.le_total k xs.length with h | h
  · rw [Nat.min_eq_left h]
  · rw [Nat.min_eq_right h, List.take_length, List.take_of_length_le h]
theorem cut_hi (xs : List V) (k : Nat) : cutV xs (some (k : Int)) none = xs.drop k := by
  unfold cutV
  rw [HT.sIx_none, HT.sIx_nat]
  rcases Nat.le_total k xs.length with h | h
  · rw [Nat.min_eq_left h, List.take_of_length_le (by rw [List.length_drop]; omega)]
  · rw [Nat.min_eq_right h, List.drop_eq_nil_of_le (Nat.le_refl _), List.drop_eq_nil_of_le h]
    simp
-- comprehensions
def LcW (J : It) (g : TG) (tt : TT) (te : TE) (vs : List Nat) (σ : St) (H : Hp) (Q : VK) : Prop := ∀ D, H D = none → ∃ W : Nat → Nat → Hp → Prop, (∃ m, W 0 m (upd H D (.lst []))) ∧ ∀ i m H', W i m H' →
  (J.stop i H' ∧ Q (.ref D) H') ∨ (J.go i H' ∧ ∃ Nx : Hp → Prop, (∀ H2, Nx H2 → ∃ m', m' < m ∧ W (i + 1) m' H2) ∧ ∀ x H2, J.yld i H' x H2 → g x (wipe σ vs) H2 fun σ2 H3 => wipe σ2 vs = wipe σ vs ∧ tt σ2 H3 fun b H4 =>
    if b = true then te σ2 H4 fun y H5 => ∃ acc, H5 D = some (.lst acc) ∧ acc.length < sizeLine ∧ Nx (upd H5 D (.lst (acc ++ [y]))) else Nx H4)
def LcL (K : PySem.W.Frag) (g : TG) (tt : TT) (te : TE) (vs : List Nat) (σ : St) (x : V) (H : Hp) (Q : VK) : Prop := ∃ a, x = .ref a ∧ (∃ xs, SqL K H a xs) ∧ LcW (Itl K a) g tt te vs σ H Q
def LcT (K : PySem.W.Frag) (g : TG) (tt : TT) (te : TE) (vs : List Nat) (σ : St) (x : V) (H : Hp) (Q : VK) : Prop := ∃ a, x = .ref a ∧ (∃ xs, SqT K H a xs) ∧ LcW (Itt K a) g tt te vs σ H Q
def LcR1 (g : TG) (tt : TT) (te : TE) (vs : List Nat) (σ : St) (x : V) (H : Hp) (Q : VK) : Prop := ∃ j : Int, [x] = [V.int j] ∧ -(2 ^ 62) ≤ j ∧ j < 2 ^ 62 ∧ LcW (Itr 0 j.toNat) g tt te vs σ H Q
def LcR2 (g : TG) (tt : TT) (te : TE) (vs : List Nat) (σ : St) (x y : V) (H : Hp) (Q : VK) : Prop := ∃ i j : Int, [x, y] = [V.int i, V.int j] ∧ (-(2 ^ 62) ≤ i ∧ i < 2 ^ 62 ∧ -(2 ^ 62) ≤ j ∧ j < 2 ^ 62) ∧ LcW (Itr i (j - i).toNat) g tt te vs σ H Q
theorem e_lcL (h : tl σ H fun x H1 => LcL K g c te vs σ x H1 Q) : tLc (iList K tl) g c te vs σ H Q := h
theorem e_lcT (h : tl σ H fun x H1 => LcT K g c te vs σ x H1 Q) : tLc (iTup K tl) g c te vs σ H Q := h
theorem e_lcR1 (h : tl σ H fun x H1 => LcR1 g c te vs σ x H1 Q) : tLc (iRng1 (tCons tl tNil)) g c te vs σ H Q := h
theorem e_lcR2 (h : tl σ H fun x H1 => tb σ H1 fun y H2 => LcR2 g c te vs σ x y H2 Q) : tLc (iRng2 (tCons tl (tCons tb tNil))) g c te vs σ H Q := h
theorem c_yes (h : QB true H) : tYes σ H QB := h
theorem lc_L (hs : SqL K H a xs) (Pv : Addr → Nat → Hp → Prop) (h0 : ∀ D, Fresh H D → Pv D 0 (upd H D (.lst []))) (hl : ∀ D i H', i ≤ xs.length → Pv D i H' → SqL K H' a xs)
    (hb : ∀ D i x H', Fresh H D → xs[i]? = some x → Pv D i H' → g x (wipe σ vs) H' fun σ2 H3 => wipe σ2 vs = wipe σ vs ∧ c σ2 H3 fun b H4 =>
      if b = true then te σ2 H4 fun y H5 => ∃ acc, H5 D = some (.lst acc) ∧ acc.length < sizeLine ∧ Pv D (i + 1) (upd H5 D (.lst (acc ++ [y]))) else Pv D (i + 1) H4)
    (hd : ∀ D H', Fresh H D → Pv D xs.length H' → Q (.ref D) H') : LcL K g c te vs σ (.ref a) H Q := ⟨a, rfl, ⟨xs, hs⟩, fun D nD => lc_list (Pv D) (h0 D nD) (hl D) (fun i x H' => hb D i x H' nD) (fun H' => hd D H' nD)⟩
theorem lc_T (hs : SqT K H a xs) (Pv : Addr → Nat → Hp → Prop) (h0 : ∀ D, Fresh H D → Pv D 0 (upd H D (.lst []))) (hl : ∀ D i H', i ≤ xs.length → Pv D i H' → SqT K H' a xs)
    (hb : ∀ D i x H', Fresh H D → xs[i]? = some x → Pv D i H' → g x (wipe σ vs) H' fun σ2 H3 => wipe σ2 vs = wipe σ vs ∧ c σ2 H3 fun b H4 =>
      if b = true then te σ2 H4 fun y H5 => ∃ acc, H5 D = some (.lst acc) ∧ acc.length < sizeLine ∧ Pv D (i + 1) (upd H5 D (.lst (acc ++ [y]))) else Pv D (i + 1) H4)
    (hd : ∀ D H', Fresh H D → Pv D xs.length H' → Q (.ref D) H') : LcT K g c te vs σ (.ref a) H Q := ⟨a, rfl, ⟨xs, hs⟩, fun D nD => lc_tup (Pv D) (h0 D nD) (hl D) (fun i x H' => hb D i x H' nD) (fun H' => hd D H' nD)⟩
theorem lc_R1 (hr : -(2 ^ 62) ≤ n ∧ n < 2 ^ 62) (Pv : Addr → Nat → Hp → Prop) (h0 : ∀ D, Fresh H D → Pv D 0 (upd H D (.lst [])))
    (hb : ∀ D (i : Nat) H', Fresh H D → (i : Int) < n → Pv D i H' → g (.int (i : Int)) (wipe σ vs) H' fun σ2 H3 => wipe σ2 vs = wipe σ vs ∧ c σ2 H3 fun b H4 =>
      if b = true then te σ2 H4 fun y H5 => ∃ acc, H5 D = some (.lst acc) ∧ acc.length < sizeLine ∧ Pv D (i + 1) (upd H5 D (.lst (acc ++ [y]))) else Pv D (i + 1) H4)
    (hd : ∀ D H', Fresh H D → Pv D n.toNat H' → Q (.ref D) H') : LcR1 g c te vs σ (.int n) H Q := ⟨n, rfl, hr.1, hr.2, fun D nD => lc_range (lo := 0) (Pv D) (h0 D nD) (fun i H' hi p => by
    have e : (0 : Int) + (i : Int) = (i : Int) := Int.zero_add _
    rw [e]
    exact hb D i H' nD (by omega) p) (fun H' => hd D H' nD)⟩
theorem lc_R2 (hr : -(2 ^ 62) ≤ m ∧ m < 2 ^ 62 ∧ -(2 ^ 62) ≤ n ∧ n < 2 ^ 62) (Pv : Addr → Nat → Hp → Prop) (h0 : ∀ D, Fresh H D → Pv D 0 (upd H D (.lst [])))
    (hb : ∀ D (i : Nat) H', Fresh H D → m + (i : Int) < n → Pv D i H' → g (.int (m + i)) (wipe σ vs) H' fun σ2 H3 => wipe σ2 vs = wipe σ vs ∧ c σ2 H3 fun b H4 =>
      if b = true then te σ2 H4 fun y H5 => ∃ acc, H5 D = some (.lst acc) ∧ acc.length < sizeLine ∧ Pv D (i + 1) (upd H5 D (.lst (acc ++ [y]))) else Pv D (i + 1) H4)
    (hd : ∀ D H', Fresh H D → Pv D (n - m).toNat H' → Q (.ref D) H') : LcR2 g c te vs σ (.int m) (.int n) H Q := ⟨m, n, rfl, hr, fun D nD => lc_range (Pv D) (h0 D nD) (fun i H' hi p => hb D i H' nD (by omega) p) (fun H' => hd D H' nD)⟩
theorem w_split {σ2 : St} {R : Prop} (h1 : wipe σ2 vs = wipe σ vs) (h2 : R) : wipe σ2 vs = wipe σ vs ∧ R := ⟨h1, h2⟩
-- built-in methods of lists
theorem m_ext {zs : List V} (hl : H a = some (.lst xs)) (hb : H b = some (.lst zs)) (hz : xs.length + zs.length ≤ sizeLine) (h : Q .non (upd H a (.lst (xs ++ zs)))) : rExtend (.ref a) [.ref b] H Q := ⟨a, b, xs, zs, rfl, rfl, hl, hb, hz, h⟩
theorem m_popN (hl : H a = some (.lst xs)) {k : Nat} (hk : xs[k]? = some y) (hz : xs.length ≤ sizeLine) (h : Q y (upd H a (.lst (xs.eraseIdx k)))) : rPopAt (.ref a) [.int (k : Int)] H Q := by
  have e := (List.getElem?_eq_some_iff.mp hk).1
  refine ⟨a, xs, (k : Int), k, y, rfl, rfl, hl, by omega, by rw [sizeLine_eq] at hz; omega, (ixN_seq (Evl.ixN_nat e)).1, hk, h⟩
theorem m_pop (hl : H a = some (.lst xs)) (hk : xs[xs.length - 1]? = some y) (h : Q y (upd H a (.lst xs.dropLast))) : rPop (.ref a) [] H Q := ⟨a, xs, y, rfl, rfl, hl, hk, h⟩
theorem m_ins {k : Nat} (hl : H a = some (.lst xs)) (hz : xs.length < sizeLine) (hk : (k : Int) < 2 ^ 63) (h : Q .non (upd H a (.lst (xs.take k ++ [y] ++ xs.drop k)))) : rInsert (.ref a) [.int (k : Int), y] H Q :=
  ⟨a, xs, (k : Int), y, rfl, rfl, hl, hz, by omega, hk, h⟩
-- sorted, set
theorem o_setL' (hs : SqL K H a (ns.map V.int)) (hl : ns.length ≤ 1000) (h : ∀ p c, c ≤ ns.length → Fresh H p → Q (.ref p) (upd H p (SetO w0 p (fun j => decide (j ∈ ns)) c))) : zSet K w0 [.ref a] H Q := ⟨a, ns, rfl, .inl hs, hl, h⟩
theorem o_setT' (hs : SqT K H a (ns.map V.int)) (hl : ns.length ≤ 1000) (h : ∀ p c, c ≤ ns.length → Fresh H p → Q (.ref p) (upd H p (SetO w0 p (fun j => decide (j ∈ ns)) c))) : zSet K w0 [.ref a] H Q := ⟨a, ns, rfl, .inr hs, hl, h⟩
theorem o_sortSet {S : Int → Bool} {k : Nat} (hs : H a = some (SetO w0 a S k)) (hk : k < 64) (h : ∀ (ns : List Int) (p : Addr), ns.Pairwise (· < ·) → (∀ k : Int, k ∈ ns ↔ S k = true) → ns.length = k → Fresh H p → Q (.ref p) (upd H p (.lst (ns.map V.int)))) :
    zSorted K w0 [.ref a] H Q := .inl ⟨a, S, k, rfl, hs, hk, h⟩
theorem o_sortI (hs : SqL K H a (ns.map V.int)) (h : ∀ (ns' : List Int) (p : Addr), ns'.Perm ns → ns'.Pairwise (· ≤ ·) → Fresh H p → Q (.ref p) (upd H p (.lst (ns'.map V.int)))) : zSorted K w0 [.ref a] H Q := .inr ⟨a, ns, rfl, hs, h⟩
-- isinstance
theorem ty_L (h : SqL K H a xs) : TyX K H (.ref a) (.type "list") := by
  rcases h with (h | ⟨o, h⟩) | ⟨o, its, k, e, c, _⟩
  · exact .base (.lst h)
  · exact .base (.frz h)
  · exact .kList e c
theorem ty_T (h : SqT K H a xs) : TyX K H (.ref a) (.type "tuple") := by
  rcases h with (h | ⟨o, h⟩) | ⟨o, its, k, e, c, _⟩
  · exact .base (.tup h)
  · exact .fTuple h
  · exact .kTuple e c
theorem isi {A B : String} {r : Bool} (ht : TyX K H x (.type A)) (hk : kitB A B = some r) (h : Q (.bl r) H) : rIsi K [x, .ty B] H Q := ⟨x, .ty B, .type A, .type B, r, rfl, .ty B, ht, kit_ty hk, h⟩
theorem i_int_int (h : Q (.bl true) H) : rIsi K [.int m, .ty "int"] H Q := isi (.base (.int m)) (by decide +kernel) h
theorem i_int_bool (h : Q (.bl false) H) : rIsi K [.int m, .ty "bool"] H Q := isi (.base (.int m)) (by decide +kernel) h
theorem i_int_str (h : Q (.bl false) H) : rIsi K [.int m, .ty "str"] H Q := isi (.base (.int m)) (by decide +kernel) h
theorem i_int_tuple (h : Q (.bl false) H) : rIsi K [.int m, .ty "tuple"] H Q := isi (.base (.int m)) (by decide +kernel) h
theorem i_int_list (h : Q (.bl false) H) : rIsi K [.int m, .ty "list"] H Q := isi (.base (.int m)) (by decide +kernel) h
theorem i_bl_int {k : Bool} (h : Q (.bl true) H) : rIsi K [.bl k, .ty "int"] H Q := isi (.base (.bl k)) (by decide +kernel) h
theorem i_bl_bool {k : Bool} (h : Q (.bl true) H) : rIsi K [.bl k, .ty "bool"] H Q := isi (.base (.bl k)) (by decide +kernel) h
theorem i_bl_str {k : Bool} (h : Q (.bl false) H) : rIsi K [.bl k, .ty "str"] H Q := isi (.base (.bl k)) (by decide +kernel) h
theorem i_bl_tuple {k : Bool} (h : Q (.bl false) H) : rIsi K [.bl k, .ty "tuple"] H Q := isi (.base (.bl k)) (by decide +kernel) h
theorem i_bl_list {k : Bool} (h : Q (.bl false) H) : rIsi K [.bl k, .ty "list"] H Q := isi (.base (.bl k)) (by decide +kernel) h
theorem i_str_int {k : Str} (h : Q (.bl false) H) : rIsi K [.str k, .ty "int"] H Q := isi (.base (.str k)) (by decide +kernel) h
theorem i_str_bool {k : Str} (h : Q (.bl false) H) : rIsi K [.str k, .ty "bool"] H Q := isi (.base (.str k)) (by decide +kernel) h
theorem i_str_str {k : Str} (h : Q (.bl true) H) : rIsi K [.str k, .ty "str"] H Q := isi (.base (.str k)) (by decide +kernel) h
theorem i_str_tuple {k : Str} (h : Q (.bl false) H) : rIsi K [.str k, .ty "tuple"] H Q := isi (.base (.str k)) (by decide +kernel) h
theorem i_str_list {k : Str} (h : Q (.bl false) H) : rIsi K [.str k, .ty "list"] H Q := isi (.base (.str k)) (by decide +kernel) h
theorem i_non_int (h : Q (.bl false) H) : rIsi K [.non, .ty "int"] H Q := isi (.base .non) (by decide +kernel) h
theorem i_non_bool (h : Q (.bl false) H) : rIsi K [.non, .ty "bool"] H Q := isi (.base .non) (by decide +kernel) h
theorem i_non_str (h : Q (.bl false) H) : rIsi K [.non, .ty "str"] H Q := isi (.base .non) (by decide +kernel) h
theorem i_non_tuple (h : Q (.bl false) H) : rIsi K [.non, .ty "tuple"] H Q := isi (.base .non) (by decide +kernel) h
theorem i_non_list (h : Q (.bl false) H) : rIsi K [.non, .ty "list"] H Q := isi (.base .non) (by decide +kernel) h
theorem i_T_int (hs : SqT K H a xs) (h : Q (.bl false) H) : rIsi K [.ref a, .ty "int"] H Q := isi (ty_T hs) (by decide +kernel) h
theorem i_T_bool (hs : SqT K H a xs) (h : Q (.bl false) H) : rIsi K [.ref a, .ty "bool"] H Q := isi (ty_T hs) (by decide +kernel) h
theorem i_T_str (hs : SqT K H a xs) (h : Q (.bl false) H) : rIsi K [.ref a, .ty "str"] H Q := isi (ty_T hs) (by decide +kernel) h
theorem i_T_tuple (hs : SqT K H a xs) (h : Q (.bl true) H) : rIsi K [.ref a, .ty "tuple"] H Q := isi (ty_T hs) (by decide +kernel) h
theorem i_T_list (hs : SqT K H a xs) (h : Q (.bl false) H) : rIsi K [.ref a, .ty "list"] H Q := isi (ty_T hs) (by decide +kernel) h
theorem i_L_int (hs : SqL K H a xs) (h : Q (.bl false) H) : rIsi K [.ref a, .ty "int"] H Q := isi (ty_L hs) (by decide +kernel) h
theorem i_L_bool (hs : SqL K H a xs) (h : Q (.bl false) H) : rIsi K [.ref a, .ty "bool"] H Q := isi (ty_L hs) (by decide +kernel) h
theorem i_L_str (hs : SqL K H a xs) (h : Q (.bl false) H) : rIsi K [.ref a, .ty "str"] H Q := isi (ty_L hs) (by decide +kernel) h
theorem i_L_tuple (hs : SqL K H a xs) (h : Q (.bl false) H) : rIsi K [.ref a, .ty "tuple"] H Q := isi (ty_L hs) (by decide +kernel) h
theorem i_L_list (hs : SqL K H a xs) (h : Q (.bl true) H) : rIsi K [.ref a, .ty "list"] H Q := isi (ty_L hs) (by decide +kernel) h
-- deep == and in
theorem o_inD {d : PyData} {ds : List PyData} (hx : Dp K H x d) (hy : Dp K H y (.list ds)) (sd : SeqAt.shaped d = true) (se : SeqAt.shaped (.list ds) = true) (h : Q (.bl (ds.any fun z => PyData.eqv z d)) H) : zIn K x y H Q := .inr (.inl ⟨d, ds, hx, hy, sd, se, h⟩)
theorem o_notInD {d : PyData} {ds : List PyData} (hx : Dp K H x d) (hy : Dp K H y (.list ds)) (sd : SeqAt.shaped d = true) (se : SeqAt.shaped (.list ds) = true) (h : Q (.bl (!ds.any fun z => PyData.eqv z d)) H) : zNotIn K x y H Q := .inr (.inl ⟨d, ds, hx, hy, sd, se, h⟩)
theorem eqV_int (m n : Int) : eqV (.int m) (.int n) = decide (m = n) := by
  unfold eqV
  first | rfl | (simp [BEq.beq]) | simp
theorem inV_ints : ∀ (m : Int) (ns : List Int), inV (.int m) (ns.map V.int) = decide (m ∈ ns)
  | m, [] => by simp [inV]
  | m, n :: ns => by
    have ih := inV_ints m ns
    unfold inV at ih ⊢
    rw [List.map_cons, List.any_cons, ih, eqV_int, show decide (m ∈ n :: ns) = decide (m = n ∨ m ∈ ns) from decide_eq_decide.mpr List.mem_cons, Bool.decide_or]
    congr 1
    exact decide_eq_decide.mpr ⟨Eq.symm, Eq.symm⟩
theorem flat_ints : ∀ ns : List Int, (ns.map V.int).all flatV = true
  | [] => rfl
  | n :: ns => by
    rw [List.map_cons, List.all_cons, flat_ints ns]
    rfl
theorem o_inI (hs : SqL K H a (ns.map V.int) ∨ SqT K H a (ns.map V.int)) (h : Q (.bl (decide (m ∈ ns))) H) : zIn K (.int m) (.ref a) H Q := .inl ⟨a, _, rfl, hs, rfl, flat_ints ns, by
  rw [inV_ints, if_neg Bool.false_ne_true]
  exact h⟩
theorem o_notInI (hs : SqL K H a (ns.map V.int) ∨ SqT K H a (ns.map V.int)) (h : Q (.bl (!decide (m ∈ ns))) H) : zNotIn K (.int m) (.ref a) H Q := .inl ⟨a, _, rfl, hs, rfl, flat_ints ns, by
  rw [inV_ints, if_pos rfl]
  exact h⟩
theorem e_notT (h : ta σ H fun x H1 => ∃ k, TruV K x H1 k ∧ Q (.bl (!k)) H1) : tNotT K ta σ H Q := h
theorem g_sub {to ti : TE} {ts : TSet} (h : to σ H fun o H1 => ti σ H1 fun i H2 => ts o i v H2 fun H3 => QS σ H3) : gSub to ti ts v σ H QS := h
theorem o_setN (hl : H a = some (.lst xs)) {k : Nat} (hk : k < xs.length) (h : QH (upd H a (.lst (xs.set k v)))) : rSetL (.ref a) (.int (k : Int)) v H QH := o_setL hl (Evl.ixN_nat hk) h
theorem z_int1 (h : Q (.int m) H) : zInt1 [.int m] H Q := .inl ⟨m, rfl, h⟩
theorem z_int1b {k : Bool} (h : Q (.int (if k then 1 else 0)) H) : zInt1 [.bl k] H Q := .inr ⟨k, rfl, h⟩
theorem z_abs (h : Q (.int (if m < 0 then -m else m)) H) : zAbs [.int m] H Q := ⟨m, rfl, h⟩
theorem z_max2 (h : Q (.int (if n > m then n else m)) H) : zMax2 [.int m, .int n] H Q := ⟨m, n, rfl, h⟩
theorem z_min2 (h : Q (.int (if n < m then n else m)) H) : zMin2 [.int m, .int n] H Q := ⟨m, n, rfl, h⟩
end
abbrev dL (ns : List Int) : PyData := .list (ns.map .int)
theorem pl_dL {ns : List Int} : Pl 1 (dL ns) := pl_lst fun d hd => by
  obtain ⟨i, _, rfl⟩ := List.mem_map.mp hd
  exact pl_int
theorem dL_inj {a b : List Int} : dL a = dL b ↔ a = b := ⟨fun h => map_int_inj (PyData.list.inj h), fun h => by rw [h]⟩
section
variable {K : PySem.W.Frag} {H : Hp} {a b : Addr} {ns ms : List Int} {Q : VK}
theorem o_neIL (ha : SqL K H a (ns.map V.int)) (hb : SqL K H b (ms.map V.int)) (h : Q (.bl (!decide (ns = ms))) H) : zNe K (.ref a) (.ref b) H Q :=
  o_neD (.lst ha (dpAll_ints ns)) (.lst hb (dpAll_ints ms)) (pl_dL.shaped (by decide)) (pl_dL.shaped (by decide)) (by rw [pl_dL.eqv pl_dL dL_inj]; exact h)
theorem o_eqIL (ha : SqL K H a (ns.map V.int)) (hb : SqL K H b (ms.map V.int)) (h : Q (.bl (decide (ns = ms))) H) : zEq K (.ref a) (.ref b) H Q :=
  o_eqD (.lst ha (dpAll_ints ns)) (.lst hb (dpAll_ints ms)) (pl_dL.shaped (by decide)) (pl_dL.shaped (by decide)) (by rw [pl_dL.eqv pl_dL dL_inj]; exact h)
theorem o_neIT (ha : SqT K H a (ns.map V.int)) (hb : SqT K H b (ms.map V.int)) (h : Q (.bl (!decide (ns = ms))) H) : zNe K (.ref a) (.ref b) H Q :=
  o_neD (.tup ha (dpAll_ints ns)) (.tup hb (dpAll_ints ms)) (pl_dI.shaped (by decide)) (pl_dI.shaped (by decide)) (by rw [pl_dI.eqv pl_dI dI_inj]; exact h)
theorem o_eqIT (ha : SqT K H a (ns.map V.int)) (hb : SqT K H b (ms.map V.int)) (h : Q (.bl (decide (ns = ms))) H) : zEq K (.ref a) (.ref b) H Q :=
  o_eqD (.tup ha (dpAll_ints ns)) (.tup hb (dpAll_ints ms)) (pl_dI.shaped (by decide)) (pl_dI.shaped (by decide)) (by rw [pl_dI.eqv pl_dI dI_inj]; exact h)
end
theorem divW70 {m n : Int} (h : 0 < n) (h2 : n ≤ 10 ^ 70) : CDivW m n := wide_div (b := 240) h (by
  have : n.toNat ≤ 10 ^ 70 := by omega
  have e : n.natAbs = n.toNat := by omega
  rw [e]
  exact Nat.lt_of_le_of_lt this (by decide)) (by decide) (by decide)
theorem o_div70 {m n : Int} {H : Hp} {Q : VK} (h : 0 < n) (h2 : n ≤ 10 ^ 70) (k : Q (.int (m / n)) H) : zDiv (.int m) (.int n) H Q := o_divW (divW70 h h2) k
theorem o_new {n : Nat} {H : Hp} {P : Addr → Prop} (h1 : n ≤ sizeLine) (h2 : ∀ p, Fresh H p → P p) : n ≤ sizeLine ∧ ∀ p, H p = none → P p := ⟨h1, h2⟩
theorem s_cut {t u : TS} {D : Ends} {σ : St} {H : Hp} (Mid : St → Hp → Prop) (h1 : t { D with nx := Mid } σ H) (h2 : ∀ σ' H', Mid σ' H' → u D σ' H') : Evl.tCut t u D σ H := ⟨Mid, h1, h2⟩
/-! ### tuples that are known: new since H, or frozen -/
structure Tk (F H H' : Hp) (p : Addr) (xs : List V) : Prop where
  at' : H' p = some (.tup xs)
  own : H p = none ∨ F p = some (.tup xs)
section
variable {K : PySem.W.Frag} {F H F1 H1 H2 : Hp} {a b p r : Addr} {o : HO} {xs ys : List V} {Q : VK}
theorem Tk.keep (h : Tk F H H1 p xs) (k : ∀ q o, H1 q = some o → H2 q = some o) : Tk F H H2 p xs := ⟨k _ _ h.at', h.own⟩
theorem Tk.gr (h : Tk F H H1 p xs) (g : Gr (M1 r) F1 H1 F1 H2) (n : p ≠ r) : Tk F H H2 p xs := ⟨g.hh _ _ n h.at', h.own⟩
theorem Tk.old (hF : Same F H1) (h : F p = some (.tup xs)) : Tk F H H1 p xs := ⟨hF _ _ h, .inr h⟩
theorem Tk.new (g : Gr (M1 r) F H F1 H1) (hr : H1 r = some o) (hn : Fresh H1 p) : Tk F H (upd H1 p (.tup xs)) p xs := ⟨upd_same, .inl (g.fr1 hr hn)⟩
theorem up_keep (hn : Fresh H1 p) : ∀ q u, H1 q = some u → (upd H1 p o) q = some u := fun q u e => (upd_ne (ne_of_none e hn)).trans e
theorem add_tk (g : Gr (M1 r) F H F1 H1) (hr : H1 r = some o) (ha : Tk F H H1 a xs) (hb : Tk F H H1 b ys) (hl : xs.length + ys.length ≤ sizeLine)
    (k : ∀ p H2, Gr (M1 r) F H F1 H2 → (∀ q o, H1 q = some o → H2 q = some o) → Tk F H H2 p (xs ++ ys) → Q (.ref p) H2) : zAdd K (.ref a) (.ref b) H1 Q :=
  o_addT (SqT.of ha.at') (SqT.of hb.at') hl (fun e => k _ _ g (fun _ _ h => h) (by rw [e]; exact hb)) (fun _ e => k _ _ g (fun _ _ h => h) (by rw [e, List.append_nil]; exact ha))
    fun _ _ p hn => k p _ (g.add hn) (up_keep hn) (.new g hr hn)
theorem sl_tk {lo hi : Option Int} (g : Gr (M1 r) F H F1 H1) (hr : H1 r = some o) (ha : Tk F H H1 a xs)
    (k : ∀ p H2, Gr (M1 r) F H F1 H2 → (∀ q o, H1 q = some o → H2 q = some o) → Tk F H H2 p (cutV xs lo hi) → Q (.ref p) H2) : zSl K (.ref a) lo hi H1 Q :=
  sl_T (SqT.of ha.at') (fun ⟨e1, e2⟩ => k _ _ g (fun _ _ h => h) (by
    have e : cutV xs lo hi = xs := by
      unfold cutV
      rw [e1, e2, List.drop_zero, Nat.sub_zero, List.take_length]
    rw [e]
    exact ha)) fun _ p hn => k p _ (g.add hn) (up_keep hn) (.new g hr hn)
/-- frozen from now on -/
theorem Gr.hold {M : Addr → Prop} (g : Gr M F H F1 H1) (h : Tk F H H1 p xs) : Gr M F H (upd F1 p (.tup xs)) H1 := by
  refine ⟨fun b u e => ?_, fun b u e => ?_, g.hh, fun b u e f => ?_⟩
  · by_cases hb : b = p
    · subst hb
      have e1 := g.fh _ _ (g.ff _ _ e)
      rw [h.at'] at e1
      rw [upd_same]
      exact e1
    · rw [upd_ne hb]
      exact g.ff _ _ e
  · by_cases hb : b = p
    · subst hb
      rw [upd_same] at e
      rw [h.at']
      exact e
    · rw [upd_ne hb] at e
      exact g.fh _ _ e
  · by_cases hb : b = p
    · subst hb
      rcases h.own with z | z
      · rw [z] at e
        cases e
      · rw [z] at f
        cases f
    · rw [upd_ne hb]
      exact g.nw _ _ e f
end
/-! ### [1 for x in .. if test], the test changing nothing -/
section
variable {K : PySem.W.Frag} {σ : St} {H : Hp} {a : Addr} {xs : List V} {vs : List Nat} {j : Nat} {tt : TT} {p : Nat → Bool} {Q : VK} {n : Int}
def ones (c : Nat) : HO := .lst ((List.replicate c (1 : Int)).map V.int)
def OnesAt (p : Nat → Bool) (H : Hp) (D : Addr) (i : Nat) (H' : Hp) : Prop := ∃ c, c ≤ i ∧ (c = 0 ↔ ∀ k, k < i → p k = false) ∧ H' = upd H D (ones c)
theorem ones_turn {D : Addr} {i : Nat} {σ1 : St} {H' : Hp} (hD : Fresh H D) (hi : i < 100000) (h : OnesAt p H D i H') (ht : ∀ H2 (QB : Bool → Hp → Prop), Same H H2 → QB (p i) H2 → tt σ1 H2 QB) :
    tt σ1 H' fun b H4 => if b = true then tC (.int 1) σ1 H4 fun y H5 => ∃ acc, H5 D = some (.lst acc) ∧ acc.length < sizeLine ∧ OnesAt p H D (i + 1) (upd H5 D (.lst (acc ++ [y]))) else OnesAt p H D (i + 1) H4 := by
  obtain ⟨c, hc, e, rfl⟩ := h
  refine ht _ _ (fun b o e => (upd_ne (ne_of_none e hD)).trans e) ?_
  cases hp : p i with
  | true =>
    refine iteT ⟨_, upd_same, ?_, c + 1, by omega, ⟨fun z => by omega, fun z => ?_⟩, ?_⟩
    · rw [List.length_map, List.length_replicate, sizeLine_eq]
      omega
    · rw [z i (Nat.lt_succ_self i)] at hp
      cases hp
    · rw [upd_upd]
      unfold ones
      rw [List.replicate_succ', List.map_append]
      rfl
  | false =>
    refine iteF ⟨c, by omega, e.trans ⟨fun z k hk => ?_, fun z k hk => z k (by omega)⟩, rfl⟩
    by_cases hk' : k = i
    · rw [hk']
      exact hp
    · exact z k (by omega)
theorem ones_start {D : Addr} : OnesAt p H D 0 (upd H D (.lst [])) := ⟨0, Nat.le_refl _, ⟨fun _ k hk => absurd hk (Nat.not_lt_zero _), fun _ => rfl⟩, rfl⟩
theorem lcT_ones (p : Nat → Bool) (hs : SqT K H a xs) (hz : xs.length ≤ 10000) (ht : ∀ i x H2 (QB : Bool → Hp → Prop), xs[i]? = some x → Same H H2 → QB (p i) H2 → tt ((wipe σ vs).set j (some x)) H2 QB)
    (k : ∀ D c, Fresh H D → (c = 0 ↔ ∀ i, i < xs.length → p i = false) → Q (.ref D) (upd H D (ones c))) (hw : ∀ x, wipe ((wipe σ vs).set j (some x)) vs = wipe σ vs := by intro _; rfl) : LcT K (gName j) tt (tC (.int 1)) vs σ (.ref a) H Q :=
  lc_T hs (fun D i H' => OnesAt p H D i H' ∧ Fresh H D) (fun D hD => ⟨ones_start, hD⟩) (fun D i H' _ ⟨⟨c, _, _, e⟩, hD⟩ => by
    rw [e]
    exact Same.seqT (fun b o e => (upd_ne (ne_of_none e hD)).trans e) hs) (fun D i x H' hD hx h => ⟨hw x, by
      have hi := (List.getElem?_eq_some_iff.mp hx).1
      have := ones_turn (tt := tt) (σ1 := (wipe σ vs).set j (some x)) hD (by omega) h.1 (fun H2 QB hs q => ht i x H2 QB hx hs q)
      simpa only [hD, and_true] using this⟩) fun D H' hD ⟨⟨c, _, e, eH⟩, _⟩ => by
    rw [eH]
    exact k D c hD e
theorem lcL_ones (p : Nat → Bool) (hs : SqL K H a xs) (hz : xs.length ≤ 10000) (ht : ∀ i x H2 (QB : Bool → Hp → Prop), xs[i]? = some x → Same H H2 → QB (p i) H2 → tt ((wipe σ vs).set j (some x)) H2 QB)
    (k : ∀ D c, Fresh H D → (c = 0 ↔ ∀ i, i < xs.length → p i = false) → Q (.ref D) (upd H D (ones c))) (hw : ∀ x, wipe ((wipe σ vs).set j (some x)) vs = wipe σ vs := by intro _; rfl) : LcL K (gName j) tt (tC (.int 1)) vs σ (.ref a) H Q :=
  lc_L hs (fun D i H' => OnesAt p H D i H' ∧ Fresh H D) (fun D hD => ⟨ones_start, hD⟩) (fun D i H' _ ⟨⟨c, _, _, e⟩, hD⟩ => by
    rw [e]
    exact Same.seq (fun b o e => (upd_ne (ne_of_none e hD)).trans e) hs) (fun D i x H' hD hx h => ⟨hw x, by
      have hi := (List.getElem?_eq_some_iff.mp hx).1
      have := ones_turn (tt := tt) (σ1 := (wipe σ vs).set j (some x)) hD (by omega) h.1 (fun H2 QB hs q => ht i x H2 QB hx hs q)
      simpa only [hD, and_true] using this⟩) fun D H' hD ⟨⟨c, _, e, eH⟩, _⟩ => by
    rw [eH]
    exact k D c hD e
theorem lcR_ones (p : Nat → Bool) (hz : -(2 ^ 62) ≤ n ∧ n ≤ 10000) (ht : ∀ (i : Nat) H2 (QB : Bool → Hp → Prop), (i : Int) < n → Same H H2 → QB (p i) H2 → tt ((wipe σ vs).set j (some (.int (i : Int)))) H2 QB)
    (k : ∀ D c, Fresh H D → (c = 0 ↔ ∀ i : Nat, (i : Int) < n → p i = false) → Q (.ref D) (upd H D (ones c))) (hw : ∀ x, wipe ((wipe σ vs).set j (some x)) vs = wipe σ vs := by intro _; rfl) : LcR1 (gName j) tt (tC (.int 1)) vs σ (.int n) H Q :=
  lc_R1 (by omega) (fun D i H' => OnesAt p H D i H') (fun D hD => ones_start) (fun D i H' hD hi h => ⟨hw _, ones_turn (tt := tt) hD (by omega) h (fun H2 QB hs q => ht i H2 QB hi hs q)⟩) fun D H' hD ⟨c, _, e, eH⟩ => by
    rw [eH]
    exact k D c hD (e.trans ⟨fun z i hi => z i (by omega), fun z i hi => z i (by omega)⟩)
theorem o_neOnes {b : Addr} {c : Nat} (ha : H a = some (ones c)) (hb : H b = some (.lst [])) (h : Q (.bl (!decide (c = 0))) H) : zNe K (.ref a) (.ref b) H Q :=
  o_neIL (ns := List.replicate c 1) (ms := []) (SqL.of ha) (SqL.of hb) (by
    have : decide (List.replicate c (1 : Int) = []) = decide (c = 0) := decide_eq_decide.mpr ⟨fun z => by simpa using congrArg List.length z, fun z => by rw [z]; rfl⟩
    rw [this]
    exact h)
theorem o_eqOnes {b : Addr} {c : Nat} (ha : H a = some (ones c)) (hb : H b = some (.lst [])) (h : Q (.bl (decide (c = 0))) H) : zEq K (.ref a) (.ref b) H Q :=
  o_eqIL (ns := List.replicate c 1) (ms := []) (SqL.of ha) (SqL.of hb) (by
    have : decide (List.replicate c (1 : Int) = []) = decide (c = 0) := decide_eq_decide.mpr ⟨fun z => by simpa using congrArg List.length z, fun z => by rw [z]; rfl⟩
    rw [this]
    exact h)
end
/-! ### the law -/
def spLaw (K : PySem.W.Frag) : Sp := fun vs H Q _ => ∃ (a : Addr) (ns : List Int), vs = [.ref a] ∧ ns.length ≤ 63 ∧ SqL K H a (ns.map V.int) ∧ ∀ H', Q (.bl true) H'
theorem spLaw_in {K : PySem.W.Frag} {H : Hp} {a : Addr} {ns : List Int} {E : XK} (hl : ns.length ≤ 63) (hS : SqL K H a (ns.map V.int)) : spLaw K [.ref a] H (fun v _ => v = .bl true) E := ⟨a, ns, rfl, hl, hS, fun _ => rfl⟩
theorem atI_ints {ns : List Int} {j : Nat} {x : Int} (h : ns[j]? = some x) : atI (ns.map V.int) (j : Int) = some (.int x) := atI_nat (by rw [List.getElem?_map, h]; rfl)
end Z

/-! Zr: more steps. -/
namespace Z
open PySem PySem.Spec L2
open PyProof.Rows hiding St
theorem Pl.up {n m : Nat} {d : PyData} (h : Pl n d) (hn : n ≤ m := by omega) : Pl m d := ⟨h.lay, Nat.le_trans h.dep hn, h.nob⟩
section
variable {K : PySem.W.Frag} {σ : St} {H : Hp} {te : TE} {Q : VK} {a : Addr} {xs : List V} {ns : List Int} {vs : List Nat} {j : Nat} {tt : TT} {m n : Int}
theorem e_revL (h : te σ H fun x H1 => ∃ a xs, x = .ref a ∧ SqL K H1 a xs ∧ ∀ p, H1 p = none → Q (.ref p) (upd H1 p (.lst xs.reverse))) : tRevL K te σ H Q := h
theorem rev_V {k : Nat} (h1 : σ[k]? = some (some (.ref a))) (hs : SqL K H a xs) (h : ∀ p, Fresh H p → Q (.ref p) (upd H p (.lst xs.reverse))) : tRevL K (tVar k) σ H Q := ⟨_, h1, a, xs, rfl, hs, h⟩
theorem o_min (hs : SqL K H a (ns.map V.int)) (h0 : m ∈ ns) (h1 : ∀ y ∈ ns, m ≤ y) (h : Q (.int m) H) : rMin K [.ref a] H Q := ⟨a, ns, rfl, hs, List.length_pos_of_mem h0, fun m' a1 a2 => by
  have e : m' = m := Int.le_antisymm (a2 m h0) (h1 m' a1)
  rw [e]
  exact h⟩
theorem o_max (hs : SqL K H a (ns.map V.int)) (h0 : m ∈ ns) (h1 : ∀ y ∈ ns, y ≤ m) (h : Q (.int m) H) : rMax K [.ref a] H Q := ⟨a, ns, rfl, hs, List.length_pos_of_mem h0, fun m' a1 a2 => by
  have e : m' = m := Int.le_antisymm (h1 m' a1) (a2 m h0)
  rw [e]
  exact h⟩
theorem atI_z {x : V} (h : xs[0]? = some x) : atI xs 0 = some x := atI_nat (j := 0) h
theorem atI_zi {x : Int} (h : ns[0]? = some x) : atI (ns.map V.int) 0 = some (.int x) := atI_z (by rw [List.getElem?_map, h]; rfl)
theorem o_eqS {x y : Str} (h : Q (.bl (decide (x = y))) H) : zEq K (.str x) (.str y) H Q := .inl ⟨rfl, (decide_eq_decide.mpr ⟨fun e => V.str.inj e, fun e => by rw [e]⟩ : decide (V.str x = V.str y) = decide (x = y)) ▸ h⟩
theorem o_neS {x y : Str} (h : Q (.bl (!decide (x = y))) H) : zNe K (.str x) (.str y) H Q := .inl ⟨rfl, (decide_eq_decide.mpr ⟨fun e => V.str.inj e, fun e => by rw [e]⟩ : decide (V.str x = V.str y) = decide (x = y)) ▸ h⟩
theorem o_neB {x y : Bool} (h : Q (.bl (!decide (x = y))) H) : zNe K (.bl x) (.bl y) H Q := .inl ⟨rfl, (decide_eq_decide.mpr ⟨fun e => V.bl.inj e, fun e => by rw [e]⟩ : decide (V.bl x = V.bl y) = decide (x = y)) ▸ h⟩
theorem o_eqB {x y : Bool} (h : Q (.bl (decide (x = y))) H) : zEq K (.bl x) (.bl y) H Q := .inl ⟨rfl, (decide_eq_decide.mpr ⟨fun e => V.bl.inj e, fun e => by rw [e]⟩ : decide (V.bl x = V.bl y) = decide (x = y)) ▸ h⟩
theorem o_isT {x : Bool} (h : Q (.bl x) H) : rIsB (.bl x) (.bl true) H Q := ⟨x, true, rfl, rfl, by simpa using h⟩
theorem o_isF {x : Bool} (h : Q (.bl (!x)) H) : rIsB (.bl x) (.bl false) H Q := ⟨x, false, rfl, rfl, by cases x <;> simpa using h⟩
def zDm : List V → Hp → VK → Prop := fun xs H Q => ∃ i j, xs = [.int i, .int j] ∧ CDivP i j ∧ ∀ p, H p = none → Q (.ref p) (upd H p (.tup [.int (i / j), .int (i % j)]))
theorem o_divmod (h0 : 0 < n) (hm : m.natAbs < 2 ^ 240) (h : ∀ p, Fresh H p → Q (.ref p) (upd H p (.tup [.int (m / n), .int (m % n)]))) : zDm [.int m, .int n] H Q := ⟨m, n, rfl, divp_ok h0 (by
  have := PyProof.Rows.intBits_le hm
  omega), h⟩
theorem e_tupRg1 {ta : TE} (h : ta σ H fun x H1 => ∃ n, x = .int n ∧ RgOk 0 n ∧ ∀ q, H1 q = none → Q (.ref q) (upd H1 q (.tup (rgV 0 n)))) : tTupRg (tRg1 ta) σ H Q := h
theorem e_tupRg2 {ta tb : TE} (h : ta σ H fun x H1 => tb σ H1 fun y H2 => ∃ i j, x = .int i ∧ y = .int j ∧ RgOk i j ∧ ∀ q, H2 q = none → Q (.ref q) (upd H2 q (.tup (rgV i j)))) : tTupRg (tRg2 ta tb) σ H Q := h
theorem e_lstRg1 {ta : TE} (h : ta σ H fun x H1 => ∃ n, x = .int n ∧ RgOk 0 n ∧ ∀ q, H1 q = none → Q (.ref q) (upd H1 q (.lst (rgV 0 n)))) : tLstRg (tRg1 ta) σ H Q := h
theorem e_lstRg2 {ta tb : TE} (h : ta σ H fun x H1 => tb σ H1 fun y H2 => ∃ i j, x = .int i ∧ y = .int j ∧ RgOk i j ∧ ∀ q, H2 q = none → Q (.ref q) (upd H2 q (.lst (rgV i j)))) : tLstRg (tRg2 ta tb) σ H Q := h
theorem rg1_ {P : Int → Hp → Addr → Prop} (h0 : RgOk 0 n) (h : ∀ q, Fresh H q → P n (upd H q (.tup (rgV 0 n))) q) : ∃ n', V.int n = .int n' ∧ RgOk 0 n' ∧ ∀ q, H q = none → P n' (upd H q (.tup (rgV 0 n'))) q := ⟨n, rfl, h0, h⟩
theorem s_while {c : TT} {t : TS} {D : Ends} (W : Nat → St → Hp → Prop) (m0 : Nat) (h0 : W m0 σ H) (hs : ∀ m σ' H', W m σ' H' → c σ' H' fun b H1 => if b = true then ∃ N : St → Hp → Prop, (∀ σ2 H2, N σ2 H2 → ∃ m', m' < m ∧ W m' σ2 H2) ∧ t { D with nx := N, ct := N, bk := D.nx } σ' H1 else D.nx σ' H1) :
    tWhile c t D σ H := ⟨W, ⟨m0, h0⟩, hs⟩
theorem w_turn {t : TS} {D : Ends} {W : Nat → St → Hp → Prop} {k : Nat} (h : t { D with nx := fun σ2 H2 => ∃ m', m' < k ∧ W m' σ2 H2, ct := fun σ2 H2 => ∃ m', m' < k ∧ W m' σ2 H2, bk := D.nx } σ H) : ∃ N : St → Hp → Prop, (∀ σ2 H2, N σ2 H2 → ∃ m', m' < k ∧ W m' σ2 H2) ∧ t { D with nx := N, ct := N, bk := D.nx } σ H :=
  ⟨_, fun _ _ h => h, h⟩
/-! ### [f x for x in xs if p x], test and element changing nothing -/
def FilAt (p : V → Bool) (f : V → V) (xs : List V) (H : Hp) (D : Addr) (i : Nat) (H' : Hp) : Prop := H' = upd H D (.lst (((xs.take i).filter p).map f))
theorem fil_turn {p : V → Bool} {f : V → V} {D : Addr} {i : Nat} {σ1 : St} {H' : Hp} {x : V} (hD : Fresh H D) (hx : xs[i]? = some x) (hi : xs.length ≤ 10000) (h : FilAt p f xs H D i H') (ht : ∀ H2 (QB : Bool → Hp → Prop), Same H H2 → QB (p x) H2 → tt σ1 H2 QB)
    (he : ∀ H2 (Q : VK), Same H H2 → p x = true → Q (f x) H2 → te σ1 H2 Q) :
    tt σ1 H' fun b H4 => if b = true then te σ1 H4 fun y H5 => ∃ acc, H5 D = some (.lst acc) ∧ acc.length < sizeLine ∧ FilAt p f xs H D (i + 1) (upd H5 D (.lst (acc ++ [y]))) else FilAt p f xs H D (i + 1) H4 := by
  subst h
  have il := (List.getElem?_eq_some_iff.mp hx).1
  have sm : ∀ o, Same H (upd H D o) := fun o b u e => (upd_ne (ne_of_none e hD)).trans e
  have tk : xs.take (i + 1) = xs.take i ++ [x] := by
    rw [List.take_add_one, hx]
    rfl
  refine ht _ _ (sm _) ?_
  cases hp : p x with
  | true =>
    refine iteT (he _ _ (sm _) hp ⟨_, upd_same, ?_, ?_⟩)
    · rw [List.length_map, sizeLine_eq]
      have := List.length_filter_le p (xs.take i)
      rw [List.length_take] at this
      omega
    · show upd (upd H D _) D _ = _
      rw [upd_upd, tk, List.filter_append, List.map_append, List.filter_cons_of_pos hp]
      rfl
  | false =>
    refine iteF ?_
    show upd H D _ = _
    rw [tk, List.filter_append, List.filter_cons_of_neg (by rw [hp]; exact Bool.false_ne_true), List.filter_nil, List.append_nil]
theorem lcT_fil (p : V → Bool) (f : V → V) (hs : SqT K H a xs) (hz : xs.length ≤ 10000) (ht : ∀ x ∈ xs, ∀ H2 (QB : Bool → Hp → Prop), Same H H2 → QB (p x) H2 → tt ((wipe σ vs).set j (some x)) H2 QB)
    (he : ∀ x ∈ xs, ∀ H2 (Q : VK), Same H H2 → p x = true → Q (f x) H2 → te ((wipe σ vs).set j (some x)) H2 Q)
    (k : ∀ D, Fresh H D → Q (.ref D) (upd H D (.lst ((xs.filter p).map f)))) (hw : ∀ x, wipe ((wipe σ vs).set j (some x)) vs = wipe σ vs := by intro _; rfl) : LcT K (gName j) tt te vs σ (.ref a) H Q :=
  lc_T hs (fun D i H' => FilAt p f xs H D i H' ∧ Fresh H D) (fun D hD => ⟨rfl, hD⟩) (fun D i H' _ ⟨e, hD⟩ => by
    rw [e]
    exact Same.seqT (fun b o e => (upd_ne (ne_of_none e hD)).trans e) hs) (fun D i x H' hD hx h => ⟨hw x, by
      have hm := List.mem_of_getElem? hx
      have := fil_turn (tt := tt) (te := te) (σ1 := (wipe σ vs).set j (some x)) hD hx hz h.1 (fun H2 QB hs q => ht x hm H2 QB hs q) (fun H2 Q hs hp q => he x hm H2 Q hs hp q)
      simpa only [hD, and_true] using this⟩) fun D H' hD ⟨e, _⟩ => by
    rw [e, List.take_length]
    exact k D hD
theorem lcL_fil (p : V → Bool) (f : V → V) (hs : SqL K H a xs) (hz : xs.length ≤ 10000) (ht : ∀ x ∈ xs, ∀ H2 (QB : Bool → Hp → Prop), Same H H2 → QB (p x) H2 → tt ((wipe σ vs).set j (some x)) H2 QB)
    (he : ∀ x ∈ xs, ∀ H2 (Q : VK), Same H H2 → p x = true → Q (f x) H2 → te ((wipe σ vs).set j (some x)) H2 Q)
    (k : ∀ D, Fresh H D → Q (.ref D) (upd H D (.lst ((xs.filter p).map f)))) (hw : ∀ x, wipe ((wipe σ vs).set j (some x)) vs = wipe σ vs := by intro _; rfl) : LcL K (gName j) tt te vs σ (.ref a) H Q :=
  lc_L hs (fun D i H' => FilAt p f xs H D i H' ∧ Fresh H D) (fun D hD => ⟨rfl, hD⟩) (fun D i H' _ ⟨e, hD⟩ => by
    rw [e]
    exact Same.seq (fun b o e => (upd_ne (ne_of_none e hD)).trans e) hs) (fun D i x H' hD hx h => ⟨hw x, by
      have hm := List.mem_of_getElem? hx
      have := fil_turn (tt := tt) (te := te) (σ1 := (wipe σ vs).set j (some x)) hD hx hz h.1 (fun H2 QB hs q => ht x hm H2 QB hs q) (fun H2 Q hs hp q => he x hm H2 Q hs hp q)
      simpa only [hD, and_true] using this⟩) fun D H' hD ⟨e, _⟩ => by
    rw [e, List.take_length]
    exact k D hD
/-- ints through a test, to values -/
def onI (p : Int → Bool) : V → Bool
  | .int z => p z
  | _ => false
def mapI (f : Int → V) : V → V
  | .int z => f z
  | v => v
theorem fil_ints (p : Int → Bool) (f : Int → V) : ∀ ns : List Int, ((ns.map V.int).filter (onI p)).map (mapI f) = (ns.filter p).map f
  | [] => rfl
  | n :: ns => by
    have ih := fil_ints p f ns
    rw [List.map_cons, List.filter_cons, List.filter_cons]
    show ((if onI p (.int n) = true then _ else _) : List V).map _ = _
    show ((if p n = true then _ else _) : List V).map _ = _
    cases hp : p n with
    | true => rw [if_pos rfl, if_pos rfl, List.map_cons, List.map_cons, ih]; rfl
    | false => rw [if_neg Bool.false_ne_true, if_neg Bool.false_ne_true, ih]
theorem lcT_int (p : Int → Bool) (f : Int → V) (hs : SqT K H a (ns.map V.int)) (hz : ns.length ≤ 10000) (ht : ∀ x ∈ ns, ∀ H2 (QB : Bool → Hp → Prop), Same H H2 → QB (p x) H2 → tt ((wipe σ vs).set j (some (.int x))) H2 QB)
    (he : ∀ x ∈ ns, ∀ H2 (Q : VK), Same H H2 → p x = true → Q (f x) H2 → te ((wipe σ vs).set j (some (.int x))) H2 Q)
    (k : ∀ D, Fresh H D → Q (.ref D) (upd H D (.lst ((ns.filter p).map f)))) (hw : ∀ x, wipe ((wipe σ vs).set j (some x)) vs = wipe σ vs := by intro _; rfl) : LcT K (gName j) tt te vs σ (.ref a) H Q :=
  lcT_fil (onI p) (mapI f) hs (by rw [List.length_map]; exact hz) (fun x hx H2 QB hs q => by
    obtain ⟨z, hz, rfl⟩ := List.mem_map.mp hx
    exact ht z hz H2 QB hs q) (fun x hx H2 Q hs hp q => by
    obtain ⟨z, hz, rfl⟩ := List.mem_map.mp hx
    exact he z hz H2 Q hs hp q) (fun D hD => by
    rw [fil_ints]
    exact k D hD) hw
theorem lcL_int (p : Int → Bool) (f : Int → V) (hs : SqL K H a (ns.map V.int)) (hz : ns.length ≤ 10000) (ht : ∀ x ∈ ns, ∀ H2 (QB : Bool → Hp → Prop), Same H H2 → QB (p x) H2 → tt ((wipe σ vs).set j (some (.int x))) H2 QB)
    (he : ∀ x ∈ ns, ∀ H2 (Q : VK), Same H H2 → p x = true → Q (f x) H2 → te ((wipe σ vs).set j (some (.int x))) H2 Q)
    (k : ∀ D, Fresh H D → Q (.ref D) (upd H D (.lst ((ns.filter p).map f)))) (hw : ∀ x, wipe ((wipe σ vs).set j (some x)) vs = wipe σ vs := by intro _; rfl) : LcL K (gName j) tt te vs σ (.ref a) H Q :=
  lcL_fil (onI p) (mapI f) hs (by rw [List.length_map]; exact hz) (fun x hx H2 QB hs q => by
    obtain ⟨z, hz, rfl⟩ := List.mem_map.mp hx
    exact ht z hz H2 QB hs q) (fun x hx H2 Q hs hp q => by
    obtain ⟨z, hz, rfl⟩ := List.mem_map.mp hx
    exact he z hz H2 Q hs hp q) (fun D hD => by
    rw [fil_ints]
    exact k D hD) hw
/-! ### the same, test and element making new things -/
def GrowAt (l : List V) (H : Hp) (D : Addr) (H' : Hp) : Prop := Same H H' ∧ H' D = some (.lst l)
theorem grow_turn {b : Bool} {y : V} {l l' : List V} {D : Addr} {σ1 : St} {H' : Hp} (hD : Fresh H D) (hz : l.length < sizeLine) (h : GrowAt l H D H') (hl : l' = if b = true then l ++ [y] else l) (ht : ∀ H2 (QB : Bool → Hp → Prop), Same H H2 → (∀ H3, Same H2 H3 → QB b H3) → tt σ1 H2 QB)
    (he : ∀ H2 (Q : VK), Same H H2 → b = true → (∀ H3, Same H2 H3 → Q y H3) → te σ1 H2 Q) :
    tt σ1 H' fun b H4 => if b = true then te σ1 H4 fun y H5 => ∃ acc, H5 D = some (.lst acc) ∧ acc.length < sizeLine ∧ GrowAt l' H D (upd H5 D (.lst (acc ++ [y]))) else GrowAt l' H D H4 := by
  refine ht _ _ h.1 fun H3 s3 => ?_
  have S3 := h.1.trans s3
  cases b with
  | true =>
    rw [if_pos rfl] at hl
    refine iteT (he _ _ S3 rfl fun H4 s4 => ⟨l, s4 _ _ (s3 _ _ h.2), hz, fun a o e => ?_, ?_⟩)
    · rw [upd_ne (ne_of_none e hD)]
      exact s4 _ _ (S3 _ _ e)
    · rw [upd_same, hl]
  | false =>
    rw [if_neg Bool.false_ne_true] at hl
    refine iteF ⟨S3, ?_⟩
    rw [hl]
    exact s3 _ _ h.2
theorem fil_take {p : V → Bool} {f : V → V} {x : V} {i : Nat} (hx : xs[i]? = some x) : ((xs.take (i + 1)).filter p).map f = if p x = true then ((xs.take i).filter p).map f ++ [f x] else ((xs.take i).filter p).map f := by
  have tk : xs.take (i + 1) = xs.take i ++ [x] := by
    rw [List.take_add_one, hx]
    rfl
  rw [tk, List.filter_append, List.map_append]
  by_cases h : p x = true
  · rw [if_pos h, List.filter_cons_of_pos h]
    rfl
  · rw [if_neg h, List.filter_cons_of_neg h, List.filter_nil, List.map_nil, List.append_nil]
theorem fil_short {p : V → Bool} {f : V → V} {i : Nat} (hz : xs.length ≤ 10000) : (((xs.take i).filter p).map f).length < sizeLine := by
  have := List.length_filter_le p (xs.take i)
  rw [List.length_take] at this
  rw [List.length_map, sizeLine_eq]
  omega
theorem lcT_grow (p : V → Bool) (f : V → V) (hs : SqT K H a xs) (hz : xs.length ≤ 10000) (ht : ∀ x ∈ xs, ∀ H2 (QB : Bool → Hp → Prop), Same H H2 → (∀ H3, Same H2 H3 → QB (p x) H3) → tt ((wipe σ vs).set j (some x)) H2 QB)
    (he : ∀ x ∈ xs, ∀ H2 (Q : VK), Same H H2 → p x = true → (∀ H3, Same H2 H3 → Q (f x) H3) → te ((wipe σ vs).set j (some x)) H2 Q)
    (k : ∀ D H', Fresh H D → Same H H' → H' D = some (.lst ((xs.filter p).map f)) → Q (.ref D) H') (hw : ∀ x, wipe ((wipe σ vs).set j (some x)) vs = wipe σ vs := by intro _; rfl) : LcT K (gName j) tt te vs σ (.ref a) H Q :=
  lc_T hs (fun D i H' => GrowAt (((xs.take i).filter p).map f) H D H') (fun D hD => ⟨fun b u e => (upd_ne (ne_of_none e hD)).trans e, upd_same⟩) (fun D i H' _ h => Same.seqT h.1 hs) (fun D i x H' hD hx h => ⟨hw x, by
    have hm := List.mem_of_getElem? hx
    exact grow_turn (b := p x) (y := f x) hD (fil_short hz) h (fil_take hx) (fun H2 QB hs q => ht x hm H2 QB hs q) (fun H2 Q hs hp q => he x hm H2 Q hs hp q)⟩) fun D H' hD h => by
    rw [List.take_length] at h
    exact k D H' hD h.1 h.2
theorem lcL_grow (p : V → Bool) (f : V → V) (hs : SqL K H a xs) (hz : xs.length ≤ 10000) (ht : ∀ x ∈ xs, ∀ H2 (QB : Bool → Hp → Prop), Same H H2 → (∀ H3, Same H2 H3 → QB (p x) H3) → tt ((wipe σ vs).set j (some x)) H2 QB)
    (he : ∀ x ∈ xs, ∀ H2 (Q : VK), Same H H2 → p x = true → (∀ H3, Same H2 H3 → Q (f x) H3) → te ((wipe σ vs).set j (some x)) H2 Q)
    (k : ∀ D H', Fresh H D → Same H H' → H' D = some (.lst ((xs.filter p).map f)) → Q (.ref D) H') (hw : ∀ x, wipe ((wipe σ vs).set j (some x)) vs = wipe σ vs := by intro _; rfl) : LcL K (gName j) tt te vs σ (.ref a) H Q :=
  lc_L hs (fun D i H' => GrowAt (((xs.take i).filter p).map f) H D H') (fun D hD => ⟨fun b u e => (upd_ne (ne_of_none e hD)).trans e, upd_same⟩) (fun D i H' _ h => Same.seq h.1 hs) (fun D i x H' hD hx h => ⟨hw x, by
    have hm := List.mem_of_getElem? hx
    exact grow_turn (b := p x) (y := f x) hD (fil_short hz) h (fil_take hx) (fun H2 QB hs q => ht x hm H2 QB hs q) (fun H2 Q hs hp q => he x hm H2 Q hs hp q)⟩) fun D H' hD h => by
    rw [List.take_length] at h
    exact k D H' hD h.1 h.2
theorem lcT_igrow (p : Int → Bool) (f : Int → V) (hs : SqT K H a (ns.map V.int)) (hz : ns.length ≤ 10000) (ht : ∀ x ∈ ns, ∀ H2 (QB : Bool → Hp → Prop), Same H H2 → (∀ H3, Same H2 H3 → QB (p x) H3) → tt ((wipe σ vs).set j (some (.int x))) H2 QB)
    (he : ∀ x ∈ ns, ∀ H2 (Q : VK), Same H H2 → p x = true → (∀ H3, Same H2 H3 → Q (f x) H3) → te ((wipe σ vs).set j (some (.int x))) H2 Q)
    (k : ∀ D H', Fresh H D → Same H H' → H' D = some (.lst ((ns.filter p).map f)) → Q (.ref D) H') (hw : ∀ x, wipe ((wipe σ vs).set j (some x)) vs = wipe σ vs := by intro _; rfl) : LcT K (gName j) tt te vs σ (.ref a) H Q :=
  lcT_grow (onI p) (mapI f) hs (by rw [List.length_map]; exact hz) (fun x hx H2 QB hs q => by
    obtain ⟨z, hz, rfl⟩ := List.mem_map.mp hx
    exact ht z hz H2 QB hs q) (fun x hx H2 Q hs hp q => by
    obtain ⟨z, hz, rfl⟩ := List.mem_map.mp hx
    exact he z hz H2 Q hs hp q) (fun D H' hD hS e => by
    rw [fil_ints] at e
    exact k D H' hD hS e) hw
theorem lcR_grow (p : Nat → Bool) (f : Nat → V) (hz : -(2 ^ 62) ≤ n ∧ n ≤ 10000) (ht : ∀ i : Nat, (i : Int) < n → ∀ H2 (QB : Bool → Hp → Prop), Same H H2 → (∀ H3, Same H2 H3 → QB (p i) H3) → tt ((wipe σ vs).set j (some (.int (i : Int)))) H2 QB)
    (he : ∀ i : Nat, (i : Int) < n → ∀ H2 (Q : VK), Same H H2 → p i = true → (∀ H3, Same H2 H3 → Q (f i) H3) → te ((wipe σ vs).set j (some (.int (i : Int)))) H2 Q)
    (k : ∀ D H', Fresh H D → Same H H' → H' D = some (.lst (((List.range n.toNat).filter p).map f)) → Q (.ref D) H') (hw : ∀ x, wipe ((wipe σ vs).set j (some x)) vs = wipe σ vs := by intro _; rfl) : LcR1 (gName j) tt te vs σ (.int n) H Q :=
  lc_R1 (by omega) (fun D i H' => GrowAt (((List.range i).filter p).map f) H D H') (fun D hD => ⟨fun b u e => (upd_ne (ne_of_none e hD)).trans e, upd_same⟩) (fun D i H' hD hi h => ⟨hw _, by
    refine grow_turn (b := p i) (y := f i) hD ?_ h ?_ (fun H2 QB hs q => ht i hi H2 QB hs q) (fun H2 Q hs hp q => he i hi H2 Q hs hp q)
    · have := List.length_filter_le p (List.range i)
      rw [List.length_range] at this
      rw [List.length_map, sizeLine_eq]
      omega
    · rw [List.range_succ, List.filter_append, List.map_append]
      by_cases h : p i = true
      · rw [if_pos h, List.filter_cons_of_pos h]
        rfl
      · rw [if_neg h, List.filter_cons_of_neg h, List.filter_nil, List.map_nil, List.append_nil]⟩) fun D H' hD h => k D H' hD h.1 h.2
end
end Z

/-! Zb: bits: numbers as sets of seats. -/
namespace Z
open PySem PySem.Spec L2
open PyProof.Rows hiding St
section
variable {X : Cx}
theorem ip_or : PIp X .BitOr (ipI fun i j => Builtin.bitOr i j) := by
  intro pins s σ H x y v u Q I r1 r2 h
  obtain ⟨i, j, e1, e2, q⟩ := h
  subst e1; subst e2
  obtain ⟨t, rfl⟩ := r1
  obtain ⟨t', rfl⟩ := r2
  exact ior_int ⟨.int _, _, I.tok _, ⟨_, rfl⟩, q⟩
end
/-! ### the words over Nat -/
theorem and_nat (a b : Nat) : Builtin.bitAnd (a : Int) (b : Int) = ((a &&& b : Nat) : Int) := bitAnd_pp (Int.natCast_nonneg a) (Int.natCast_nonneg b)
theorem not_not (x : Int) : Builtin.bitNot (Builtin.bitNot x) = x := by
  unfold Builtin.bitNot
  omega
theorem or_nat (a b : Nat) : Builtin.bitOr (a : Int) (b : Int) = ((a ||| b : Nat) : Int) := by
  have h : ∀ n : Nat, ¬ 0 ≤ Builtin.bitNot (n : Int) := fun n => by
    unfold Builtin.bitNot
    omega
  show Builtin.bitNot (Builtin.bitAnd (Builtin.bitNot a) (Builtin.bitNot b)) = _
  rw [bitAnd_nn (h a) (h b), not_not, not_not, not_not]
  rfl
theorem shl_one (k : Nat) : (1 : Int) * 2 ^ ((k : Int)).toNat = ((2 ^ k : Nat) : Int) := by
  rw [Int.toNat_natCast, Int.one_mul, Int.natCast_pow]
  rfl
theorem shr_nat (a k : Nat) : (a : Int) / 2 ^ ((k : Int)).toNat = ((a >>> k : Nat) : Int) := by
  rw [Int.toNat_natCast, Nat.shiftRight_eq_div_pow, Int.natCast_ediv, Int.natCast_pow]
  rfl
theorem bits_nat (a : Nat) : Builtin.Int.intBits (a : Int) = if a = 0 then 0 else a.log2 + 1 := by
  unfold Builtin.Int.intBits
  by_cases h : a = 0
  · subst h
    rfl
  · rw [if_neg h, if_neg (by simpa using h), Int.natAbs_natCast]
/-- the least bit -/
theorem low_nat (a : Nat) (h : 0 < a) : Builtin.bitAnd (a : Int) (-(a : Int)) = ((a - (a &&& (a - 1)) : Nat) : Int) := by
  have e : Builtin.bitNot (-(a : Int)) = ((a - 1 : Nat) : Int) := by
    unfold Builtin.bitNot
    omega
  rw [bitAnd_pn (by omega) (by omega), e, Int.toNat_natCast, Int.toNat_natCast]
  have : a &&& (a - 1) ≤ a := Nat.and_le_left
  omega
/-! ### sets of seats as numbers -/
def bitsN : List Int → Nat
  | [] => 0
  | d :: r => 2 ^ d.toNat ||| bitsN r
theorem bitsN_app : ∀ a b : List Int, bitsN (a ++ b) = bitsN a ||| bitsN b
  | [], b => (Nat.zero_or _).symm
  | d :: a, b => by
    rw [List.cons_append, bitsN, bitsN, bitsN_app a b, Nat.or_assoc]
theorem bitsN_test : ∀ {l : List Int}, (∀ d ∈ l, 0 ≤ d) → ∀ i : Nat, (bitsN l).testBit i = decide ((i : Int) ∈ l)
  | [], _, i => by
    rw [bitsN, Nat.zero_testBit]
    simp
  | d :: r, h, i => by
    rw [bitsN, Nat.testBit_or, bitsN_test (fun x hx => h x (List.mem_cons_of_mem _ hx)), Nat.testBit_two_pow]
    have h0 := h d List.mem_cons_self
    rw [show decide ((i : Int) ∈ d :: r) = decide ((i : Int) = d ∨ (i : Int) ∈ r) from decide_eq_decide.mpr List.mem_cons, Bool.decide_or]
    congr 1
    exact decide_eq_decide.mpr ⟨fun e => by omega, fun e => by omega⟩
theorem bitsN_lt {m : Nat} : ∀ {l : List Int}, (∀ d ∈ l, 0 ≤ d ∧ d < m) → bitsN l < 2 ^ m
  | [], _ => Nat.two_pow_pos m
  | d :: r, h => by
    have h0 := h d List.mem_cons_self
    rw [bitsN]
    exact Nat.or_lt_two_pow (Nat.pow_lt_pow_right (by decide) (by omega)) (bitsN_lt fun x hx => h x (List.mem_cons_of_mem _ hx))
theorem pw_ext : ∀ {a b : List Int}, a.Pairwise (· < ·) → b.Pairwise (· < ·) → (∀ x, x ∈ a ↔ x ∈ b) → a = b
  | [], [], _, _, _ => rfl
  | [], y :: b, _, _, h => absurd ((h y).mpr List.mem_cons_self) List.not_mem_nil
  | x :: a, [], _, _, h => absurd ((h x).mp List.mem_cons_self) List.not_mem_nil
  | x :: a, y :: b, ha, hb, h => by
    have ha' := List.pairwise_cons.mp ha
    have hb' := List.pairwise_cons.mp hb
    have e : x = y := by
      rcases List.mem_cons.mp ((h x).mp List.mem_cons_self) with e | hx
      · exact e
      rcases List.mem_cons.mp ((h y).mpr List.mem_cons_self) with e | hy
      · exact e.symm
      have := ha'.1 y hy
      have := hb'.1 x hx
      omega
    subst e
    rw [pw_ext ha'.2 hb'.2 fun z => ⟨fun hz => by
      rcases List.mem_cons.mp ((h z).mp (List.mem_cons_of_mem _ hz)) with e | hz'
      · have := ha'.1 z hz
        omega
      · exact hz', fun hz => by
      rcases List.mem_cons.mp ((h z).mpr (List.mem_cons_of_mem _ hz)) with e | hz'
      · have := hb'.1 z hz
        omega
      · exact hz'⟩]
/-- the seats of a number -/
def seatsN (n : Nat) : List Int := ((List.range (Builtin.Int.intBits (n : Int))).filter fun i => n.testBit i).map fun (i : Nat) => (i : Int)
theorem seatsN_mem (n : Nat) (x : Int) : x ∈ seatsN n ↔ 0 ≤ x ∧ n.testBit x.toNat = true := by
  unfold seatsN
  rw [List.mem_map]
  constructor
  · rintro ⟨i, hi, rfl⟩
    have := (List.mem_filter.mp hi).2
    exact ⟨by omega, by rw [Int.toNat_natCast]; exact this⟩
  · rintro ⟨h0, h1⟩
    refine ⟨x.toNat, List.mem_filter.mpr ⟨List.mem_range.mpr ?_, h1⟩, by omega⟩
    rw [bits_nat]
    split
    · rename_i e
      rw [e, Nat.zero_testBit] at h1
      cases h1
    · have := Nat.ge_two_pow_of_testBit h1
      rcases Nat.lt_or_ge x.toNat (n.log2 + 1) with hl | hl
      · exact hl
      · have a : n < 2 ^ (n.log2 + 1) := Nat.lt_log2_self
        have b : 2 ^ (n.log2 + 1) ≤ 2 ^ x.toNat := Nat.pow_le_pow_right (by decide) hl
        omega
theorem seatsN_up (n : Nat) : (seatsN n).Pairwise (· < ·) := by
  unfold seatsN
  rw [List.pairwise_map]
  exact (List.pairwise_lt_range.filter _).imp fun h => by omega
theorem seats_bits {l : List Int} (up : l.Pairwise (· < ·)) (h : ∀ d ∈ l, 0 ≤ d) : seatsN (bitsN l) = l := pw_ext (seatsN_up _) up fun x => by
  rw [seatsN_mem]
  constructor
  · rintro ⟨h0, h1⟩
    rw [bitsN_test h] at h1
    have := of_decide_eq_true h1
    rw [Int.toNat_of_nonneg h0] at this
    exact this
  · intro hx
    refine ⟨h x hx, ?_⟩
    rw [bitsN_test h, Int.toNat_of_nonneg (h x hx)]
    exact decide_eq_true hx
theorem bitsN_and {a b : List Int} (ha : ∀ d ∈ a, 0 ≤ d) (hb : ∀ d ∈ b, 0 ≤ d) (i : Nat) : (bitsN a &&& bitsN b).testBit i = decide ((i : Int) ∈ a ∧ (i : Int) ∈ b) := by
  rw [Nat.testBit_and, bitsN_test ha, bitsN_test hb, Bool.decide_and]
theorem bitsN_inj {a b : List Int} (ua : a.Pairwise (· < ·)) (ub : b.Pairwise (· < ·)) (ha : ∀ d ∈ a, 0 ≤ d) (hb : ∀ d ∈ b, 0 ≤ d) : bitsN a = bitsN b ↔ a = b :=
  ⟨fun e => by rw [← seats_bits ua ha, e, seats_bits ub hb], fun e => by rw [e]⟩
/-- other & one == other -/
theorem bitsN_sub {a b : List Int} (ha : ∀ d ∈ a, 0 ≤ d) (hb : ∀ d ∈ b, 0 ≤ d) : bitsN a &&& bitsN b = bitsN a ↔ ∀ x ∈ a, x ∈ b := by
  constructor
  · intro e x hx
    have h0 := ha x hx
    have q : (bitsN a &&& bitsN b).testBit x.toNat = (bitsN a).testBit x.toNat := by rw [e]
    rw [bitsN_and ha hb, bitsN_test ha, Int.toNat_of_nonneg h0] at q
    have : decide (x ∈ a) = true := decide_eq_true hx
    rw [this] at q
    exact (of_decide_eq_true q).2
  · intro h
    refine Nat.eq_of_testBit_eq fun i => ?_
    rw [bitsN_and ha hb, bitsN_test ha]
    exact decide_eq_decide.mpr ⟨fun z => z.1, fun z => ⟨z, h _ z⟩⟩
theorem bitsN_apart {a b : List Int} (ha : ∀ d ∈ a, 0 ≤ d) (hb : ∀ d ∈ b, 0 ≤ d) : bitsN a &&& bitsN b = 0 ↔ ∀ x ∈ a, x ∉ b := by
  constructor
  · intro e x hx hx'
    have h0 := ha x hx
    have q : (bitsN a &&& bitsN b).testBit x.toNat = false := by rw [e, Nat.zero_testBit]
    rw [bitsN_and ha hb, Int.toNat_of_nonneg h0] at q
    exact of_decide_eq_false q ⟨hx, hx'⟩
  · intro h
    refine Nat.eq_of_testBit_eq fun i => ?_
    rw [bitsN_and ha hb, Nat.zero_testBit]
    exact decide_eq_false fun z => h _ z.1 z.2
/-- n & -n is the power of the least bit -/
theorem low_bit {n i : Nat} (hi : n.testBit i = true) (hl : ∀ j, j < i → n.testBit j = false) : n - (n &&& (n - 1)) = 2 ^ i := by
  obtain ⟨q, hq⟩ : ∃ q, n = q * 2 ^ (i + 1) + 2 ^ i := by
    refine ⟨n / 2 ^ (i + 1), ?_⟩
    have e : n % 2 ^ (i + 1) = 2 ^ i := by
      refine Nat.eq_of_testBit_eq fun j => ?_
      rw [Nat.testBit_mod_two_pow, Nat.testBit_two_pow]
      by_cases h : j = i
      · subst h
        simp [hi]
      · by_cases h2 : j < i
        · rw [hl j h2]
          simp [Ne.symm h]
        · simp [Ne.symm h]
          omega
    have := Nat.div_add_mod n (2 ^ (i + 1))
    rw [e, Nat.mul_comm] at this
    exact this.symm
  have p : 0 < 2 ^ i := Nat.two_pow_pos i
  have e2 : n - 1 = q * 2 ^ (i + 1) + (2 ^ i - 1) := by omega
  have e3 : n &&& (n - 1) = q * 2 ^ (i + 1) := by
    refine Nat.eq_of_testBit_eq fun j => ?_
    rw [Nat.testBit_and, e2, hq, Nat.mul_comm q, Nat.testBit_two_pow_mul_add _ (by rw [Nat.pow_succ]; omega), Nat.testBit_two_pow_mul_add _ (by rw [Nat.pow_succ]; omega), Nat.testBit_two_pow_mul]
    by_cases h : j < i + 1
    · rw [if_pos h, if_pos h, Nat.testBit_two_pow, Nat.testBit_two_pow_sub_one]
      have : decide (j ≥ i + 1) = false := decide_eq_false (by omega)
      rw [this, Bool.false_and, Bool.and_eq_false_iff]
      by_cases h2 : i = j
      · exact .inr (decide_eq_false (by omega))
      · exact .inl (decide_eq_false h2)
    · rw [if_neg h, if_neg h, Bool.and_self]
      have : decide (j ≥ i + 1) = true := decide_eq_true (by omega)
      rw [this, Bool.true_and]
  rw [e3, hq]
  omega
theorem bits_pow (i : Nat) : Builtin.Int.intBits ((2 ^ i : Nat) : Int) = i + 1 := by
  rw [bits_nat, if_neg (Nat.ne_of_gt (Nat.two_pow_pos i)), Nat.log2_two_pow]
/-! ### steps -/
section
variable {K : PySem.W.Frag} {σ : St} {H : Hp} {Q : VK} {QB : Bool → Hp → Prop} {ta : TE} {x : V} {a b k : Nat} {m : Int}
theorem o_shl1 (hk : k ≤ 1000) (h : Q (.int ((2 ^ k : Nat) : Int)) H) : zShl (.int 1) (.int (k : Int)) H Q := ⟨1, (k : Int), rfl, rfl, by
  refine ⟨by omega, ?_, ?_⟩ <;> first | decide | omega, by dsimp only; rw [shl_one]; exact h⟩
theorem o_shr (h : Q (.int ((a >>> k : Nat) : Int)) H) : zShr (.int (a : Int)) (.int (k : Int)) H Q := ⟨(a : Int), (k : Int), rfl, rfl, by omega, by dsimp only; rw [shr_nat]; exact h⟩
theorem o_and (h : Q (.int ((a &&& b : Nat) : Int)) H) : zAnd (.int (a : Int)) (.int (b : Int)) H Q := ⟨(a : Int), (b : Int), rfl, rfl, by dsimp only; rw [and_nat]; exact h⟩
theorem o_or (h : Q (.int ((a ||| b : Nat) : Int)) H) : zOr (.int (a : Int)) (.int (b : Int)) H Q := ⟨(a : Int), (b : Int), rfl, rfl, by dsimp only; rw [or_nat]; exact h⟩
theorem o_and1 (h : Q (.int ((a % 2 : Nat) : Int)) H) : zAnd (.int (a : Int)) (.int 1) H Q := ⟨(a : Int), 1, rfl, rfl, by
  dsimp only
  rw [show (1 : Int) = ((1 : Nat) : Int) from rfl, and_nat, Nat.and_one_is_mod]
  exact h⟩
theorem o_low (ha : 0 < a) (h : Q (.int ((a - (a &&& (a - 1)) : Nat) : Int)) H) : zAnd (.int (a : Int)) (.int (-(a : Int))) H Q := ⟨(a : Int), -(a : Int), rfl, rfl, by dsimp only; rw [low_nat a ha]; exact h⟩
theorem o_ipOr (h : Q (.int ((a ||| b : Nat) : Int)) H) : ipI (fun i j => Builtin.bitOr i j) (.int (a : Int)) (.int (b : Int)) H Q := ⟨(a : Int), (b : Int), rfl, rfl, by dsimp only; rw [or_nat]; exact h⟩
theorem g_lst {n : Nat} {ts : TGs} {c : Addr} {xs : List V} {QS : St → Hp → Prop} (h : SqL K H c xs) (hn : xs.length = n) (k : ts xs σ H QS) : gLst K n ts (.ref c) σ H QS := ⟨c, xs, rfl, h, hn, k⟩
theorem dLI_inj {a b : List (List Int)} : dLI a = dLI b ↔ a = b := by
  refine ⟨fun h => ?_, fun h => by rw [h]⟩
  have : ∀ {a b : List (List Int)}, a.map dI = b.map dI → a = b := fun {a} => by
    induction a with
    | nil => intro b h; cases b with
      | nil => rfl
      | cons _ _ => cases h
    | cons x a ih => intro b h; cases b with
      | nil => cases h
      | cons y b =>
        rw [List.map_cons, List.map_cons, List.cons.injEq] at h
        rw [dI_inj.mp h.1, ih h.2]
  exact this (PyData.list.inj h)
/-- lists of tuples of ints -/
theorem o_neLI {c d : Addr} {us ws : List V} {as bs : List (List Int)} (ha : SqL K H c us) (hb : SqL K H d ws) (ta : TIs H us as) (tb : TIs H ws bs) (h : Q (.bl (!decide (as = bs))) H) : zNe K (.ref c) (.ref d) H Q :=
  o_neD (.lst ha ta.dp) (.lst hb tb.dp) (pl_dLI.shaped (by decide)) (pl_dLI.shaped (by decide)) (by rw [pl_dLI.eqv pl_dLI dLI_inj]; exact h)
theorem o_eqLI {c d : Addr} {us ws : List V} {as bs : List (List Int)} (ha : SqL K H c us) (hb : SqL K H d ws) (ta : TIs H us as) (tb : TIs H ws bs) (h : Q (.bl (decide (as = bs))) H) : zEq K (.ref c) (.ref d) H Q :=
  o_eqD (.lst ha ta.dp) (.lst hb tb.dp) (pl_dLI.shaped (by decide)) (pl_dLI.shaped (by decide)) (by rw [pl_dLI.eqv pl_dLI dLI_inj]; exact h)
theorem s_asgU {n : Nat} {ts : TGs} {D : Ends} {te : TE} (h : te σ H fun v H1 => gLst K n ts v σ H1 D.nx) : tAsg te (gLst K n ts) D σ H := h
theorem e_bits (h : ta σ H fun x H1 => ∃ i, x = .int i ∧ Q (.int (Builtin.Int.intBits i : Nat)) H1) : tBits ta σ H Q := h
theorem bits_ {P : V → Prop} (h : P (.int (Builtin.Int.intBits m : Nat))) : ∃ i, V.int m = .int i ∧ P (.int (Builtin.Int.intBits i : Nat)) := ⟨m, rfl, h⟩
theorem t_bit (h : QB (a.testBit k) H) : ∃ q, TruV K (.int ((a >>> k % 2 : Nat) : Int)) H q ∧ QB q H := by
  refine t_int ?_
  have e : ((((a >>> k) % 2 : Nat) : Int) != 0) = a.testBit k := by
    rw [Nat.testBit_eq_decide_div_mod_eq, Nat.shiftRight_eq_div_pow]
    rcases Nat.mod_two_eq_zero_or_one (a / 2 ^ k) with z | z
    · rw [z]
      rfl
    · rw [z]
      rfl
  have e2 : ((((a >>> k % 2 : Nat)) : Int) != 0) = a.testBit k := e
  rw [e2]
  exact h
end
/-! ### what a part made, frozen -/
theorem gr_of_same {F H H' : Hp} {D : Addr} (hF : Same F H) (s : Same H H') (hD : Fresh H D) : ∃ F', Gr M0 F H F' H' ∧ F' D = none ∧ ∀ b o, H b = none → b ≠ D → H' b = some o → F' b = some o := by
  refine ⟨fun b => if ((H b).isNone && decide (b ≠ D)) = true then H' b else F b, ⟨fun b u e => ?_, fun b u e => ?_, fun b o _ e => s b o e, fun b o e f => ?_⟩, ?_, fun b o e1 e2 e3 => ?_⟩
  · rw [hF b u e, if_neg (by simp)]
    exact e
  · split at e
    · exact e
    · exact s b u (hF b u e)
  · show (if _ then _ else _) = _
    rw [e, if_neg (by simp)]
    exact f
  · show (if _ then _ else _) = _
    rw [if_neg (by simp)]
    exact fresh_F hF hD
  · show (if _ then _ else _) = _
    rw [e1, if_pos (by simp [e2])]
    exact e3
section
variable {K : PySem.W.Frag} {σ : St} {H : Hp} {tl te : TE} {c : TT} {Q : VK} {i j : Nat} {g : TG} {a : Addr} {xs : List V} {vs : List Nat} {ns : List Int}
def LcE (K : PySem.W.Frag) (g : TG) (tt : TT) (te : TE) (vs : List Nat) (σ : St) (x : V) (H : Hp) (Q : VK) : Prop := ∃ a xs, [x] = [V.ref a] ∧ SqL K H a xs ∧ LcW (Ite K a) g tt te vs σ H Q
theorem e_lcE (h : tl σ H fun x H1 => LcE K g c te vs σ x H1 Q) : tLc (iEnum K (tCons tl tNil)) g c te vs σ H Q := h
theorem lc_E (hs : SqL K H a xs) (Pv : Addr → Nat → Hp → Prop) (h0 : ∀ D, Fresh H D → Pv D 0 (upd H D (.lst []))) (hl : ∀ D i H', i ≤ xs.length → Pv D i H' → SqL K H' a xs)
    (hb : ∀ D i x H' q, Fresh H D → xs[i]? = some x → Pv D i H' → Fresh H' q → g (.ref q) (wipe σ vs) (upd H' q (.tup [.int (i : Int), x])) fun σ2 H3 => wipe σ2 vs = wipe σ vs ∧ c σ2 H3 fun b H4 =>
      if b = true then te σ2 H4 fun y H5 => ∃ acc, H5 D = some (.lst acc) ∧ acc.length < sizeLine ∧ Pv D (i + 1) (upd H5 D (.lst (acc ++ [y]))) else Pv D (i + 1) H4)
    (hd : ∀ D H', Fresh H D → Pv D xs.length H' → Q (.ref D) H') : LcE K g c te vs σ (.ref a) H Q := by
  refine ⟨a, xs, rfl, hs, fun D nD => ⟨fun i m H' => m = xs.length - i ∧ i ≤ xs.length ∧ Pv D i H', ⟨xs.length, by simp, Nat.zero_le _, h0 D nD⟩, ?_⟩⟩
  rintro i m H' ⟨rfl, hi, pv⟩
  have sq := hl D i H' hi pv
  by_cases cc : i < xs.length
  · refine .inr ⟨⟨xs, xs[i], sq, List.getElem?_eq_getElem cc⟩, Pv D (i + 1), fun H2 p2 => ⟨xs.length - (i + 1), by omega, rfl, cc, p2⟩, fun x H2 y => ?_⟩
    obtain ⟨q, z, rfl, nq, rfl, f⟩ := y
    exact hb D i z H' q nD (f xs sq) pv nq
  · have e : i = xs.length := by omega
    subst e
    exact .inl ⟨⟨xs, sq, Nat.le_refl _⟩, hd D H' nD pv⟩
/-- what the turns of a comprehension have made -/
def RelAt (R : Nat → V → Hp → Prop) (H : Hp) (D : Addr) (i : Nat) (H' : Hp) : Prop := Same H H' ∧ ∃ ys, H' D = some (.lst ys) ∧ ys.length = i ∧ ∀ j y, ys[j]? = some y → R j y H' ∧ y ≠ .ref D
/-- what a relation of made values must bear -/
structure Stab (R : Nat → V → Hp → Prop) : Prop where
  mono : ∀ i y H1 H2, Same H1 H2 → R i y H1 → R i y H2
  put : ∀ i y H1 D acc acc', H1 D = some (.lst acc) → y ≠ .ref D → R i y H1 → R i y (upd H1 D (.lst acc'))
theorem rel_turn {R : Nat → V → Hp → Prop} (S : Stab R) {D : Addr} {n : Nat} {H' H2 : Hp} {te : TE} {σ1 : St} (nD : Fresh H D) (hz : n ≤ 10000) (h : RelAt R H D n H') (s2 : Same H' H2)
    (he : ∀ (Q : VK), (∀ y H3, Same H2 H3 → (∀ b, y = .ref b → Fresh H2 b ∨ ∃ o, H b = some o) → R n y H3 → Q y H3) → te σ1 H2 Q) :
    te σ1 H2 fun y H5 => ∃ acc, H5 D = some (.lst acc) ∧ acc.length < sizeLine ∧ RelAt R H D (n + 1) (upd H5 D (.lst (acc ++ [y]))) := by
  obtain ⟨sH, ys, eD, ly, hy⟩ := h
  refine he _ fun y H3 s3 fr r => ?_
  have eD3 := s3 _ _ (s2 _ _ eD)
  have ny : y ≠ .ref D := fun e => by
    rcases fr D e with f | ⟨o, f⟩
    · rw [Fresh, s2 _ _ eD] at f
      cases f
    · rw [Fresh, f] at nD
      cases nD
  refine ⟨ys, eD3, by rw [sizeLine_eq]; omega, fun b o e => ?_, ys ++ [y], upd_same, by rw [List.length_append, ly]; rfl, fun j z ez => ?_⟩
  · rw [upd_ne (ne_of_none e nD)]
    exact s3 _ _ (s2 _ _ (sH _ _ e))
  · rcases Nat.lt_or_ge j ys.length with l | l
    · rw [List.getElem?_append_left l] at ez
      have q := hy j z ez
      exact ⟨S.put _ _ _ _ _ _ eD3 q.2 (S.mono _ _ _ _ (s2.trans s3) q.1), q.2⟩
    · rw [List.getElem?_append_right l] at ez
      have l0 : j - ys.length = 0 := by
        have := (List.getElem?_eq_some_iff.mp ez).1
        simp only [List.length_singleton] at this
        omega
      rw [l0, List.getElem?_cons_zero] at ez
      obtain rfl : y = z := Option.some.inj ez
      rw [show j = n by omega]
      exact ⟨S.put _ _ _ _ _ _ eD3 ny r, ny⟩
theorem rel_start {R : Nat → V → Hp → Prop} {D : Addr} (nD : Fresh H D) : RelAt R H D 0 (upd H D (.lst [])) := ⟨fun b o e => (upd_ne (ne_of_none e nD)).trans e, [], upd_same, rfl, fun j y h => by cases h⟩
theorem lcL_rel (R : Nat → V → Hp → Prop) (S : Stab R) (hs : SqL K H a xs) (hz : xs.length ≤ 10000)
    (he : ∀ i x, xs[i]? = some x → ∀ H2 (Q : VK), Same H H2 → (∀ y H3, Same H2 H3 → (∀ b, y = .ref b → Fresh H2 b ∨ ∃ o, H b = some o) → R i y H3 → Q y H3) → te ((wipe σ vs).set j (some x)) H2 Q)
    (k : ∀ D H' ys, Fresh H D → Same H H' → H' D = some (.lst ys) → ys.length = xs.length → (∀ i y, ys[i]? = some y → R i y H') → Q (.ref D) H') (hw : ∀ x, wipe ((wipe σ vs).set j (some x)) vs = wipe σ vs := by intro _; rfl) : LcL K (gName j) tYes te vs σ (.ref a) H Q :=
  lc_L hs (fun D i H' => RelAt R H D i H') (fun D nD => rel_start nD) (fun D i H' _ h => Same.seq h.1 hs) (fun D i x H' nD hx h => ⟨hw x, c_yes (iteT (rel_turn S nD (by have := (List.getElem?_eq_some_iff.mp hx).1; omega) h (Same.refl _) fun Q q => he i x hx H' Q h.1 q))⟩)
    fun D H' nD ⟨sH, ys, eD, ly, hy⟩ => k D H' ys nD sH eD ly fun i y e => (hy i y e).1
theorem lcT_rel (R : Nat → V → Hp → Prop) (S : Stab R) (hs : SqT K H a xs) (hz : xs.length ≤ 10000)
    (he : ∀ i x, xs[i]? = some x → ∀ H2 (Q : VK), Same H H2 → (∀ y H3, Same H2 H3 → (∀ b, y = .ref b → Fresh H2 b ∨ ∃ o, H b = some o) → R i y H3 → Q y H3) → te ((wipe σ vs).set j (some x)) H2 Q)
    (k : ∀ D H' ys, Fresh H D → Same H H' → H' D = some (.lst ys) → ys.length = xs.length → (∀ i y, ys[i]? = some y → R i y H') → Q (.ref D) H') (hw : ∀ x, wipe ((wipe σ vs).set j (some x)) vs = wipe σ vs := by intro _; rfl) : LcT K (gName j) tYes te vs σ (.ref a) H Q :=
  lc_T hs (fun D i H' => RelAt R H D i H') (fun D nD => rel_start nD) (fun D i H' _ h => Same.seqT h.1 hs) (fun D i x H' nD hx h => ⟨hw x, c_yes (iteT (rel_turn S nD (by have := (List.getElem?_eq_some_iff.mp hx).1; omega) h (Same.refl _) fun Q q => he i x hx H' Q h.1 q))⟩)
    fun D H' nD ⟨sH, ys, eD, ly, hy⟩ => k D H' ys nD sH eD ly fun i y e => (hy i y e).1
theorem lcR_rel {n : Int} (R : Nat → V → Hp → Prop) (S : Stab R) (hn : -(2 ^ 62) ≤ n ∧ n ≤ 10000)
    (he : ∀ i : Nat, (i : Int) < n → ∀ H2 (Q : VK), Same H H2 → (∀ y H3, Same H2 H3 → (∀ b, y = .ref b → Fresh H2 b ∨ ∃ o, H b = some o) → R i y H3 → Q y H3) → te ((wipe σ vs).set j (some (.int (i : Int)))) H2 Q)
    (k : ∀ D H' ys, Fresh H D → Same H H' → H' D = some (.lst ys) → ys.length = n.toNat → (∀ i y, ys[i]? = some y → R i y H') → Q (.ref D) H') (hw : ∀ x, wipe ((wipe σ vs).set j (some x)) vs = wipe σ vs := by intro _; rfl) : LcR1 (gName j) tYes te vs σ (.int n) H Q :=
  lc_R1 (by omega) (fun D i H' => RelAt R H D i H') (fun D nD => rel_start nD) (fun D i H' nD hi h => ⟨hw _, c_yes (iteT (rel_turn S nD (by omega) h (Same.refl _) fun Q q => he i hi H' Q h.1 q))⟩)
    fun D H' nD ⟨sH, ys, eD, ly, hy⟩ => k D H' ys nD sH eD ly fun i y e => (hy i y e).1
theorem lcE_rel (R : Nat → V → Hp → Prop) (S : Stab R) (hs : SqL K H a xs) (hz : xs.length ≤ 10000)
    (he : ∀ n x, xs[n]? = some x → ∀ H2 (Q : VK), Same H H2 → (∀ y H3, Same H2 H3 → (∀ b, y = .ref b → Fresh H2 b ∨ ∃ o, H b = some o) → R n y H3 → Q y H3) → te (((wipe σ vs).set i (some (.int (n : Int)))).set j (some x)) H2 Q)
    (k : ∀ D H' ys, Fresh H D → Same H H' → H' D = some (.lst ys) → ys.length = xs.length → (∀ i y, ys[i]? = some y → R i y H') → Q (.ref D) H')
    (hw : ∀ x y, wipe (((wipe σ vs).set i (some x)).set j (some y)) vs = wipe σ vs := by intro _ _; rfl) : LcE K (gTup K 2 (gCons (gName i) (gCons (gName j) gNil))) tYes te vs σ (.ref a) H Q :=
  lc_E hs (fun D i H' => RelAt R H D i H') (fun D nD => rel_start nD) (fun D i H' _ h => Same.seq h.1 hs) (fun D n x H' q nD hx h nq => by
    have s2 : Same H' (upd H' q (.tup [.int (n : Int), x])) := fun b o e => (upd_ne (ne_of_none e nq)).trans e
    refine g_tup (SqT.of upd_same) rfl (g_cons (g_name (g_cons (g_name (g_nil ⟨hw _ _, c_yes (iteT ?_)⟩)))))
    exact rel_turn S nD (by have := (List.getElem?_eq_some_iff.mp hx).1; omega) h s2 fun Q q => he n x hx _ Q (h.1.trans s2) q)
    fun D H' nD ⟨sH, ys, eD, ly, hy⟩ => k D H' ys nD sH eD ly fun i y e => (hy i y e).1
theorem stab_val {f : Nat → V → Prop} : Stab fun i y _ => f i y := ⟨fun _ _ _ _ _ h => h, fun _ _ _ _ _ _ _ _ h => h⟩
theorem stab_TI {f : Nat → List Int → Prop} : Stab fun i y H => ∃ ns, f i ns ∧ TI H y ns := ⟨fun _ _ _ _ s ⟨ns, h, t⟩ => ⟨ns, h, t.mono s⟩, fun i y H1 D acc acc' e _ ⟨ns, h, t, e1, e2⟩ => ⟨ns, h, t, e1, by
  rw [upd_ne]
  · exact e2
  · intro z
    rw [z, e] at e2
    cases e2⟩⟩
theorem lcL_igrow (p : Int → Bool) (f : Int → V) (hs : SqL K H a (ns.map V.int)) (hz : ns.length ≤ 10000) {tt : TT} (ht : ∀ x ∈ ns, ∀ H2 (QB : Bool → Hp → Prop), Same H H2 → (∀ H3, Same H2 H3 → QB (p x) H3) → tt ((wipe σ vs).set j (some (.int x))) H2 QB)
    (he : ∀ x ∈ ns, ∀ H2 (Q : VK), Same H H2 → p x = true → (∀ H3, Same H2 H3 → Q (f x) H3) → te ((wipe σ vs).set j (some (.int x))) H2 Q)
    (k : ∀ D H', Fresh H D → Same H H' → H' D = some (.lst ((ns.filter p).map f)) → Q (.ref D) H') (hw : ∀ x, wipe ((wipe σ vs).set j (some x)) vs = wipe σ vs := by intro _; rfl) : LcL K (gName j) tt te vs σ (.ref a) H Q :=
  lcL_grow (onI p) (mapI f) hs (by rw [List.length_map]; exact hz) (fun x hx H2 QB hs q => by
    obtain ⟨z, hz, rfl⟩ := List.mem_map.mp hx
    exact ht z hz H2 QB hs q) (fun x hx H2 Q hs hp q => by
    obtain ⟨z, hz, rfl⟩ := List.mem_map.mp hx
    exact he z hz H2 Q hs hp q) (fun D H' hD hS e => by
    rw [fil_ints] at e
    exact k D H' hD hS e) hw
/-! ### filters by place, growing -/
theorem rng_step (p : Nat → Bool) (f : Nat → V) (i : Nat) : ((List.range (i + 1)).filter p).map f = if p i = true then ((List.range i).filter p).map f ++ [f i] else ((List.range i).filter p).map f := by
  rw [List.range_succ, List.filter_append, List.map_append]
  by_cases h : p i = true
  · rw [if_pos h, List.filter_cons_of_pos h]
    rfl
  · rw [if_neg h, List.filter_cons_of_neg h, List.filter_nil, List.map_nil, List.append_nil]
theorem rng_short (p : Nat → Bool) (f : Nat → V) {i : Nat} (h : i ≤ 10000) : (((List.range i).filter p).map f).length < sizeLine := by
  have := List.length_filter_le p (List.range i)
  rw [List.length_range] at this
  rw [List.length_map, sizeLine_eq]
  omega
theorem lcL_ig {tt : TT} (p : Nat → Bool) (f : Nat → V) (hs : SqL K H a xs) (hz : xs.length ≤ 10000) (ht : ∀ i x, xs[i]? = some x → ∀ H2 (QB : Bool → Hp → Prop), Same H H2 → (∀ H3, Same H2 H3 → QB (p i) H3) → tt ((wipe σ vs).set j (some x)) H2 QB)
    (he : ∀ i x, xs[i]? = some x → ∀ H2 (Q : VK), Same H H2 → p i = true → (∀ H3, Same H2 H3 → Q (f i) H3) → te ((wipe σ vs).set j (some x)) H2 Q)
    (k : ∀ D H', Fresh H D → Same H H' → H' D = some (.lst (((List.range xs.length).filter p).map f)) → Q (.ref D) H') (hw : ∀ x, wipe ((wipe σ vs).set j (some x)) vs = wipe σ vs := by intro _; rfl) : LcL K (gName j) tt te vs σ (.ref a) H Q :=
  lc_L hs (fun D i H' => GrowAt (((List.range i).filter p).map f) H D H') (fun D hD => ⟨fun b u e => (upd_ne (ne_of_none e hD)).trans e, upd_same⟩) (fun D i H' _ h => Same.seq h.1 hs) (fun D i x H' hD hx h => ⟨hw x,
    grow_turn (b := p i) (y := f i) hD (rng_short p f (by have := (List.getElem?_eq_some_iff.mp hx).1; omega)) h (rng_step p f i) (fun H2 QB hs q => ht i x hx H2 QB hs q) (fun H2 Q hs hp q => he i x hx H2 Q hs hp q)⟩) fun D H' hD h => k D H' hD h.1 h.2
theorem lcT_ig {tt : TT} (p : Nat → Bool) (f : Nat → V) (hs : SqT K H a xs) (hz : xs.length ≤ 10000) (ht : ∀ i x, xs[i]? = some x → ∀ H2 (QB : Bool → Hp → Prop), Same H H2 → (∀ H3, Same H2 H3 → QB (p i) H3) → tt ((wipe σ vs).set j (some x)) H2 QB)
    (he : ∀ i x, xs[i]? = some x → ∀ H2 (Q : VK), Same H H2 → p i = true → (∀ H3, Same H2 H3 → Q (f i) H3) → te ((wipe σ vs).set j (some x)) H2 Q)
    (k : ∀ D H', Fresh H D → Same H H' → H' D = some (.lst (((List.range xs.length).filter p).map f)) → Q (.ref D) H') (hw : ∀ x, wipe ((wipe σ vs).set j (some x)) vs = wipe σ vs := by intro _; rfl) : LcT K (gName j) tt te vs σ (.ref a) H Q :=
  lc_T hs (fun D i H' => GrowAt (((List.range i).filter p).map f) H D H') (fun D hD => ⟨fun b u e => (upd_ne (ne_of_none e hD)).trans e, upd_same⟩) (fun D i H' _ h => Same.seqT h.1 hs) (fun D i x H' hD hx h => ⟨hw x,
    grow_turn (b := p i) (y := f i) hD (rng_short p f (by have := (List.getElem?_eq_some_iff.mp hx).1; omega)) h (rng_step p f i) (fun H2 QB hs q => ht i x hx H2 QB hs q) (fun H2 Q hs hp q => he i x hx H2 Q hs hp q)⟩) fun D H' hD h => k D H' hD h.1 h.2
theorem ones_of (p : Nat → Bool) (n : Nat) : HO.lst (((List.range n).filter p).map fun _ => V.int 1) = ones ((List.range n).filter p).length ∧ (((List.range n).filter p).length = 0 ↔ ∀ i, i < n → p i = false) := by
  constructor
  · unfold ones
    congr 1
    rw [List.map_replicate]
    exact List.map_const'
  · rw [List.length_eq_zero_iff, List.filter_eq_nil_iff]
    exact ⟨fun h i hi => Bool.eq_false_iff.mpr (h i (List.mem_range.mpr hi)), fun h i hi => Bool.eq_false_iff.mp (h i (List.mem_range.mp hi))⟩
/-- [1 for x in xs if ..], the test making new things -/
theorem lcL_onesG {tt : TT} (p : Nat → Bool) (hs : SqL K H a xs) (hz : xs.length ≤ 10000) (ht : ∀ i x, xs[i]? = some x → ∀ H2 (QB : Bool → Hp → Prop), Same H H2 → (∀ H3, Same H2 H3 → QB (p i) H3) → tt ((wipe σ vs).set j (some x)) H2 QB)
    (k : ∀ D c H', Fresh H D → Same H H' → H' D = some (ones c) → (c = 0 ↔ ∀ i, i < xs.length → p i = false) → Q (.ref D) H') (hw : ∀ x, wipe ((wipe σ vs).set j (some x)) vs = wipe σ vs := by intro _; rfl) : LcL K (gName j) tt (tC (.int 1)) vs σ (.ref a) H Q :=
  lcL_ig p (fun _ => .int 1) hs hz ht (fun i x hx H2 Q s hp q => q _ (Same.refl _)) (fun D H' nD s e => k D _ H' nD s (e.trans (congrArg some (ones_of p _).1)) (ones_of p _).2) hw
theorem lcT_onesG {tt : TT} (p : Nat → Bool) (hs : SqT K H a xs) (hz : xs.length ≤ 10000) (ht : ∀ i x, xs[i]? = some x → ∀ H2 (QB : Bool → Hp → Prop), Same H H2 → (∀ H3, Same H2 H3 → QB (p i) H3) → tt ((wipe σ vs).set j (some x)) H2 QB)
    (k : ∀ D c H', Fresh H D → Same H H' → H' D = some (ones c) → (c = 0 ↔ ∀ i, i < xs.length → p i = false) → Q (.ref D) H') (hw : ∀ x, wipe ((wipe σ vs).set j (some x)) vs = wipe σ vs := by intro _; rfl) : LcT K (gName j) tt (tC (.int 1)) vs σ (.ref a) H Q :=
  lcT_ig p (fun _ => .int 1) hs hz ht (fun i x hx H2 Q s hp q => q _ (Same.refl _)) (fun D H' nD s e => k D _ H' nD s (e.trans (congrArg some (ones_of p _).1)) (ones_of p _).2) hw
/-! ### lists by place; lists of ints -/
theorem paired_of {α β : Type} {R : α → β → Prop} : ∀ {ws : List α} {ns : List β}, ws.length = ns.length → (∀ (i : Nat) (y : α), ws[i]? = some y → ∃ n, ns[i]? = some n ∧ R y n) → Paired R ws ns
  | [], [], _, _ => .nil
  | [], _ :: _, h, _ => by cases h
  | _ :: _, [], h, _ => by cases h
  | w :: ws, n :: ns, l, h => .cons (by
      obtain ⟨m, e, r⟩ := h 0 w rfl
      cases e
      exact r) (paired_of (by simpa using l) fun i y e => h (i + 1) y e)
theorem paired_get {α β : Type} {R : α → β → Prop} : ∀ {ws : List α} {ns : List β} {i : Nat} {y : α}, Paired R ws ns → ws[i]? = some y → ∃ n, ns[i]? = some n ∧ R y n
  | _, _, 0, _, .cons h _, e => by
    rw [List.getElem?_cons_zero] at e
    cases e
    exact ⟨_, rfl, h⟩
  | _, _, i + 1, _, .cons _ t, e => by
    rw [List.getElem?_cons_succ] at e ⊢
    exact paired_get t e
theorem ys_of {ys zs : List V} (l : ys.length = zs.length) (h : ∀ (i : Nat) (y : V), ys[i]? = some y → zs[i]? = some y) : ys = zs := List.ext_getElem? fun i => by
  cases e : ys[i]? with
  | some y => exact (h i y e).symm
  | none =>
    rw [List.getElem?_eq_none_iff] at e
    exact (List.getElem?_eq_none_iff.mpr (by omega)).symm
/-- v is a list of the ints ns -/
def LI (H : Hp) (v : V) (ns : List Int) : Prop := ∃ t, v = .ref t ∧ H t = some (.lst (ns.map V.int))
theorem LI.mono {H' : Hp} (e : Same H H') {v : V} {ns : List Int} (h : LI H v ns) : LI H' v ns := by
  obtain ⟨t, rfl, h⟩ := h
  exact ⟨t, rfl, e _ _ h⟩
theorem LI.dp {v : V} {ns : List Int} (h : LI H v ns) : Dp K H v (dL ns) := by
  obtain ⟨t, rfl, h⟩ := h
  exact .lst (SqL.of h) (dpAll_ints ns)
abbrev LIs (H : Hp) : List V → List (List Int) → Prop := Paired (LI H)
theorem LIs.mono {H' : Hp} (e : Same H H') {vs : List V} {nss : List (List Int)} (h : LIs H vs nss) : LIs H' vs nss := Paired.mono (fun _ _ => LI.mono e) h
theorem LIs.dp : ∀ {vs : List V} {nss : List (List Int)}, LIs H vs nss → DpAll K H vs (nss.map dL)
  | _, _, .nil => .nil
  | _, _, .cons h t => .cons h.dp (LIs.dp t)
theorem stab_LI {f : Nat → List Int → Prop} : Stab fun i y H => ∃ ns, f i ns ∧ LI H y ns := ⟨fun _ _ _ _ s ⟨ns, h, t⟩ => ⟨ns, h, t.mono s⟩, fun i y H1 D acc acc' e ny ⟨ns, h, t, e1, e2⟩ => ⟨ns, h, t, e1, by
  rw [upd_ne]
  · exact e2
  · intro z
    rw [e1, z] at ny
    exact ny rfl⟩⟩
theorem fresh_back {H' : Hp} {p : Addr} (s : Same H H') (h : Fresh H' p) : Fresh H p := by
  cases e : H p with
  | none => exact e
  | some o =>
    rw [Fresh, s _ _ e] at h
    cases h
/-- tuples stay when a list is changed -/
theorem ti_put {c : Addr} {us as : List V} {nss : List (List Int)} (h : TIs H us nss) (e : H c = some (.lst as)) {bs : List V} : TIs (upd H c (.lst bs)) us nss := Paired.mono (fun v ns h => by
  obtain ⟨t, rfl, h⟩ := h
  refine ⟨t, rfl, ?_⟩
  rw [upd_ne]
  · exact h
  · intro z
    rw [z, e] at h
    cases h) h
theorem li_put {c : Addr} {us bs : List V} {nss : List (List Int)} (h : LIs H us nss) (e : ∀ u ∈ us, u ≠ .ref c) : LIs (upd H c (.lst bs)) us nss := paired_of h.length fun i y ey => by
  obtain ⟨n, hn, t, rfl, ht⟩ := paired_get h ey
  refine ⟨n, hn, t, rfl, ?_⟩
  rw [upd_ne]
  · exact ht
  · exact fun z => e _ (List.mem_of_getElem? ey) (by rw [z])
theorem li_app {us ws : List V} {as bs : List (List Int)} (h : LIs H us as) (k : LIs H ws bs) : LIs H (us ++ ws) (as ++ bs) := by
  induction h with
  | nil => exact k
  | cons a _ ih => exact .cons a ih
theorem gr_same0 {F H' : Hp} (hF : Same F H) (s : Same H H') : Gr M0 F H F H' := ⟨Same.refl _, hF.trans s, fun b o _ e => s b o e, fun _ _ _ e => e⟩
end
end Z

/-! Zs: sorted(t), t a tuple. -/
namespace PySem
open PyProof.Rows
section
variable {prog : Program} {w : World} {A : Around} {E : Value → Shared → Prop} {s : Shared}
theorem z_collect_tup {l : Addr} {o : Obj} {n : Nat} {vs : List Value} {Q : List Value → Shared → Prop} (ho : s.heap.get? l = some o) (hc : o.cls = .type "tuple") (hd : o.data = .seq vs.toArray n)
    (h : Q vs { s with heap := (s.heap.push (seqObj "list" #[] 0)).update s.heap.objs.size (Obj.mapSeq (· ++ vs.toArray)) }) (hsz : vs.length ≤ sizeLine) :
    wpAny (model prog w) A (collect (.ref l)) Q E s := by
  unfold collect
  refine wpAny_bind (wpAny_runValue (codeAny_builtin entry_proto_collect' ?_))
  show wpAny _ _ (do again (.builtin "list.__iadd__" ⟨[← newList [], .ref l], []⟩)) _ _ s
  refine wpAny_bind (wpAny_newList (wpAny_pure ⟨Code.quiet_builtin _ (by decide +kernel), codeAny_builtin entry_list_iadd' ?_⟩))
  show wpAny _ _ (Builtin.List.listExtendWith (.ref s.heap.objs.size) (.ref l) (.ref s.heap.objs.size)) _ _ { s with heap := s.heap.push (seqObj "list" #[] 0) }
  unfold Builtin.List.listExtendWith
  have ho' : (s.heap.push (seqObj "list" #[] 0)).get? l = some o := Heap.get?_push_of_some _ ho
  refine wpAny_bind (wpAny_typeOf (T := "tuple") ⟨o, ho', hc⟩ ?_)
  have ht : (Value.type "tuple" == Value.type "tuple") = true := by rfl
  rw [if_pos (by rw [ht]; simp)]
  refine wpAny_bind (listItems_at ho' hd ?_)
  refine wpAny_bind (listItems_at (xs := #[]) (n := 0) (Heap.get?_push_size _ rfl) rfl ?_)
  rw [if_neg (by simp)]
  refine wpAny_bind (listUpdate_at (xs := #[]) (n := 0) (Heap.get?_push_size _ rfl) rfl ?_ (Nat.zero_le _) (by show (#[] ++ vs.toArray).size ≤ sizeLine + 1; simp only [Array.size_append, List.size_toArray, List.length_nil]; omega))
  refine wpAny_pure ?_
  show wpAny (model prog w) A (do
      let o ← load s.heap.objs.size
      match o.data with
      | .seq xs _ => pure xs.toList
      | _ => unsupported "internal:collect") Q E { s with heap := (s.heap.push (seqObj "list" #[] 0)).update s.heap.objs.size (Obj.mapSeq (· ++ vs.toArray)) }
  refine wpAny_bind (wpAny_load (get?_update_seq (Heap.get?_push_size _ rfl) _) ?_)
  show wpAny _ _ (pure ((#[] : Array Value) ++ vs.toArray).toList) Q E _
  rw [show ((#[] : Array Value) ++ vs.toArray).toList = vs by simp]
  exact wpAny_pure h
end
end PySem
namespace SrtO
open PySem PyProof.Rows
section
variable {prog : Program} {w : World} {A : Around} {E : Value → Shared → Prop} {s : Shared}
theorem z_sorted_ordT {l : Addr} {o : Obj} {n : Nat} {vs : List Value} {ltv : Value → Value → Bool} {Q : Value → Shared → Prop} (O : Swo ltv) (ho : s.heap.get? l = some o) (hc : o.cls = .type "tuple") (hd : o.data = .seq vs.toArray n) (hz : vs.length ≤ sizeLine)
    (hS : 2 ≤ vs.length → ∀ (h₁ : Heap) (a : Addr), h₁.get? a = some (seqObj "list" vs.toArray 0) → (∀ b o, s.heap.get? b = some o → b ≠ a ∧ h₁.get? b = some o) → SortableO prog w A.in1.in1 { s with heap := h₁ } a vs ltv)
    (h : ∀ out : List Value, Srtd ltv out → Stb ltv out vs → Q (.ref (s.heap.objs.size + 1)) { s with heap := sortedAll s.heap vs out.toArray }) :
    wpAny (model prog w) A (call (.builtin "sorted") [.ref l]) Q E s := by
  refine Calls.call_function_entry kind_sorted plain_sorted entry_sorted (args_sorted1 _) ?_
  unfold Builtin.«sorted»
  refine wpAny_bind (m := checkCount "sorted" 1 1 _) (wpAny_pure ?_)
  refine wpAny_bind (z_collect_tup ho hc hd ?_ hz)
  refine wpAny_bind (wpAny_newList ?_ hz)
  have hsz : ((s.heap.push (seqObj "list" #[] 0)).update s.heap.objs.size (Obj.mapSeq (· ++ vs.toArray))).objs.size = s.heap.objs.size + 1 := by
    rw [Heap.size_update, size_push']
  have hoL : (((s.heap.push (seqObj "list" #[] 0)).update s.heap.objs.size (Obj.mapSeq (· ++ vs.toArray))).push (seqObj "list" vs.toArray 0)).get? (s.heap.objs.size + 1) = some (seqObj "list" vs.toArray 0) := by
    rw [← hsz]; exact Heap.get?_push_size _ rfl
  have keep : ∀ b o, s.heap.get? b = some o → b ≠ s.heap.objs.size + 1 ∧ (((s.heap.push (seqObj "list" #[] 0)).update s.heap.objs.size (Obj.mapSeq (· ++ vs.toArray))).push (seqObj "list" vs.toArray 0)).get? b = some o := fun b o q => by
    have hlt : b < s.heap.objs.size := Heap.lt_size q
    refine ⟨Nat.ne_of_lt (Nat.lt_succ_of_lt hlt), Heap.get?_push_of_some _ ?_⟩
    rw [Heap.get?_update_ne _ _ _ _ (Nat.ne_of_lt hlt)]
    exact Heap.get?_push_of_some _ q
  show wpAny _ _ _ _ _ { s with heap := ((s.heap.push (seqObj "list" #[] 0)).update s.heap.objs.size (Obj.mapSeq (· ++ vs.toArray))).push (seqObj "list" vs.toArray 0) }
  rw [hsz]
  refine wpAny_bind (wpAny_holding (wpAny_call_entry slot_list_sort ⟨_, hoL, rfl⟩ entry_list_sort (list_sort_ord O hoL hz (fun h2 => hS h2 _ _ hoL keep) fun out hs hb => ⟨_, rfl, ?_⟩) (args_list_sort _)))
  exact wpAny_pure ⟨_, rfl, h out hs hb⟩
end
end SrtO
namespace Z
open PySem PySem.Spec L2
open PyProof.Rows hiding St
/-- sorted(t), t a tuple of ints -/
def rSortedIT (K : PySem.W.Frag) : List V → Hp → VK → Prop := fun vs H Q => ∃ (a : Addr) (ns : List Int), vs = [V.ref a] ∧ SqT K H a (ns.map V.int) ∧ ∀ (ns' : List Int) (p : Addr), ns'.Perm ns → ns'.Pairwise (· ≤ ·) → H p = none → Q (.ref p) (upd H p (.lst (ns'.map V.int)))
section
variable {X : Cx}
theorem cr_sortedIT : CallR X (.builtin "sorted") (rSortedIT X.K) := by
  intro pins s σ H vs us Q I r h
  obtain ⟨a, ns, rfl, hs, q⟩ := h
  obtain ⟨its, rv, ⟨o, ho, hc, n, hd⟩, hz⟩ := I.tuple hs
  rw [Vals.ref1 r]
  have hi := rv.ints
  refine SrtO.z_sorted_ordT SrtO.swo_int ho hc hd (by rw [← rv.length]; exact hz) (fun h2 h₁ a' _ _ => SrtO.ints_sortable hi h2) fun out h1 h2 => ?_
  obtain ⟨k1, k2, k3⟩ := SrtO.ints_out hi h1 h2
  obtain ⟨ep, he'⟩ := PyProof.Rows.sortedAll_at s.heap its out.toArray
  have hlen : ((out.map SrtO.iv).map V.int).length ≤ sizeLine := by
    rw [List.length_map, k2.length_eq]
    rw [List.length_map] at hz
    exact hz
  exact ⟨.ref _, upd H (s.heap.objs.size + 1) (.lst ((out.map SrtO.iv).map V.int)), I.laid (t' := s.toks) (fun _ _ => PyProof.Rows.sortedAll_old) (Nat.le_succ _) ⟨hlen, out, ep, vals_of_ints k1, he'⟩, rfl, q _ _ k2 k3 (I.hok.fresh (Nat.le_succ _))⟩
def zSortedT (K : PySem.W.Frag) (w : World) : List V → Hp → VK → Prop := orC (zSorted K w) (rSortedIT K)
theorem cr_zSortedT (hc : X.calm = true) : CallR X (.builtin "sorted") (zSortedT X.K X.w) := cr_or2 (cr_zSorted hc) cr_sortedIT
end
section
variable {K : PySem.W.Frag} {w0 : World} {σ : L2.St} {H : Hp} {Q : VK} {a b : Addr} {ta tb : TE} {v : V} {ns : List Int}
theorem o_sortIT (hs : SqT K H a (ns.map V.int)) (h : ∀ (ns' : List Int) (p : Addr), ns'.Perm ns → ns'.Pairwise (· ≤ ·) → Fresh H p → Q (.ref p) (upd H p (.lst (ns'.map V.int)))) : zSortedT K w0 [.ref a] H Q := .inr ⟨a, ns, rfl, hs, h⟩
theorem e_dget (h : ta σ H fun x H1 => tb σ H1 fun y H2 => ∃ a v, x = .ref a ∧ DGet H2 a y (some v) ∧ Q v H2) : tDGet ta tb σ H Q := h
theorem dget_T {P : V → Prop} {ks : List Key} {kvs : List (List Key × V)} (ha : H a = some (.dT kvs)) (hb : H b = some (.tup (ks.map kV))) (hv : valV kvs ks = some v) (h : P v) : ∃ a' v', V.ref a = .ref a' ∧ DGet H a' (.ref b) (some v') ∧ P v' := ⟨a, v, rfl, by rw [← hv]; exact DGet.t ha hb, h⟩
theorem e_dnin' {ta tb : TE} (h : ta σ H fun y H1 => tb σ H1 fun x H2 => ∃ a o, x = .ref a ∧ DGet H2 a y o ∧ Q (.bl (!o.isSome)) H2) : tDNotIn ta tb σ H Q := h
end
end Z

/-! Zx: own exceptions: made, raised, caught, asked. -/
namespace Z
open PySem PySem.Spec L2
open PyProof.Rows hiding St
/-- a class without own __init__ over ValueError, its __init__ called by others -/
structure BaseC (K : PySem.W.Frag) (C : Addr) : Prop where
  rd : PySem.W.readsIn K C (.type "type") = true
  ga : PySem.W.specialIn K (.ref C) "__getattribute__" = some (some (.builtin "type.__getattribute__"))
  vi : PySem.W.findCls K (.ref C) (.type "type") "__init__" = some (.val (.builtin "ValueError.__init__"))
/-- what isinstance, except and the reading of fields ask of a class of errors -/
structure ErrC (K : PySem.W.Frag) (D : Addr) : Prop where
  hg : PySem.W.findIn K (.ref D) "__getattribute__" = some (some (.builtin "BaseException.__getattribute__"))
  hk : PySem.W.findIn K (.ref D) "__getattr__" = some none
  hs : PySem.W.subIn K (.ref D) (.type "BaseException") = some true
  hd : PySem.W.hasDictIn K D = true
  hc : PySem.W.isClsIn K D = true
  ha : PySem.W.findIn K (.ref D) "__class__" = some (some (.builtin "object.__class__"))
  hn : PySem.W.specialIn K (.builtin "object.__class__") "__get__" = some (some (.builtin "getset_descriptor.__get__"))
  ht : PySem.W.takesIn K (.builtin "object.__class__") = some true
  hm : PySem.W.mroIn K D (.type "object") = some true
section
variable {X : Cx} {e : Expr} {es : List Expr} {ta : TA} {te : TE} {p1 p2 pos : Pos} {x : Str} {C a : Addr} {oe : Obj} {cls : Value} {d : Option Addr} {pn : List (Addr × Obj)}
/-- B.__init__(self, ..) -/
theorem pe_cinit {pl : Sem Bool} (hg : Gl X x) (gC : X.mg x = some (.ref C)) (T : BaseC X.K C) (ha : PA X (e :: es) ta)
    (hc : eval (.Call (.Attribute (.Name x p1) "__init__" p2) (e :: es) [] pos) X.env = (do
      let ov ← eval (.Name x p1) X.env
      standAt p2.atName
      let (f, first) ← holding [ov] (getMethod ov "__init__" pl)
      callWith pos f first (backTo pos (starEach (e :: es) X.env)) (backToKw pos (keywordEach [] X.env))) := by rfl)
    (hdb : (x == ("__debug__" : Str)) = false := by decide) (he : starEach (e :: es) X.env = (false, eval e X.env) :: starEach es X.env := by rfl) (hpl : (backTo pos (starEach es X.env)).any (·.1) = false := by rfl) :
    PE X (.Call (.Attribute (.Name x p1) "__init__" p2) (e :: es) [] pos) (tVeI X.K ta) := by
  refine ⟨fun pins s σ H Q I h => ?_⟩
  refine PySem.W.methodCall_KW (ld_glob I hg gC ?_ hdb) hc
  refine PySem.W.method_cls I.kIn T.ga (PySem.W.cls_value I.kIn T.rd T.vi rfl ?_)
  show wpAny _ _ (callWith pos (Value.builtin "ValueError.__init__") [] (backTo pos (starEach (e :: es) X.env)) []) _ _ _
  refine PyProof.Rows.callWith_method1 (thn (ha.run pos pins _ σ H _ (I.tok _) h) fun us s1 ⟨vs, H1, I1, r1, a, C', ws, ev, hl, T', ea, q⟩ => ?_) he hpl
  subst ev
  cases r1 with
  | @cons _ u0 _ ur ra rw' =>
    obtain rfl : u0 = Value.ref a := ra
    have hlen : ur.length ≤ sizeLine := by
      rw [← Paired.length rw', sizeLine_eq]
      omega
    exact oinit_ok T' I1 ea hlen fun s' J => ⟨.non, H1, J, rfl, q⟩
/-- isinstance(e, c), isinstance(e, (c1, c2, ..)), e the exception that the suite holds -/
def rIsX1 (K : PySem.W.Frag) (a : Addr) (cls : Value) (d : Option Addr) : List V → Hp → VK → Prop := fun xs H Q => ∃ (D dd : Addr) (fs : List (Str × V)) (c : V) (cv : Value) (b : Bool), xs = [.ref a, c] ∧ cls = .ref D ∧ ErrC K D ∧ d = some dd ∧ H dd = some (.xd fs) ∧ ClsV c cv ∧ PySem.W.kitOne K (.ref D) cv = some b ∧ Q (.bl b) H
def rIsXT (K : PySem.W.Frag) (a : Addr) (cls : Value) (d : Option Addr) : List V → Hp → VK → Prop := fun xs H Q => ∃ (D dd : Addr) (fs : List (Str × V)) (tp : Addr) (cs : List V) (us : List Value) (b : Bool), xs = [.ref a, .ref tp] ∧ cls = .ref D ∧ ErrC K D ∧ d = some dd ∧ H dd = some (.xd fs) ∧ H tp = some (.tup cs) ∧ Paired ClsV cs us ∧ PySem.W.kitAny K (.ref D) us = some b ∧ Q (.bl b) H
theorem inst_of {pins : List (Addr × Obj)} {σ : L2.St} {H : Hp} {s : Shared} {D dd : Addr} {fs : List (Str × V)} (I : Inv (X.suite a ((a, oe) :: pn)) pins σ H s) (hz : Zc (.ref D) (some dd) oe) (hf : ∃ vs, oe.data = .fields vs) (ea : H dd = some (.xd fs)) : ∃ od, PySem.W.InstAt s.heap a oe D (some od) := by
  obtain ⟨ha, _⟩ := I.pin (a, oe) (List.mem_append_left _ List.mem_cons_self)
  obtain ⟨vs, hd⟩ := hf
  have hx : ObjOk X.prog X.w H s.heap dd (.xd fs) := I.hok dd _ ea
  obtain ⟨mA, hns, hr⟩ := hx
  obtain ⟨od, ho, hl⟩ := lookIn_ns hns
  exact ⟨od, ha, hz.1, by unfold PySem.W.notCls; rw [hd] <;> rfl, by rw [hz.2]; exact ho⟩
theorem call_isX1 (hz : Zc cls d oe) (hf : ∃ vs, oe.data = .fields vs) : CallR (X.suite a ((a, oe) :: pn)) (.builtin "isinstance") (rIsX1 X.K a cls d) := by
  intro pins s σ H xs us Q I r h
  obtain ⟨D, dd, fs, c, cv, b, rfl, rfl, C, rfl, ea, k, e, q⟩ := h
  obtain ⟨u1, u2, rfl, r1, r2⟩ := vals2 r
  obtain rfl : u1 = Value.ref a := r1
  have e2 := k.eq r2
  subst e2
  obtain ⟨od, J⟩ := inst_of I hz hf ea
  exact PySem.W.kia_one (PySem.W.kitx_exc C.hc C.hg C.hk C.hs C.ha C.hn C.ht C.hm) I.kIn J e (fun z => nomatch z) fun tk => ⟨.bl b, H, I.tok tk, rfl, q⟩
theorem call_isXT (hz : Zc cls d oe) (hf : ∃ vs, oe.data = .fields vs) : CallR (X.suite a ((a, oe) :: pn)) (.builtin "isinstance") (rIsXT X.K a cls d) := by
  intro pins s σ H xs us Q I r h
  obtain ⟨D, dd, fs, tp, cs, ws, b, rfl, rfl, C, rfl, ea, hT, k, e, q⟩ := h
  obtain ⟨u1, u2, rfl, r1, r2⟩ := vals2 r
  obtain rfl : u1 = Value.ref a := r1
  cases (show u2 = Value.ref tp from r2)
  obtain ⟨od, J⟩ := inst_of I hz hf ea
  obtain ⟨_, its, rv, o, h1, h2, n, h3⟩ := (show ObjOk X.prog X.w H s.heap tp (.tup cs) from I.hok tp _ hT)
  have e3 := ClsV.all k rv
  subst e3
  obtain ⟨oc, od', dt, sl⟩ := o
  simp only at h2 h3
  subst h2 h3
  exact PySem.W.kia_tup (PySem.W.kitx_exc C.hc C.hg C.hk C.hs C.ha C.hn C.ht C.hm) I.kIn J h1 e (fun z => nomatch z) fun tk => ⟨.bl b, H, I.tok tk, rfl, q⟩
def zIsX (K : PySem.W.Frag) (a : Addr) (cls : Value) (d : Option Addr) : List V → Hp → VK → Prop := orC (rIsX1 K a cls d) (rIsXT K a cls d)
theorem cr_zIsX (hz : Zc cls d oe) (hf : ∃ vs, oe.data = .fields vs) : CallR (X.suite a ((a, oe) :: pn)) (.builtin "isinstance") (zIsX X.K a cls d) := cr_or2 (call_isX1 hz hf) (call_isXT hz hf)
/-- e.f, e the exception that the suite holds -/
def tXfA (K : PySem.W.Frag) (a : Addr) (cls : Value) (d : Option Addr) (f : Str) (te : TE) : TE := fun σ H Q => te σ H fun x H1 => x = .ref a ∧ ∃ (C dd : Addr) (fs : List (Str × V)) (v : V), cls = .ref C ∧ ErrC K C ∧ PySem.W.findIn K (.ref C) f = some none ∧ d = some dd ∧ H1 dd = some (.xd fs) ∧ fs.lookup f = some v ∧ Q v H1
theorem pe_xfA {n : Str} (hz : Zc cls d oe) (hf : ∃ vs, oe.data = .fields vs) (he : PE (X.suite a ((a, oe) :: pn)) e te) (hb : attributeBase e n X.env (eval e X.env) = eval e X.env := by rfl) :
    PE (X.suite a ((a, oe) :: pn)) (.Attribute e n pos) (tXfA X.K a cls d n te) := by
  refine ⟨fun pins s σ H Q I h => ?_⟩
  refine attr_of hb (thn (he.run pins s σ H _ I h) fun u s1 hh => ?_)
  obtain ⟨x, H1, I1, rx, ex, C, dd, fs, v, ec, T, hno, ed, ea, l, q⟩ := hh
  subst ex
  obtain rfl : u = Value.ref a := rx
  subst ec
  subst ed
  obtain ⟨ha, _⟩ := I1.pin (a, oe) (List.mem_append_left _ List.mem_cons_self)
  obtain ⟨vs, hd⟩ := hf
  have hx : ObjOk X.prog X.w H1 s1.heap dd (.xd fs) := I1.hok dd _ ea
  obtain ⟨mA, hns, hr⟩ := hx
  obtain ⟨od, ho, hl⟩ := lookIn_ns hns
  obtain ⟨u, hu, ru⟩ := RelO.some_of (v := v) (o := mA n) (by rw [← l]; exact hr n)
  have J : PySem.W.InstAt s1.heap a oe C (some od) := ⟨ha, hz.1, by unfold PySem.W.notCls; rw [hd] <;> rfl, by rw [hz.2]; exact ho⟩
  exact HandSPX.exc_get I1.kIn J T.hg T.hk T.hs (PySem.W.findObj_own T.hd hno rfl (by rw [hl, hu])) (handed_of ru) ⟨v, H1, I1.tok _, ru, q⟩
/-- a callee that never lets anything out, whatever its kind -/
theorem passN : Passes (L2.CX X.prog X.w) X E0 := fun _ _ _ _ _ _ _ ⟨_, _, _, _, _, _, _, _, _, _, _, _, z⟩ => z.elim
end
/-! ### steps -/
def tRaise (t : L2.St → Hp → XK → Prop) (W : WX) : TS := fun _ σ H => t σ H fun cls d H' => W cls d σ H'
section
variable {K : PySem.W.Frag} {σ : L2.St} {H : Hp} {D : Ends} {ta : TA} {te to : TE} {Q : VK} {QX : XK} {sp : Sp} {a C dx : Addr} {f g : Str} {v y z : V} {W : WX} {E : L2.St → XK} {cls : Value} {d : Option Addr} {i : Nat} {ts : Addr → Value → Option Addr → TS} {c : Value} {dvs : List V}
theorem s_raise {t : L2.St → Hp → XK → Prop} (h : t σ H fun cls d H' => W cls d σ H') : tRaise t W D σ H := h
theorem e_mkO (h : ta σ H fun vs H1 => vs.length ≤ 1000 ∧ ∀ a, H1 a = none → sp (.ref a :: (vs ++ dvs)) (upd H1 a (exo a C none)) (fun v H2 => v = .non ∧ ∃ (d : Addr) (fs : List (Str × V)), H2 a = some (exo a C (some d)) ∧ H2 d = some (exd d fs) ∧ H1 d = none ∧ QX (.ref C) (some d) (upd (del H2 a) d (.xd fs))) (fun _ _ _ => False)) :
    tMkO C sp dvs ta σ H QX := h
theorem e_callS (h : ta σ H fun vs H1 => sp vs H1 Q (E σ)) : tCallS sp E ta σ H Q := h
theorem e_veI (h : ta σ H fun vs H1 => ∃ (a C : Addr) (ws : List V), vs = .ref a :: ws ∧ ws.length ≤ 1000 ∧ OexC K C ∧ H1 a = some (exo a C none) ∧ Q .non H1) : tVeI K ta σ H Q := h
theorem vei_ {vs : List V} {P : Prop} (l : vs.length ≤ 1000) (T : OexC K C) (e : H a = some (exo a C none)) (k : P) : ∃ (a' C' : Addr) (ws : List V), V.ref a :: vs = .ref a' :: ws ∧ ws.length ≤ 1000 ∧ OexC K C' ∧ H a' = some (exo a' C' none) ∧ P := ⟨a, C, vs, rfl, l, T, e, k⟩
theorem s_ost (h : te σ H fun y H1 => to σ H1 fun x H2 => ∃ a C : Addr, x = .ref a ∧ OexC K C ∧ PySem.W.findIn K (.ref C) f = some none ∧
  ((H2 a = some (exo a C none) ∧ ∀ dx, H2 dx = none → dx ≠ a → D.nx σ (upd (upd H2 dx (exd dx [(f, y)])) a (exo a C (some dx)))) ∨
    ∃ (dx : Addr) (fs : List (Str × V)), H2 a = some (exo a C (some dx)) ∧ H2 dx = some (exd dx fs) ∧ fs.length ≤ 900 ∧ D.nx σ (upd H2 dx (exd dx ((f, y) :: fs))))) : tOst K f to te D σ H := h
/-- the heap behind C(..): only the dict of the exception has come -/
theorem exo_heap1 (na : Fresh H a) (nd : (upd H a (exo a C none)) dx = none) {u : HO} : upd (del (upd (upd (upd H a (exo a C none)) dx u) a (exo a C (some dx))) a) dx (.xd [(f, y)]) = upd H dx (.xd [(f, y)]) := by
  have ne : dx ≠ a := fun z => by
    rw [z, upd_same] at nd
    cases nd
  funext b
  by_cases hb : b = dx
  · rw [hb, upd_same, upd_same]
  · rw [upd_ne hb, upd_ne hb]
    by_cases ha : b = a
    · rw [ha, del_same]
      exact na.symm
    · rw [del_ne ha, upd_ne ha, upd_ne hb, upd_ne ha]
theorem exo_heap2 (na : Fresh H a) (nd : (upd H a (exo a C none)) dx = none) {u w : HO} {fs : List (Str × V)} : upd (del (upd (upd (upd (upd H a (exo a C none)) dx u) a (exo a C (some dx))) dx w) a) dx (.xd fs) = upd H dx (.xd fs) := by
  have ne : dx ≠ a := fun z => by
    rw [z, upd_same] at nd
    cases nd
  funext b
  by_cases hb : b = dx
  · rw [hb, upd_same, upd_same]
  · rw [upd_ne hb, upd_ne hb]
    by_cases ha : b = a
    · rw [ha, del_same]
      exact na.symm
    · rw [del_ne ha, upd_ne hb, upd_ne ha, upd_ne hb, upd_ne ha]
theorem as_yes (h : PySem.W.exmOne K cls c = some true) (k : ∀ a, Fresh H a → ts a cls d { nx := fun σ' H' => D.nx (σ'.set i none) H', rt := D.rt, bk := fun σ' H' => D.bk (σ'.set i none) H', ct := fun σ' H' => D.ct (σ'.set i none) H' } (σ.set i (some (.ref a))) H) : wAs K c i ts W D cls d σ H :=
  ⟨true, h, fun _ => k, fun z => Bool.noConfusion z⟩
theorem as_no (h : PySem.W.exmOne K cls c = some false) (k : W cls d σ H) : wAs K c i ts W D cls d σ H := ⟨false, h, fun z => absurd z Bool.false_ne_true, fun _ => k⟩
theorem e_xfA (h : te σ H fun x H1 => x = .ref a ∧ ∃ (C dd : Addr) (fs : List (Str × V)) (v : V), cls = .ref C ∧ ErrC K C ∧ PySem.W.findIn K (.ref C) f = some none ∧ d = some dd ∧ H1 dd = some (.xd fs) ∧ fs.lookup f = some v ∧ Q v H1) : tXfA K a cls d f te σ H Q := h
theorem xf_ {P : V → Prop} {dd : Addr} {fs : List (Str × V)} (T : ErrC K C) (hno : PySem.W.findIn K (.ref C) f = some none) (e : H dd = some (.xd fs)) (l : fs.lookup f = some v) (k : P v) :
    V.ref a = .ref a ∧ ∃ (C' dd' : Addr) (fs' : List (Str × V)) (v' : V), Value.ref C = .ref C' ∧ ErrC K C' ∧ PySem.W.findIn K (.ref C') f = some none ∧ some dd = some dd' ∧ H dd' = some (.xd fs') ∧ fs'.lookup f = some v' ∧ P v' := ⟨rfl, C, dd, fs, v, rfl, T, hno, rfl, e, l, k⟩
theorem x_is {dd : Addr} {fs : List (Str × V)} {x : V} {u : Value} {b : Bool} (T : ErrC K C) (e : H dd = some (.xd fs)) (hc : ClsV x u) (k : PySem.W.kitOne K (.ref C) u = some b) (q : Q (.bl b) H) : zIsX K a (.ref C) (some dd) [.ref a, x] H Q := .inl ⟨C, dd, fs, x, u, b, rfl, rfl, T, rfl, e, hc, k, q⟩
theorem x_isT {dd tp : Addr} {fs : List (Str × V)} {cs : List V} {us : List Value} {b : Bool} (T : ErrC K C) (e : H dd = some (.xd fs)) (et : H tp = some (.tup cs)) (hc : Paired ClsV cs us) (k : PySem.W.kitAny K (.ref C) us = some b) (q : Q (.bl b) H) : zIsX K a (.ref C) (some dd) [.ref a, .ref tp] H Q := .inr ⟨C, dd, fs, tp, cs, us, b, rfl, rfl, T, rfl, e, et, hc, k, q⟩
end
end Z
namespace Z
open PySem PySem.Spec L2
open PyProof.Rows hiding St
/-- a class that except and isinstance name -/
structure ClsT (K : PySem.W.Frag) (C : Addr) : Prop where
  c : PySem.W.isClsIn K C = true
  t : PySem.W.typeIn K (.ref C) = some (.type "type")
  s : PySem.W.subIn K (.ref C) (.type "BaseException") = some true
theorem kitCls_own {K : PySem.W.Frag} {t : Value} {C : Addr} {b : Bool} (T : ClsT K C) (h : PySem.W.subIn K t (.ref C) = some b) : PySem.W.kitCls K t (.ref C) = some b := by
  have e2 : ((PySem.W.clsIn K C).isSome && PySem.W.typeIn K (.ref C) == some (.type "type")) = true := by
    have h2 : (PySem.W.clsIn K C).isSome = true := T.c
    rw [h2, T.t] <;> rfl
  show (if ((PySem.W.clsIn K C).isSome && PySem.W.typeIn K (.ref C) == some (.type "type")) = true then PySem.W.subIn K t (.ref C) else none) = some b
  rw [if_pos e2]
  exact h
theorem exm_own {K : PySem.W.Frag} {t : Value} {C : Addr} {b : Bool} (T : ClsT K C) (h : PySem.W.subIn K t (.ref C) = some b) : PySem.W.exmOne K t (.ref C) = some b := by
  have e1 : (PySem.W.subIn K (.ref C) (.type "BaseException") == some true) = true := by rw [T.s] <;> rfl
  show (if (PySem.W.subIn K (.ref C) (.type "BaseException") == some true) = true then PySem.W.kitCls K t (.ref C) else none) = some b
  rw [if_pos e1]
  exact kitCls_own T h
theorem kit_own {K : PySem.W.Frag} {A C : Addr} {b : Bool} (T : ClsT K C) (h : PySem.W.subIn K (.ref A) (.ref C) = some b) (hs : PySem.W.subIn K (.ref A) (.ref A) = some true) : PySem.W.kitOne K (.ref A) (.ref C) = some b := by
  unfold PySem.W.kitOne
  by_cases e : A = C
  · subst e
    rw [if_pos (by simp)]
    exact hs.symm.trans h
  · rw [if_neg (by simpa using e)]
    exact kitCls_own T h
theorem kit_bt {K : PySem.W.Frag} {A : Addr} {B : String} {b : Bool} (m : PySem.W.kitMeta B = true) (h : PySem.W.subIn K (.ref A) (.type B) = some b) : PySem.W.kitOne K (.ref A) (.type B) = some b := by
  unfold PySem.W.kitOne
  rw [if_neg (by simp)]
  show (if PySem.W.kitMeta B = true then PySem.W.subIn K (.ref A) (.type B) else none) = some b
  rw [if_pos m]
  exact h
/-! ### dict comprehensions -/
def DcW (J : It) (g : TG) (tt : TT) (tk tv : TE) (vs : List Nat) (σ : L2.St) (H1 : Hp) (Q : VK) : Prop := ∀ D, H1 D = none → ∃ W : Nat → Nat → Hp → Prop, (∃ m, W 0 m (upd H1 D (.dK []))) ∧ ∀ i m H, W i m H →
  (J.stop i H ∧ Q (.ref D) H) ∨ (J.go i H ∧ ∃ Nx : Hp → Prop, (∀ H', Nx H' → ∃ m', m' < m ∧ W (i + 1) m' H') ∧ ∀ x H', J.yld i H x H' → g x (wipe σ vs) H' fun σ2 H2 => wipe σ2 vs = wipe σ vs ∧ tt σ2 H2 fun b H3 =>
    if b = true then tk σ2 H3 fun y H4 => tv σ2 H4 fun z H5 => ∃ kvs k, y = kV k ∧ H5 D = some (.dK kvs) ∧ kvs.length < sizeLine ∧ Nx (upd H5 D (.dK (putK kvs k z))) else Nx H3)
section
variable {K : PySem.W.Frag} {σ : L2.St} {H : Hp} {tl tk tv : TE} {c : TT} {Q : VK} {g : TG} {a : Addr} {xs : List V} {vs : List Nat}
def DcL (K : PySem.W.Frag) (g : TG) (tt : TT) (tk tv : TE) (vs : List Nat) (σ : L2.St) (x : V) (H : Hp) (Q : VK) : Prop := ∃ a, x = .ref a ∧ (∃ xs, SqL K H a xs) ∧ DcW (Itl K a) g tt tk tv vs σ H Q
theorem e_dcL (h : tl σ H fun x H1 => DcL K g c tk tv vs σ x H1 Q) : tDc (iList K tl) g c tk tv vs σ H Q := h
theorem dc_L (hs : SqL K H a xs) (Pv : Addr → Nat → Hp → Prop) (h0 : ∀ D, Fresh H D → Pv D 0 (upd H D (.dK []))) (hl : ∀ D i H', i ≤ xs.length → Pv D i H' → SqL K H' a xs)
    (hb : ∀ D i x H', Fresh H D → xs[i]? = some x → Pv D i H' → g x (wipe σ vs) H' fun σ2 H3 => wipe σ2 vs = wipe σ vs ∧ c σ2 H3 fun b H4 =>
      if b = true then tk σ2 H4 fun y H5 => tv σ2 H5 fun z H6 => ∃ kvs k, y = kV k ∧ H6 D = some (.dK kvs) ∧ kvs.length < sizeLine ∧ Pv D (i + 1) (upd H6 D (.dK (putK kvs k z))) else Pv D (i + 1) H4)
    (hd : ∀ D H', Fresh H D → Pv D xs.length H' → Q (.ref D) H') : DcL K g c tk tv vs σ (.ref a) H Q := by
  refine ⟨a, rfl, ⟨xs, hs⟩, fun D nD => ⟨fun i m H' => m = xs.length - i ∧ i ≤ xs.length ∧ Pv D i H', ⟨xs.length, by simp, Nat.zero_le _, h0 D nD⟩, ?_⟩⟩
  rintro i m H' ⟨rfl, hi, pv⟩
  have sq := hl D i H' hi pv
  by_cases cc : i < xs.length
  · refine .inr ⟨⟨xs, xs[i], sq, List.getElem?_eq_getElem cc⟩, Pv D (i + 1), fun H2 p2 => ⟨xs.length - (i + 1), by omega, rfl, cc, p2⟩, fun x H2 y => ?_⟩
    obtain ⟨rfl, f⟩ := y
    exact hb D i x H2 nD (f xs sq) pv
  · have e : i = xs.length := by omega
    subst e
    exact .inl ⟨⟨xs, sq, Nat.le_refl _⟩, hd D H' nD pv⟩
theorem e_dnin {ta tb : TE} (h : ta σ H fun y H1 => tb σ H1 fun x H2 => ∃ a o, x = .ref a ∧ DGet H2 a y o ∧ Q (.bl (!o.isSome)) H2) : tDNotIn ta tb σ H Q := h
theorem dnin_K {P : Option V → Prop} {k : Int} {kvs : List (Key × V)} (ha : H a = some (.dK kvs)) (h : P (valV kvs (.inl k))) : ∃ a' o, V.ref a = .ref a' ∧ DGet H a' (.int k) o ∧ P o := ⟨a, _, rfl, DGet.k (k := .inl k) ha, h⟩
theorem o_nisF {x : Bool} (h : Q (.bl x) H) : rNotB (.bl x) (.bl false) H Q := ⟨x, false, rfl, rfl, by cases x <;> exact h⟩
theorem o_nisT {x : Bool} (h : Q (.bl (!x)) H) : rNotB (.bl x) (.bl true) H Q := ⟨x, true, rfl, rfl, by cases x <;> exact h⟩
end
theorem nodup_le : ∀ {l m : List Int}, l.Nodup → (∀ x ∈ l, x ∈ m) → l.length ≤ m.length
  | [], _, _, _ => Nat.zero_le _
  | x :: l, m, nd, h => by
    have nd' := List.nodup_cons.mp nd
    have hx := h x List.mem_cons_self
    have ih := nodup_le (m := m.erase x) nd'.2 fun y hy => (List.mem_erase_of_ne (fun e => nd'.1 (by rw [← e]; exact hy))).mpr (h y (List.mem_cons_of_mem _ hy))
    rw [List.length_erase_of_mem hx] at ih
    have := List.length_pos_of_mem hx
    rw [List.length_cons]
    omega
theorem inj_le {f : Nat → Int} {k : Nat} {m : List Int} (hi : ∀ i j, i < k → j < k → f i = f j → i = j) (h : ∀ i, i < k → f i ∈ m) : k ≤ m.length := by
  have := nodup_le (l := (List.range k).map f) (m := m) (by
    rw [List.nodup_iff_pairwise_ne, List.pairwise_map]
    refine List.Pairwise.imp_of_mem ?_ (List.nodup_range (n := k))
    intro a b ha hb ne e
    exact ne (hi a b (List.mem_range.mp ha) (List.mem_range.mp hb) e)) (fun x hx => by
    obtain ⟨i, hi, rfl⟩ := List.mem_map.mp hx
    exact h i (List.mem_range.mp hi))
  rwa [List.length_map, List.length_range] at this
def tTryAs (K : PySem.W.Frag) (c : Value) (i : Nat) (tb : WX → TS) (ts : Addr → Value → Option Addr → TS) (Wout : WX) : TS := fun D σ H => tb (wAs K c i ts Wout D) D σ H
theorem s_try {K : PySem.W.Frag} {c : Value} {i : Nat} {tb : WX → TS} {ts : Addr → Value → Option Addr → TS} {Wout : WX} {D : Ends} {σ : L2.St} {H : Hp} (h : tb (wAs K c i ts Wout D) D σ H) : tTryAs K c i tb ts Wout D σ H := h
/-- by truth: an int -/
theorem kit_any1 {K : PySem.W.Frag} {t c : Value} {r : List Value} {b : Bool} (h : PySem.W.kitOne K t c = some false) (k : PySem.W.kitAny K t r = some b) : PySem.W.kitAny K t (c :: r) = some b := by
  unfold PySem.W.kitAny
  rw [h]
  exact k
theorem kit_any0 {K : PySem.W.Frag} {t c : Value} {r : List Value} (h : PySem.W.kitOne K t c = some true) : PySem.W.kitAny K t (c :: r) = some true := by
  unfold PySem.W.kitAny
  rw [h]
end Z
namespace Z
open PySem PySem.Spec L2
open PyProof.Rows hiding St
section
variable {X : Cx}
/-- y = {k: v for .. in ..}, y a local of a def -/
theorem ps_setDc {i : Nat} {y : Str} {py : Pos} {kx vx tg iter : Expr} {ifs : List Expr} {scope : Scope} {own : List (Str × Nat)} {pos spos : Pos} {wi : L2.TI} {g : TG} {tt : TT} {tk tv : TE} (hc : X.calm = true) (hN : X.N.Nodup) (hy : X.N[i]? = some y) (hyl : X.env.scope.names.lookup y = some .local)
    (hsw : swapsWith (.DictComp kx vx [⟨tg, iter, ifs, 0⟩] scope pos) (some (.Name y py)) spos.line X.env = pure true) (hi : PI X tg iter wi) (ok : BlkOk X.N X.env.scope scope own)
    (hg : ∀ (s : Shared) (H : Hp) (C : Addr) (cl : List (Str × Addr)) (fp : List Addr), PG (X.blk s H scope (compEnvC scope cl C X.env) fp) tg g) (ht : ∀ (s : Shared) (H : Hp) (C : Addr) (cl : List (Str × Addr)) (fp : List Addr), PTs (X.blk s H scope (compEnvC scope cl C X.env) fp) ifs tt)
    (hk : ∀ (s : Shared) (H : Hp) (C : Addr) (cl : List (Str × Addr)) (fp : List Addr), PE (X.blk s H scope (compEnvC scope cl C X.env) fp) kx tk)
    (he : ∀ (s : Shared) (H : Hp) (C : Addr) (cl : List (Str × Addr)) (fp : List Addr), PE (X.blk s H scope (compEnvC scope cl C X.env) fp) vx tv) (hs : ∀ x, foldedSetIterable iter X.env x = pure x := by intro _; rfl) :
    PS X (.Assign [.Name y py] (.DictComp kx vx [⟨tg, iter, ifs, 0⟩] scope pos) spos) (tAsg (tDc wi g tt tk tv (own.map (·.2))) (gName i)) := by
  refine ⟨fun pins s σ H D I h => ?_⟩
  rw [exec_Assign_Name_used _ _ _ _ hsw]
  refine wpAny_bind (wpAny_standAt (wpAny_bind ?_))
  show wpAny _ X.A (do let _ ← comprehension (.DictComp kx vx [⟨tg, iter, ifs, 0⟩] scope pos) scope X.env (firstIterPos [⟨tg, iter, ifs, 0⟩] pos) newDict false (eval iter X.env) (some (assign (.Name y py) X.env))) _ _ s
  have h : tDc wi g tt tk tv (own.map (·.2)) σ H (fun x H1 => gName i x σ H1 D.nx) := h
  refine wpAny_bind (thn (dc_core (Qf := fun _ s' => SP X pins D .next s') hc hN I hi ok hg ht hk he hs h fun L C s' m H' I' q hn f => ?_) fun _ s' hq => wpAny_pure (wpAny_pure hq))
  show wpAny _ _ (assign (.Name y py) X.env (.ref L)) _ _ _
  refine wpAny_assign_Name (store_ok2 (v := V.ref L) I' hN hy (.inl hyl) rfl (fun s2 I2 ⟨a, sb, ha⟩ => ?_) (.inr hyl))
  obtain ⟨f0, f1, f2, f3, f4, f5⟩ := f
  have haC : C ≠ a := by
    rcases ha with z | z
    · rw [z]; exact f1
    · exact fun e => f4 y a z e.symm
  refine ⟨m, hn.sameBut sb haC, fun h3 sb3 => ?_⟩
  exact ⟨_, H', I2.turned (t' := s2.toks) (fun b o hb e => (sb3.2 b hb).trans e) f0 f1 f3 f4 f5, q⟩
theorem sw_trueD {kx vx : Expr} {gs : List Comprehension} {scope : Scope} {pos py : Pos} {y : Str} {l : Nat} {env : Env} (hk : env.scope.kind = .function) (hy : env.scope.names.lookup y = some .local) (hl : (py.line == pos.line) = true)
    (ha : (scope.names.any fun (n, k) => n == y && (k == .local || k == .cell)) = false) : swapsWith (.DictComp kx vx gs scope pos) (some (.Name y py)) l env = pure true := by
  have ky : env.kindOf y = some .local := hy
  have hb : env.blockKind = .function := by unfold Env.blockKind; rw [hk]; rfl
  unfold swapsWith
  simp only [hb, ky, ha, Expr.pos, hl]
  rfl
end
end Z

/-! Zk: calls with keywords, without defaults. -/
namespace Z
open PySem PySem.Spec L2
open PyProof.Rows hiding St
section
variable {K : PySem.W.Frag} {σ : St} {H : Hp} {Q : VK}
/-- the call itself, behind its values -/
def KwGo (n m : Nat) (sp : Sp) (gV : List V → List V → List V) (E : XK) (vs zs : List V) (H : Hp) (Q : VK) : Prop := vs.length = n ∧ zs.length = m ∧ sp (gV vs zs) H Q E
theorem e_callN {n m : Nat} {sp : Sp} {gV : List V → List V → List V} {E : XK} {t tk : TA} (h : t σ H fun vs H1 => tk σ H1 fun zs H2 => KwGo n m sp gV E vs zs H2 Q) : tCallN n m sp gV E t tk σ H Q := h
theorem kw_go {n m : Nat} {sp : Sp} {gV : List V → List V → List V} {E : XK} {vs zs : List V} (h1 : vs.length = n) (h2 : zs.length = m) (h : sp (gV vs zs) H Q E) : KwGo n m sp gV E vs zs H Q := ⟨h1, h2, h⟩
def kwApp {α : Type} (us ws : List α) : List α := us ++ ws
def kwRev {α : Type} (us ws : List α) : List α := us ++ ws.reverse
theorem vals_rev {vs : List V} {us : List Value} (h : Vals vs us) : Vals vs.reverse us.reverse := by
  induction h with
  | nil => exact .nil
  | cons a _ ih =>
    rw [List.reverse_cons, List.reverse_cons]
    exact ih.append (.cons a .nil)
theorem Fun.kbApp {x qual : Str} {st : Stmt} {f : Addr} {fd : FuncData} {ps : List Str} (F : Fun K x qual st f fd) (n : Nat) (ks : List Str)
    (h : ∀ (kV doc pm : Value) (an : Option Addr) (cdv ct : Value) (us ws : List Value), us.length = n → ws.length = ks.length → bindArgs (PySem.W.fnOf x qual (defArgs st) (defBody st) (defScope st) .none kV doc pm an cdv ct) ⟨us, ks.zip ws⟩ = pure (ps.zip (kwApp us ws))) : KBn K fd ps n ks kwApp kwApp := by
  obtain ⟨oc, od, kV, doc, pm, an, cdv, ct, osl, rfl, lk, hcd⟩ := F.ex
  exact ⟨fun s us ws _ l1 l2 => BindsTo.of_eq (h kV doc pm an cdv ct us ws l1 l2), fun r1 r2 => r1.append r2⟩
theorem Fun.kbRev {x qual : Str} {st : Stmt} {f : Addr} {fd : FuncData} {ps : List Str} (F : Fun K x qual st f fd) (n : Nat) (ks : List Str)
    (h : ∀ (kV doc pm : Value) (an : Option Addr) (cdv ct : Value) (us ws : List Value), us.length = n → ws.length = ks.length → bindArgs (PySem.W.fnOf x qual (defArgs st) (defBody st) (defScope st) .none kV doc pm an cdv ct) ⟨us, ks.zip ws⟩ = pure (ps.zip (kwRev us ws))) : KBn K fd ps n ks kwRev kwRev := by
  obtain ⟨oc, od, kV, doc, pm, an, cdv, ct, osl, rfl, lk, hcd⟩ := F.ex
  exact ⟨fun s us ws _ l1 l2 => BindsTo.of_eq (h kV doc pm an cdv ct us ws l1 l2), fun r1 r2 => r1.append (vals_rev r2)⟩
end
end Z

/-! Zy: calls with keywords that may let something out (within try). -/
namespace Z
open PySem PySem.Spec L2
open PyProof.Rows hiding St
def tCallNS (n m : Nat) (sp : Sp) (gV : List V → List V → List V) (E : L2.St → XK) (t tk : TA) : TE := fun σ H Q => t σ H fun vs H1 => tk σ H1 fun zs H2 => vs.length = n ∧ zs.length = m ∧ sp (gV vs zs) H2 Q (E σ)
section
variable {X : Cx} {CX : CXT} {k n : Nat} {f : Addr} {fd : FuncData} {ps ks : List Str} {sp : Sp} {E : L2.St → XK} {x : Str} {p pos : Pos} {e : Expr} {es : List Expr} {kws : List Keyword} {t tk : TA} {g : List Value → List Value → List Value} {gV : List V → List V → List V}
theorem run_fnNS {pins : List (Addr × Obj)} {σ : L2.St} {H : Hp} {s : Shared} {Q : VK} {us ws : List Value} {vs zs : List V} (F : FnOk X.prog X.w X.K X.mg X.base CX k f fd ps sp) (hr : Room k X.A) (hb : KBn X.K fd ps n ks g gV) (hx : PassesAt CX X σ (E σ))
    (I : Inv X pins σ H s) (r : Vals vs us) (rz : Vals zs ws) (l1 : vs.length = n) (l2 : zs.length = ks.length) (h : sp (gV vs zs) H Q (E σ)) : wpAny (model X.prog X.w) X.A (call (.ref f) us (ks.zip ws)) (EP X pins σ Q) X.xe s := by
  have r2 := hb.rel r rz
  refine wpAny_call (codeAny_mono (F.run X.A X.stack s H ⟨us, ks.zip ws⟩ (g us ws) (gV vs zs) Q (E σ) hr I.env0 (hb.to s us ws I.kIn (r.length.symm.trans l1) (rz.length.symm.trans l2)) r2 h) fun r s' hq => ?_)
  cases r with
  | error e => exact hx pins H s e s' I hq
  | ok fl =>
    cases fl with
    | ret u => exact I.after hq
    | next => exact False.elim hq
    | brk => exact False.elim hq
    | cont => exact False.elim hq
/-- f(e, .., k = v, ..) -/
theorem pe_callNS (F : FnOk X.prog X.w X.K X.mg X.base CX k f fd ps sp) (hr : Room k X.A) (hg : Gl X x) (hm : X.mg x = some (.ref f)) (hk : PySem.W.keepIn X.K (.ref f) = true) (hb : KBn X.K fd ps n ks g gV) (hx : ∀ σ, PassesAt CX X σ (E σ))
    (ha : PA X (e :: es) t) (hkw : PK X kws tk) (hall : (backToKw pos (keywordEach kws X.env)).all (·.1.isSome) = true := by rfl) (hks : (backToKw pos (keywordEach kws X.env)).filterMap (·.1) = ks := by rfl)
    (hdb : (x == ("__debug__" : Str)) = false := by decide) (he : starEach (e :: es) X.env = (false, eval e X.env) :: starEach es X.env := by rfl)
    (hpl : ((backTo pos (starEach (e :: es) X.env)).any (·.1) || (backToKw pos (keywordEach kws X.env)).any (·.1.isNone)) = false := by rfl) :
    PE X (.Call (.Name x p) (e :: es) kws pos) (tCallNS n ks.length sp gV E t tk) := by
  refine ⟨fun pins s σ H Q I h => ?_⟩
  refine wpAny_Call_Name_kw (ld_glob I hg hm ?_ hdb)
  refine PySem.W.callWith_KW (h₀ := X.base) I.ok.mod.kin hk hall (thn (ha.run pos pins s σ H _ I h) fun us s1 ⟨vs, H1, I1, r, q⟩ => ?_) hpl he
  refine thn (hkw.run pos pins s1 σ H1 _ I1 q) fun ws s2 ⟨zs, H2, I2, rz, l1, l2, q2⟩ => ⟨I2.kIn, ?_⟩
  rw [hks]
  exact run_fnNS F hr hb (hx σ) I2 r rz l1 l2 q2
theorem e_callNS {m : Nat} {σ : L2.St} {H : Hp} {Q : VK} (h : t σ H fun vs H1 => tk σ H1 fun zs H2 => KwGo n m sp gV (E σ) vs zs H2 Q) : tCallNS n m sp gV E t tk σ H Q := h
end
end Z

/-! Zt: sorted(xs), xs a list of tuples of ints, none of them empty. -/
namespace SrtO
open PySem PyProof.Rows Srt
section
variable {prog : Program} {w : World} {A : Around} {E : Value → Shared → Prop} {s : Shared}
def lexD (D : Bool) : List Int → List Int → Bool
  | x :: xs, y :: ys => if x = y then lexD D xs ys else decide (x < y)
  | _, _ => D
theorem lexD_eq : ∀ ns ms : List Int, HT.lexLt ns ms = lexD (decide (ns.length < ms.length)) ns ms
  | [], [] => rfl
  | [], _ :: _ => by simp [HT.lexLt, lexD]
  | _ :: _, [] => by simp [HT.lexLt, lexD]
  | x :: xs, y :: ys => by
    rw [HT.lexLt_cons, lexD, lexD_eq xs ys]
    have : decide ((x :: xs).length < (y :: ys).length) = decide (xs.length < ys.length) := decide_eq_decide.mpr (by simp)
    rw [this]
theorem lexD_ints {D b : Bool} {Q : Bool → Shared → Prop} {xs ys : List Value} {ns ms : List Int} (hx : IntsAre xs ns) (hy : IntsAre ys ms) (i : Nat) (h : Q (lexD D ns ms) s) : PySem.W.KatLex prog w A b D Q (xs.zip ys) i s := by
  induction hx generalizing ys ms i with
  | nil =>
    have e : lexD D [] ms = D := by cases ms <;> rfl
    rw [e] at h
    exact PySem.W.kat_nil h
  | @cons p t xs ns hx ih =>
    cases hy with
    | nil => exact PySem.W.kat_nil h
    | @cons q u ys ms hy =>
      show PySem.W.KatLex prog w A b D Q ((Value.int p t, Value.int q u) :: xs.zip ys) i s
      refine PySem.W.kat_cons (wpAny_eqBool_int ?_)
      by_cases e : p = q
      · subst e
        rw [beq_self_eq_true]
        have d : lexD D (p :: ns) (p :: ms) = lexD D ns ms := by rw [lexD, if_pos rfl]
        rw [d] at h
        exact PySem.W.kat_yes (ih hy (i + 1) h)
      · rw [show (p == q) = false from beq_eq_false_iff_ne.mpr e]
        refine PySem.W.kat_no (TS.oneLt_ints _ ?_)
        have d : lexD D (p :: ns) (q :: ms) = decide (p < q) := by rw [lexD, if_neg e]
        rw [d] at h
        exact h
theorem ti_cmp {vs : List Value} {k : Value → List Int} (hp : ∀ v ∈ vs, TS.TupInts s.heap v (k v)) : Cmp prog w A s (tuples' true) (fun p => p.1 ∈ vs) (lt2 fun v u => HT.lexLt (k v) (k u)) := by
  intro p q hm hm'
  show wpAny (model prog w) A (keyLt' (tuples' true) p.1 q.1) (fun r s' => s' = s ∧ r = HT.lexLt (k p.1) (k q.1)) (fun _ _ => False) s
  obtain ⟨a, xs, e1, ⟨o, ho, hc, n, hdt⟩, i⟩ := hp _ hm
  obtain ⟨a', ys, e2, ⟨o', ho', hc', n', hdt'⟩, i'⟩ := hp _ hm'
  generalize k p.1 = ns at i ⊢
  generalize k q.1 = ms at i' ⊢
  rw [e1, e2]
  refine PySem.W.kat_lt ho hdt ho' hdt' ?_
  have sz : decide (xs.size < ys.size) = decide (ns.length < ms.length) := by
    have l1 := i.length
    have l2 := i'.length
    rw [Array.length_toList] at l1 l2
    rw [l1, l2]
  rw [sz]
  exact lexD_ints i i' 0 ⟨rfl, (lexD_eq ns ms).symm⟩
theorem ti_firsts {h : Heap} {k : Value → List Int} : ∀ vs : List Value, (∀ v ∈ vs, TS.TupInts h v (k v) ∧ k v ≠ []) → ∃ fs, PySem.W.KatTups h vs fs ∧ fs.length = vs.length ∧ ∀ f, f ∈ fs → ∃ n t, f = Value.int n t
  | [], _ => ⟨[], PySem.W.KatTups.nil, rfl, fun f hf => by simp at hf⟩
  | v :: vs, x => by
    obtain ⟨fs, kt, hl, hi⟩ := ti_firsts vs fun u hu => x u (List.mem_cons_of_mem _ hu)
    obtain ⟨⟨a, xs, rfl, ⟨o, ho, hc, n, hdt⟩, i⟩, hn⟩ := x v (List.mem_cons_self ..)
    obtain ⟨y, ys, e⟩ : ∃ y ys, xs.toList = y :: ys := by
      cases q : xs.toList with
      | nil =>
        rw [q] at i
        have l := i.length
        rw [List.length_nil] at l
        exact absurd (List.length_eq_zero_iff.mp l.symm) hn
      | cons y ys => exact ⟨y, ys, rfl⟩
    obtain ⟨m, t, hy⟩ := i.all y (by rw [e]; exact List.mem_cons_self ..)
    refine ⟨y :: fs, PySem.W.KatTups.cons ho hc hdt ?_ kt, by simp [hl], ?_⟩
    · have z := congrArg (fun l : List Value => l[0]?) e
      simpa using z
    · intro f hf
      rcases List.mem_cons.mp hf with rfl | hf
      · exact ⟨m, t, hy⟩
      · exact hi f hf
theorem ti_sortable {a : Addr} {vs : List Value} {k : Value → List Int} (h0 : 0 < vs.length) (hp : ∀ v ∈ vs, TS.TupInts s.heap v (k v) ∧ k v ≠ []) (ha : ∀ o, s.heap.get? a = some o → o.cls ≠ .type "tuple") : SortableO prog w A s a vs fun v u => HT.lexLt (k v) (k u) := by
  intro h' keep
  have hp' : ∀ v ∈ vs, TS.TupInts h' v (k v) ∧ k v ≠ [] := fun v hm => ⟨(hp v hm).1.keeps fun b o e c => keep b o (fun z => by subst z; exact ha o e c) e, (hp v hm).2⟩
  obtain ⟨fs, h1, h2, h3⟩ := ti_firsts vs hp'
  refine ⟨tuples' true, fun Q E hq => ?_, ti_cmp fun v hm => (hp' v hm).1⟩
  refine PySem.W.kat_kind (T := .type "int") h1 (by omega) (fun f hm => ?_) (by rfl) ?_
  · obtain ⟨x, t, rfl⟩ := h3 f hm
    exact PySem.W.Looks.now
  · have e : (Value.type "int" != Value.type "tuple") = true := by first | decide +kernel | rfl | decide
    rw [e]
    exact hq
end
end SrtO
namespace Z
open PySem PySem.Spec L2
open PyProof.Rows hiding St
/-- sorted(xs), xs tuples of ints, none empty -/
def rSortedTI (K : PySem.W.Frag) : List V → Hp → VK → Prop := fun vs H Q => ∃ (a : Addr) (xs : List V) (dss : List (List Int)), vs = [V.ref a] ∧ SqL K H a xs ∧ TIs H xs dss ∧ (∀ d ∈ dss, d ≠ []) ∧
  ∀ ys ess p, TIs H ys ess → ys.Perm xs → ess.Perm dss → ess.Pairwise (fun d e => HT.lexLt e d = false) → H p = none → Q (.ref p) (upd H p (.lst ys))
theorem pair_map {α β : Type} {R : α → β → Prop} (f : α → β) : ∀ {xs : List α} {ds : List β}, Paired R xs ds → (∀ x d, x ∈ xs → R x d → f x = d) → ds = xs.map f
  | _, _, .nil, _ => rfl
  | _, _, .cons a r, hf => by rw [List.map_cons, hf _ _ (List.mem_cons_self ..) a, ← pair_map f r fun x d hx r => hf x d (List.mem_cons_of_mem _ hx) r]
theorem pair_all {α β γ : Type} {R : γ → β → Prop} (g : α → γ) (f : α → β) : ∀ {ys : List α}, (∀ y ∈ ys, R (g y) (f y)) → Paired R (ys.map g) (ys.map f)
  | [], _ => .nil
  | y :: ys, h => .cons (h y (List.mem_cons_self ..)) (pair_all g f fun z hz => h z (List.mem_cons_of_mem _ hz))
theorem pair_back {α β γ : Type} {R : γ → β → Prop} (g : α → γ) : ∀ {xs : List α} {ds : List β}, Paired R (xs.map g) ds → Paired (fun v d => R (g v) d) xs ds
  | [], _, .nil => .nil
  | _ :: _, _, .cons a r => .cons a (pair_back g r)
section
variable {X : Cx}
theorem cr_sortedTI : CallR X (.builtin "sorted") (rSortedTI X.K) := by
  intro pins s σ H vs us Q I r h
  obtain ⟨a, xs, dss, rfl, hs, ht, hn, q⟩ := h
  obtain ⟨its, rv, hl, hz⟩ := I.list hs
  obtain ⟨u, rfl, ru⟩ := vals1 r
  obtain rfl : u = Value.ref a := ru
  obtain ⟨e1, e2⟩ := refs_back rv fun x m => by
    obtain ⟨j, hj, rfl⟩ := List.getElem_of_mem m
    obtain ⟨d, _, t, e, _⟩ := ht.get (List.getElem?_eq_getElem hj)
    exact ⟨t, e⟩
  have tup : ∀ v ∈ its, TS.TupInts s.heap v (TS.intsOf s.heap v) ∧ TS.intsOf s.heap v ≠ [] ∧ TI H (backV v) (TS.intsOf s.heap v) := fun v hv => by
    obtain ⟨t, rfl⟩ := e2 v hv
    have hm : V.ref t ∈ xs := by rw [e1]; exact List.mem_map.mpr ⟨_, hv, rfl⟩
    obtain ⟨j, hj, ej⟩ := List.getElem_of_mem hm
    obtain ⟨d, hd, t', e, et⟩ := ht.get (List.getElem?_eq_getElem hj)
    rw [ej] at e
    cases e
    obtain ⟨_, its2, r2, o, ho, hc, n, hdt⟩ := I.hok _ _ et
    have ti : TS.TupInts s.heap (.ref t) d := ⟨t, its2.toArray, rfl, ⟨o, ho, hc, n, hdt⟩, r2.ints⟩
    rw [ti.ints]
    exact ⟨ti, hn d (List.mem_of_getElem? hd), t, rfl, et⟩
  have hzs : its.length ≤ sizeLine := by rw [← rv.length]; exact hz
  refine SrtO.sorted_ord (NtL.swo_lexL (TS.intsOf s.heap)) hl.isList hzs (fun h2 h₁ a' ha kk => ?_) fun out h1 h2 => ?_
  · refine SrtO.ti_sortable (s := { s with heap := h₁ }) (by omega) (fun v hv => ⟨(tup v hv).1.keeps fun b o e _ => (kk b o e).2, (tup v hv).2.1⟩) fun o e => ?_
    have e' : some o = some (seqObj "list" its.toArray 0) := e.symm.trans ha
    cases e'
    intro c
    exact absurd (Value.type.inj c) (by decide)
  · obtain ⟨ep, he'⟩ := PyProof.Rows.sortedAll_at s.heap its out.toArray
    have hp := h2.perm
    have h3 : ∀ u ∈ out, ∃ a, u = Value.ref a := fun u hu => e2 u (hp.mem_iff.mp hu)
    have e0 : dss = its.map (TS.intsOf s.heap) := by
      have hf : ∀ x d, x ∈ its → TI H (backV x) d → TS.intsOf s.heap x = d := fun x d hx r => by
        obtain ⟨t, et, e⟩ := r
        obtain ⟨t', et', e'⟩ := (tup x hx).2.2
        rw [et] at et'
        cases et'
        rw [e] at e'
        have := Option.some.inj e'
        injection this with this
        exact ((List.map_inj_right fun a b h => by cases h; rfl).mp this).symm
      rw [e1] at ht
      exact pair_map _ (pair_back backV ht) hf
    have hlen : (out.map backV).length ≤ sizeLine := by
      rw [List.length_map, hp.length_eq]
      exact hzs
    refine ⟨.ref _, upd H (s.heap.objs.size + 1) (.lst (out.map backV)), I.laid (t' := s.toks) (fun _ _ => PyProof.Rows.sortedAll_old) (Nat.le_succ _) ⟨hlen, out, ep, vals_back h3, he'⟩, rfl, q _ (out.map (TS.intsOf s.heap)) _ (pair_all _ _ fun v hv => (tup v (hp.mem_iff.mp hv)).2.2) (by rw [e1]; exact hp.map backV) ?_ ?_ (I.hok.fresh (Nat.le_succ _))⟩
    · rw [e0]
      exact hp.map _
    · exact List.pairwise_map.mpr (h1.imp fun {x y} z => z)
/-! ### two sorted lists of the same tuples are the same -/
theorem lex_tot : ∀ {a b : List Int}, HT.lexLt a b = false → HT.lexLt b a = false → a = b
  | [], [], _, _ => rfl
  | [], _ :: _, h, _ => by cases h
  | _ :: _, [], _, h => by cases h
  | x :: r, y :: t, h1, h2 => by
    rw [HT.lexLt_cons] at h1 h2
    by_cases e : x = y
    · subst e
      rw [if_pos rfl] at h1 h2
      rw [lex_tot h1 h2]
    · rw [if_neg e, decide_eq_false_iff_not] at h1
      rw [if_neg (fun z => e z.symm), decide_eq_false_iff_not] at h2
      omega
theorem sorted_one {a b : List (List Int)} (ha : a.Pairwise fun d e => HT.lexLt e d = false) (hb : b.Pairwise fun d e => HT.lexLt e d = false) (p : a.Perm b) : a = b := p.eq_of_pairwise (fun _ _ _ _ h1 h2 => lex_tot h2 h1) ha hb
theorem o_sortTI {a : Addr} {xs : List V} {dss : List (List Int)} {K : PySem.W.Frag} {H : Hp} {Q : VK} (hs : SqL K H a xs) (ht : TIs H xs dss) (hn : ∀ d ∈ dss, d ≠ []) (h : ∀ ys ess p, TIs H ys ess → ys.Perm xs → ess.Perm dss → ess.Pairwise (fun d e => HT.lexLt e d = false) → H p = none → Q (.ref p) (upd H p (.lst ys))) : rSortedTI K [.ref a] H Q := ⟨a, xs, dss, rfl, hs, ht, hn, h⟩
end
end Z

open PySem PySem.Spec L2
open PyProof.Rows hiding St
local macro_rules | `(tactic| walk_at "ne") => `(tactic| first
  | with_reducible assumption
  | (refine Ne.symm ?_; with_reducible assumption)
  | exact Z.ne_fresh (by assumption) (by walk_at "at")
  | exact Z.fresh_ne (by assumption) (by walk_at "at"))
local macro_rules | `(tactic| walk_at "at") => `(tactic| first
  | with_reducible assumption
  | exact upd_same
  | exact Eq.trans (upd_ne (by walk_at "ne")) (by walk_at "at")
  | exact Z.Gr.hh (by assumption) _ _ (by first | (intro hh; exact hh) | walk_at "ne") (by walk_at "at")
  | (exact Z.Gr.fh (by assumption) _ _ (by assumption)))
local macro_rules | `(tactic| walk_at "same") => `(tactic| first
  | with_reducible assumption
  | with_reducible exact Same.refl _
  | exact Z.Gr.fh (by assumption)
  | exact Z.Gr.same (by assumption)
  | (refine Z.same_new ?_ (by assumption); walk_at "same")
  | (refine Z.same_mut ?_ (by assumption); walk_at "same"))
local macro_rules | `(tactic| walk_at "sqL") => `(tactic| first
  | with_reducible assumption
  | exact SqL.of (by walk_at "at")
  | ((refine Same.seq ?_ (by with_reducible assumption)); · walk_at "same"))
local macro_rules | `(tactic| walk_at "sqT") => `(tactic| first
  | with_reducible assumption
  | exact SqT.of (by walk_at "at")
  | ((refine Z.Same.seqT ?_ (by with_reducible assumption)); · walk_at "same"))
local macro_rules | `(tactic| walk_at "len") => `(tactic| first
  | assumption
  | omega
  | (simp only [List.length_append, List.length_cons, List.length_nil, List.length_map, List.length_set, List.length_replicate, List.length_range, sizeLine_eq]; omega)
  | (simp only [sizeLine_eq]; omega))
local macro_rules | `(tactic| walk_at "side") => `(tactic| first
  | rfl
  | assumption
  | omega
  | exact Or.inl ⟨by omega, by omega⟩
  | exact Or.inr ⟨by omega, by omega⟩
  | walk_at "len")
local macro_rules | `(tactic| walk_at "s1") => `(tactic| first
  | with_reducible apply Z.e_var rfl
  | with_reducible apply Z.e_c
  | with_reducible apply Z.e_op
  | with_reducible apply Z.s_seq
  | with_reducible apply Z.s_asgN
  | with_reducible apply Z.s_ifS
  | with_reducible apply Z.a_cons
  | with_reducible apply Z.a_nil
  | with_reducible apply Z.c_test
  | with_reducible apply Z.bl_if
  | with_reducible apply Z.o_eqI
  | with_reducible apply Z.o_neI
  | with_reducible apply Z.o_eqS
  | with_reducible apply Z.o_neS
  | with_reducible apply Z.o_neB
  | with_reducible apply Z.o_eqB
  | with_reducible apply Z.o_isT
  | with_reducible apply Z.s_aug rfl
  | with_reducible apply Z.o_ipOr
  | with_reducible apply Z.o_ipI
  | with_reducible apply Z.o_and1
  | with_reducible apply Z.o_and
  | with_reducible apply Z.o_or
  | with_reducible apply Z.o_shr
  | with_reducible apply Z.e_bits
  | with_reducible apply Z.bits_
  | with_reducible apply Z.e_lcE
  | with_reducible apply Z.e_tupRg2
  | with_reducible apply Z.e_tupRg1
  | with_reducible apply Z.e_lstRg2
  | with_reducible apply Z.e_lstRg1
  | with_reducible apply Z.o_lt
  | with_reducible apply Z.o_le
  | with_reducible apply Z.o_gt
  | with_reducible apply Z.o_ge
  | with_reducible apply Z.o_add
  | with_reducible apply Z.o_sub
  | ((with_reducible refine Z.o_pow ?_ ?_); (· exact ⟨by decide, by decide, by decide⟩); (try simp only [Int.reduceToNat, Int.reducePow]))
  | ((with_reducible refine Z.o_mod ?_ ?_); · walk_at "side")
  | ((with_reducible refine Z.o_div ?_ ?_ ?_); iterate 2 (· walk_at "side"))
  | ((with_reducible refine Z.o_div70 ?_ ?_ ?_); iterate 2 (· walk_at "side"))
  | ((with_reducible refine Z.o_mul ?_ ?_); · walk_at "side")
  | with_reducible apply Z.e_cb
  | ((with_reducible apply Z.o_lenL); · walk_at "sqL")
  | ((with_reducible apply Z.o_lenT); · walk_at "sqT")
  | ((with_reducible apply Z.o_ixL); (· walk_at "sqL"); (· rfl))
  | ((with_reducible apply Z.o_ixT); (· walk_at "sqT"); (· rfl))
  | ((with_reducible apply Z.o_setL); (· walk_at "at"); (· rfl))
  | ((with_reducible apply Z.o_sum); (· walk_at "sqL"))
  | with_reducible apply Z.s_ret
  | with_reducible apply Z.s_retN
  | with_reducible apply Z.s_next
  | with_reducible apply Z.s_drop
  | with_reducible apply Z.c_and
  | with_reducible apply Z.c_or
  | with_reducible apply Z.c_not
  | with_reducible apply Z.c_tru
  | with_reducible apply Z.c_B
  | with_reducible apply Z.e_un
  | with_reducible apply Z.o_neg
  | with_reducible apply Z.e_if
  | with_reducible apply Z.e_call
  | with_reducible apply Z.e_callN
  | with_reducible apply Z.e_callNS
  | with_reducible refine Z.kw_go rfl rfl ?_
  | with_reducible apply Z.e_tup
  | with_reducible apply Z.e_lst
  | with_reducible apply Z.e_chain
  | with_reducible apply Z.s_asgS
  | with_reducible apply Z.s_asgT
  | with_reducible apply Z.s_asgU
  | with_reducible apply Z.s_forL
  | with_reducible apply Z.s_forT
  | with_reducible apply Z.s_forR1
  | with_reducible apply Z.s_forR2
  | with_reducible apply Z.s_forE
  | with_reducible apply Z.e_lcL
  | with_reducible apply Z.e_lcT
  | with_reducible apply Z.e_lcR1
  | with_reducible apply Z.e_lcR2
  | with_reducible apply Z.c_yes
  | with_reducible apply Z.s_break
  | with_reducible apply Z.s_cont
  | with_reducible apply Z.o_isNr
  | with_reducible apply Z.o_isNi
  | with_reducible apply Z.o_isNs
  | with_reducible apply Z.o_isNn
  | with_reducible apply Z.o_notNr
  | with_reducible apply Z.o_notNi
  | with_reducible apply Z.o_notNs
  | with_reducible apply Z.o_notNn
  | with_reducible apply Z.t_bl
  | with_reducible apply Z.o_isN
  | with_reducible apply Z.o_notN
  | with_reducible apply Z.e_bm
  | with_reducible apply Z.e_bm0
  | with_reducible apply Z.g_name
  | with_reducible apply Z.g_cons
  | with_reducible apply Z.g_nil
  | with_reducible apply Z.g_sub
  | with_reducible apply Z.e_andV
  | with_reducible apply Z.e_orV
  | with_reducible apply Z.e_notV
  | with_reducible apply Z.e_notT
  | ((with_reducible apply Z.g_tup); (· walk_at "sqT"); (· rfl))
  | ((with_reducible apply Z.g_lst); (· walk_at "sqL"); (· rfl))
  | with_reducible apply Z.e_dget
  | with_reducible apply Z.e_dnin'
  | with_reducible apply Z.e_dcL
  | with_reducible apply Z.e_dnin
  | with_reducible apply Z.o_nisF
  | with_reducible apply Z.o_nisT
  | with_reducible apply Z.s_raise
  | with_reducible apply Z.e_mkO
  | with_reducible apply Z.e_callS
  | with_reducible apply Z.e_veI
  | with_reducible apply Z.s_ost
  | with_reducible apply Z.e_xfA
  | with_reducible apply Z.s_try
  | with_reducible apply Z.e_dnewT
  | with_reducible apply Z.e_dnewK
  | with_reducible apply Z.s_par
  | with_reducible apply Z.par_
  | with_reducible apply Z.s_dput
  | with_reducible apply Z.e_din
  | with_reducible apply Z.e_sl
  | with_reducible apply Z.p_none
  | with_reducible apply Z.p_some
  | with_reducible apply Z.p_int
  | with_reducible apply Z.z_int1
  | with_reducible apply Z.z_int1b
  | with_reducible apply Z.z_abs
  | with_reducible apply Z.z_max2
  | with_reducible apply Z.z_min2
  | ((with_reducible refine Z.w_split ?_ ?_); · rfl)
  | with_reducible apply Z.i_int_int
  | ((with_reducible apply Z.i_T_tuple); · walk_at "sqT")
  | ((with_reducible apply Z.i_L_tuple); · walk_at "sqL")
  | ((with_reducible apply Z.i_T_list); · walk_at "sqT")
  | ((with_reducible apply Z.i_L_list); · walk_at "sqL")
  | ((with_reducible apply Z.i_T_int); · walk_at "sqT")
  | ((with_reducible apply Z.i_L_int); · walk_at "sqL")
  | ((with_reducible apply Z.i_T_bool); · walk_at "sqT")
  | ((with_reducible apply Z.i_L_bool); · walk_at "sqL")
  | ((with_reducible apply Z.i_T_str); · walk_at "sqT")
  | ((with_reducible apply Z.i_L_str); · walk_at "sqL")
  | with_reducible apply Z.i_int_bool
  | with_reducible apply Z.i_int_str
  | with_reducible apply Z.i_int_tuple
  | with_reducible apply Z.i_int_list
  | with_reducible apply Z.i_str_str
  | with_reducible apply Z.i_str_tuple
  | with_reducible apply Z.i_str_list
  | with_reducible apply Z.i_str_int
  | with_reducible apply Z.i_str_bool
  | with_reducible apply Z.i_bl_int
  | with_reducible apply Z.i_bl_bool
  | with_reducible apply Z.i_bl_str
  | with_reducible apply Z.i_bl_tuple
  | with_reducible apply Z.i_bl_list
  | with_reducible apply Z.i_non_int
  | with_reducible apply Z.i_non_bool
  | with_reducible apply Z.i_non_str
  | with_reducible apply Z.i_non_tuple
  | with_reducible apply Z.i_non_list)
local macro_rules | `(tactic| walk_at "dec") => `(tactic| first | assumption | with_reducible rfl | omega | exact Z.ref_ne | exact Z.int_ne | exact Z.str_ne | (simp only [List.length_nil, List.length_cons]; omega) | decide)
local macro_rules | `(tactic| walk_at "s2") => `(tactic| first
  | with_reducible refine iteT ?_
  | with_reducible refine iteF ?_
  | with_reducible refine Z.iteNT ?_
  | with_reducible refine Z.iteNF ?_
  | ((with_reducible refine Z.if_t ?_ ?_); (· walk_at "dec"))
  | ((with_reducible refine Z.if_f ?_ ?_); (· walk_at "dec"))
  | ((with_reducible refine Z.if_nt ?_ ?_); (· walk_at "dec"))
  | ((with_reducible refine Z.if_nf ?_ ?_); (· walk_at "dec")))
local macro_rules | `(tactic| walk_at "rd") => `(tactic| repeat (first | walk_at "s1" | walk_at "s2"))
local macro_rules | `(tactic| walk_at "if") => `(tactic| first
  | with_reducible refine Z.if_dec (fun h => ?_) (fun h => ?_)
  | with_reducible refine Z.if_ndec (fun h => ?_) (fun h => ?_)
  | with_reducible refine Z.if_nb (fun h => ?_) (fun h => ?_)
  | with_reducible refine Z.if_b (fun h => ?_) (fun h => ?_))

namespace Y
open PySem PySem.Spec L2 Z
open PyProof.Rows hiding St
structure Ad where
  P : Program
  w : World
  SoleError : Addr
  NoSeat : Addr
  TooMany : Addr
structure Xf (K : PySem.W.Frag) (ad : Ad) : Prop where
  x_NoSeat : OexC K ad.NoSeat
  e_NoSeat : ErrC K ad.NoSeat
  n_NoSeat_seat : PySem.W.findIn K (.ref ad.NoSeat) "seat" = some none
  s_NoSeat_NoSeat : PySem.W.subIn K (.ref ad.NoSeat) (.ref ad.NoSeat) = some true
  s_NoSeat_SoleError : PySem.W.subIn K (.ref ad.NoSeat) (.ref ad.SoleError) = some true
  s_NoSeat_TooMany : PySem.W.subIn K (.ref ad.NoSeat) (.ref ad.TooMany) = some false
  x_TooMany : OexC K ad.TooMany
  e_TooMany : ErrC K ad.TooMany
  n_TooMany_what : PySem.W.findIn K (.ref ad.TooMany) "what" = some none
  s_TooMany_TooMany : PySem.W.subIn K (.ref ad.TooMany) (.ref ad.TooMany) = some true
  s_TooMany_SoleError : PySem.W.subIn K (.ref ad.TooMany) (.ref ad.SoleError) = some true
  c_NoSeat : ClsT K ad.NoSeat
  c_TooMany : ClsT K ad.TooMany
  c_SoleError : ClsT K ad.SoleError
theorem Xf.k_NoSeat_NoSeat {K : PySem.W.Frag} {ad : Ad} (X : Xf K ad) : PySem.W.kitOne K (.ref ad.NoSeat) (.ref ad.NoSeat) = some true := kit_own X.c_NoSeat X.s_NoSeat_NoSeat X.s_NoSeat_NoSeat
theorem Xf.m_NoSeat_NoSeat {K : PySem.W.Frag} {ad : Ad} (X : Xf K ad) : PySem.W.exmOne K (.ref ad.NoSeat) (.ref ad.NoSeat) = some true := exm_own X.c_NoSeat X.s_NoSeat_NoSeat
theorem Xf.k_NoSeat_SoleError {K : PySem.W.Frag} {ad : Ad} (X : Xf K ad) : PySem.W.kitOne K (.ref ad.NoSeat) (.ref ad.SoleError) = some true := kit_own X.c_SoleError X.s_NoSeat_SoleError X.s_NoSeat_NoSeat
theorem Xf.m_NoSeat_SoleError {K : PySem.W.Frag} {ad : Ad} (X : Xf K ad) : PySem.W.exmOne K (.ref ad.NoSeat) (.ref ad.SoleError) = some true := exm_own X.c_SoleError X.s_NoSeat_SoleError
theorem Xf.k_NoSeat_TooMany {K : PySem.W.Frag} {ad : Ad} (X : Xf K ad) : PySem.W.kitOne K (.ref ad.NoSeat) (.ref ad.TooMany) = some false := kit_own X.c_TooMany X.s_NoSeat_TooMany X.s_NoSeat_NoSeat
theorem Xf.m_NoSeat_TooMany {K : PySem.W.Frag} {ad : Ad} (X : Xf K ad) : PySem.W.exmOne K (.ref ad.NoSeat) (.ref ad.TooMany) = some false := exm_own X.c_TooMany X.s_NoSeat_TooMany
theorem Xf.k_TooMany_TooMany {K : PySem.W.Frag} {ad : Ad} (X : Xf K ad) : PySem.W.kitOne K (.ref ad.TooMany) (.ref ad.TooMany) = some true := kit_own X.c_TooMany X.s_TooMany_TooMany X.s_TooMany_TooMany
theorem Xf.m_TooMany_TooMany {K : PySem.W.Frag} {ad : Ad} (X : Xf K ad) : PySem.W.exmOne K (.ref ad.TooMany) (.ref ad.TooMany) = some true := exm_own X.c_TooMany X.s_TooMany_TooMany
theorem Xf.k_TooMany_SoleError {K : PySem.W.Frag} {ad : Ad} (X : Xf K ad) : PySem.W.kitOne K (.ref ad.TooMany) (.ref ad.SoleError) = some true := kit_own X.c_SoleError X.s_TooMany_SoleError X.s_TooMany_TooMany
theorem Xf.m_TooMany_SoleError {K : PySem.W.Frag} {ad : Ad} (X : Xf K ad) : PySem.W.exmOne K (.ref ad.TooMany) (.ref ad.SoleError) = some true := exm_own X.c_SoleError X.s_TooMany_SoleError
inductive q_NoSeat___init__ (K : PySem.W.Frag) (ad : Ad) : V → V → Hp → VK → Prop
  | mk {a C : Addr} {v : V} {H : Hp} {Q : VK} (T : OexC K C) (n0 : PySem.W.findIn K (.ref C) "seat" = some none) (e : H a = some (exo a C none)) (k : ∀ dx, H dx = none → dx ≠ a → Q .non (upd (upd H dx (exd dx [("seat", v)])) a (exo a C (some dx)))) : q_NoSeat___init__ K ad (.ref a) v H Q
def sp_NoSeat___init__ (K : PySem.W.Frag) (ad : Ad) : Sp := fun vs H Q _ => match vs with | [x0, x1] => q_NoSeat___init__ K ad x0 x1 H Q | _ => False
theorem c_NoSeat___init__ {K : PySem.W.Frag} {ad : Ad} {x0 x1 : V} {H : Hp} {Q : VK} {E : XK} (h : q_NoSeat___init__ K ad x0 x1 H Q) : sp_NoSeat___init__ K ad ([x0, x1] ++ []) H Q E := h
theorem n_NoSeat___init__ {K : PySem.W.Frag} {ad : Ad} {vs : List V} {H : Hp} {Q : VK} {E : XK} (h : sp_NoSeat___init__ K ad vs H Q E) : ∃ x0 x1, vs = [x0, x1] ∧ q_NoSeat___init__ K ad x0 x1 H Q := match vs, h with | [x0, x1], h => ⟨x0, x1, rfl, h⟩
def t_NoSeat___init__ (K : PySem.W.Frag) (ad : Ad) : TS := (tSeq (tDrop (tVeI K (tCons (tVar 0) (tCons (tC (.str "no seat of this hall")) tNil))))
    (tOst K "seat" (tVar 0) (tVar 1)))
theorem w_NoSeat___init__ {K : PySem.W.Frag} {ad : Ad} {x0 x1 : V} {H : Hp} {Q : VK} (h : q_NoSeat___init__ K ad x0 x1 H Q) : t_NoSeat___init__ K ad ⟨fun _ H' => Q .non H', Q, fun _ _ => False, fun _ _ => False⟩ [some x0, some x1] H := by
  cases h with
  | @mk a C v _ _ T n0 e k =>
    unfold t_NoSeat___init__
    walk_at "rd"
    refine vei_ (by decide) T e ?_
    walk_at "rd"
    refine ⟨a, C, rfl, T, n0, .inl ⟨e, fun dx nx ne => ?_⟩⟩
    exact k dx nx ne
theorem mk_NoSeat {K : PySem.W.Frag} {ad : Ad} (X : Xf K ad) {v : V} {H : Hp} {QX : XK} (k : ∀ d, Fresh H d → QX (.ref ad.NoSeat) (some d) (upd H d (.xd [("seat", v)]))) : ([v] : List V).length ≤ 1000 ∧ ∀ a, H a = none → sp_NoSeat___init__ K ad (.ref a :: ([v] ++ [])) (upd H a (exo a ad.NoSeat none)) (fun z H2 => z = .non ∧ ∃ (d : Addr) (fs : List (Str × V)), H2 a = some (exo a ad.NoSeat (some d)) ∧ H2 d = some (exd d fs) ∧ H d = none ∧ QX (.ref ad.NoSeat) (some d) (upd (del H2 a) d (.xd fs))) (fun _ _ _ => False) :=
  ⟨by simp, fun a na => c_NoSeat___init__ (q_NoSeat___init__.mk X.x_NoSeat X.n_NoSeat_seat upd_same fun dx nd ne => ⟨rfl, dx, _, upd_same, (upd_ne ne).trans upd_same, (upd_ne ne).symm.trans nd, by rw [exo_heap1 na nd]; exact k dx ((upd_ne ne).symm.trans nd)⟩)⟩
inductive q_TooMany___init__ (K : PySem.W.Frag) (ad : Ad) : V → V → Hp → VK → Prop
  | mk {a C : Addr} {v : V} {H : Hp} {Q : VK} (T : OexC K C) (n0 : PySem.W.findIn K (.ref C) "what" = some none) (e : H a = some (exo a C none)) (k : ∀ dx, H dx = none → dx ≠ a → Q .non (upd (upd H dx (exd dx [("what", v)])) a (exo a C (some dx)))) : q_TooMany___init__ K ad (.ref a) v H Q
def sp_TooMany___init__ (K : PySem.W.Frag) (ad : Ad) : Sp := fun vs H Q _ => match vs with | [x0, x1] => q_TooMany___init__ K ad x0 x1 H Q | _ => False
theorem c_TooMany___init__ {K : PySem.W.Frag} {ad : Ad} {x0 x1 : V} {H : Hp} {Q : VK} {E : XK} (h : q_TooMany___init__ K ad x0 x1 H Q) : sp_TooMany___init__ K ad ([x0, x1] ++ []) H Q E := h
theorem n_TooMany___init__ {K : PySem.W.Frag} {ad : Ad} {vs : List V} {H : Hp} {Q : VK} {E : XK} (h : sp_TooMany___init__ K ad vs H Q E) : ∃ x0 x1, vs = [x0, x1] ∧ q_TooMany___init__ K ad x0 x1 H Q := match vs, h with | [x0, x1], h => ⟨x0, x1, rfl, h⟩
def t_TooMany___init__ (K : PySem.W.Frag) (ad : Ad) : TS := (tOst K "what" (tVar 0) (tVar 1))
theorem w_TooMany___init__ {K : PySem.W.Frag} {ad : Ad} {x0 x1 : V} {H : Hp} {Q : VK} (h : q_TooMany___init__ K ad x0 x1 H Q) : t_TooMany___init__ K ad ⟨fun _ H' => Q .non H', Q, fun _ _ => False, fun _ _ => False⟩ [some x0, some x1] H := by
  cases h with
  | @mk a C v _ _ T n0 e k =>
    unfold t_TooMany___init__
    walk_at "rd"
    refine ⟨a, C, rfl, T, n0, .inl ⟨e, fun dx nx ne => ?_⟩⟩
    exact k dx nx ne
theorem mk_TooMany {K : PySem.W.Frag} {ad : Ad} (X : Xf K ad) {v : V} {H : Hp} {QX : XK} (k : ∀ d, Fresh H d → QX (.ref ad.TooMany) (some d) (upd H d (.xd [("what", v)]))) : ([v] : List V).length ≤ 1000 ∧ ∀ a, H a = none → sp_TooMany___init__ K ad (.ref a :: ([v] ++ [])) (upd H a (exo a ad.TooMany none)) (fun z H2 => z = .non ∧ ∃ (d : Addr) (fs : List (Str × V)), H2 a = some (exo a ad.TooMany (some d)) ∧ H2 d = some (exd d fs) ∧ H d = none ∧ QX (.ref ad.TooMany) (some d) (upd (del H2 a) d (.xd fs))) (fun _ _ _ => False) :=
  ⟨by simp, fun a na => c_TooMany___init__ (q_TooMany___init__.mk X.x_TooMany X.n_TooMany_what upd_same fun dx nd ne => ⟨rfl, dx, _, upd_same, (upd_ne ne).trans upd_same, (upd_ne ne).symm.trans nd, by rw [exo_heap1 na nd]; exact k dx ((upd_ne ne).symm.trans nd)⟩)⟩

/-! ### the drawing of sets (shared by the laws on families) -/
def Pot (H : Hp) (p : Addr) : Prop := ∃ i r : Int, 0 ≤ i ∧ 0 ≤ r ∧ H p = some (.lst [.int i, .int r])
theorem Pot.at {H H' : Hp} {p : Addr} (h : Pot H p) (e : ∀ o, H p = some o → H' p = some o) : Pot H' p := by
  obtain ⟨i, r, hi, hr, h⟩ := h
  exact ⟨i, r, hi, hr, e _ h⟩
theorem Pot.upd {H : Hp} {p q : Addr} {o : HO} (h : Pot H p) (n : p ≠ q) : Pot (L2.upd H q o) p := h.at fun o e => (upd_ne n).trans e
theorem Pot.ne {H : Hp} {p u : Addr} {xs : List V} (h : Pot H p) (e : H u = some (.tup xs)) : u ≠ p := fun z => by
  obtain ⟨i, r, hi, hr, h⟩ := h
  rw [z, h] at e
  cases e
theorem Pot.is {H : Hp} {p : Addr} (h : Pot H p) : ∃ o, H p = some o := by
  obtain ⟨i, r, hi, hr, h⟩ := h
  exact ⟨_, h⟩
inductive q__law_wide (K : PySem.W.Frag) (ad : Ad) : V → Hp → VK → Prop
  | mk {n : Int} {H : Hp} {Q : VK} (k : ∀ r, 0 ≤ r → Q (.int r) H) : q__law_wide K ad (.int n) H Q
def sp__law_wide (K : PySem.W.Frag) (ad : Ad) : Sp := fun vs H Q _ => match vs with | [x0] => q__law_wide K ad x0 H Q | _ => False
theorem c__law_wide {K : PySem.W.Frag} {ad : Ad} {x0 : V} {H : Hp} {Q : VK} {E : XK} (h : q__law_wide K ad x0 H Q) : sp__law_wide K ad ([x0] ++ []) H Q E := h
theorem n__law_wide {K : PySem.W.Frag} {ad : Ad} {vs : List V} {H : Hp} {Q : VK} {E : XK} (h : sp__law_wide K ad vs H Q E) : ∃ x0, vs = [x0] ∧ q__law_wide K ad x0 H Q := match vs, h with | [x0], h => ⟨x0, rfl, h⟩
def t__law_wide (K : PySem.W.Frag) (ad : Ad) : TS := (tSeq (tIfS (tTest (tOp zGe (tVar 0) (tOp zPow (tC (.int 10)) (tC (.int 18))))) (tRet (tVar 0)) tNext)
    (tSeq (tAsg (tOp zMod (tOp (zAdd K) (tOp zMul (tVar 0) (tC (.int 48271))) (tC (.int 12345))) (tC (.int 2147483647))) (gName 1))
    (tSeq (tAsg (tOp zMod (tOp (zAdd K) (tOp (zAdd K) (tOp zMul (tVar 1) (tVar 1)) (tOp zMul (tVar 0) (tC (.int 69621)))) (tC (.int 7))) (tC (.int 2147483629))) (gName 2))
    (tSeq (tAsg (tOp zMod (tOp (zAdd K) (tOp zMul (tVar 2) (tVar 2)) (tVar 1)) (tC (.int 1000000007))) (gName 3))
    (tRet (tOp (zAdd K) (tOp zDiv (tVar 1) (tC (.int 8))) (tOp zMul (tC (.int 268435456)) (tOp (zAdd K) (tOp zDiv (tVar 2) (tC (.int 8))) (tOp zMul (tC (.int 268435456)) (tOp zDiv (tVar 3) (tC (.int 8))))))))))))
theorem w__law_wide {K : PySem.W.Frag} {ad : Ad} {x0 : V} {H : Hp} {Q : VK} (h : q__law_wide K ad x0 H Q) : t__law_wide K ad ⟨fun _ H' => Q .non H', Q, fun _ _ => False, fun _ _ => False⟩ [some x0, none, none, none] H := by
  cases h with
  | @mk n _ _ k => 
    unfold t__law_wide
    walk_at "rd"
    walk_at "if"
    · walk_at "rd"
      rename_i h
      exact k _ (by omega)
    · walk_at "rd"
      exact k _ (by omega)
inductive q__law_take (K : PySem.W.Frag) (ad : Ad) : V → V → V → Hp → VK → Prop
  | mk {a p : Addr} {m : Int} {ns : List Int} {F H : Hp} {Q : VK} (hF : Same F H) (hS : SqL K F a (ns.map V.int)) (hp : Pot H p) (fp : F p = none) (hm : 0 < m) (hM : m ≤ 10 ^ 70)
    (k : ∀ d H', 0 ≤ d → d < m → Pot H' p → Gr (M1 p) F H F H' → Q (.int d) H') : q__law_take K ad (.ref a) (.ref p) (.int m) H Q
def sp__law_take (K : PySem.W.Frag) (ad : Ad) : Sp := fun vs H Q _ => match vs with | [x0, x1, x2] => q__law_take K ad x0 x1 x2 H Q | _ => False
theorem c__law_take {K : PySem.W.Frag} {ad : Ad} {x0 x1 x2 : V} {H : Hp} {Q : VK} {E : XK} (h : q__law_take K ad x0 x1 x2 H Q) : sp__law_take K ad ([x0, x1, x2] ++ []) H Q E := h
theorem n__law_take {K : PySem.W.Frag} {ad : Ad} {vs : List V} {H : Hp} {Q : VK} {E : XK} (h : sp__law_take K ad vs H Q E) : ∃ x0 x1 x2, vs = [x0, x1, x2] ∧ q__law_take K ad x0 x1 x2 H Q := match vs, h with | [x0, x1, x2], h => ⟨x0, x1, x2, rfl, h⟩
def t__law_take (K : PySem.W.Frag) (ad : Ad) : TS := (Evl.tCut (tIfS (tTest (tOp (zEq K) (tOp (rIx K) (tVar 1) (tC (.int 1))) (tC (.int 0)))) (tSeq (tAsg (tOp zMul (tOp (zAdd K) (tOp zMod (tCB (rSum K) (tCons (tVar 0) tNil)) (tC (.int 1000003))) (tC (.int 7919))) (tOp (zAdd K) (tOp (rIx K) (tVar 1) (tC (.int 0))) (tC (.int 1)))) (gName 3))
    (tSeq (tIfS (tTest (tOp (zLt K) (tOp (rIx K) (tVar 1) (tC (.int 0))) (tCB (zLen K) (tCons (tVar 0) tNil)))) (tAsg (tOp (rIx K) (tVar 0) (tOp (rIx K) (tVar 1) (tC (.int 0)))) (gName 3)) tNext)
    (tSeq (tAsg (tOp (zAdd K) (tOp (rIx K) (tVar 1) (tC (.int 0))) (tC (.int 1))) (gSub (tVar 1) (tC (.int 0)) rSetL))
    (tAsg (tCall (sp__law_wide K ad) [] E0 (tCons (tVar 3) tNil)) (gSub (tVar 1) (tC (.int 1)) rSetL))))) tNext)
    (tSeq (tAsg (tOp zMod (tOp (rIx K) (tVar 1) (tC (.int 1))) (tVar 2)) (gName 4))
    (tSeq (tAsg (tOp zDiv (tOp (rIx K) (tVar 1) (tC (.int 1))) (tVar 2)) (gSub (tVar 1) (tC (.int 1)) rSetL))
    (tRet (tVar 4)))))
theorem w__law_take {K : PySem.W.Frag} {ad : Ad} {x0 x1 x2 : V} {H : Hp} {Q : VK} (h : q__law_take K ad x0 x1 x2 H Q) : t__law_take K ad ⟨fun _ H' => Q .non H', Q, fun _ _ => False, fun _ _ => False⟩ [some x0, some x1, some x2, none, none] H := by
  cases h with
  | @mk a p m ns F _ _ hF hS hp fp hm hM k =>
    obtain ⟨i, r, hi, hr, hp⟩ := hp
    unfold t__law_take
    refine Z.s_cut (fun σ' H' => ∃ i r c, 0 ≤ i ∧ 0 ≤ r ∧ σ' = [some (.ref a), some (.ref p), some (.int m), c, none] ∧ H' p = some (.lst [.int i, .int r]) ∧ Gr (M1 p) F H F H') ?_ ?_
    · walk_at "rd"
      walk_at "if"
      · walk_at "rd"
        walk_at "if"
        · rename_i h
          rw [List.length_map] at h
          obtain ⟨j, rfl⟩ : ∃ j : Nat, i = (j : Int) := ⟨i.toNat, by omega⟩
          have hj : ns[j]? = some ns[j] := List.getElem?_eq_getElem (by omega)
          walk_at "rd"
          with_reducible apply o_ixL (Same.seq hF hS) (atI_ints hj)
          walk_at "rd"
          apply c__law_wide
          apply q__law_wide.mk
          intro r' h0
          walk_at "rd"
          exact ⟨_, r', _, by omega, h0, rfl, upd_same, ((Gr.refl hF).put1 fp).put1 fp⟩
        · walk_at "rd"
          apply c__law_wide
          apply q__law_wide.mk
          intro r' h0
          walk_at "rd"
          exact ⟨_, r', _, by omega, h0, rfl, upd_same, ((Gr.refl hF).put1 fp).put1 fp⟩
      · walk_at "rd"
        exact ⟨i, r, _, hi, hr, rfl, hp, Gr.refl hF⟩
    · rintro σ' H' ⟨i, r, c, hi, hr, rfl, hp, g⟩
      walk_at "rd"
      exact k _ _ (Int.emod_nonneg _ (by omega)) (Int.emod_lt_of_pos _ hm) ⟨i, r / m, hi, Int.ediv_nonneg hr (by omega), upd_same⟩ (g.put1 fp)

inductive q__law_many_seats (K : PySem.W.Frag) (ad : Ad) : V → V → Hp → VK → Prop
  | mk {a p : Addr} {ns : List Int} {F H : Hp} {Q : VK} (hF : Same F H) (hS : SqL K F a (ns.map V.int)) (hp : Pot H p) (fp : F p = none)
    (k : ∀ d H', 1 ≤ d → d ≤ 60 → Pot H' p → Gr (M1 p) F H F H' → Q (.int d) H') : q__law_many_seats K ad (.ref a) (.ref p) H Q
def sp__law_many_seats (K : PySem.W.Frag) (ad : Ad) : Sp := fun vs H Q _ => match vs with | [x0, x1] => q__law_many_seats K ad x0 x1 H Q | _ => False
theorem c__law_many_seats {K : PySem.W.Frag} {ad : Ad} {x0 x1 : V} {H : Hp} {Q : VK} {E : XK} (h : q__law_many_seats K ad x0 x1 H Q) : sp__law_many_seats K ad ([x0, x1] ++ []) H Q E := h
theorem n__law_many_seats {K : PySem.W.Frag} {ad : Ad} {vs : List V} {H : Hp} {Q : VK} {E : XK} (h : sp__law_many_seats K ad vs H Q E) : ∃ x0 x1, vs = [x0, x1] ∧ q__law_many_seats K ad x0 x1 H Q := match vs, h with | [x0, x1], h => ⟨x0, x1, rfl, h⟩
def t__law_many_seats (K : PySem.W.Frag) (ad : Ad) : TS := (tSeq (tIfS (tTest (tOp (zEq K) (tCall (sp__law_take K ad) [] E0 (tCons (tVar 0) (tCons (tVar 1) (tCons (tC (.int 4)) tNil)))) (tC (.int 0)))) (tRet (tOp (zAdd K) (tC (.int 1)) (tCall (sp__law_take K ad) [] E0 (tCons (tVar 0) (tCons (tVar 1) (tCons (tC (.int 60)) tNil)))))) tNext)
    (tRet (tOp (zAdd K) (tC (.int 1)) (tCall (sp__law_take K ad) [] E0 (tCons (tVar 0) (tCons (tVar 1) (tCons (tC (.int 9)) tNil)))))))
theorem w__law_many_seats {K : PySem.W.Frag} {ad : Ad} {x0 x1 : V} {H : Hp} {Q : VK} (h : q__law_many_seats K ad x0 x1 H Q) : t__law_many_seats K ad ⟨fun _ H' => Q .non H', Q, fun _ _ => False, fun _ _ => False⟩ [some x0, some x1] H := by
  cases h with
  | @mk a p ns F _ _ hF hS hp fp k =>
    unfold t__law_many_seats
    walk_at "rd"
    apply c__law_take
    refine q__law_take.mk hF hS hp fp (by omega) (by omega) fun d H1 h0 h1 hp1 g1 => ?_
    walk_at "rd"
    walk_at "if"
    · walk_at "rd"
      apply c__law_take
      refine q__law_take.mk g1.fh hS hp1 fp (by omega) (by omega) fun d H2 h0 h1 hp2 g2 => ?_
      walk_at "rd"
      obtain ⟨i, r, _, _, e⟩ := hp1
      exact k _ _ (by omega) (by omega) hp2 (g1.tr1 g2 e)
    · walk_at "rd"
      apply c__law_take
      refine q__law_take.mk g1.fh hS hp1 fp (by omega) (by omega) fun d H2 h0 h1 hp2 g2 => ?_
      walk_at "rd"
      obtain ⟨i, r, _, _, e⟩ := hp1
      exact k _ _ (by omega) (by omega) hp2 (g1.tr1 g2 e)

/-- a set, well made -/
structure Well (m : Int) (ds : List Int) : Prop where
  ne : ds ≠ []
  up : ds.Pairwise (· < ·)
  within : ∀ d ∈ ds, 0 ≤ d ∧ d < m
  few : ds.length ≤ 33
inductive q__law_set (K : PySem.W.Frag) (ad : Ad) : V → V → V → Hp → VK → Prop
  | mk {a p : Addr} {ns : List Int} {m : Int} {F H : Hp} {Q : VK} (hF : Same F H) (hS : SqL K F a (ns.map V.int)) (hp : Pot H p) (fp : F p = none) (hm : 0 < m) (hM : m ≤ 60)
    (k : ∀ ds t F' H', Well m ds → ds.length ≤ 11 → F' t = some (.tup (ds.map V.int)) → Pot H' p → Gr (M1 p) F H F' H' → Q (.ref t) H') : q__law_set K ad (.ref a) (.ref p) (.int m) H Q
def sp__law_set (K : PySem.W.Frag) (ad : Ad) : Sp := fun vs H Q _ => match vs with | [x0, x1, x2] => q__law_set K ad x0 x1 x2 H Q | _ => False
theorem c__law_set {K : PySem.W.Frag} {ad : Ad} {x0 x1 x2 : V} {H : Hp} {Q : VK} {E : XK} (h : q__law_set K ad x0 x1 x2 H Q) : sp__law_set K ad ([x0, x1, x2] ++ []) H Q E := h
theorem n__law_set {K : PySem.W.Frag} {ad : Ad} {vs : List V} {H : Hp} {Q : VK} {E : XK} (h : sp__law_set K ad vs H Q E) : ∃ x0 x1 x2, vs = [x0, x1, x2] ∧ q__law_set K ad x0 x1 x2 H Q := match vs, h with | [x0, x1, x2], h => ⟨x0, x1, x2, rfl, h⟩
def t__law_set (K : PySem.W.Frag) (ad : Ad) : TS := (tSeq (tAsg (tLst tNil) (gName 3))
    (Evl.tCut (tIfS (tAnd (tTest (tOp (zLt K) (tVar 2) (tC (.int 10)))) (tTest (tOp (zLt K) (tCall (sp__law_take K ad) [] E0 (tCons (tVar 0) (tCons (tVar 1) (tCons (tC (.int 3)) tNil)))) (tC (.int 2))))) (tAsg (tLc (iRng1 (tCons (tVar 2) tNil)) (gName 4) (tTest (tOp (zEq K) (tCall (sp__law_take K ad) [] E0 (tCons (tVar 0) (tCons (tVar 1) (tCons (tC (.int 2)) tNil)))) (tC (.int 1)))) (tVar 4) [4]) (gName 3)) (tAsg (tLc (iRng1 (tCons (tCall (sp__law_take K ad) [] E0 (tCons (tVar 0) (tCons (tVar 1) (tCons (tC (.int 6)) tNil)))) tNil)) (gName 5) tYes (tCall (sp__law_take K ad) [] E0 (tCons (tVar 0) (tCons (tVar 1) (tCons (tVar 2) tNil)))) [5]) (gName 3)))
    (tSeq (tDrop (tBM K "list" rAppend (tVar 3) (tCons (tCall (sp__law_take K ad) [] E0 (tCons (tVar 0) (tCons (tVar 1) (tCons (tVar 2) tNil)))) tNil)))
    (tRet (tCB (zTuple K) (tCons (tCB (zSorted K ad.w) (tCons (tCB (zSet K ad.w) (tCons (tVar 3) tNil)) tNil)) tNil))))))
theorem w__law_set {K : PySem.W.Frag} {ad : Ad} {x0 x1 x2 : V} {H : Hp} {Q : VK} (h : q__law_set K ad x0 x1 x2 H Q) : t__law_set K ad ⟨fun _ H' => Q .non H', Q, fun _ _ => False, fun _ _ => False⟩ [some x0, some x1, some x2, none, none, none] H := by
  cases h with
  | @mk a p ns m F _ _ hF hS hp fp hm hM k =>
    unfold t__law_set
    walk_at "rd"
    refine o_new (Nat.zero_le _) fun q0 n0 => ?_
    obtain ⟨i0, r0, hi0, hr0, ep⟩ := id hp
    have g0 : Gr (M1 p) F H F (upd H q0 (.lst [])) := (Gr.refl hF).add n0
    have hp0 : Pot (upd H q0 (.lst [])) p := ⟨i0, r0, hi0, hr0, by walk_at "at"⟩
    obtain ⟨_, _, _, _, ep0⟩ := id hp0
    refine s_cut (fun σ' H' => ∃ (acc : List Int) (D : Addr) (y4 y5 : Option V), σ' = [some (.ref a), some (.ref p), some (.int m), some (.ref D), y4, y5] ∧ H' D = some (.lst (acc.map V.int)) ∧ acc.length ≤ 10 ∧ (∀ x ∈ acc, 0 ≤ x ∧ x < m) ∧ Fresh H D ∧ Pot H' p ∧ Gr (M1 p) F H F H') ?_ ?_
    · have two : ∀ H1, Pot H1 p → Gr (M1 p) F H F H1 → tAsg (tLc (iRng1 (tCons (tCall (sp__law_take K ad) [] E0 (tCons (tVar 0) (tCons (tVar 1) (tCons (tC (.int 6)) tNil)))) tNil)) (gName 5) tYes (tCall (sp__law_take K ad) [] E0 (tCons (tVar 0) (tCons (tVar 1) (tCons (tVar 2) tNil)))) [5]) (gName 3)
          { nx := fun σ' H' => ∃ (acc : List Int) (D : Addr) (y4 y5 : Option V), σ' = [some (.ref a), some (.ref p), some (.int m), some (.ref D), y4, y5] ∧ H' D = some (.lst (acc.map V.int)) ∧ acc.length ≤ 10 ∧ (∀ x ∈ acc, 0 ≤ x ∧ x < m) ∧ Fresh H D ∧ Pot H' p ∧ Gr (M1 p) F H F H', rt := Q }
          [some (.ref a), some (.ref p), some (.int m), some (.ref q0), none, none] H1 := fun H1 hp1 g1 => by
        walk_at "rd"
        apply c__law_take
        refine q__law_take.mk g1.fh hS hp1 fp (by omega) (by omega) fun d H2 h0 h1 hp2 g2 => ?_
        obtain ⟨_, _, _, _, ep1⟩ := id hp1
        have g12 := g1.tr1 g2 ep1
        walk_at "rd"
        obtain ⟨_, _, _, _, ep2⟩ := id hp2
        refine lc_R1 (by omega) (fun D i H' => ∃ acc : List Int, H' D = some (.lst (acc.map V.int)) ∧ acc.length ≤ i ∧ (∀ x ∈ acc, 0 ≤ x ∧ x < m) ∧ Pot H' p ∧ Gr (M1 p) F H F H') ?_ ?_ ?_
        · intro D nD
          exact ⟨[], upd_same, Nat.le_refl _, by simp, hp2.upd (fresh_ne nD ep2).symm, g12.add nD⟩
        · rintro D i H3 nD hi ⟨acc, eD, ha, hw, hp3, g3⟩
          walk_at "rd"
          apply c__law_take
          refine q__law_take.mk g3.fh hS hp3 fp (by omega) (by omega) fun d H4 h0 h1 hp4 g4 => ?_
          obtain ⟨_, _, _, _, ep3⟩ := id hp3
          obtain ⟨_, _, _, _, ep4⟩ := id hp4
          have nDp := fresh_ne nD ep2
          have nDH := g12.fr1 ep2 nD
          refine ⟨_, g4.hh D _ nDp eD, by walk_at "len", acc ++ [d], ?_, by walk_at "len", ?_, hp4.upd nDp.symm, (g3.tr1 g4 ep3).own (fresh_F hF nDH) nDH⟩
          · rw [upd_same, List.map_append]
            rfl
          · intro x hx
            rcases List.mem_append.mp hx with hx | hx
            · exact hw x hx
            · rw [List.mem_singleton.mp hx]
              exact ⟨h0, h1⟩
        · rintro D H3 nD ⟨acc, eD, ha, hw, hp3, g3⟩
          exact ⟨acc, D, _, _, rfl, eD, by omega, hw, g12.fr1 ep2 nD, hp3, g3⟩
      walk_at "rd"
      walk_at "if"
      · rename_i hm10
        walk_at "rd"
        apply c__law_take
        refine q__law_take.mk g0.fh hS hp0 fp (by omega) (by omega) fun d H2 h0 h1 hp2 g2 => ?_
        have g12 := g0.tr1 g2 ep0
        walk_at "rd"
        obtain ⟨_, _, _, _, ep2⟩ := id hp2
        walk_at "if"
        · walk_at "rd"
          refine lc_R1 (by omega) (fun D i H' => ∃ acc : List Int, H' D = some (.lst (acc.map V.int)) ∧ acc.length ≤ i ∧ (∀ x ∈ acc, 0 ≤ x ∧ x < m) ∧ Pot H' p ∧ Gr (M1 p) F H F H') ?_ ?_ ?_
          · intro D nD
            exact ⟨[], upd_same, Nat.le_refl _, by simp, hp2.upd (fresh_ne nD ep2).symm, g12.add nD⟩
          · rintro D i H3 nD hi ⟨acc, eD, ha, hw, hp3, g3⟩
            walk_at "rd"
            apply c__law_take
            refine q__law_take.mk g3.fh hS hp3 fp (by omega) (by omega) fun d H4 h0 h1 hp4 g4 => ?_
            obtain ⟨_, _, _, _, ep3⟩ := id hp3
            obtain ⟨_, _, _, _, ep4⟩ := id hp4
            have nDp := fresh_ne nD ep2
            have nDH := g12.fr1 ep2 nD
            walk_at "rd"
            walk_at "if"
            · walk_at "rd"
              refine ⟨_, g4.hh D _ nDp eD, by walk_at "len", acc ++ [(i : Int)], ?_, by walk_at "len", ?_, hp4.upd nDp.symm, (g3.tr1 g4 ep3).own (fresh_F hF nDH) nDH⟩
              · rw [upd_same, List.map_append]
                rfl
              · intro x hx
                rcases List.mem_append.mp hx with hx | hx
                · exact hw x hx
                · rw [List.mem_singleton.mp hx]
                  exact ⟨by omega, hi⟩
            · exact ⟨acc, g4.hh D _ nDp eD, by omega, hw, hp4, g3.tr1 g4 ep3⟩
          · rintro D H3 nD ⟨acc, eD, ha, hw, hp3, g3⟩
            exact ⟨acc, D, _, _, rfl, eD, by omega, hw, g12.fr1 ep2 nD, hp3, g3⟩
        · exact two H2 hp2 g12
      · refine iteF ?_
        exact two _ hp0 g0
    · rintro σ' H1 ⟨acc, D, y4, y5, rfl, eD, ha, hw, nD, hp1, g1⟩
      have nDp : D ≠ p := fresh_ne nD ep
      have fD := fresh_F hF nD
      obtain ⟨_, _, _, _, ep1⟩ := id hp1
      walk_at "rd"
      refine ⟨ty_list (SqL.of eD), ?_⟩
      walk_at "rd"
      apply c__law_take
      refine q__law_take.mk g1.fh hS hp1 fp (by omega) (by omega) fun d H2 h0 h1 hp2 g2 => ?_
      have g12 := g1.tr1 g2 ep1
      obtain ⟨i2, r2, hi2, hr2, ep2⟩ := id hp2
      have eD2 := g2.hh D _ nDp eD
      walk_at "rd"
      refine m_app eD2 (by walk_at "len") ?_
      walk_at "rd"
      have e3 : (upd H2 D (.lst (acc.map V.int ++ [.int d]))) D = some (.lst ((acc ++ [d]).map V.int)) := by
        rw [upd_same, List.map_append]
        rfl
      refine o_setL' (SqL.of e3) (by walk_at "len") fun q3 c hc n3 => ?_
      walk_at "rd"
      rw [List.length_append] at hc
      refine o_sortSet upd_same (by
        have := hc
        simp only [List.length_cons, List.length_nil] at this
        omega) fun ds q4 up hmem hlen n4 => ?_
      walk_at "rd"
      refine o_tupleL (SqL.of upd_same) fun t nt => ?_
      have G3 : Gr (M1 p) F H F (upd H2 D (.lst (acc.map V.int ++ [.int d]))) := g12.own fD nD
      have G4 := (G3.add n3 (o := SetO ad.w q3 (fun j => decide (j ∈ acc ++ [d])) c)).add n4 (o := .lst (ds.map V.int))
      have inn : ∀ x, x ∈ ds ↔ x ∈ acc ++ [d] := fun x => (hmem x).trans decide_eq_true_iff
      have dl : ds.length ≤ 11 := by
        have := hc
        simp only [List.length_cons, List.length_nil] at this
        omega
      refine k ds t _ _ ⟨fun e => ?_, up, fun x hx => ?_, by omega⟩ dl upd_same ?_ (G4.addF nt (fresh_ne nt (by walk_at "at")))
      · have : d ∈ ds := (inn d).mpr (by simp)
        rw [e] at this
        cases this
      · rcases List.mem_append.mp ((inn x).mp hx) with hx | hx
        · exact hw x hx
        · rw [List.mem_singleton.mp hx]
          exact ⟨h0, h1⟩
      · exact ⟨i2, r2, hi2, hr2, by walk_at "at"⟩
inductive q__law_family (K : PySem.W.Frag) (ad : Ad) : V → V → V → V → Hp → VK → Prop
  | mk {a p : Addr} {ns : List Int} {m most : Int} {F H : Hp} {Q : VK} (hF : Same F H) (hS : SqL K F a (ns.map V.int)) (hp : Pot H p) (fp : F p = none) (hm : 0 < m) (hM : m ≤ 60) (h0 : 0 ≤ most) (h1 : most ≤ 100)
    (k : ∀ q vs dss F' H', Fresh H q → H' q = some (.lst vs) → F' q = none → TIs F' vs dss → (∀ d ∈ dss, Well m d ∧ d.length ≤ 11) → dss.Nodup → (dss.length : Int) ≤ most → Pot H' p → Gr (M1 p) F H F' H' → Q (.ref q) H') :
    q__law_family K ad (.ref a) (.ref p) (.int m) (.int most) H Q
def sp__law_family (K : PySem.W.Frag) (ad : Ad) : Sp := fun vs H Q _ => match vs with | [x0, x1, x2, x3] => q__law_family K ad x0 x1 x2 x3 H Q | _ => False
theorem c__law_family {K : PySem.W.Frag} {ad : Ad} {x0 x1 x2 x3 : V} {H : Hp} {Q : VK} {E : XK} (h : q__law_family K ad x0 x1 x2 x3 H Q) : sp__law_family K ad ([x0, x1, x2, x3] ++ []) H Q E := h
theorem n__law_family {K : PySem.W.Frag} {ad : Ad} {vs : List V} {H : Hp} {Q : VK} {E : XK} (h : sp__law_family K ad vs H Q E) : ∃ x0 x1 x2 x3, vs = [x0, x1, x2, x3] ∧ q__law_family K ad x0 x1 x2 x3 H Q := match vs, h with | [x0, x1, x2, x3], h => ⟨x0, x1, x2, x3, rfl, h⟩
def t__law_family (K : PySem.W.Frag) (ad : Ad) : TS := (tSeq (tAsg (tLst tNil) (gName 4))
    (tSeq (tFor (iRng1 (tCons (tCall (sp__law_take K ad) [] E0 (tCons (tVar 0) (tCons (tVar 1) (tCons (tOp (zAdd K) (tVar 3) (tC (.int 1))) tNil)))) tNil)) (gName 5)
    (tSeq (tAsg (tCall (sp__law_set K ad) [] E0 (tCons (tVar 0) (tCons (tVar 1) (tCons (tVar 2) tNil)))) (gName 6))
    (tIfS (tTest (tOp (zNotIn K) (tVar 6) (tVar 4))) (tDrop (tBM K "list" rAppend (tVar 4) (tCons (tVar 6) tNil))) tNext)))
    (tRet (tVar 4))))
theorem w__law_family {K : PySem.W.Frag} {ad : Ad} {x0 x1 x2 x3 : V} {H : Hp} {Q : VK} (h : q__law_family K ad x0 x1 x2 x3 H Q) : t__law_family K ad ⟨fun _ H' => Q .non H', Q, fun _ _ => False, fun _ _ => False⟩ [some x0, some x1, some x2, some x3, none, none, none] H := by
  cases h with
  | @mk a p ns m most F _ _ hF hS hp fp hm hM h0 h1 k =>
    unfold t__law_family
    walk_at "rd"
    refine o_new (Nat.zero_le _) fun q0 n0 => ?_
    walk_at "rd"
    obtain ⟨_, ep⟩ := hp.is
    have hp0 := hp.upd (o := .lst []) (fresh_ne n0 ep).symm
    apply c__law_take
    refine q__law_take.mk (same_new hF n0) hS hp0 fp (by omega) (by omega) fun d H1 d0 d1 hp1 g1 => ?_
    have G1 : Gr (M1 p) F H F H1 := ((Gr.refl hF).add n0).tr1 g1 hp0.is.choose_spec
    walk_at "rd"
    have fq : F q0 = none := fresh_F hF n0
    refine lp_range1 (by omega) (fun i σ' H' => ∃ (y5 y6 : Option V) (vs : List V) (dss : List (List Int)) (F' : Hp), σ' = [some (.ref a), some (.ref p), some (.int m), some (.int most), some (.ref q0), y5, y6] ∧
      H' q0 = some (.lst vs) ∧ TIs F' vs dss ∧ (∀ d ∈ dss, Well m d ∧ d.length ≤ 11) ∧ dss.Nodup ∧ dss.length ≤ i ∧ F' q0 = none ∧ Pot H' p ∧ Gr (M1 p) F H F' H') ?_ ?_ ?_
    · exact ⟨_, _, [], [], F, rfl, g1.hh _ _ (fresh_ne n0 ep) upd_same, .nil, by simp, List.nodup_nil, Nat.le_refl _, fq, hp1, G1⟩
    · rintro i σ' H2 hi ⟨y5, y6, vs, dss, F2, rfl, eq, ts, wl, nd, ln, fq2, hp2, G2⟩
      walk_at "rd"
      apply c__law_set
      refine q__law_set.mk G2.fh (G2.ff.seq hS) hp2 (G2.nof fp ep) hm hM fun ds t F3 H3 wd wl11 et hp3 G3 => ?_
      obtain ⟨_, ep2⟩ := hp2.is
      have G23 := G2.tr1 G3 ep2
      have eq3 := G3.hh q0 _ (fresh_ne n0 ep) eq
      have fq3 := G3.nw q0 _ eq fq2
      have td : TI F3 (.ref t) ds := ⟨t, rfl, et⟩
      have ts3 := ts.mono G3.ff
      have vl : vs.length = dss.length := ts3.length
      walk_at "rd"
      refine o_notInD (td.mono G3.fh).dp (.lst (SqL.of eq3) (ts3.mono G3.fh).dp) (pl_dI.shaped (by decide)) (pl_dLI.shaped (by decide)) ?_
      rw [any_dI]
      walk_at "rd"
      walk_at "if"
      · rename_i hn
        walk_at "rd"
        refine ⟨ty_list (SqL.of eq3), ?_⟩
        walk_at "rd"
        refine m_app eq3 (by walk_at "len") ?_
        refine ⟨_, _, _, dss ++ [ds], F3, rfl, upd_same, ts3.app (.cons td .nil), ?_, ?_, by walk_at "len", fq3, hp3.upd (fresh_ne n0 ep).symm, G23.own fq3 n0⟩
        · intro d hd
          rcases List.mem_append.mp hd with hd | hd
          · exact wl d hd
          · rw [List.mem_singleton.mp hd]
            exact ⟨wd, wl11⟩
        · exact List.nodup_append.mpr ⟨nd, by simp, fun x hx y hy e => hn (by rw [← List.mem_singleton.mp hy, ← e]; exact hx)⟩
      · walk_at "rd"
        exact ⟨_, _, vs, dss, F3, rfl, eq3, ts3, wl, nd, by omega, fq3, hp3, G23⟩
    · rintro σ' H2 ⟨y5, y6, vs, dss, F2, rfl, eq, ts, wl, nd, ln, fq2, hp2, G2⟩
      walk_at "rd"
      exact k q0 vs dss F2 H2 n0 eq fq2 ts wl nd (by omega) hp2 G2

inductive q__law_whole (K : PySem.W.Frag) (ad : Ad) : V → Hp → VK → Prop
  | int {i : Int} {H : Hp} {Q : VK} (k : Q (.bl true) H) : q__law_whole K ad (.int i) H Q
def sp__law_whole (K : PySem.W.Frag) (ad : Ad) : Sp := fun vs H Q _ => match vs with | [x0] => q__law_whole K ad x0 H Q | _ => False
theorem c__law_whole {K : PySem.W.Frag} {ad : Ad} {x0 : V} {H : Hp} {Q : VK} {E : XK} (h : q__law_whole K ad x0 H Q) : sp__law_whole K ad ([x0] ++ []) H Q E := h
theorem n__law_whole {K : PySem.W.Frag} {ad : Ad} {vs : List V} {H : Hp} {Q : VK} {E : XK} (h : sp__law_whole K ad vs H Q E) : ∃ x0, vs = [x0] ∧ q__law_whole K ad x0 H Q := match vs, h with | [x0], h => ⟨x0, rfl, h⟩
def t__law_whole (K : PySem.W.Frag) (ad : Ad) : TS := (tRet (tAndV (tCB (rIsi K) (tCons (tVar 0) (tCons (tC (.ty "int")) tNil))) (tNotT K (tCB (rIsi K) (tCons (tVar 0) (tCons (tC (.ty "bool")) tNil))))))
theorem w__law_whole {K : PySem.W.Frag} {ad : Ad} {x0 : V} {H : Hp} {Q : VK} (h : q__law_whole K ad x0 H Q) : t__law_whole K ad ⟨fun _ H' => Q .non H', Q, fun _ _ => False, fun _ _ => False⟩ [some x0] H := by
  cases h with
  | @int i _ _ k =>
    unfold t__law_whole
    walk_at "rd"
    exact k


/-! ### families looked at -/
def outs (n : Int) (ns : List Int) : Bool := ns.any fun x => decide (x < 0) || decide (n ≤ x)
def desc : List Int → Bool
  | a :: b :: r => decide (b ≤ a) || desc (b :: r)
  | _ => false
theorem desc_iff : ∀ ns : List Int, desc ns = true ↔ ∃ (j : Nat) (x y : Int), ns[j]? = some x ∧ ns[j + 1]? = some y ∧ y ≤ x
  | [] => by simp [desc]
  | [a] => by
    simp only [desc, Bool.false_eq_true, false_iff]
    rintro ⟨j, x, y, h1, h2, _⟩
    simp at h2
  | a :: b :: r => by
    rw [desc, Bool.or_eq_true, desc_iff (b :: r), decide_eq_true_iff]
    constructor
    · rintro (h | ⟨j, x, y, h1, h2, h⟩)
      · exact ⟨0, a, b, rfl, rfl, h⟩
      · exact ⟨j + 1, x, y, by simpa using h1, by simpa using h2, h⟩
    · rintro ⟨j, x, y, h1, h2, h⟩
      cases j with
      | zero =>
        left
        have e1 : a = x := by simpa using h1
        have e2 : b = y := by simpa using h2
        omega
      | succ j => exact .inr ⟨j, x, y, by simpa using h1, by simpa using h2, h⟩
def wordOf (n : Int) (ns : List Int) : Option Str := if ns = [] then some "empty" else if outs n ns = true then some "outside" else if desc ns = true then some "order" else none
def vO : Option Str → V
  | none => .non
  | some w => .str w
inductive q_word_of (K : PySem.W.Frag) (ad : Ad) : V → V → Hp → VK → Prop
  | mk {n : Int} {a : Addr} {ns : List Int} {H : Hp} {Q : VK} (hs : SqT K H a (ns.map V.int)) (hl : ns.length ≤ 1000) (k : Q (vO (wordOf n ns)) H) : q_word_of K ad (.int n) (.ref a) H Q
def sp_word_of (K : PySem.W.Frag) (ad : Ad) : Sp := fun vs H Q _ => match vs with | [x0, x1] => q_word_of K ad x0 x1 H Q | _ => False
theorem c_word_of {K : PySem.W.Frag} {ad : Ad} {x0 x1 : V} {H : Hp} {Q : VK} {E : XK} (h : q_word_of K ad x0 x1 H Q) : sp_word_of K ad ([x0, x1] ++ []) H Q E := h
theorem n_word_of {K : PySem.W.Frag} {ad : Ad} {vs : List V} {H : Hp} {Q : VK} {E : XK} (h : sp_word_of K ad vs H Q E) : ∃ x0 x1, vs = [x0, x1] ∧ q_word_of K ad x0 x1 H Q := match vs, h with | [x0, x1], h => ⟨x0, x1, rfl, h⟩
def t_word_of (K : PySem.W.Frag) (ad : Ad) : TS := (tSeq (tIfS (tTest (tOp (zEq K) (tCB (zLen K) (tCons (tVar 1) tNil)) (tC (.int 0)))) (tRet (tC (.str "empty"))) tNext)
    (tSeq (tFor (iTup K (tVar 1)) (gName 2)
    (tIfS (tOr (tTest (tOp (zLt K) (tVar 2) (tC (.int 0)))) (tTest (tOp zGe (tVar 2) (tVar 0)))) (tRet (tC (.str "outside"))) tNext))
    (tSeq (tFor (iRng2 (tCons (tC (.int 1)) (tCons (tCB (zLen K) (tCons (tVar 1) tNil)) tNil))) (gName 3)
    (tIfS (tTest (tOp zGe (tOp (rIx K) (tVar 1) (tOp zSub (tVar 3) (tC (.int 1)))) (tOp (rIx K) (tVar 1) (tVar 3)))) (tRet (tC (.str "order"))) tNext))
    (tRet (tC .non)))))
theorem w_word_of {K : PySem.W.Frag} {ad : Ad} {x0 x1 : V} {H : Hp} {Q : VK} (h : q_word_of K ad x0 x1 H Q) : t_word_of K ad ⟨fun _ H' => Q .non H', Q, fun _ _ => False, fun _ _ => False⟩ [some x0, some x1, none, none] H := by
  cases h with
  | @mk n a ns _ _ hs hl k =>
    unfold t_word_of
    walk_at "rd"
    walk_at "if"
    · rename_i h
      walk_at "rd"
      have e : ns = [] := by
        cases ns with
        | nil => rfl
        | cons x r =>
          simp at h
          omega
      rw [wordOf, if_pos e] at k
      exact k
    rename_i h
    have ne : ns ≠ [] := fun e => h (by rw [e]; rfl)
    walk_at "rd"
    refine lp_tup hs (fun i σ' H' => H' = H ∧ (∃ y2, σ' = [some (.int n), some (.ref a), y2, none]) ∧ ∀ x ∈ ns.take i, ¬ (x < 0 ∨ n ≤ x)) ⟨rfl, ⟨_, rfl⟩, by simp⟩ (fun i σ' H' _ hp => by rw [hp.1]; exact hs) ?_ ?_
    · rintro i x σ' H' hx ⟨rfl, ⟨y2, rfl⟩, ok⟩
      rw [List.getElem?_map] at hx
      obtain ⟨z, hz, rfl⟩ := Option.map_eq_some_iff.mp hx
      have out : z < 0 ∨ n ≤ z → wordOf n ns = some ("outside" : Str) := fun hz' => by
        have : outs n ns = true := List.any_eq_true.mpr ⟨z, List.mem_of_getElem? hz, by simpa using hz'⟩
        rw [wordOf, if_neg ne, if_pos this]
      walk_at "rd"
      walk_at "if"
      · walk_at "rd"
        rename_i hz'
        rw [out (.inl hz')] at k
        exact k
      · walk_at "rd"
        walk_at "if"
        · walk_at "rd"
          rename_i hz'
          rw [out (.inr hz')] at k
          exact k
        · walk_at "rd"
          rename_i h1 h2
          refine ⟨rfl, ⟨_, rfl⟩, fun x hx => ?_⟩
          rw [List.take_add_one, hz] at hx
          rcases List.mem_append.mp hx with hx | hx
          · exact ok x hx
          · have : x = z := by simpa using hx
            omega
    · rintro σ' H' ⟨rfl, ⟨y2, rfl⟩, ok⟩
      rw [List.length_map, List.take_length] at ok
      have no : ¬ outs n ns = true := fun z => by
        obtain ⟨x, hx, e⟩ := List.any_eq_true.mp z
        exact ok x hx (by simpa using e)
      walk_at "rd"
      rw [List.length_map]
      refine lp_range2 (by omega) (fun i σ' H'' => H'' = H' ∧ (∃ y2 y3, σ' = [some (.int n), some (.ref a), y2, y3]) ∧ ∀ j x y, j < i → ns[j]? = some x → ns[j + 1]? = some y → x < y) ⟨rfl, ⟨_, _, rfl⟩, by omega⟩ ?_ ?_
      · rintro i σ' H'' hi ⟨rfl, ⟨y2, y3, rfl⟩, ok2⟩
        have i1 : ns[i]? = some ns[i] := List.getElem?_eq_getElem (by omega)
        have i2 : ns[i + 1]? = some ns[i + 1] := List.getElem?_eq_getElem (by omega)
        walk_at "rd"
        rw [show (1 : Int) + (i : Int) - 1 = (i : Int) by omega]
        with_reducible apply o_ixT hs (atI_ints i1)
        walk_at "rd"
        rw [show (1 : Int) + (i : Int) = ((i + 1 : Nat) : Int) by omega]
        with_reducible apply o_ixT hs (atI_ints i2)
        walk_at "rd"
        walk_at "if"
        · rename_i hd
          walk_at "rd"
          have : desc ns = true := (desc_iff ns).mpr ⟨i, _, _, i1, i2, hd⟩
          rw [wordOf, if_neg ne, if_neg no, if_pos this] at k
          exact k
        · rename_i hd
          walk_at "rd"
          refine ⟨rfl, ⟨_, _, rfl⟩, fun j x y hj h1 h2 => ?_⟩
          by_cases e : j = i
          · subst e
            rw [i1] at h1
            rw [i2] at h2
            have a1 := Option.some.inj h1
            have a2 := Option.some.inj h2
            omega
          · exact ok2 j x y (by omega) h1 h2
      · rintro σ' H'' ⟨rfl, ⟨y2, y3, rfl⟩, ok2⟩
        walk_at "rd"
        have : ¬ desc ns = true := fun z => by
          obtain ⟨j, x, y, h1, h2, h3⟩ := (desc_iff ns).mp z
          have := ok2 j x y (by
            have := (List.getElem?_eq_some_iff.mp h2).1
            omega) h1 h2
          omega
        rw [wordOf, if_neg ne, if_neg no, if_neg this] at k
        exact k
def faultOf (n : Int) : List (List Int) → List (List Int) → Nat → Option (Nat × Str)
  | [], _, _ => none
  | d :: r, known, at' => match wordOf n d with
    | some w => some (at', w)
    | none => if d ∈ known then some (at', "again") else faultOf n r (known ++ [d]) (at' + 1)
def FaultV (F : Hp) (v : V) : Option (Nat × Str) → Prop
  | none => v = .non
  | some (j, w) => ∃ t, v = .ref t ∧ F t = some (.tup [.int (j : Nat), .str w])
def keyI (d : List Int) : List Key := d.map Sum.inl
theorem keyI_inj {a b : List Int} (h : keyI a = keyI b) : a = b := by
  have := congrArg (List.map kV) h
  unfold keyI at this
  rw [kv_ints, kv_ints] at this
  exact map_V_inj this
theorem known_iff {kvs : List (List Key × V)} {ks : List (List Int)} (h : kvs.map (·.1) = ks.map keyI) (d : List Int) : (valV kvs (keyI d)).isSome = decide (d ∈ ks) := by
  rw [← valV_any]
  have : (kvs.any fun kv => decide (kv.1 = keyI d)) = ((kvs.map (·.1)).any fun x => decide (x = keyI d)) := by
    rw [List.any_map]
    rfl
  rw [this, h, List.any_map]
  by_cases hd : d ∈ ks
  · rw [decide_eq_true hd]
    exact List.any_eq_true.mpr ⟨d, hd, decide_eq_true rfl⟩
  · rw [decide_eq_false hd]
    refine List.any_eq_false.mpr fun x hx e => hd ?_
    have := keyI_inj (of_decide_eq_true e)
    rwa [← this]
inductive q_fault (K : PySem.W.Frag) (ad : Ad) : V → V → Hp → VK → Prop
  | mk {n : Int} {a : Addr} {vs : List V} {dss : List (List Int)} {F H : Hp} {Q : VK} (hF : Same F H) (hs : SqL K H a vs) (ts : TIs F vs dss) (hl : dss.length ≤ 1000) (hd : ∀ d ∈ dss, d.length ≤ 1000)
    (k : ∀ v F' H', Gr M0 F H F' H' → FaultV F' v (faultOf n dss [] 0) → Q v H') : q_fault K ad (.int n) (.ref a) H Q
def sp_fault (K : PySem.W.Frag) (ad : Ad) : Sp := fun vs H Q _ => match vs with | [x0, x1] => q_fault K ad x0 x1 H Q | _ => False
theorem c_fault {K : PySem.W.Frag} {ad : Ad} {x0 x1 : V} {H : Hp} {Q : VK} {E : XK} (h : q_fault K ad x0 x1 H Q) : sp_fault K ad ([x0, x1] ++ []) H Q E := h
theorem n_fault {K : PySem.W.Frag} {ad : Ad} {vs : List V} {H : Hp} {Q : VK} {E : XK} (h : sp_fault K ad vs H Q E) : ∃ x0 x1, vs = [x0, x1] ∧ q_fault K ad x0 x1 H Q := match vs, h with | [x0, x1], h => ⟨x0, x1, rfl, h⟩
def t_fault (K : PySem.W.Frag) (ad : Ad) : TS := (tSeq (tAsg tDNewT (gName 2))
    (tSeq (tFor (iEnum K (tCons (tVar 1) tNil)) (gTup K 2 (gCons (gName 3) (gCons (gName 4) gNil)))
    (tSeq (tAsg (tCall (sp_word_of K ad) [] E0 (tCons (tVar 0) (tCons (tVar 4) tNil))) (gName 5))
    (tSeq (tIfS (tAnd (tTest (tOp zIsN (tVar 5) (tC .non))) (tB (tDIn (tVar 4) (tVar 2)))) (tAsg (tC (.str "again")) (gName 5)) tNext)
    (tSeq (tIfS (tTest (tOp zNotN (tVar 5) (tC .non))) (tRet (tTup (tCons (tVar 3) (tCons (tVar 5) tNil)))) tNext)
    (sDPut (tVar 2) (tVar 4) (tC (.bl true)))))))
    (tRet (tC .non))))
theorem w_fault {K : PySem.W.Frag} {ad : Ad} {x0 x1 : V} {H : Hp} {Q : VK} (h : q_fault K ad x0 x1 H Q) : t_fault K ad ⟨fun _ H' => Q .non H', Q, fun _ _ => False, fun _ _ => False⟩ [some x0, some x1, none, none, none, none] H := by
  cases h with
  | @mk n a vs dss F _ _ hF hs ts hl hd k =>
    have lv : vs.length = dss.length := ts.length
    unfold t_fault
    walk_at "rd"
    intro dk nk
    walk_at "rd"
    have fk : F dk = none := fresh_F hF nk
    refine lp_enum (Same.seq ((Gr.refl (M := M0) hF).add nk).same hs) (fun i σ' H' => ∃ (y3 y4 y5 : Option V) (kvs : List (List Key × V)), σ' = [some (.int n), some (.ref a), some (.ref dk), y3, y4, y5] ∧ H' dk = some (.dT kvs) ∧
      kvs.map (·.1) = (dss.take i).map keyI ∧ faultOf n dss [] 0 = faultOf n (dss.drop i) (dss.take i) i ∧ Gr M0 F H F H') ?_ ?_ ?_ ?_
    · exact ⟨_, _, _, [], rfl, upd_same, rfl, rfl, (Gr.refl hF).add nk⟩
    · rintro i σ' H' hi ⟨y3, y4, y5, kvs, rfl, ek, ks, ef, G⟩
      exact Same.seq G.same hs
    · rintro i x σ' H' q hx ⟨y3, y4, y5, kvs, rfl, ek, ks, ef, G⟩ nq
      obtain ⟨ds, hds, td⟩ := ts.get hx
      obtain ⟨t, rfl, et⟩ := td
      have ilt : i < dss.length := (List.getElem?_eq_some_iff.mp hds).1
      have kl : kvs.length = i := by
        have := congrArg List.length ks
        rw [List.length_map, List.length_map, List.length_take] at this
        omega
      have G2 := G.add nq (o := .tup [.int (i : Int), .ref t])
      have ek2 : (upd H' q (.tup [.int (i : Int), .ref t])) dk = some (.dT kvs) := by walk_at "at"
      have et2 := G2.fh _ _ et
      have dr : dss.drop i = ds :: dss.drop (i + 1) := by
        rw [List.drop_eq_getElem_cons ilt, (List.getElem?_eq_some_iff.mp hds).2]
      have tk : dss.take (i + 1) = dss.take i ++ [ds] := by
        rw [List.take_add_one, hds]
        rfl
      rw [dr] at ef
      walk_at "rd"
      apply c_word_of
      refine q_word_of.mk (SqT.of et2) (hd ds (List.mem_of_getElem? hds)) ?_
      cases e : wordOf n ds with
      | some w =>
        have ef' : faultOf n dss [] 0 = some (i, w) := by
          rw [ef, faultOf, e]
        rw [ef'] at k
        dsimp only [vO]
        walk_at "rd"
        refine o_new (by walk_at "len") fun u nu => ?_
        walk_at "rd"
        exact k _ _ _ (G2.addF nu fun z => z) ⟨u, rfl, upd_same⟩
      | none =>
        dsimp only [vO]
        walk_at "rd"
        refine din_T ek2 (et2.trans (by rw [keyI, kv_ints])) (ks := keyI ds) ?_
        rw [known_iff ks]
        walk_at "rd"
        walk_at "if"
        · rename_i hk
          have ef' : faultOf n dss [] 0 = some (i, ("again" : Str)) := by
            rw [ef, faultOf, e]
            simp only [hk, if_true]
          rw [ef'] at k
          walk_at "rd"
          refine o_new (by walk_at "len") fun u nu => ?_
          walk_at "rd"
          exact k _ _ _ (G2.addF nu fun z => z) ⟨u, rfl, upd_same⟩
        · rename_i hk
          walk_at "rd"
          refine dput_T ek2 (et2.trans (by rw [keyI, kv_ints])) (ks := keyI ds) (by walk_at "len") ?_
          have new : valV kvs (keyI ds) = none := by
            have := known_iff ks ds
            rw [decide_eq_false hk] at this
            exact Option.isSome_eq_false_iff.mp this |> Option.isNone_iff_eq_none.mp
          refine ⟨_, _, _, _, rfl, upd_same, ?_, ?_, G2.own fk nk⟩
          · rw [putK_new _ new, List.map_append, ks, tk, List.map_append]
            rfl
          · rw [ef, faultOf, e, tk]
            simp only [hk, if_false]
    · rintro σ' H' ⟨y3, y4, y5, kvs, rfl, ek, ks, ef, G⟩
      walk_at "rd"
      rw [lv, List.drop_length, faultOf] at ef
      rw [ef] at k
      exact k _ _ _ G rfl

theorem well_word {m : Int} {d : List Int} (h : Well m d) : wordOf m d = none := by
  rw [wordOf, if_neg h.ne, if_neg, if_neg]
  · intro z
    obtain ⟨j, x, y, h1, h2, h3⟩ := (desc_iff d).mp z
    obtain ⟨l1, e1⟩ := List.getElem?_eq_some_iff.mp h1
    obtain ⟨l2, e2⟩ := List.getElem?_eq_some_iff.mp h2
    have := List.pairwise_iff_getElem.mp h.up j (j + 1) l1 l2 (by omega)
    omega
  · intro z
    obtain ⟨x, hx, e⟩ := List.any_eq_true.mp z
    have := h.within x hx
    have e' : x < 0 ∨ m ≤ x := by simpa using e
    omega
theorem well_fault {m : Int} : ∀ (dss known : List (List Int)) (i : Nat), (∀ d ∈ dss, Well m d) → dss.Nodup → (∀ d ∈ dss, d ∉ known) → faultOf m dss known i = none
  | [], _, _, _, _, _ => rfl
  | d :: r, known, i, hw, nd, nk => by
    rw [faultOf, well_word (hw d List.mem_cons_self)]
    simp only [nk d List.mem_cons_self, if_false]
    have nd' := List.nodup_cons.mp nd
    exact well_fault r _ _ (fun x hx => hw x (List.mem_cons_of_mem _ hx)) nd'.2 fun x hx z => by
      rcases List.mem_append.mp z with z | z
      · exact nk x (List.mem_cons_of_mem _ hx) z
      · rw [List.mem_singleton.mp z] at hx
        exact nd'.1 hx
inductive q_looked (K : PySem.W.Frag) (ad : Ad) : V → V → Hp → VK → Prop
  | mk {n : Int} {a : Addr} {vs : List V} {dss : List (List Int)} {F H : Hp} {Q : VK} (h1 : 1 ≤ n) (h2 : n ≤ 60) (hF : Same F H) (hs : SqL K H a vs) (ts : TIs F vs dss) (hl : dss.length ≤ 200) (hd : ∀ d ∈ dss, Well n d) (nd : dss.Nodup)
    (k : ∀ F' H', Gr M0 F H F' H' → Q .non H') : q_looked K ad (.int n) (.ref a) H Q
def sp_looked (K : PySem.W.Frag) (ad : Ad) : Sp := fun vs H Q _ => match vs with | [x0, x1] => q_looked K ad x0 x1 H Q | _ => False
theorem c_looked {K : PySem.W.Frag} {ad : Ad} {x0 x1 : V} {H : Hp} {Q : VK} {E : XK} (h : q_looked K ad x0 x1 H Q) : sp_looked K ad ([x0, x1] ++ []) H Q E := h
theorem n_looked {K : PySem.W.Frag} {ad : Ad} {vs : List V} {H : Hp} {Q : VK} {E : XK} (h : sp_looked K ad vs H Q E) : ∃ x0 x1, vs = [x0, x1] ∧ q_looked K ad x0 x1 H Q := match vs, h with | [x0, x1], h => ⟨x0, x1, rfl, h⟩
def t_looked (K : PySem.W.Frag) (ad : Ad) : TS := (tSeq (tIfS (tOr (tTest (tOp (zLt K) (tVar 0) (tC (.int 1)))) (tTest (tOp zGt (tVar 0) (tC (.int 60))))) tNever tNext)
    (tSeq (tIfS (tTest (tOp zGt (tCB (zLen K) (tCons (tVar 1) tNil)) (tC (.int 200)))) tNever tNext)
    (tSeq (tAsg (tCall (sp_fault K ad) [] E0 (tCons (tVar 0) (tCons (tVar 1) tNil))) (gName 2))
    (tIfS (tTest (tOp zNotN (tVar 2) (tC .non))) tNever tNext))))
theorem w_looked {K : PySem.W.Frag} {ad : Ad} {x0 x1 : V} {H : Hp} {Q : VK} (h : q_looked K ad x0 x1 H Q) : t_looked K ad ⟨fun _ H' => Q .non H', Q, fun _ _ => False, fun _ _ => False⟩ [some x0, some x1, none] H := by
  cases h with
  | @mk n a vs dss F _ _ h1 h2 hF hs ts hl hd nd k =>
    have lv : vs.length = dss.length := ts.length
    unfold t_looked
    walk_at "rd"
    apply c_fault
    refine q_fault.mk hF hs ts (by omega) (fun d h => by have := (hd d h).few; omega) fun v F1 H1 g1 hv => ?_
    rw [well_fault dss [] 0 hd nd (by simp)] at hv
    obtain rfl : v = .non := hv
    walk_at "rd"
    exact k _ _ g1

theorem well_ge {m : Int} {d : List Int} (h : Well m d) : ∀ x ∈ d, 0 ≤ x := fun x hx => (h.within x hx).1
theorem stab_TIn {f : Nat → List Int → Prop} : Stab fun i y H => ∃ ns, f i ns ∧ TI H y ns := stab_TI
theorem bits_small {m : Int} {d : List Int} (hm : m ≤ 60) (h : Well m d) : bitsN d < 2 ^ 1000 := by
  have := bitsN_lt (m := 60) (l := d) fun x hx => ⟨(h.within x hx).1, by have := (h.within x hx).2; omega⟩
  exact Nat.lt_of_lt_of_le this (Nat.pow_le_pow_right (by decide) (by decide))
/-- the list of bits of the sets, made by a comprehension -/
theorem rows_of {dss : List (List Int)} {ys : List V} (l : ys.length = dss.length) (h : ∀ (i : Nat) (y : V), ys[i]? = some y → ∃ d, dss[i]? = some d ∧ y = nV (bitsN d)) : ys = (dss.map bitsN).map nV := ys_of (by rw [List.length_map, List.length_map, l]) fun i y e => by
  obtain ⟨d, hd, rfl⟩ := h i y e
  rw [List.getElem?_map, List.getElem?_map, hd]
  rfl

/-! ### joined -/
def TF (H0 H : Hp) (v : V) (d : List Int) : Prop := ∃ t, v = .ref t ∧ H0 t = none ∧ H t = some (.tup (d.map V.int))
theorem TF.mono {H0 H H' : Hp} {v : V} {d : List Int} (s : Same H H') (h : TF H0 H v d) : TF H0 H' v d := by
  obtain ⟨t, e, n, x⟩ := h
  exact ⟨t, e, n, s _ _ x⟩
theorem TF.put {H0 H : Hp} {v : V} {d : List Int} {D : Addr} {o : HO} {acc : List V} (e : H D = some (.lst acc)) (h : TF H0 H v d) : TF H0 (upd H D o) v d := by
  obtain ⟨t, et, n, x⟩ := h
  refine ⟨t, et, n, ?_⟩
  rw [upd_ne]
  · exact x
  · intro z
    rw [z, e] at x
    cases x
theorem stab_TF {H0 : Hp} {f : Nat → List Int → Prop} : Stab fun i y H => ∃ ns, f i ns ∧ TF H0 H y ns := ⟨fun _ _ _ _ s ⟨ns, h, t⟩ => ⟨ns, h, t.mono s⟩, fun i y H1 D acc acc' e _ ⟨ns, h, t⟩ => ⟨ns, h, t.put e⟩⟩
abbrev TFs (H0 H : Hp) : List V → List (List Int) → Prop := Paired (TF H0 H)
theorem TFs.mono {H0 H H' : Hp} (s : Same H H') {vs : List V} {ds : List (List Int)} (h : TFs H0 H vs ds) : TFs H0 H' vs ds := Paired.mono (fun _ _ => TF.mono s) h
theorem TFs.put {H0 H : Hp} {D : Addr} {o : HO} {acc : List V} (e : H D = some (.lst acc)) {vs : List V} {ds : List (List Int)} (h : TFs H0 H vs ds) : TFs H0 (upd H D o) vs ds := Paired.mono (fun _ _ => TF.put e) h
theorem pr_app {α β : Type} {R : α → β → Prop} {a c : List α} {b d : List β} (h : Paired R a b) (k : Paired R c d) : Paired R (a ++ c) (b ++ d) := by
  induction h with
  | nil => exact k
  | cons x _ ih => exact .cons x ih
theorem TFs.get : ∀ {H0 H : Hp} {vs : List V} {nss : List (List Int)} {i : Nat} {v : V}, TFs H0 H vs nss → vs[i]? = some v → ∃ ns, nss[i]? = some ns ∧ TF H0 H v ns
  | _, _, _, _, i, v, h, e => L2.paired_get h e
def restOf (at' : Int) (d : List Int) : List Int := (d.filter fun z => !decide (z = at')).map fun z => z - if decide (at' < z) = true then 1 else 0
def endOf (n : Int) (e : List Int) : List Int := e.map fun z => n - 1 + z
def jOne (n at' : Int) (es : List (List Int)) (d : List Int) : List (List Int) := if at' ∈ d then es.map fun e => restOf at' d ++ endOf n e else [restOf at' d]
def joinS (n at' : Int) (es dss : List (List Int)) : List (List Int) := dss.flatMap (jOne n at' es)
theorem joinS_snoc {n at' : Int} {es dss : List (List Int)} {d : List Int} {i : Nat} (h : dss[i]? = some d) : joinS n at' es (dss.take (i + 1)) = joinS n at' es (dss.take i) ++ jOne n at' es d := by
  rw [List.take_add_one, h, joinS, List.flatMap_append]
  simp [joinS]
theorem joinS_many (n : Int) {at' : Int} {es : List (List Int)} : ∀ dss : List (List Int), (dss.map fun d => if at' ∈ d then (es.length : Int) else 1).sum = ((joinS n at' es dss).length : Nat)
  | [] => rfl
  | d :: r => by
    rw [List.map_cons, List.sum_cons, joinS_many n r, joinS, joinS, List.flatMap_cons, List.length_append, jOne]
    split
    · rw [List.length_map]
      omega
    · rw [List.length_singleton]
      omega
theorem joinS_le {n at' : Int} {es : List (List Int)} (dss : List (List Int)) (i : Nat) : (joinS n at' es (dss.take i)).length ≤ (joinS n at' es dss).length := by
  have : joinS n at' es dss = joinS n at' es (dss.take i) ++ joinS n at' es (dss.drop i) := by
    rw [joinS, joinS, joinS, ← List.flatMap_append, List.take_append_drop]
  rw [this, List.length_append]
  omega
theorem rest_fil (at' : Int) (d : List Int) : ((d.filter fun z => !decide (z = at')).map fun z => V.int (z - if decide (at' < z) = true then 1 else 0)) = (restOf at' d).map V.int := by
  rw [restOf, List.map_map]
  rfl

inductive q_joined (K : PySem.W.Frag) (ad : Ad) : V → V → V → V → V → Hp → VK → XK → Prop
  | mk {n m at' : Int} {a b : Addr} {vs ws : List V} {dss ess : List (List Int)} {F H : Hp} {Q : VK} {E : XK} (h1 : 1 ≤ n) (h2 : n ≤ 60) (m1 : 1 ≤ m) (m2 : m ≤ 60) (a0 : 0 ≤ at') (a1 : at' < n) (hnm : n - 1 + m ≤ 60) (hF : Same F H)
    (hs : SqL K H a vs) (ts : TIs F vs dss) (hl : dss.length ≤ 200) (hd : ∀ d ∈ dss, Well n d) (nd : dss.Nodup) (hs2 : SqL K H b ws) (ts2 : TIs F ws ess) (hl2 : ess.length ≤ 200) (hd2 : ∀ d ∈ ess, Well m d) (nd2 : ess.Nodup)
    (hj : (joinS n at' ess dss).length ≤ 200) (k : ∀ D ys F' H', Fresh H D → H' D = some (.lst ys) → TIs F' ys (joinS n at' ess dss) → Gr M0 F H F' H' → Q (.ref D) H') : q_joined K ad (.int n) (.ref a) (.int at') (.int m) (.ref b) H Q E
  | many {n m at' : Int} {a b : Addr} {vs ws : List V} {dss ess : List (List Int)} {F H : Hp} {Q : VK} {E : XK} (X : Xf K ad) (h1 : 1 ≤ n) (h2 : n ≤ 60) (m1 : 1 ≤ m) (m2 : m ≤ 60) (a0 : 0 ≤ at') (a1 : at' < n) (hnm : n - 1 + m ≤ 60) (hF : Same F H)
    (hs : SqL K H a vs) (ts : TIs F vs dss) (hl : dss.length ≤ 200) (hd : ∀ d ∈ dss, Well n d) (nd : dss.Nodup) (hs2 : SqL K H b ws) (ts2 : TIs F ws ess) (hl2 : ess.length ≤ 200) (hd2 : ∀ d ∈ ess, Well m d) (nd2 : ess.Nodup)
    (hj : 200 < (joinS n at' ess dss).length) (k : ∀ d H', Same H H' → Fresh H' d → E (.ref ad.TooMany) (some d) (upd H' d (.xd [("what", .str "sets")]))) : q_joined K ad (.int n) (.ref a) (.int at') (.int m) (.ref b) H Q E
def sp_joined (K : PySem.W.Frag) (ad : Ad) : Sp := fun vs H Q E => match vs with | [x0, x1, x2, x3, x4] => q_joined K ad x0 x1 x2 x3 x4 H Q E | _ => False
theorem c_joined {K : PySem.W.Frag} {ad : Ad} {x0 x1 x2 x3 x4 : V} {H : Hp} {Q : VK} {E : XK} (h : q_joined K ad x0 x1 x2 x3 x4 H Q E) : sp_joined K ad ([x0, x1, x2, x3, x4] ++ []) H Q E := h
theorem d_joined {K : PySem.W.Frag} {ad : Ad} {x0 x1 x2 x3 x4 : V} {H : Hp} {Q : VK} {E : XK} (h : q_joined K ad x0 x1 x2 x3 x4 H Q E) : sp_joined K ad [x0, x1, x2, x3, x4] H Q E := h
theorem n_joined {K : PySem.W.Frag} {ad : Ad} {vs : List V} {H : Hp} {Q : VK} {E : XK} (h : sp_joined K ad vs H Q E) : ∃ x0 x1 x2 x3 x4, vs = [x0, x1, x2, x3, x4] ∧ q_joined K ad x0 x1 x2 x3 x4 H Q E := match vs, h with | [x0, x1, x2, x3, x4], h => ⟨x0, x1, x2, x3, x4, rfl, h⟩
def t_joined (K : PySem.W.Frag) (ad : Ad) (E : XK) : TS := (tSeq (tDrop (tCall (sp_looked K ad) [] E0 (tCons (tVar 0) (tCons (tVar 1) tNil))))
    (tSeq (tDrop (tCall (sp_looked K ad) [] E0 (tCons (tVar 3) (tCons (tVar 4) tNil))))
    (tSeq (tIfS (tOr (tTest (tOp (zLt K) (tVar 2) (tC (.int 0)))) (tTest (tOp zGe (tVar 2) (tVar 0)))) (tRaise (tMkO ad.NoSeat (sp_NoSeat___init__ K ad) [] (tCons (tVar 2) tNil)) (fun cls d _ H => E cls d H)) tNext)
    (tSeq (tIfS (tTest (tOp zGt (tOp (zAdd K) (tOp zSub (tVar 0) (tC (.int 1))) (tVar 3)) (tC (.int 60)))) (tRaise (tMkO ad.TooMany (sp_TooMany___init__ K ad) [] (tCons (tC (.str "seats")) tNil)) (fun cls d _ H => E cls d H)) tNext)
    (tSeq (tAsg (tCB (rSum K) (tCons (tLc (iList K (tVar 1)) (gName 5) tYes (tIf (tTest (tOp (zIn K) (tVar 2) (tVar 5))) (tCB (zLen K) (tCons (tVar 4) tNil)) (tC (.int 1))) [5]) tNil)) (gName 6))
    (tSeq (tIfS (tTest (tOp zGt (tVar 6) (tC (.int 200)))) (tRaise (tMkO ad.TooMany (sp_TooMany___init__ K ad) [] (tCons (tC (.str "sets")) tNil)) (fun cls d _ H => E cls d H)) tNext)
    (tSeq (tAsg (tLc (iList K (tVar 4)) (gName 5) tYes (tCB (zTuple K) (tCons (tLc (iTup K (tVar 5)) (gName 10) tYes (tOp (zAdd K) (tOp zSub (tVar 0) (tC (.int 1))) (tVar 10)) [10]) tNil)) [5]) (gName 7))
    (tSeq (tAsg (tLst tNil) (gName 8))
    (tSeq (tFor (iList K (tVar 1)) (gName 5)
    (tSeq (tAsg (tCB (zTuple K) (tCons (tLc (iTup K (tVar 5)) (gName 10) (tTest (tOp (zNe K) (tVar 10) (tVar 2))) (tOp zSub (tVar 10) (tCB zInt1 (tCons (tOp zGt (tVar 10) (tVar 2)) tNil))) [10]) tNil)) (gName 9))
    (tIfS (tTest (tOp (zIn K) (tVar 2) (tVar 5))) (tDrop (tBM K "list" rExtend (tVar 8) (tCons (tLc (iList K (tVar 7)) (gName 11) tYes (tOp (zAdd K) (tVar 9) (tVar 11)) [11]) tNil))) (tDrop (tBM K "list" rAppend (tVar 8) (tCons (tVar 9) tNil))))))
    (tRet (tVar 8)))))))))))
theorem w_joined {K : PySem.W.Frag} {ad : Ad} {x0 x1 x2 x3 x4 : V} {H : Hp} {Q : VK} {E : XK} (h : q_joined K ad x0 x1 x2 x3 x4 H Q E) : t_joined K ad E ⟨fun _ H' => Q .non H', Q, fun _ _ => False, fun _ _ => False⟩ [some x0, some x1, some x2, some x3, some x4, none, none, none, none, none, none, none] H := by
  cases h with
  | @mk n m at' a b vs ws dss ess F _ _ _ h1 h2 m1 m2 a0 a1 hnm hF hs ts hl hd nd hs2 ts2 hl2 hd2 nd2 hj k =>
    have lv : vs.length = dss.length := ts.length
    have lw : ws.length = ess.length := ts2.length
    unfold t_joined
    walk_at "rd"
    apply c_looked
    refine q_looked.mk h1 h2 hF hs ts hl hd nd fun F1 H1 g1 => ?_
    walk_at "rd"
    apply c_looked
    refine q_looked.mk m1 m2 g1.fh (Same.seq g1.same hs2) (ts2.mono g1.ff) hl2 hd2 nd2 fun F2 H2 g2 => ?_
    have S2 : Same H H2 := g1.same.trans g2.same
    clear g1 g2
    walk_at "rd"
    refine lcL_rel (fun i y _ => ∃ d, dss[i]? = some d ∧ y = .int (if at' ∈ d then (ess.length : Int) else 1)) stab_val (Same.seq S2 hs) (by omega) (fun i x hx H3 Q3 s3 q => ?_) (fun D3 H3 ys n3 s3 eD3 ly hy => ?_)
    · obtain ⟨d, hd1, t, rfl, et⟩ := ts.get hx
      have hs3 := Same.seq (S2.trans s3) hs2
      walk_at "rd"
      refine o_inI (.inr (SqT.of (s3 _ _ (S2 _ _ (hF _ _ et))))) ?_
      walk_at "rd"
      walk_at "if"
      · rename_i hin
        walk_at "rd"
        rw [lw]
        exact q _ _ (Same.refl _) (by intro b z; cases z) ⟨d, hd1, by rw [if_pos hin]⟩
      · rename_i hin
        walk_at "rd"
        exact q _ _ (Same.refl _) (by intro b z; cases z) ⟨d, hd1, by rw [if_neg hin]⟩
    have e0 : ys = (dss.map fun d => if at' ∈ d then (ess.length : Int) else 1).map V.int := ys_of (by rw [ly, lv, List.length_map, List.length_map]) fun i y e => by
      obtain ⟨d, h, rfl⟩ := hy i y e
      rw [List.getElem?_map, List.getElem?_map, h]
      rfl
    subst e0
    have S3 := S2.trans s3
    walk_at "rd"
    rw [joinS_many n]
    walk_at "rd"
    refine lcL_rel (fun i y H' => ∃ ns, ess[i]?.map (endOf n) = some ns ∧ TF H H' y ns) stab_TF (Same.seq S3 hs2) (by omega) (fun i x hx H4 Q4 s4 q => ?_) (fun E H4 zs n4 s4 eE lz hz => ?_)
    · obtain ⟨e, he1, t, rfl, et⟩ := ts2.get hx
      have we := hd2 e (List.mem_of_getElem? he1)
      have S4 := S3.trans s4
      walk_at "rd"
      refine lcT_igrow (fun _ => true) (fun z => V.int (n - 1 + z)) (SqT.of (S4 _ _ (hF _ _ et))) (by have := we.few; omega) (fun x hx H5 QB s5 q5 => ?_) (fun x hx H5 Q5 s5 _ q5 => ?_) (fun D5 H5 n5 s5 eD5 => ?_)
      · exact q5 _ (Same.refl _)
      · walk_at "rd"
        exact q5 _ (Same.refl _)
      · rw [List.filter_eq_self.mpr fun _ _ => rfl] at eD5
        walk_at "rd"
        refine o_tupleL (SqL.of eD5) fun u nu => ?_
        have s6 : Same H5 (upd H5 u (.tup (e.map fun z => V.int (n - 1 + z)))) := up_keep nu
        refine q _ _ (s5.trans s6) (fun b z => by cases z; exact .inl (fresh_back s5 nu)) ⟨endOf n e, by rw [he1]; rfl, u, rfl, fresh_back (S4.trans s5) nu, ?_⟩
        rw [upd_same, endOf, List.map_map]
        rfl
    have S4 := S3.trans s4
    have tz : TFs H H4 zs (ess.map (endOf n)) := paired_of (by rw [lz, lw, List.length_map]) fun i y e => by
      obtain ⟨ns, h, t⟩ := hz i y e
      exact ⟨ns, by rw [List.getElem?_map]; exact h, t⟩
    walk_at "rd"
    refine o_new (Nat.zero_le _) fun D nD => ?_
    have s5 : Same H4 (upd H4 D (.lst [])) := up_keep nD
    have eD := upd_same (H := H4) (a := D) (o := .lst [])
    generalize upd H4 D (.lst []) = H5 at *
    walk_at "rd"
    refine lp_list (Same.seq (S4.trans s5) hs) (fun i σ' H' => (∃ y5 y9, σ' = [some (.int n), some (.ref a), some (.int at'), some (.int m), some (.ref b), y5, some (.int ((joinS n at' ess dss).length : Nat)), some (.ref E), some (.ref D), y9, none, none]) ∧ Same H4 H' ∧
      ∃ ys, H' D = some (.lst ys) ∧ TFs H H' ys (joinS n at' ess (dss.take i))) ⟨⟨_, _, rfl⟩, s5, [], eD, .nil⟩ (fun i σ' H' _ h => Same.seq (S4.trans h.2.1) hs) ?_ ?_
    · rintro i x σ' H6 hx ⟨⟨y5, y9, rfl⟩, s6, ys, eD6, ty⟩
      obtain ⟨d, hd1, t, rfl, et⟩ := ts.get hx
      have wd := hd d (List.mem_of_getElem? hd1)
      have S6 := S4.trans s6
      have et6 := S6 _ _ (hF _ _ et)
      have jl := joinS_le (n := n) (at' := at') (es := ess) dss (i + 1)
      rw [joinS_snoc hd1, List.length_append] at jl
      walk_at "rd"
      refine lcT_igrow (fun z => !decide (z = at')) (fun z => V.int (z - if decide (at' < z) = true then 1 else 0)) (SqT.of et6) (by have := wd.few; omega) (fun x hx H7 QB s7 q7 => ?_) (fun x hx H7 Q7 s7 _ q7 => ?_) (fun D7 H7 n7 s7 eD7 => ?_)
      · walk_at "rd"
        exact q7 _ (Same.refl _)
      · walk_at "rd"
        exact q7 _ (Same.refl _)
      · rw [rest_fil] at eD7
        walk_at "rd"
        refine o_tupleL (SqL.of eD7) fun u nu => ?_
        have s8 := s7.trans (up_keep nu (o := .tup ((restOf at' d).map V.int)))
        have eu := upd_same (H := H7) (a := u) (o := .tup ((restOf at' d).map V.int))
        have hu := fresh_back (S6.trans s7) nu
        generalize upd H7 u (.tup ((restOf at' d).map V.int)) = H8 at *
        walk_at "rd"
        refine o_inI (.inr (SqT.of (s8 _ _ et6))) ?_
        walk_at "rd"
        walk_at "if"
        · rename_i hin
          have jo : jOne n at' ess d = ess.map fun e => restOf at' d ++ endOf n e := if_pos hin
          rw [jo, List.length_map] at jl
          walk_at "rd"
          refine ⟨ty_list (SqL.of (s8 _ _ eD6)), ?_⟩
          walk_at "rd"
          refine lcL_rel (fun i y H' => ∃ ns, (ess[i]?.map fun e => restOf at' d ++ endOf n e) = some ns ∧ TF H H' y ns) stab_TF (SqL.of ((s6.trans s8) _ _ eE)) (by omega) (fun j x hx H9 Q9 s9 q => ?_) (fun G H9 ws' n9 s9 eG lG hG => ?_)
          · obtain ⟨_, hz1, v, rfl, nv, tv8⟩ := TFs.get (tz.mono (s6.trans s8)) hx
            have ev := s9 _ _ tv8
            rw [List.getElem?_map] at hz1
            obtain ⟨e, he1, rfl⟩ := Option.map_eq_some_iff.mp hz1
            have we := hd2 e (List.mem_of_getElem? he1)
            have le : (endOf n e).length ≤ 33 := by
              rw [endOf, List.length_map]
              exact we.few
            have lr : (restOf at' d).length ≤ 33 := by
              rw [restOf, List.length_map]
              exact Nat.le_trans (List.length_filter_le _ _) wd.few
            walk_at "rd"
            refine o_addT (SqT.of (s9 _ _ eu)) (SqT.of ev) (by rw [List.length_map, List.length_map, sizeLine_eq]; omega) (fun e0 => ?_) (fun _ e0 => ?_) (fun _ _ p np => ?_)
            · obtain ⟨oz, ez⟩ : ∃ o, H8 v = some o := ⟨_, tv8⟩
              refine q _ _ (Same.refl _) (fun b z => by cases z; exact .inr ⟨oz, ez⟩) ⟨_, by rw [he1]; rfl, v, rfl, nv, ?_⟩
              rw [ev, List.map_eq_nil_iff.mp e0]
              rfl
            · have := List.map_eq_nil_iff.mp (List.map_eq_nil_iff.mp e0)
              exact absurd this we.ne
            · have sa : Same H9 (upd H9 p (.tup ((restOf at' d).map V.int ++ (endOf n e).map V.int))) := up_keep np
              refine q _ _ sa (fun b z => by cases z; exact .inl np) ⟨_, by rw [he1]; rfl, p, rfl, fresh_back ((S6.trans s8).trans s9) np, ?_⟩
              rw [upd_same, List.map_append]
          · have tG : TFs H H9 ws' (ess.map fun e => restOf at' d ++ endOf n e) := paired_of (by rw [lG, tz.length, List.length_map, List.length_map]) fun i y e => by
              obtain ⟨ns, h, t⟩ := hG i y e
              exact ⟨ns, by rw [List.getElem?_map]; exact h, t⟩
            have eD9 := (s8.trans s9) _ _ eD6
            have ty9 := ty.mono (s8.trans s9)
            have nGD : G ≠ D := fun e => by
              rw [e, Fresh, s8 _ _ eD6] at n9
              cases n9
            walk_at "rd"
            refine m_ext eD9 eG (by rw [ty.length, tG.length, List.length_map, sizeLine_eq]; omega) ?_
            refine ⟨⟨_, _, rfl⟩, fun b o e => ?_, ys ++ ws', upd_same, ?_⟩
            · rw [upd_ne (ne_of_none e nD)]
              exact (s6.trans (s8.trans s9)) _ _ e
            · rw [joinS_snoc hd1, jo]
              exact pr_app (ty9.put eD9) (tG.put eD9)
        · rename_i hin
          have jo : jOne n at' ess d = [restOf at' d] := if_neg hin
          have eD8 := s8 _ _ eD6
          walk_at "rd"
          refine ⟨ty_list (SqL.of eD8), ?_⟩
          walk_at "rd"
          refine m_app eD8 (by rw [ty.length, sizeLine_eq]; omega) ?_
          refine ⟨⟨_, _, rfl⟩, fun b o e => ?_, ys ++ [.ref u], upd_same, ?_⟩
          · rw [upd_ne (ne_of_none e nD)]
            exact (s6.trans s8) _ _ e
          · rw [joinS_snoc hd1, jo]
            exact pr_app ((ty.mono s8).put eD8) (.cons (TF.put eD8 ⟨u, rfl, hu, eu⟩) .nil)
    · rintro σ' H6 ⟨⟨y5, y9, rfl⟩, s6, ys, eD6, ty⟩
      rw [lv, List.take_length] at ty
      have S6 := S4.trans s6
      have nDH : Fresh H D := fresh_back S4 nD
      obtain ⟨F', g, fD, ft⟩ := gr_of_same hF S6 nDH
      walk_at "rd"
      refine k D ys F' H6 nDH eD6 (Paired.mono (fun v d ⟨t, e, nt, et⟩ => ⟨t, e, ft t _ nt (fun z => ?_) et⟩) ty) g
      rw [z, eD6] at et
      cases et
  | @many n m at' a b vs ws dss ess F _ _ _ X h1 h2 m1 m2 a0 a1 hnm hF hs ts hl hd nd hs2 ts2 hl2 hd2 nd2 hj k =>
    have lv : vs.length = dss.length := ts.length
    have lw : ws.length = ess.length := ts2.length
    unfold t_joined
    walk_at "rd"
    apply c_looked
    refine q_looked.mk h1 h2 hF hs ts hl hd nd fun F1 H1 g1 => ?_
    walk_at "rd"
    apply c_looked
    refine q_looked.mk m1 m2 g1.fh (Same.seq g1.same hs2) (ts2.mono g1.ff) hl2 hd2 nd2 fun F2 H2 g2 => ?_
    have S2 : Same H H2 := g1.same.trans g2.same
    clear g1 g2
    walk_at "rd"
    refine lcL_rel (fun i y _ => ∃ d, dss[i]? = some d ∧ y = .int (if at' ∈ d then (ess.length : Int) else 1)) stab_val (Same.seq S2 hs) (by omega) (fun i x hx H3 Q3 s3 q => ?_) (fun D3 H3 ys n3 s3 eD3 ly hy => ?_)
    · obtain ⟨d, hd1, t, rfl, et⟩ := ts.get hx
      have hs3 := Same.seq (S2.trans s3) hs2
      walk_at "rd"
      refine o_inI (.inr (SqT.of (s3 _ _ (S2 _ _ (hF _ _ et))))) ?_
      walk_at "rd"
      walk_at "if"
      · rename_i hin
        walk_at "rd"
        rw [lw]
        exact q _ _ (Same.refl _) (by intro b z; cases z) ⟨d, hd1, by rw [if_pos hin]⟩
      · rename_i hin
        walk_at "rd"
        exact q _ _ (Same.refl _) (by intro b z; cases z) ⟨d, hd1, by rw [if_neg hin]⟩
    have e0 : ys = (dss.map fun d => if at' ∈ d then (ess.length : Int) else 1).map V.int := ys_of (by rw [ly, lv, List.length_map, List.length_map]) fun i y e => by
      obtain ⟨d, h, rfl⟩ := hy i y e
      rw [List.getElem?_map, List.getElem?_map, h]
      rfl
    subst e0
    have S3 := S2.trans s3
    walk_at "rd"
    rw [joinS_many n]
    walk_at "rd"
    exact mk_TooMany X fun d nd => k d _ S3 nd

/-! ### what a joined family is -/
def hasP (P : Int → Bool) (dss : List (List Int)) : Bool := dss.any fun d => d.all P
def SD (dss : List (List Int)) : Prop := ∀ P : Int → Bool, hasP P dss = !hasP (fun x => !P x) dss
def Meets (dss : List (List Int)) : Prop := ∀ d ∈ dss, ∀ e ∈ dss, ∃ x, x ∈ d ∧ x ∈ e
theorem SD.meets {dss : List (List Int)} (h : SD dss) : Meets dss := fun d hd e he => Classical.byContradiction fun no => by
  have z := h fun x => decide (x ∈ d)
  have h1 : hasP (fun x => decide (x ∈ d)) dss = true := List.any_eq_true.mpr ⟨d, hd, List.all_eq_true.mpr fun x hx => decide_eq_true hx⟩
  have h2 : hasP (fun x => !decide (x ∈ d)) dss = true := List.any_eq_true.mpr ⟨e, he, List.all_eq_true.mpr fun x hx => by
    rw [decide_eq_false fun hd => no ⟨x, hd, hx⟩]
    rfl⟩
  rw [h1, h2] at z
  cases z
def shf (at' z : Int) : Int := z - if decide (at' < z) = true then 1 else 0
theorem shf_lt {at' z : Int} (h : z < at') : shf at' z = z := by
  rw [shf, if_neg (by simp; omega)]
  omega
theorem shf_gt {at' z : Int} (h : at' < z) : shf at' z = z - 1 := by
  rw [shf, if_pos (by simp; omega)]
theorem shf_mono {at' x y : Int} (hx : x ≠ at') (hy : y ≠ at') (h : x < y) : shf at' x < shf at' y := by
  rcases Int.lt_or_gt_of_ne hx with a | a <;> rcases Int.lt_or_gt_of_ne hy with b | b
  · rw [shf_lt a, shf_lt b]
    exact h
  · rw [shf_lt a, shf_gt b]
    omega
  · omega
  · rw [shf_gt a, shf_gt b]
    omega
theorem shf_inj {at' x y : Int} (hx : x ≠ at') (hy : y ≠ at') (h : shf at' x = shf at' y) : x = y := by
  rcases Int.lt_trichotomy x y with a | a | a
  · have := shf_mono hx hy a
    omega
  · exact a
  · have := shf_mono hy hx a
    omega
theorem shf_in {n at' x : Int} (a0 : 0 ≤ at') (a1 : at' < n) (hx : x ≠ at') (h0 : 0 ≤ x) (h1 : x < n) : 0 ≤ shf at' x ∧ shf at' x < n - 1 := by
  rcases Int.lt_or_gt_of_ne hx with a | a
  · rw [shf_lt a]
    omega
  · rw [shf_gt a]
    omega
theorem mem_rest {at' y : Int} {d : List Int} : y ∈ restOf at' d ↔ ∃ z ∈ d, z ≠ at' ∧ shf at' z = y := by
  rw [restOf, List.mem_map]
  constructor
  · rintro ⟨z, hz, rfl⟩
    have := List.mem_filter.mp hz
    exact ⟨z, this.1, by simpa using this.2, rfl⟩
  · rintro ⟨z, hz, hn, rfl⟩
    exact ⟨z, List.mem_filter.mpr ⟨hz, by simpa using hn⟩, rfl⟩
theorem mem_rest' {at' z : Int} {d : List Int} (hz : z ≠ at') : shf at' z ∈ restOf at' d ↔ z ∈ d := by
  rw [mem_rest]
  constructor
  · rintro ⟨y, hy, ny, e⟩
    rw [← shf_inj ny hz e]
    exact hy
  · exact fun h => ⟨z, h, hz, rfl⟩
theorem mem_end {n y : Int} {e : List Int} : y ∈ endOf n e ↔ y - (n - 1) ∈ e := by
  rw [endOf, List.mem_map]
  constructor
  · rintro ⟨z, hz, rfl⟩
    rwa [show n - 1 + z - (n - 1) = z by omega]
  · exact fun h => ⟨_, h, by omega⟩
theorem mem_jOne {n at' : Int} {es : List (List Int)} {d s : List Int} : s ∈ jOne n at' es d ↔ (at' ∈ d ∧ ∃ e ∈ es, s = restOf at' d ++ endOf n e) ∨ (at' ∉ d ∧ s = restOf at' d) := by
  rw [jOne]
  split
  · rename_i h
    rw [List.mem_map]
    constructor
    · rintro ⟨e, he, rfl⟩
      exact .inl ⟨h, e, he, rfl⟩
    · rintro (⟨_, e, he, rfl⟩ | ⟨h', _⟩)
      · exact ⟨e, he, rfl⟩
      · exact absurd h h'
  · rename_i h
    rw [List.mem_singleton]
    constructor
    · exact fun e => .inr ⟨h, e⟩
    · rintro (⟨h', _⟩ | ⟨_, e⟩)
      · exact absurd h' h
      · exact e
theorem hasP_join {n at' : Int} {es dss : List (List Int)} (P : Int → Bool) : hasP P (joinS n at' es dss) = hasP (fun x => if x = at' then hasP (fun z => P (n - 1 + z)) es else P (shf at' x)) dss := by
  have one : ∀ d : List Int, (∃ s ∈ jOne n at' es d, ∀ x ∈ s, P x = true) ↔ ∀ x ∈ d, (if x = at' then hasP (fun z => P (n - 1 + z)) es else P (shf at' x)) = true := fun d => by
    constructor
    · rintro ⟨s, hs, hp⟩ x hx
      rcases mem_jOne.mp hs with ⟨_, e, he, rfl⟩ | ⟨nd, rfl⟩
      · split
        · exact List.any_eq_true.mpr ⟨e, he, List.all_eq_true.mpr fun z hz => hp _ (List.mem_append_right _ (mem_end.mpr (by rwa [show n - 1 + z - (n - 1) = z by omega])))⟩
        · rename_i ne
          exact hp _ (List.mem_append_left _ ((mem_rest' ne).mpr hx))
      · have ne : x ≠ at' := fun e => nd (e ▸ hx)
        rw [if_neg ne]
        exact hp _ ((mem_rest' ne).mpr hx)
    · intro h
      have hr : ∀ y ∈ restOf at' d, P y = true := fun y hy => by
        obtain ⟨z, hz, ne, rfl⟩ := mem_rest.mp hy
        have := h z hz
        rwa [if_neg ne] at this
      by_cases hin : at' ∈ d
      · have := h at' hin
        rw [if_pos rfl] at this
        obtain ⟨e, he, hp⟩ := List.any_eq_true.mp this
        refine ⟨_, mem_jOne.mpr (.inl ⟨hin, e, he, rfl⟩), fun x hx => ?_⟩
        rcases List.mem_append.mp hx with hx | hx
        · exact hr x hx
        · have := List.all_eq_true.mp hp _ (mem_end.mp hx)
          rwa [show n - 1 + (x - (n - 1)) = x by omega] at this
      · exact ⟨_, mem_jOne.mpr (.inr ⟨hin, rfl⟩), hr⟩
  refine Bool.eq_iff_iff.mpr ?_
  rw [hasP, hasP, List.any_eq_true, List.any_eq_true]
  constructor
  · rintro ⟨s, hs, hp⟩
    obtain ⟨d, hd, hs⟩ := List.mem_flatMap.mp hs
    exact ⟨d, hd, List.all_eq_true.mpr ((one d).mp ⟨s, hs, List.all_eq_true.mp hp⟩)⟩
  · rintro ⟨d, hd, hp⟩
    obtain ⟨s, hs, hp⟩ := (one d).mpr (List.all_eq_true.mp hp)
    exact ⟨s, List.mem_flatMap.mpr ⟨d, hd, hs⟩, List.all_eq_true.mpr hp⟩
theorem SD.join {n at' : Int} {es dss : List (List Int)} (h : SD dss) (k : SD es) : SD (joinS n at' es dss) := fun P => by
  rw [hasP_join, hasP_join, h]
  congr 2
  funext x
  split
  · exact (congrArg (! ·) (k fun z => P (n - 1 + z))).trans (Bool.not_not _)
  · rfl
theorem Meets.join {n m at' : Int} {es dss : List (List Int)} (h : Meets dss) (k : Meets es) : Meets (joinS n at' es dss) := fun s hs s' hs' => by
  obtain ⟨d, hd, hs⟩ := List.mem_flatMap.mp hs
  obtain ⟨d', hd', hs'⟩ := List.mem_flatMap.mp hs'
  have rst : ∀ {d s : List Int} {z : Int}, s ∈ jOne n at' es d → z ∈ d → z ≠ at' → shf at' z ∈ s := fun {d s z} hs hz ne => by
    rcases mem_jOne.mp hs with ⟨_, e, he, rfl⟩ | ⟨_, rfl⟩
    · exact List.mem_append_left _ ((mem_rest' ne).mpr hz)
    · exact (mem_rest' ne).mpr hz
  obtain ⟨z, hz, hz'⟩ := h d hd d' hd'
  by_cases e : z = at'
  · subst e
    rcases mem_jOne.mp hs with ⟨_, e, he, rfl⟩ | ⟨nd, _⟩
    · rcases mem_jOne.mp hs' with ⟨_, e', he', rfl⟩ | ⟨nd, _⟩
      · obtain ⟨w, hw, hw'⟩ := k e he e' he'
        have q : ∀ {l : List Int}, w ∈ l → n - 1 + w ∈ endOf n l := fun hl => mem_end.mpr (by rwa [show n - 1 + w - (n - 1) = w by omega])
        exact ⟨n - 1 + w, List.mem_append_right _ (q hw), List.mem_append_right _ (q hw')⟩
      · exact absurd hz' nd
    · exact absurd hz nd
  · exact ⟨_, rst hs hz e, rst hs' hz' e⟩
theorem rest_up {at' : Int} {d : List Int} (h : d.Pairwise (· < ·)) : (restOf at' d).Pairwise (· < ·) := by
  rw [restOf, List.pairwise_map]
  refine List.Pairwise.imp_of_mem (fun {x y} hx hy hxy => ?_) (h.filter _)
  exact shf_mono (by simpa using (List.mem_filter.mp hx).2) (by simpa using (List.mem_filter.mp hy).2) hxy
theorem join_well {n m at' : Int} {es dss : List (List Int)} {A B : Nat} (a0 : 0 ≤ at') (a1 : at' < n) (hd : ∀ d ∈ dss, Well n d ∧ d.length ≤ A) (he : ∀ e ∈ es, Well m e ∧ e.length ≤ B) (hAB : A + B ≤ 33) (m0 : 1 ≤ m) :
    ∀ s ∈ joinS n at' es dss, Well (n - 1 + m) s ∧ s.length ≤ A + B := fun s hs => by
  obtain ⟨d, hdm, hs⟩ := List.mem_flatMap.mp hs
  obtain ⟨wd, ld⟩ := hd d hdm
  have lr : (restOf at' d).length ≤ A := by
    rw [restOf, List.length_map]
    exact Nat.le_trans (List.length_filter_le _ _) ld
  have ri : ∀ y ∈ restOf at' d, 0 ≤ y ∧ y < n - 1 := fun y hy => by
    obtain ⟨z, hz, ne, rfl⟩ := mem_rest.mp hy
    have := wd.within z hz
    exact shf_in a0 a1 ne this.1 this.2
  rcases mem_jOne.mp hs with ⟨_, e, hem, rfl⟩ | ⟨nd, rfl⟩
  · obtain ⟨we, le⟩ := he e hem
    have len : (restOf at' d ++ endOf n e).length ≤ A + B := by
      rw [List.length_append, endOf, List.length_map]
      omega
    have ei : ∀ y ∈ endOf n e, n - 1 ≤ y ∧ y < n - 1 + m := fun y hy => by
      have := we.within _ (mem_end.mp hy)
      omega
    refine ⟨⟨fun z => ?_, ?_, fun y hy => ?_, by omega⟩, len⟩
    · have := (List.append_eq_nil_iff.mp z).2
      rw [endOf, List.map_eq_nil_iff] at this
      exact we.ne this
    · refine List.pairwise_append.mpr ⟨rest_up wd.up, ?_, fun x hx y hy => ?_⟩
      · rw [endOf, List.pairwise_map]
        exact we.up.imp fun h => by omega
      · have := ri x hx
        have := ei y hy
        omega
    · rcases List.mem_append.mp hy with hy | hy
      · have := ri y hy
        omega
      · have := ei y hy
        omega
  · refine ⟨⟨fun z => ?_, rest_up wd.up, fun y hy => ?_, by omega⟩, by omega⟩
    · obtain ⟨x, hx⟩ := List.exists_mem_of_ne_nil d wd.ne
      have := (mem_rest' (at' := at') (z := x) fun e => nd (by rw [← e]; exact hx)).mpr hx
      rw [z] at this
      cases this
    · have := ri y hy
      omega
theorem join_nodup {n m at' : Int} {es dss : List (List Int)} (a0 : 0 ≤ at') (a1 : at' < n) (hd : ∀ d ∈ dss, Well n d) (he : ∀ e ∈ es, Well m e) (n1 : dss.Nodup) (n2 : es.Nodup) : (joinS n at' es dss).Nodup := by
  -- whence a set of it comes
  have part : ∀ d ∈ dss, ∀ s ∈ jOne n at' es d, (∀ z : Int, z ≠ at' → 0 ≤ z → z < n → (z ∈ d ↔ shf at' z ∈ s)) ∧ (at' ∈ d ↔ ∃ y ∈ s, n - 1 ≤ y) := fun d hdm s hs => by
    have wd := hd d hdm
    have ri : ∀ y ∈ restOf at' d, y < n - 1 := fun y hy => by
      obtain ⟨z, hz, ne, rfl⟩ := mem_rest.mp hy
      have := wd.within z hz
      exact (shf_in a0 a1 ne this.1 this.2).2
    rcases mem_jOne.mp hs with ⟨hin, e, hem, rfl⟩ | ⟨nd, rfl⟩
    · have we := he e hem
      refine ⟨fun z ne z0 z1 => ?_, ⟨fun _ => ?_, fun _ => hin⟩⟩
      · rw [List.mem_append, mem_rest' ne]
        refine ⟨.inl, fun h => h.elim id fun h => ?_⟩
        have := we.within _ (mem_end.mp h)
        have := shf_in a0 a1 ne z0 z1
        omega
      · obtain ⟨w, hw⟩ := List.exists_mem_of_ne_nil e we.ne
        have := we.within w hw
        exact ⟨n - 1 + w, List.mem_append_right _ (mem_end.mpr (by rwa [show n - 1 + w - (n - 1) = w by omega])), by omega⟩
    · refine ⟨fun z ne _ _ => (mem_rest' ne).symm, fun h => absurd h nd, fun ⟨y, hy, hy'⟩ => ?_⟩
      have := ri y hy
      omega
  refine List.pairwise_flatMap.mpr ⟨fun d hdm => ?_, List.Pairwise.imp_of_mem (fun {d d'} hdm hdm' ne s hs s' hs' e => ne ?_) n1⟩
  · rw [jOne]
    split
    · rw [List.pairwise_map]
      refine n2.imp fun {e e'} ne h => ne ?_
      have := List.append_cancel_left h
      exact List.map_inj_right (fun x y h => by omega) |>.mp this
    · exact List.pairwise_singleton _ _
  · subst e
    have p1 := part d hdm s hs
    have p2 := part d' hdm' s hs'
    have wd := hd d hdm
    have wd' := hd d' hdm'
    refine pw_ext wd.up wd'.up fun z => ?_
    by_cases ea : z = at'
    · rw [ea]
      exact p1.2.trans p2.2.symm
    · constructor
      · intro h
        have := wd.within z h
        exact (p2.1 z ea this.1 this.2).mpr ((p1.1 z ea this.1 this.2).mp h)
      · intro h
        have := wd'.within z h
        exact (p1.1 z ea this.1 this.2).mpr ((p2.1 z ea this.1 this.2).mp h)
theorem join_len {n at' : Int} {es : List (List Int)} : ∀ dss : List (List Int), (joinS n at' es dss).length = dss.length - (dss.filter fun d => decide (at' ∈ d)).length + (dss.filter fun d => decide (at' ∈ d)).length * es.length
  | [] => by simp [joinS]
  | d :: r => by
    have ih := join_len (n := n) (at' := at') (es := es) r
    have le := List.length_filter_le (fun d : List Int => decide (at' ∈ d)) r
    rw [joinS] at ih ⊢
    rw [List.flatMap_cons, List.length_append, ih, jOne]
    by_cases h : at' ∈ d
    · rw [if_pos h, List.length_map, List.filter_cons_of_pos (by simpa using h), List.length_cons, List.length_cons, Nat.succ_mul]
      omega
    · rw [if_neg h, List.length_singleton, List.filter_cons_of_neg (by simpa using h), List.length_cons]
      omega
theorem join_le {n at' : Int} {es dss : List (List Int)} (h : dss.length ≤ 9) (k : es.length ≤ 9) : (joinS n at' es dss).length ≤ 90 := by
  rw [join_len]
  have le := List.length_filter_le (fun d : List Int => decide (at' ∈ d)) dss
  have := Nat.mul_le_mul (Nat.le_trans le h) k
  omega

theorem o_neSame {K : PySem.W.Frag} {x y : V} {H : Hp} {Q : VK} {d : PyData} {n : Nat} (hx : Dp K H x d) (hy : Dp K H y d) (pl : Pl n d) (hn : n ≤ 64) (h : Q (.bl false) H) : zNe K x y H Q :=
  o_neD hx hy (pl.shaped hn) (pl.shaped hn) (by rw [pl.refl]; exact h)
theorem o_eqSame {K : PySem.W.Frag} {x y : V} {H : Hp} {Q : VK} {d : PyData} {n : Nat} (hx : Dp K H x d) (hy : Dp K H y d) (pl : Pl n d) (hn : n ≤ 64) (h : Q (.bl true) H) : zEq K x y H Q :=
  o_eqD hx hy (pl.shaped hn) (pl.shaped hn) (by rw [pl.refl]; exact h)
/-- what joined is handed -/
structure JIn (K : PySem.W.Frag) (F H : Hp) (n m at' : Int) (a b : Addr) (vs ws : List V) (dss ess : List (List Int)) : Prop where
  h1 : 1 ≤ n
  h2 : n ≤ 60
  m1 : 1 ≤ m
  m2 : m ≤ 60
  a0 : 0 ≤ at'
  a1 : at' < n
  hnm : n - 1 + m ≤ 60
  hs : SqL K H a vs
  ts : TIs F vs dss
  hl : dss.length ≤ 200
  hd : ∀ d ∈ dss, Well n d ∧ d.length ≤ 11
  nd : dss.Nodup
  hs2 : SqL K H b ws
  ts2 : TIs F ws ess
  hl2 : ess.length ≤ 10
  hd2 : ∀ d ∈ ess, Well m d ∧ d.length ≤ 11
  nd2 : ess.Nodup
theorem JIn.mono {K : PySem.W.Frag} {F H F' H' : Hp} {n m at' : Int} {a b : Addr} {vs ws : List V} {dss ess : List (List Int)} (j : JIn K F H n m at' a b vs ws dss ess) (f : Same F F') (s : Same H H') : JIn K F' H' n m at' a b vs ws dss ess :=
  ⟨j.h1, j.h2, j.m1, j.m2, j.a0, j.a1, j.hnm, Same.seq s j.hs, j.ts.mono f, j.hl, j.hd, j.nd, Same.seq s j.hs2, j.ts2.mono f, j.hl2, j.hd2, j.nd2⟩
theorem JIn.len {K : PySem.W.Frag} {F H : Hp} {n m at' : Int} {a b : Addr} {vs ws : List V} {dss ess : List (List Int)} (j : JIn K F H n m at' a b vs ws dss ess) : (joinS n at' ess dss).length ≤ 2200 := by
  rw [join_len]
  have le := List.length_filter_le (fun d : List Int => decide (at' ∈ d)) dss
  have := Nat.mul_le_mul (Nat.le_trans le j.hl) j.hl2
  have := j.hl
  omega
inductive q__law_told (K : PySem.W.Frag) (ad : Ad) : V → V → V → V → V → V → Hp → VK → Prop
  | mk {n m at' tn : Int} {a b : Addr} {vs ws : List V} {dss ess : List (List Int)} {F H : Hp} {Q : VK} (X : Xf K ad) (hF : Same F H) (j : JIn K F H n m at' a b vs ws dss ess)
    (k0 : (joinS n at' ess dss).length ≤ 200 → ∀ D ys F' H', Fresh H D → H' D = some (.lst ys) → TIs F' ys (joinS n at' ess dss) → Gr M0 F H F' H' → Q (.ref D) H')
    (k1 : 200 < (joinS n at' ess dss).length → ∀ H', Same H H' → Q (.str "sets") H') : q__law_told K ad (.int n) (.ref a) (.int at') (.int m) (.ref b) (.int tn) H Q
def sp__law_told (K : PySem.W.Frag) (ad : Ad) : Sp := fun vs H Q _ => match vs with | [x0, x1, x2, x3, x4, x5] => q__law_told K ad x0 x1 x2 x3 x4 x5 H Q | _ => False
theorem c__law_told {K : PySem.W.Frag} {ad : Ad} {x0 x1 x2 x3 x4 x5 : V} {H : Hp} {Q : VK} {E : XK} (h : q__law_told K ad x0 x1 x2 x3 x4 x5 H Q) : sp__law_told K ad ([x0, x1, x2, x3, x4, x5] ++ []) H Q E := h
theorem n__law_told {K : PySem.W.Frag} {ad : Ad} {vs : List V} {H : Hp} {Q : VK} {E : XK} (h : sp__law_told K ad vs H Q E) : ∃ x0 x1 x2 x3 x4 x5, vs = [x0, x1, x2, x3, x4, x5] ∧ q__law_told K ad x0 x1 x2 x3 x4 x5 H Q := match vs, h with | [x0, x1, x2, x3, x4, x5], h => ⟨x0, x1, x2, x3, x4, x5, rfl, h⟩
def t__law_told (K : PySem.W.Frag) (ad : Ad) : TS := (tSeq (tTryAs K (.ref ad.SoleError) 7 (fun W => (tSeq (tIfS (tTest (tOp (zEq K) (tOp zMod (tVar 5) (tC (.int 2))) (tC (.int 0)))) (tRet (tCallNS 2 3 (sp_joined K ad) kwApp (WE W) (tCons (tVar 0) (tCons (tVar 1) tNil)) (tCons (tVar 2) (tCons (tVar 3) (tCons (tVar 4) tNil))))) tNext)
    (tAsg (tCallNS 2 3 (sp_joined K ad) kwRev (WE W) (tCons (tVar 0) (tCons (tVar 1) tNil)) (tCons (tVar 4) (tCons (tVar 3) (tCons (tVar 2) tNil)))) (gName 6)))) (fun a cls d => (tSeq (tIfS (zTru K (tCB (zIsX K a cls d) (tCons (tVar 7) (tCons (tC (.ref ad.TooMany)) tNil)))) (tRet (tXfA K a cls d "what" (tVar 7))) tNext)
    (tRet (tC (.str "odd"))))) (fun _ _ _ _ => False))
    (tRet (tVar 6)))
theorem w__law_told {K : PySem.W.Frag} {ad : Ad} {x0 x1 x2 x3 x4 x5 : V} {H : Hp} {Q : VK} (h : q__law_told K ad x0 x1 x2 x3 x4 x5 H Q) : t__law_told K ad ⟨fun _ H' => Q .non H', Q, fun _ _ => False, fun _ _ => False⟩ [some x0, some x1, some x2, some x3, some x4, some x5, none, none] H := by
  cases h with
  | @mk n m at' tn a b vs ws dss ess F _ _ X hF j k0 k1 =>
    have l2 := j.hl2
    unfold t__law_told
    walk_at "rd"
    by_cases hj : (joinS n at' ess dss).length ≤ 200
    · walk_at "if"
      · walk_at "rd"
        apply d_joined
        refine q_joined.mk j.h1 j.h2 j.m1 j.m2 j.a0 j.a1 j.hnm hF j.hs j.ts j.hl (fun d hd => (j.hd d hd).1) j.nd j.hs2 j.ts2 (by omega) (fun d hd => (j.hd2 d hd).1) j.nd2 hj fun D ys F' H' nD eD t g => ?_
        exact k0 hj D ys F' H' nD eD t g
      · walk_at "rd"
        apply d_joined
        refine q_joined.mk j.h1 j.h2 j.m1 j.m2 j.a0 j.a1 j.hnm hF j.hs j.ts j.hl (fun d hd => (j.hd d hd).1) j.nd j.hs2 j.ts2 (by omega) (fun d hd => (j.hd2 d hd).1) j.nd2 hj fun D ys F' H' nD eD t g => ?_
        walk_at "rd"
        exact k0 hj D ys F' H' nD eD t g
    · have hj : 200 < (joinS n at' ess dss).length := by omega
      have fin : ∀ d H', Same H H' → Fresh H' d → ∀ (b' : Addr) (H2 : Hp), Same H' H2 → H2 d = some (.xd [("what", .str "sets")]) → Q (.str "sets") H2 := fun d H' s _ b' H2 s2 _ => k1 hj H2 (s.trans s2)
      walk_at "if"
      · walk_at "rd"
        apply d_joined
        refine q_joined.many X j.h1 j.h2 j.m1 j.m2 j.a0 j.a1 j.hnm hF j.hs j.ts j.hl (fun d hd => (j.hd d hd).1) j.nd j.hs2 j.ts2 (by omega) (fun d hd => (j.hd2 d hd).1) j.nd2 hj fun d H' s nd => ?_
        have s1 : Same H' (upd H' d (.xd [("what", .str "sets")])) := up_keep nd
        have ed := upd_same (H := H') (a := d) (o := .xd [("what", .str "sets")])
        generalize upd H' d (.xd [("what", .str "sets")]) = H1 at *
        refine as_yes X.m_TooMany_SoleError fun b nb => ?_
        walk_at "rd"
        refine x_is X.e_TooMany ed (.own _) X.k_TooMany_TooMany ?_
        walk_at "rd"
        refine xf_ X.e_TooMany X.n_TooMany_what ed (v := .str "sets") rfl ?_
        exact k1 hj H1 (s.trans s1)
      · walk_at "rd"
        apply d_joined
        refine q_joined.many X j.h1 j.h2 j.m1 j.m2 j.a0 j.a1 j.hnm hF j.hs j.ts j.hl (fun d hd => (j.hd d hd).1) j.nd j.hs2 j.ts2 (by omega) (fun d hd => (j.hd2 d hd).1) j.nd2 hj fun d H' s nd => ?_
        have s1 : Same H' (upd H' d (.xd [("what", .str "sets")])) := up_keep nd
        have ed := upd_same (H := H') (a := d) (o := .xd [("what", .str "sets")])
        generalize upd H' d (.xd [("what", .str "sets")]) = H1 at *
        refine as_yes X.m_TooMany_SoleError fun b nb => ?_
        walk_at "rd"
        refine x_is X.e_TooMany ed (.own _) X.k_TooMany_TooMany ?_
        walk_at "rd"
        refine xf_ X.e_TooMany X.n_TooMany_what ed (v := .str "sets") rfl ?_
        exact k1 hj H1 (s.trans s1)
theorem rest_snoc {at' z : Int} {l : List Int} : restOf at' (l ++ [z]) = restOf at' l ++ if z = at' then [] else [shf at' z] := by
  rw [restOf, List.filter_append, List.map_append, restOf]
  congr 1
  by_cases h : z = at'
  · rw [if_pos h, List.filter_cons_of_neg (by simp [h])]
    rfl
  · rw [if_neg h, List.filter_cons_of_pos (by simp [h])]
    rfl
theorem end_fil (n : Int) (e : List Int) : (e.map fun z => V.int (n - 1 + z)) = (endOf n e).map V.int := by
  rw [endOf, List.map_map]
  rfl
inductive q__law_due (K : PySem.W.Frag) (ad : Ad) : V → V → V → V → Hp → VK → Prop
  | mk {n m at' : Int} {a b : Addr} {vs ws : List V} {dss ess : List (List Int)} {F H : Hp} {Q : VK} (hF : Same F H) (j : JIn K F H n m at' a b vs ws dss ess)
    (k : ∀ D ys us F' H', Fresh H D → H' D = some (.lst ys) → TIs F' ys us → us.Perm (joinS n at' ess dss) → us.Pairwise (fun d e => HT.lexLt e d = false) → Gr M0 F H F' H' → Q (.ref D) H') : q__law_due K ad (.int n) (.ref a) (.int at') (.ref b) H Q
def sp__law_due (K : PySem.W.Frag) (ad : Ad) : Sp := fun vs H Q _ => match vs with | [x0, x1, x2, x3] => q__law_due K ad x0 x1 x2 x3 H Q | _ => False
theorem c__law_due {K : PySem.W.Frag} {ad : Ad} {x0 x1 x2 x3 : V} {H : Hp} {Q : VK} {E : XK} (h : q__law_due K ad x0 x1 x2 x3 H Q) : sp__law_due K ad ([x0, x1, x2, x3] ++ []) H Q E := h
theorem n__law_due {K : PySem.W.Frag} {ad : Ad} {vs : List V} {H : Hp} {Q : VK} {E : XK} (h : sp__law_due K ad vs H Q E) : ∃ x0 x1 x2 x3, vs = [x0, x1, x2, x3] ∧ q__law_due K ad x0 x1 x2 x3 H Q := match vs, h with | [x0, x1, x2, x3], h => ⟨x0, x1, x2, x3, rfl, h⟩
def t__law_due (K : PySem.W.Frag) (ad : Ad) : TS := (tSeq (tAsg (tLst tNil) (gName 4))
    (tSeq (tFor (iList K (tVar 1)) (gName 5)
    (tSeq (tAsg (tLst tNil) (gName 6))
    (tSeq (tFor (iTup K (tVar 5)) (gName 7)
    (tSeq (tIfS (tTest (tOp (zLt K) (tVar 7) (tVar 2))) (tDrop (tBM K "list" rAppend (tVar 6) (tCons (tVar 7) tNil))) tNext)
    (tIfS (tTest (tOp zGt (tVar 7) (tVar 2))) (tDrop (tBM K "list" rAppend (tVar 6) (tCons (tOp zSub (tVar 7) (tC (.int 1))) tNil))) tNext)))
    (tIfS (tTest (tOp (zIn K) (tVar 2) (tVar 5))) (tFor (iList K (tVar 3)) (gName 8)
    (tDrop (tBM K "list" rAppend (tVar 4) (tCons (tCB (zTuple K) (tCons (tOp (zAdd K) (tVar 6) (tLc (iTup K (tVar 8)) (gName 7) tYes (tOp (zAdd K) (tOp zSub (tVar 0) (tC (.int 1))) (tVar 7)) [7])) tNil)) tNil)))) (tDrop (tBM K "list" rAppend (tVar 4) (tCons (tCB (zTuple K) (tCons (tVar 6) tNil)) tNil)))))))
    (tRet (tCB (rSortedTI K) (tCons (tVar 4) tNil)))))
theorem w__law_due {K : PySem.W.Frag} {ad : Ad} {x0 x1 x2 x3 : V} {H : Hp} {Q : VK} (h : q__law_due K ad x0 x1 x2 x3 H Q) : t__law_due K ad ⟨fun _ H' => Q .non H', Q, fun _ _ => False, fun _ _ => False⟩ [some x0, some x1, some x2, some x3, none, none, none, none, none] H := by
  cases h with
  | @mk n m at' a b vs ws dss ess F _ _ hF j k =>
    obtain ⟨h1, h2, m1, m2, a0, a1, hnm, hs, ts, hl, hd, nd, hs2, ts2, hl2, hd2, nd2⟩ := id j
    have jlen := j.len
    have lv : vs.length = dss.length := ts.length
    have lw : ws.length = ess.length := ts2.length
    unfold t__law_due
    walk_at "rd"
    refine o_new (Nat.zero_le _) fun D nD => ?_
    have s0 : Same H (upd H D (.lst [])) := up_keep nD
    have eD := upd_same (H := H) (a := D) (o := .lst [])
    generalize upd H D (.lst []) = H0 at *
    walk_at "rd"
    refine lp_list (Same.seq s0 hs) (fun i σ' H' => (∃ y5 y6 y7 y8, σ' = [some (.int n), some (.ref a), some (.int at'), some (.ref b), some (.ref D), y5, y6, y7, y8]) ∧ Same H H' ∧ ∃ ys, H' D = some (.lst ys) ∧ TFs H H' ys (joinS n at' ess (dss.take i))) ⟨⟨_, _, _, _, rfl⟩, s0, [], eD, .nil⟩ (fun i σ' H' _ h => Same.seq h.2.1 hs) ?_ ?_
    · rintro i x σ' H1 hx ⟨⟨y5, y6, y7, y8, rfl⟩, s1, ys, eD1, ty⟩
      obtain ⟨d, hd1, t, rfl, et⟩ := ts.get hx
      obtain ⟨wd, ld⟩ := hd d (List.mem_of_getElem? hd1)
      have et1 := s1 _ _ (hF _ _ et)
      have jl := joinS_le (n := n) (at' := at') (es := ess) dss (i + 1)
      rw [joinS_snoc hd1, List.length_append] at jl
      walk_at "rd"
      refine o_new (Nat.zero_le _) fun R nR => ?_
      have s2 := s1.trans (up_keep nR (o := .lst []))
      have nRH : Fresh H R := fresh_back s1 nR
      have nRD : R ≠ D := fresh_ne nR eD1
      have eR := upd_same (H := H1) (a := R) (o := .lst [])
      have eD2 := up_keep nR (o := .lst []) _ _ eD1
      have ty2 := ty.mono (up_keep nR (o := .lst []))
      generalize upd H1 R (.lst []) = H2 at *
      walk_at "rd"
      refine lp_tup (SqT.of (s2 _ _ (hF _ _ et))) (fun l σ' H' => (∃ y7, σ' = [some (.int n), some (.ref a), some (.int at'), some (.ref b), some (.ref D), some (.ref t), some (.ref R), y7, y8]) ∧ Same H H' ∧ H' D = some (.lst ys) ∧ TFs H H' ys (joinS n at' ess (dss.take i)) ∧ H' R = some (.lst ((restOf at' (d.take l)).map V.int))) ⟨⟨_, rfl⟩, s2, eD2, ty2, eR⟩ (fun l σ' H' _ h => SqT.of (h.2.1 _ _ (hF _ _ et))) ?_ ?_
      · rintro l x σ' H3 hx ⟨⟨y7, rfl⟩, s3, eD3, ty3, eR3⟩
        rw [List.getElem?_map] at hx
        obtain ⟨z, hz, rfl⟩ := Option.map_eq_some_iff.mp hx
        have ll := (List.getElem?_eq_some_iff.mp hz).1
        have tk : d.take (l + 1) = d.take l ++ [z] := by
          rw [List.take_add_one, hz]
          rfl
        have lr : (restOf at' (d.take l)).length ≤ 11 := by
          rw [restOf, List.length_map]
          refine Nat.le_trans (List.length_filter_le _ _) ?_
          rw [List.length_take]
          omega
        walk_at "rd"
        walk_at "if"
        · rename_i hlt
          walk_at "rd"
          refine ⟨ty_list (SqL.of eR3), ?_⟩
          walk_at "rd"
          refine m_app eR3 (by rw [List.length_map, sizeLine_eq]; omega) ?_
          walk_at "rd"
          refine ⟨⟨_, rfl⟩, fun b o e => (upd_ne (ne_of_none e nRH)).trans (s3 _ _ e), (upd_ne nRD.symm).trans eD3, ty3.put eR3, ?_⟩
          rw [upd_same, tk, rest_snoc, if_neg (by omega), shf_lt hlt, List.map_append]
          rfl
        · rename_i hnl
          walk_at "rd"
          walk_at "if"
          · rename_i hgt
            walk_at "rd"
            refine ⟨ty_list (SqL.of eR3), ?_⟩
            walk_at "rd"
            refine m_app eR3 (by rw [List.length_map, sizeLine_eq]; omega) ?_
            refine ⟨⟨_, rfl⟩, fun b o e => (upd_ne (ne_of_none e nRH)).trans (s3 _ _ e), (upd_ne nRD.symm).trans eD3, ty3.put eR3, ?_⟩
            rw [upd_same, tk, rest_snoc, if_neg (by omega), shf_gt hgt, List.map_append]
            rfl
          · refine ⟨⟨_, rfl⟩, s3, eD3, ty3, ?_⟩
            rw [tk, rest_snoc, if_pos (by omega), List.append_nil]
            exact eR3
      · rintro σ' H3 ⟨⟨y7, rfl⟩, s3, eD3, ty3, eR3⟩
        rw [List.length_map, List.take_length] at eR3
        have lr : (restOf at' d).length ≤ 11 := by
          rw [restOf, List.length_map]
          exact Nat.le_trans (List.length_filter_le _ _) ld
        walk_at "rd"
        refine o_inI (.inr (SqT.of (s3 _ _ (hF _ _ et)))) ?_
        walk_at "rd"
        walk_at "if"
        · rename_i hin
          have jo : jOne n at' ess d = ess.map fun e => restOf at' d ++ endOf n e := if_pos hin
          rw [jo, List.length_map] at jl
          walk_at "rd"
          refine lp_list (Same.seq s3 hs2) (fun l σ' H' => (∃ y7 y8, σ' = [some (.int n), some (.ref a), some (.int at'), some (.ref b), some (.ref D), some (.ref t), some (.ref R), y7, y8]) ∧ Same H H' ∧ H' R = some (.lst ((restOf at' d).map V.int)) ∧
            ∃ ys, H' D = some (.lst ys) ∧ TFs H H' ys (joinS n at' ess (dss.take i) ++ (ess.take l).map fun e => restOf at' d ++ endOf n e)) ⟨⟨_, _, rfl⟩, s3, eR3, ys, eD3, by rw [List.take_zero, List.map_nil, List.append_nil]; exact ty3⟩ (fun l σ' H' _ h => Same.seq h.2.1 hs2) ?_ ?_
          · rintro l x σ' H4 hx ⟨⟨y7, y8, rfl⟩, s4, eR4, ys4, eD4, ty4⟩
            obtain ⟨e, he1, u, rfl, eu⟩ := ts2.get hx
            obtain ⟨we, le⟩ := hd2 e (List.mem_of_getElem? he1)
            have tkl : ess.take (l + 1) = ess.take l ++ [e] := by
              rw [List.take_add_one, he1]
              rfl
            have lE := (List.getElem?_eq_some_iff.mp he1).1
            have ly4 := ty4.length
            rw [List.length_append, List.length_map, List.length_take] at ly4
            walk_at "rd"
            refine ⟨ty_list (SqL.of eD4), ?_⟩
            walk_at "rd"
            refine lcT_igrow (fun _ => true) (fun z => V.int (n - 1 + z)) (SqT.of (s4 _ _ (hF _ _ eu))) (by omega) (fun x hx H5 QB s5 q5 => ?_) (fun x hx H5 Q5 s5 _ q5 => ?_) (fun C H5 nC s5 eC => ?_)
            · exact q5 _ (Same.refl _)
            · walk_at "rd"
              exact q5 _ (Same.refl _)
            rw [List.filter_eq_self.mpr fun _ _ => rfl, end_fil] at eC
            walk_at "rd"
            refine o_addL (s5 _ _ eR4) eC (by rw [List.length_map, List.length_map, endOf, List.length_map, sizeLine_eq]; omega) fun A nA => ?_
            rw [← List.map_append]
            have s6 := s5.trans (up_keep nA (o := .lst ((restOf at' d ++ endOf n e).map V.int)))
            have eA := upd_same (H := H5) (a := A) (o := .lst ((restOf at' d ++ endOf n e).map V.int))
            generalize upd H5 A (.lst ((restOf at' d ++ endOf n e).map V.int)) = H6 at *
            walk_at "rd"
            refine o_tupleL (SqL.of eA) fun v nv => ?_
            have s7 := s6.trans (up_keep nv (o := .tup ((restOf at' d ++ endOf n e).map V.int)))
            have ev := upd_same (H := H6) (a := v) (o := .tup ((restOf at' d ++ endOf n e).map V.int))
            have nvH := fresh_back (s4.trans s6) nv
            generalize upd H6 v (.tup ((restOf at' d ++ endOf n e).map V.int)) = H7 at *
            have eD7 := s7 _ _ eD4
            walk_at "rd"
            refine m_app eD7 (by rw [sizeLine_eq]; omega) ?_
            refine ⟨⟨_, _, rfl⟩, fun b o e => (upd_ne (ne_of_none e nD)).trans (s7 _ _ (s4 _ _ e)), (upd_ne nRD).trans (s7 _ _ eR4), ys4 ++ [.ref v], upd_same, ?_⟩
            rw [tkl, List.map_append, ← List.append_assoc]
            exact pr_app ((ty4.mono s7).put eD7) (.cons (TF.put eD7 ⟨v, rfl, nvH, ev⟩) .nil)
          · rintro σ' H4 ⟨⟨y7, y8, rfl⟩, s4, eR4, ys4, eD4, ty4⟩
            rw [lw, List.take_length] at ty4
            refine ⟨⟨_, _, _, _, rfl⟩, s4, ys4, eD4, ?_⟩
            rw [joinS_snoc hd1, jo]
            exact ty4
        · rename_i hin
          have jo : jOne n at' ess d = [restOf at' d] := if_neg hin
          walk_at "rd"
          refine ⟨ty_list (SqL.of eD3), ?_⟩
          walk_at "rd"
          refine o_tupleL (SqL.of eR3) fun v nv => ?_
          have s7 : Same H3 (upd H3 v (.tup ((restOf at' d).map V.int))) := up_keep nv
          have ev := upd_same (H := H3) (a := v) (o := .tup ((restOf at' d).map V.int))
          have nvH := fresh_back s3 nv
          generalize upd H3 v (.tup ((restOf at' d).map V.int)) = H7 at *
          have eD7 := s7 _ _ eD3
          walk_at "rd"
          refine m_app eD7 (by rw [ty3.length, sizeLine_eq]; omega) ?_
          refine ⟨⟨_, _, _, _, rfl⟩, fun b o e => (upd_ne (ne_of_none e nD)).trans (s7 _ _ (s3 _ _ e)), ys ++ [.ref v], upd_same, ?_⟩
          rw [joinS_snoc hd1, jo]
          exact pr_app ((ty3.mono s7).put eD7) (.cons (TF.put eD7 ⟨v, rfl, nvH, ev⟩) .nil)
    · rintro σ' H1 ⟨⟨y5, y6, y7, y8, rfl⟩, s1, ys, eD1, ty⟩
      rw [lv, List.take_length] at ty
      have ti : TIs H1 ys (joinS n at' ess dss) := Paired.mono (fun v d ⟨t, e, _, et⟩ => ⟨t, e, et⟩) ty
      walk_at "rd"
      refine o_sortTI (SqL.of eD1) ti (fun s hs => (join_well a0 a1 hd hd2 (by omega) m1 s hs).1.ne) fun zs us p tz pz pu ou np => ?_
      have sp : Same H1 (upd H1 p (.lst zs)) := up_keep np
      have npH := fresh_back s1 np
      obtain ⟨F', g, fD, ft⟩ := gr_of_same hF (s1.trans sp) npH
      refine k p zs us F' _ npH upd_same (paired_of tz.length fun i y e => ?_) pu ou g
      obtain ⟨u, hu, t, et, eh⟩ := tz.get e
      obtain ⟨l, hl', ey⟩ := List.getElem_of_mem (pz.mem_iff.mp (List.mem_of_getElem? e))
      obtain ⟨_, _, t', et', nt, _⟩ := TFs.get ty (List.getElem?_eq_getElem hl')
      rw [ey, et] at et'
      cases et'
      have ntp : t ≠ p := fun z => by
        rw [z, np] at eh
        cases eh
      exact ⟨u, hu, t, et, ft t _ nt ntp (sp _ _ eh)⟩

inductive q__law_is_set (K : PySem.W.Frag) (ad : Ad) : V → Hp → VK → Prop
  | mk {a : Addr} {ns : List Int} {H : Hp} {Q : VK} (hs : SqT K H a (ns.map V.int)) (hl : ns.length ≤ 1000) (k : ∀ H', Same H H' → Q (.bl true) H') : q__law_is_set K ad (.ref a) H Q
def sp__law_is_set (K : PySem.W.Frag) (ad : Ad) : Sp := fun vs H Q _ => match vs with | [x0] => q__law_is_set K ad x0 H Q | _ => False
theorem c__law_is_set {K : PySem.W.Frag} {ad : Ad} {x0 : V} {H : Hp} {Q : VK} {E : XK} (h : q__law_is_set K ad x0 H Q) : sp__law_is_set K ad ([x0] ++ []) H Q E := h
theorem n__law_is_set {K : PySem.W.Frag} {ad : Ad} {vs : List V} {H : Hp} {Q : VK} {E : XK} (h : sp__law_is_set K ad vs H Q E) : ∃ x0, vs = [x0] ∧ q__law_is_set K ad x0 H Q := match vs, h with | [x0], h => ⟨x0, rfl, h⟩
def t__law_is_set (K : PySem.W.Frag) (ad : Ad) : TS := (tRet (tAndV (tCB (rIsi K) (tCons (tVar 0) (tCons (tC (.ty "tuple")) tNil))) (tOp (zEq K) (tLc (iTup K (tVar 0)) (gName 1) (tNot (zTru K (tCall (sp__law_whole K ad) [] E0 (tCons (tVar 1) tNil)))) (tC (.int 1)) [1]) (tLst tNil))))
theorem w__law_is_set {K : PySem.W.Frag} {ad : Ad} {x0 : V} {H : Hp} {Q : VK} (h : q__law_is_set K ad x0 H Q) : t__law_is_set K ad ⟨fun _ H' => Q .non H', Q, fun _ _ => False, fun _ _ => False⟩ [some x0, none] H := by
  cases h with
  | @mk a ns _ _ hs hl k =>
    unfold t__law_is_set
    walk_at "rd"
    refine lcT_ones (fun _ => false) hs (by rw [List.length_map]; omega) (fun i x H2 QB hx s2 q => ?_) (fun D c nD hc => ?_)
    · rw [List.getElem?_map] at hx
      obtain ⟨z, hz, rfl⟩ := Option.map_eq_some_iff.mp hx
      walk_at "rd"
      apply c__law_whole
      refine q__law_whole.int ?_
      walk_at "rd"
      exact q
    · have c0 : c = 0 := hc.mpr fun _ _ => rfl
      walk_at "rd"
      refine o_new (Nat.zero_le _) fun u nu => ?_
      refine o_eqOnes (up_keep nu _ _ upd_same) upd_same ?_
      rw [decide_eq_true c0]
      exact k _ (same_new (same_new (Same.refl _) nD) nu)

abbrev dFam (dss : List (List Int)) : PyData := .list (dss.map dI)
theorem pl_fam (dss : List (List Int)) : Pl 2 (dFam dss) := pl_lst fun d hd => by
  obtain ⟨x, _, rfl⟩ := List.mem_map.mp hd
  exact pl_dI
theorem pl_two (dss ess : List (List Int)) : Pl 3 (.list [dFam dss, dFam ess]) := pl_lst fun d hd => by
  rcases List.mem_cons.mp hd with rfl | hd
  · exact pl_fam _
  · rw [List.mem_singleton.mp hd]
    exact pl_fam _
theorem two_dp {K : PySem.W.Frag} {H : Hp} {p a b : Addr} {vs ws : List V} {dss ess : List (List Int)} (e : H p = some (.lst [.ref a, .ref b])) (ha : SqL K H a vs) (hb : SqL K H b ws) (ta : TIs H vs dss) (tb : TIs H ws ess) : Dp K H (.ref p) (.list [dFam dss, dFam ess]) :=
  .lst (SqL.of e) (.cons (.lst ha ta.dp) (.cons (.lst hb tb.dp) .nil))
inductive q__law_right (K : PySem.W.Frag) (ad : Ad) : V → V → V → V → V → V → Hp → VK → Prop
  | mk {n m at' tn : Int} {a b : Addr} {vs ws : List V} {dss ess : List (List Int)} {F H : Hp} {Q : VK} (X : Xf K ad) (hF : Same F H) (j : JIn K F H n m at' a b vs ws dss ess)
    (k : ∀ F' H', Gr M0 F H F' H' → Q (.bl true) H') : q__law_right K ad (.int n) (.ref a) (.int at') (.int m) (.ref b) (.int tn) H Q
def sp__law_right (K : PySem.W.Frag) (ad : Ad) : Sp := fun vs H Q _ => match vs with | [x0, x1, x2, x3, x4, x5] => q__law_right K ad x0 x1 x2 x3 x4 x5 H Q | _ => False
theorem c__law_right {K : PySem.W.Frag} {ad : Ad} {x0 x1 x2 x3 x4 x5 : V} {H : Hp} {Q : VK} {E : XK} (h : q__law_right K ad x0 x1 x2 x3 x4 x5 H Q) : sp__law_right K ad ([x0, x1, x2, x3, x4, x5] ++ []) H Q E := h
theorem n__law_right {K : PySem.W.Frag} {ad : Ad} {vs : List V} {H : Hp} {Q : VK} {E : XK} (h : sp__law_right K ad vs H Q E) : ∃ x0 x1 x2 x3 x4 x5, vs = [x0, x1, x2, x3, x4, x5] ∧ q__law_right K ad x0 x1 x2 x3 x4 x5 H Q := match vs, h with | [x0, x1, x2, x3, x4, x5], h => ⟨x0, x1, x2, x3, x4, x5, rfl, h⟩
def t__law_right (K : PySem.W.Frag) (ad : Ad) : TS := (tSeq (tAsg (tLst (tCons (tCB (zList K) (tCons (tVar 1) tNil)) (tCons (tCB (zList K) (tCons (tVar 4) tNil)) tNil))) (gName 6))
    (tSeq (tAsg (tCall (sp__law_due K ad) [] E0 (tCons (tVar 0) (tCons (tVar 1) (tCons (tVar 2) (tCons (tVar 4) tNil))))) (gName 7))
    (tSeq (tAsg (tCall (sp__law_told K ad) [] E0 (tCons (tVar 0) (tCons (tVar 1) (tCons (tVar 2) (tCons (tVar 3) (tCons (tVar 4) (tCons (tVar 5) tNil))))))) (gName 8))
    (tSeq (tIfS (tTest (tOp (zNe K) (tLst (tCons (tVar 1) (tCons (tVar 4) tNil))) (tVar 6))) (tRet (tC (.bl false))) tNext)
    (tSeq (tIfS (tTest (tOp zGt (tCB (zLen K) (tCons (tVar 7) tNil)) (tC (.int 200)))) (tRet (tOp (zEq K) (tVar 8) (tC (.str "sets")))) tNext)
    (tSeq (tIfS (tOr (tNot (zTru K (tCB (rIsi K) (tCons (tVar 8) (tCons (tC (.ty "list")) tNil))))) (tTest (tOp (zNe K) (tLc (iList K (tVar 8)) (gName 9) (tNot (zTru K (tCall (sp__law_is_set K ad) [] E0 (tCons (tVar 9) tNil)))) (tC (.int 1)) [9]) (tLst tNil)))) (tRet (tC (.bl false))) tNext)
    (tSeq (tIfS (tTest (tOp (zNe K) (tCB (rSortedTI K) (tCons (tVar 8) tNil)) (tVar 7))) (tRet (tC (.bl false))) tNext)
    (tSeq (tDrop (tBM K "list" rAppend (tVar 8) (tCons (tTup tNil) tNil)))
    (tRet (tOp (zEq K) (tLst (tCons (tVar 1) (tCons (tVar 4) tNil))) (tVar 6)))))))))))
theorem w__law_right {K : PySem.W.Frag} {ad : Ad} {x0 x1 x2 x3 x4 x5 : V} {H : Hp} {Q : VK} (h : q__law_right K ad x0 x1 x2 x3 x4 x5 H Q) : t__law_right K ad ⟨fun _ H' => Q .non H', Q, fun _ _ => False, fun _ _ => False⟩ [some x0, some x1, some x2, some x3, some x4, some x5, none, none, none, none] H := by
  cases h with
  | @mk n m at' tn a b vs ws dss ess F _ _ X hF j k =>
    obtain ⟨h1, h2, m1, m2, a0, a1, hnm, hs, ts, hl, hd, nd, hs2, ts2, hl2, hd2, nd2⟩ := id j
    have jlen := j.len
    unfold t__law_right
    walk_at "rd"
    refine o_listL hs fun c nc => ?_
    have sc : Same H (upd H c (.lst vs)) := up_keep nc
    have ec := upd_same (H := H) (a := c) (o := .lst vs)
    generalize upd H c (.lst vs) = H1 at *
    walk_at "rd"
    refine o_listL (Same.seq sc hs2) fun d ndd => ?_
    have sd := sc.trans (up_keep ndd (o := .lst ws))
    have ed := upd_same (H := H1) (a := d) (o := .lst ws)
    have ec2 := up_keep ndd (o := .lst ws) _ _ ec
    generalize upd H1 d (.lst ws) = H2 at *
    walk_at "rd"
    refine o_new (by walk_at "len") fun kp nk => ?_
    have sk := sd.trans (up_keep nk (o := .lst [.ref c, .ref d]))
    have ek := upd_same (H := H2) (a := kp) (o := .lst [.ref c, .ref d])
    have ec3 := up_keep nk (o := .lst [.ref c, .ref d]) _ _ ec2
    have ed3 := up_keep nk (o := .lst [.ref c, .ref d]) _ _ ed
    generalize upd H2 kp (.lst [.ref c, .ref d]) = H3 at *
    have G3 : Gr M0 F H F H3 := gr_same0 hF sk
    walk_at "rd"
    apply c__law_due
    refine q__law_due.mk G3.fh (j.mono (Same.refl _) sk) fun D ys us F4 H4 nD eD tD pu ou g4 => ?_
    have G4 := G3.tr0 g4 (fun b hb => hb.elim)
    walk_at "rd"
    apply c__law_told
    refine q__law_told.mk X G4.fh (j.mono G4.ff G4.same) (fun hj E zs F5 H5 nE eE tE g5 => ?_) (fun hj H5 s5 => ?_)
    · have G5 := G4.tr0 g5 (fun b hb => hb.elim)
      have s35 := g4.same.trans g5.same
      have eD5 := g5.same _ _ eD
      have tD5 := tD.mono g5.ff
      have JW : ∀ s ∈ joinS n at' ess dss, Well (n - 1 + m) s ∧ s.length ≤ 22 := fun s hs => join_well a0 a1 hd hd2 (by omega) m1 s hs
      walk_at "rd"
      refine o_new (by walk_at "len") fun q nq => ?_
      have s6 : Same H5 (upd H5 q (.lst [.ref a, .ref b])) := up_keep nq
      have eq := upd_same (H := H5) (a := q) (o := .lst [.ref a, .ref b])
      have G6 : Gr M0 F H F5 (upd H5 q (.lst [.ref a, .ref b])) := ⟨G5.ff, G5.fh.trans s6, fun b o n e => s6 _ _ (G5.hh b o n e), G5.nw⟩
      generalize upd H5 q (.lst [.ref a, .ref b]) = H6 at *
      have keepK : ∀ HX, Same H3 HX → Same F HX → Dp K HX (.ref kp) (.list [dFam dss, dFam ess]) := fun HX s f => two_dp (s _ _ ek) (SqL.of (s _ _ ec3)) (SqL.of (s _ _ ed3)) (ts.mono f) (ts2.mono f)
      have S36 := s35.trans s6
      walk_at "rd"
      refine o_neSame (two_dp eq (Same.seq G6.same hs) (Same.seq G6.same hs2) (ts.mono (hF.trans G6.same)) (ts2.mono (hF.trans G6.same))) (keepK _ S36 (hF.trans G6.same)) (pl_two _ _) (by decide) ?_
      walk_at "rd"
      have eD6 := s6 _ _ eD5
      have eE6 := s6 _ _ eE
      have tE6 := tE.mono G6.fh
      walk_at "rd"
      have ly : ys.length = (joinS n at' ess dss).length := by rw [tD.length, pu.length_eq]
      rw [ly]
      walk_at "rd"
      refine lcL_onesG (fun _ => false) (SqL.of eE6) (by rw [tE.length]; omega) (fun i x hx H7 QB s7 qb => ?_) (fun C c H7 nC s7 eC hc => ?_)
      · obtain ⟨s, hs, t, rfl, et⟩ := tE6.get hx
        have ws := JW s (List.mem_of_getElem? hs)
        walk_at "rd"
        apply c__law_is_set
        refine q__law_is_set.mk (SqT.of (s7 _ _ et)) (by omega) fun H8 s8 => ?_
        walk_at "rd"
        exact qb _ s8
      · have c0 : c = 0 := hc.mpr fun _ _ => rfl
        walk_at "rd"
        refine o_new (Nat.zero_le _) fun u nu => ?_
        have s8 := s7.trans (up_keep nu (o := .lst []))
        refine o_neOnes (up_keep nu _ _ eC) upd_same ?_
        generalize upd H7 u (.lst []) = H8 at *
        rw [decide_eq_true c0]
        walk_at "rd"
        have eE8 := s8 _ _ eE6
        have tE8 := tE6.mono s8
        refine o_sortTI (SqL.of eE8) tE8 (fun s hs => (JW s hs).1.ne) fun xs ks r tx _ pk ok nr => ?_
        have s9 : Same H8 (upd H8 r (.lst xs)) := up_keep nr
        have er := upd_same (H := H8) (a := r) (o := .lst xs)
        have tx9 := tx.mono s9
        have S69 := s8.trans s9
        generalize upd H8 r (.lst xs) = H9 at *
        have eD9 := (s6.trans S69) _ _ eD5
        have tD9 := tD5.mono (G6.fh.trans S69)
        have ee : ks = us := sorted_one ok ou (pk.trans pu.symm)
        subst ee
        walk_at "rd"
        refine o_neLI (SqL.of er) (SqL.of eD9) tx9 tD9 ?_
        have G9 : Gr M0 F H F5 H9 := ⟨G6.ff, G6.fh.trans S69, fun b o n e => S69 _ _ (G6.hh b o n e), G6.nw⟩
        have eE9 := S69 _ _ eE6
        have nE3 : Fresh H3 E := fresh_back g4.same nE
        walk_at "rd"
        refine ⟨ty_list (SqL.of eE9), ?_⟩
        walk_at "rd"
        refine o_new (Nat.zero_le _) fun e0 ne0 => ?_
        have sA : Same H9 (upd H9 e0 (.tup [])) := up_keep ne0
        have eEA := sA _ _ eE9
        have S3A := (S36.trans S69).trans sA
        generalize upd H9 e0 (.tup []) = HA at *
        walk_at "rd"
        refine m_app eEA (by rw [tE.length, sizeLine_eq]; omega) ?_
        have S3B : Same H3 (upd HA E (.lst (zs ++ [.ref e0]))) := fun b o e => (upd_ne (ne_of_none e nE3)).trans (S3A _ _ e)
        generalize upd HA E (.lst (zs ++ [.ref e0])) = HB at *
        have SB := sk.trans S3B
        walk_at "rd"
        refine o_new (by walk_at "len") fun q2 nq2 => ?_
        have sC : Same HB (upd HB q2 (.lst [.ref a, .ref b])) := up_keep nq2
        have eq2 := upd_same (H := HB) (a := q2) (o := .lst [.ref a, .ref b])
        generalize upd HB q2 (.lst [.ref a, .ref b]) = HC at *
        have SC := SB.trans sC
        walk_at "rd"
        refine o_eqSame (two_dp eq2 (Same.seq SC hs) (Same.seq SC hs2) (ts.mono (hF.trans SC)) (ts2.mono (hF.trans SC))) (keepK _ (S3B.trans sC) (hF.trans SC)) (pl_two _ _) (by decide) ?_
        exact k F HC (gr_same0 hF SC)
    · have S35 := g4.same.trans s5
      have eD5 := s5 _ _ eD
      walk_at "rd"
      refine o_new (by walk_at "len") fun q nq => ?_
      have s6 : Same H5 (upd H5 q (.lst [.ref a, .ref b])) := up_keep nq
      have eq := upd_same (H := H5) (a := q) (o := .lst [.ref a, .ref b])
      have eD6 := s6 _ _ eD5
      generalize upd H5 q (.lst [.ref a, .ref b]) = H6 at *
      have S36 := S35.trans s6
      have S6 := sk.trans S36
      walk_at "rd"
      refine o_neSame (two_dp eq (Same.seq S6 hs) (Same.seq S6 hs2) (ts.mono (hF.trans S6)) (ts2.mono (hF.trans S6))) (two_dp (S36 _ _ ek) (SqL.of (S36 _ _ ec3)) (SqL.of (S36 _ _ ed3)) (ts.mono (hF.trans S6)) (ts2.mono (hF.trans S6))) (pl_two _ _) (by decide) ?_
      have ly : ys.length = (joinS n at' ess dss).length := by rw [tD.length, pu.length_eq]
      walk_at "rd"
      exact k F H6 (gr_same0 hF S6)

theorem freeze {M : Addr → Prop} {F H0 F1 H : Hp} (g : Gr M F H0 F1 H) : ∃ F', Gr M F H0 F' H ∧ Same F1 F' ∧ ∀ b o, H0 b = none → H b = some o → F' b = some o := by
  refine ⟨fun b => if (H0 b).isNone = true then H b else F1 b, ⟨fun b u e => ?_, fun b u e => ?_, g.hh, fun b o e f => ?_⟩, fun b u e => ?_, fun b o e1 e2 => ?_⟩
  · show (if _ then _ else _) = _
    split
    · exact g.fh _ _ (g.ff _ _ e)
    · exact g.ff _ _ e
  · split at e
    · exact e
    · exact g.fh _ _ e
  · show (if _ then _ else _) = _
    rw [e, if_neg (by simp)]
    exact g.nw _ _ e f
  · show (if _ then _ else _) = _
    split
    · exact g.fh _ _ e
    · exact e
  · show (if _ then _ else _) = _
    rw [e1, if_pos (by simp)]
    exact e2
theorem gthn {M : Addr → Prop} {F H F' H' H'' : Hp} (g : Gr M F H F' H') (s : Same H' H'') : Gr M F H F' H'' := ⟨g.ff, g.fh.trans s, fun b o n e => s _ _ (g.hh b o n e), g.nw⟩
theorem pair_take {α β : Type} {R : α → β → Prop} : ∀ {xs : List α} {ds : List β} (n : Nat), Paired R xs ds → Paired R (xs.take n) (ds.take n)
  | _, _, 0, _ => .nil
  | _, _, _ + 1, .nil => .nil
  | _, _, n + 1, .cons a r => .cons a (pair_take n r)
def star (i : Nat) : List (List Int) := (List.range i).map fun k : Nat => [0, 1 + (k : Int)]
theorem star_succ (i : Nat) : star (i + 1) = star i ++ [[0, 1 + (i : Int)]] := by
  rw [star, List.range_succ, List.map_append]
  rfl
def tail2 : List (List Int) := [[1, 2], [3, 4]]
def tenS : List (List Int) := [[0], [1], [2], [3], [0, 1], [0, 2], [0, 3], [1, 2], [1, 3], [2, 3]]
theorem star_all : ∀ d ∈ star 20 ++ tail2, d ≠ [] ∧ d.Pairwise (· < ·) ∧ (∀ x ∈ d, 0 ≤ x ∧ x < 21) ∧ d.length ≤ 11 := by decide +kernel
theorem star_nd : (star 20 ++ tail2).Nodup := by decide +kernel
theorem ten_all : ∀ d ∈ tenS, d ≠ [] ∧ d.Pairwise (· < ·) ∧ (∀ x ∈ d, 0 ≤ x ∧ x < 4) ∧ d.length ≤ 11 := by decide +kernel
theorem ten_nd : tenS.Nodup := by decide +kernel
theorem well_of {n m : Int} {d : List Int} (hn : n ≤ m) (h : d ≠ [] ∧ d.Pairwise (· < ·) ∧ (∀ x ∈ d, 0 ≤ x ∧ x < n) ∧ d.length ≤ 11) : Well m d ∧ d.length ≤ 11 := ⟨⟨h.1, h.2.1, fun x hx => by have := h.2.2.1 x hx; omega, by have := h.2.2.2; omega⟩, h.2.2.2⟩
inductive q_law (K : PySem.W.Frag) (ad : Ad) : V → Hp → VK → Prop
  | mk {a : Addr} {ns : List Int} {H : Hp} {Q : VK} (X : Xf K ad) (hl : ns.length ≤ 63) (hS : SqL K H a (ns.map V.int)) (k : ∀ H', Q (.bl true) H') : q_law K ad (.ref a) H Q

def sp_law (K : PySem.W.Frag) (ad : Ad) : Sp := fun vs H Q _ => match vs with | [x0] => q_law K ad x0 H Q | _ => False
theorem c_law {K : PySem.W.Frag} {ad : Ad} {x0 : V} {H : Hp} {Q : VK} {E : XK} (h : q_law K ad x0 H Q) : sp_law K ad ([x0] ++ []) H Q E := h
theorem n_law {K : PySem.W.Frag} {ad : Ad} {vs : List V} {H : Hp} {Q : VK} {E : XK} (h : sp_law K ad vs H Q E) : ∃ x0, vs = [x0] ∧ q_law K ad x0 H Q := match vs, h with | [x0], h => ⟨x0, rfl, h⟩
theorem spLaw_to {K : PySem.W.Frag} (ad : Ad) (X : Xf K ad) {vs : List V} {H : Hp} {Q : VK} {E : XK} (h : spLaw K vs H Q E) : sp_law K ad vs H Q E := by
  obtain ⟨a, ns, rfl, hl, hS, k⟩ := h
  exact q_law.mk X hl hS k
def t_law (K : PySem.W.Frag) (ad : Ad) : TS := (tSeq (tAsg (tLst (tCons (tC (.int 0)) (tCons (tC (.int 0)) tNil))) (gName 1))
    (tSeq (tFor (iRng1 (tCons (tC (.int 40)) tNil)) (gName 2)
    (tSeq (tAsg (tCall (sp__law_many_seats K ad) [] E0 (tCons (tVar 0) (tCons (tVar 1) tNil))) (gName 3))
    (tSeq (tAsg (tCall (sp__law_family K ad) [] E0 (tCons (tVar 0) (tCons (tVar 1) (tCons (tVar 3) (tCons (tC (.int 14)) tNil))))) (gName 4))
    (tSeq (tAsg (tOp (zAdd K) (tC (.int 1)) (tCall (sp__law_take K ad) [] E0 (tCons (tVar 0) (tCons (tVar 1) (tCons (tCB zMin2 (tCons (tC (.int 9)) (tCons (tOp zSub (tC (.int 61)) (tVar 3)) tNil))) tNil))))) (gName 5))
    (Evl.tCut (tIfS (tTest (tOp (zEq K) (tCall (sp__law_take K ad) [] E0 (tCons (tVar 0) (tCons (tVar 1) (tCons (tC (.int 5)) tNil)))) (tC (.int 0)))) (tAsg (tOp zSub (tC (.int 61)) (tVar 3)) (gName 5)) tNext)
    (tSeq (tAsg (tCall (sp__law_family K ad) [] E0 (tCons (tVar 0) (tCons (tVar 1) (tCons (tVar 5) (tCons (tC (.int 9)) tNil))))) (gName 6))
    (tSeq (tAsg (tCall (sp__law_take K ad) [] E0 (tCons (tVar 0) (tCons (tVar 1) (tCons (tVar 3) tNil)))) (gName 7))
    (Evl.tCut (tIfS (tTest (tOp (zEq K) (tCall (sp__law_take K ad) [] E0 (tCons (tVar 0) (tCons (tVar 1) (tCons (tC (.int 7)) tNil)))) (tC (.int 0)))) (tSeq (tAsg (tSl (zSl K) (tLst (tCons (tTup (tCons (tC (.int 1)) (tCons (tC (.int 2)) tNil))) (tCons (tTup (tCons (tC (.int 3)) (tCons (tC (.int 4)) tNil))) tNil))) tNoPart (tPart (tCall (sp__law_take K ad) [] E0 (tCons (tVar 0) (tCons (tVar 1) (tCons (tC (.int 3)) tNil)))))) (gName 8))
    (tSeq (tAsg (tOp (zAdd K) (tC (.int 21)) (tCall (sp__law_take K ad) [] E0 (tCons (tVar 0) (tCons (tVar 1) (tCons (tC (.int 30)) tNil))))) (gName 3))
    (tSeq (tAsg (tTup (tCons (tC (.int 4)) (tCons (tC (.int 0)) tNil))) (gTup K 2 (gCons (gName 5) (gCons (gName 7) gNil))))
    (tSeq (tAsg (tOp (zAdd K) (tLc (iRng2 (tCons (tC (.int 1)) (tCons (tC (.int 21)) tNil))) (gName 9) tYes (tTup (tCons (tC (.int 0)) (tCons (tVar 9) tNil))) [9]) (tVar 8)) (gName 4))
    (tAsg (tLst (tCons (tTup (tCons (tC (.int 0)) tNil)) (tCons (tTup (tCons (tC (.int 1)) tNil)) (tCons (tTup (tCons (tC (.int 2)) tNil)) (tCons (tTup (tCons (tC (.int 3)) tNil)) (tCons (tTup (tCons (tC (.int 0)) (tCons (tC (.int 1)) tNil))) (tCons (tTup (tCons (tC (.int 0)) (tCons (tC (.int 2)) tNil))) (tCons (tTup (tCons (tC (.int 0)) (tCons (tC (.int 3)) tNil))) (tCons (tTup (tCons (tC (.int 1)) (tCons (tC (.int 2)) tNil))) (tCons (tTup (tCons (tC (.int 1)) (tCons (tC (.int 3)) tNil))) (tCons (tTup (tCons (tC (.int 2)) (tCons (tC (.int 3)) tNil))) tNil))))))))))) (gName 6)))))) tNext)
    (tSeq (tIfS (tNot (zTru K (tCall (sp__law_right K ad) [] E0 (tCons (tVar 3) (tCons (tVar 4) (tCons (tVar 7) (tCons (tVar 5) (tCons (tVar 6) (tCons (tVar 2) tNil))))))))) (tRet (tC (.bl false))) tNext)
    (tIfS (tTest (tOp zGe (tOp (rIx K) (tVar 1) (tC (.int 0))) (tCB (zLen K) (tCons (tVar 0) tNil)))) (tRet (tC (.bl true))) tNext))))))))))
    (tRet (tC (.bl true)))))
theorem w_law {K : PySem.W.Frag} {ad : Ad} {x0 : V} {H : Hp} {Q : VK} (h : q_law K ad x0 H Q) : t_law K ad ⟨fun _ H' => Q .non H', Q, fun _ _ => False, fun _ _ => False⟩ [some x0, none, none, none, none, none, none, none, none, none] H := by
  cases h with
  | @mk a ns _ _ X hl hS k =>
    unfold t_law
    walk_at "rd"
    refine o_new (by walk_at "len") fun p np => ?_
    walk_at "rd"
    have G0 : Gr (M1 p) H H H (upd H p (.lst [.int 0, .int 0])) := (Gr.refl (Same.refl H)).add np
    have hp0 : Pot (upd H p (.lst [.int 0, .int 0])) p := ⟨0, 0, by omega, by omega, upd_same⟩
    have fp0 : H p = none := np
    refine lp_range1 (by omega) (fun i σ' H' => ∃ y2 y3 y4 y5 y6 y7 y8 y9 F', σ' = [some (.ref a), some (.ref p), y2, y3, y4, y5, y6, y7, y8, y9] ∧ Pot H' p ∧ F' p = none ∧ Gr (M1 p) H H F' H') ⟨_, _, _, _, _, _, _, _, H, rfl, hp0, fp0, G0⟩ ?_ ?_
    · rintro i0 σ' H1 hi ⟨y2, y3, y4, y5, y6, y7, y8, y9, F1, rfl, hp1, fp1, G1⟩
      obtain ⟨_, ep1⟩ := hp1.is
      walk_at "rd"
      apply c__law_many_seats
      refine q__law_many_seats.mk G1.fh (G1.ff.seq hS) hp1 fp1 fun n H2 n1 n60 hp2 g2 => ?_
      have G2 := G1.tr1 g2 ep1
      obtain ⟨_, ep2⟩ := hp2.is
      walk_at "rd"
      apply c__law_family
      refine q__law_family.mk G2.fh (G2.ff.seq hS) hp2 fp1 (by omega) (by omega) (by omega) (by omega) fun q vs dss F3 H3 nq eq fq ts wl nd ln hp3 g3 => ?_
      have G3 := G2.tr1 g3 ep2
      have fp3 := g3.nw _ _ ep2 fp1
      have nqp : q ≠ p := fresh_ne nq ep2
      obtain ⟨_, ep3⟩ := hp3.is
      walk_at "rd"
      apply c__law_take
      refine q__law_take.mk G3.fh (G3.ff.seq hS) hp3 fp3 (by split <;> omega) (by split <;> omega) fun mm H4 mm0 mm1 hp4 g4 => ?_
      have G4 := G3.tr1 g4 ep3
      have eq4 := g4.hh _ _ nqp eq
      obtain ⟨_, ep4⟩ := hp4.is
      have mm2 : 1 + mm ≤ 61 - n := by
        split at mm1 <;> omega
      walk_at "rd"
      refine s_cut (fun σ' H' => ∃ m : Int, σ' = [some (.ref a), some (.ref p), some (.int (i0 : Int)), some (.int n), some (.ref q), some (.int m), y6, y7, y8, y9] ∧ 1 ≤ m ∧ m ≤ 61 - n ∧ H' q = some (.lst vs) ∧ Pot H' p ∧ Gr (M1 p) H H F3 H') ?_ ?_
      · walk_at "rd"
        apply c__law_take
        refine q__law_take.mk G4.fh (G4.ff.seq hS) hp4 fp3 (by omega) (by omega) fun w H5 w0 w1 hp5 g5 => ?_
        have G5 := G4.tr1 g5 ep4
        have eq5 := g5.hh _ _ nqp eq4
        walk_at "rd"
        walk_at "if"
        · walk_at "rd"
          exact ⟨61 - n, rfl, by omega, by omega, eq5, hp5, G5⟩
        · walk_at "rd"
          exact ⟨1 + mm, rfl, by omega, mm2, eq5, hp5, G5⟩
      clear g2 G2 hp2 ep2 g3 G3 hp3 ep3 g4 G4 hp4 ep4 mm0 mm1 mm2 eq eq4
      rintro σ' H5 ⟨m, rfl, m1, m2, eq5, hp5, G5⟩
      obtain ⟨_, ep5⟩ := hp5.is
      walk_at "rd"
      apply c__law_family
      refine q__law_family.mk G5.fh (G5.ff.seq hS) hp5 fp3 (by omega) (by omega) (by omega) (by omega) fun q' vs' ess F6 H6 nq' eq' fq' ts' wl' nd' ln' hp6 g6 => ?_
      have G6 := G5.tr1 g6 ep5
      have fp6 := g6.nw _ _ ep5 fp3
      have nqp' : q' ≠ p := fresh_ne nq' ep5
      have eq6 := g6.hh _ _ nqp eq5
      obtain ⟨_, ep6⟩ := hp6.is
      walk_at "rd"
      apply c__law_take
      refine q__law_take.mk G6.fh (G6.ff.seq hS) hp6 fp6 (by omega) (by omega) fun sp H7 sp0 sp1 hp7 g7 => ?_
      have G7 := G6.tr1 g7 ep6
      have eq7 := g7.hh _ _ nqp eq6
      have eq7' := g7.hh _ _ nqp' eq'
      obtain ⟨_, ep7⟩ := hp7.is
      walk_at "rd"
      refine s_cut (fun σ' H' => ∃ (n m sp : Int) (q q' : Addr) (vs vs' : List V) (dss ess : List (List Int)) (F' : Hp) (y8 y9 : Option V), σ' = [some (.ref a), some (.ref p), some (.int (i0 : Int)), some (.int n), some (.ref q), some (.int m), some (.ref q'), some (.int sp), y8, y9] ∧ JIn K F' H' n m sp q q' vs vs' dss ess ∧ Pot H' p ∧ F' p = none ∧ Gr (M1 p) H H F' H') ?_ ?_
      · walk_at "rd"
        apply c__law_take
        refine q__law_take.mk G7.fh (G7.ff.seq hS) hp7 fp6 (by omega) (by omega) fun w H9 w0 w1 hp9 g9 => ?_
        have G9 := G7.tr1 g9 ep7
        have eq9 := g9.hh _ _ nqp eq7
        have eq9' := g9.hh _ _ nqp' eq7'
        obtain ⟨_, ep9⟩ := hp9.is
        walk_at "rd"
        walk_at "if"
        · walk_at "rd"
          refine o_new (by walk_at "len") fun t1 nt1 => ?_
          have s1 : Same H9 (upd H9 t1 (.tup [.int 1, .int 2])) := up_keep nt1
          have f1 : TF H9 (upd H9 t1 (.tup [.int 1, .int 2])) (.ref t1) [1, 2] := ⟨t1, rfl, nt1, upd_same⟩
          generalize upd H9 t1 (.tup [.int 1, .int 2]) = Ha at *
          walk_at "rd"
          refine o_new (by walk_at "len") fun t2 nt2 => ?_
          have s2 : Same Ha (upd Ha t2 (.tup [.int 3, .int 4])) := up_keep nt2
          have f2 : TFs H9 (upd Ha t2 (.tup [.int 3, .int 4])) [.ref t1, .ref t2] tail2 := .cons (f1.mono s2) (.cons ⟨t2, rfl, fresh_back s1 nt2, upd_same⟩ .nil)
          generalize upd Ha t2 (.tup [.int 3, .int 4]) = Hb at *
          walk_at "rd"
          refine o_new (by walk_at "len") fun L nL => ?_
          have s3 : Same Hb (upd Hb L (.lst [.ref t1, .ref t2])) := up_keep nL
          have eL := upd_same (H := Hb) (a := L) (o := .lst [.ref t1, .ref t2])
          have S3 := (s1.trans s2).trans s3
          have nLp : L ≠ p := fresh_ne nL ((s1.trans s2) _ _ ep9)
          have f3 := f2.mono s3
          generalize upd Hb L (.lst [.ref t1, .ref t2]) = Hc at *
          have gc : Gr (M1 p) F6 H9 F6 Hc := gthn (Gr.refl G9.fh) S3
          have hpc := hp9.at (S3 p)
          obtain ⟨_, epc⟩ := hpc.is
          walk_at "rd"
          apply c__law_take
          refine q__law_take.mk gc.fh (G9.ff.seq hS) hpc fp6 (by omega) (by omega) fun w3 Hd w30 w31 hpd gd => ?_
          have gcd := gc.tr1 gd epc
          have eLd := gd.hh _ _ nLp eL
          have tfk : ∀ {HX HY : Hp} {xs : List V} {ds : List (List Int)}, (∀ b o, b ≠ p → HX b = some o → HY b = some o) → TFs H9 HX xs ds → TFs H9 HY xs ds := fun h t => Paired.mono (fun v d ⟨t, e, nt, et⟩ => ⟨t, e, nt, h t _ (fresh_ne nt ep9) et⟩) t
          have f4 := tfk (fun b o n e => gd.hh b o n e) f3
          obtain ⟨w3, rfl⟩ : ∃ k : Nat, w3 = (k : Int) := ⟨w3.toNat, by omega⟩
          walk_at "rd"
          refine sl_L (SqL.of eLd) fun M nM => ?_
          rw [cut_lo]
          have s5 : Same Hd (upd Hd M (.lst ([V.ref t1, .ref t2].take w3))) := up_keep nM
          have eM := upd_same (H := Hd) (a := M) (o := .lst ([V.ref t1, .ref t2].take w3))
          have nMp : M ≠ p := by
            obtain ⟨_, epd⟩ := hpd.is
            exact fresh_ne nM epd
          have f5 : TFs H9 (upd Hd M (.lst ([V.ref t1, .ref t2].take w3))) ([V.ref t1, .ref t2].take w3) (tail2.take w3) := TFs.mono s5 (pair_take w3 f4)
          have ge := gthn gcd s5
          have hpe := hpd.at (s5 p)
          generalize upd Hd M (.lst ([V.ref t1, .ref t2].take w3)) = He at *
          obtain ⟨_, epe⟩ := hpe.is
          walk_at "rd"
          apply c__law_take
          refine q__law_take.mk ge.fh (G9.ff.seq hS) hpe fp6 (by omega) (by omega) fun t30 Hf t0 t1' hpf gf => ?_
          have gef := ge.tr1 gf epe
          have f6 := tfk (fun b o n e => gf.hh b o n e) f5
          have eMf := gf.hh _ _ nMp eM
          walk_at "rd"
          refine o_new (by walk_at "len") fun z nz => ?_
          have s7 : Same Hf (upd Hf z (.tup [.int 4, .int 0])) := up_keep nz
          have ez := upd_same (H := Hf) (a := z) (o := .tup [.int 4, .int 0])
          generalize upd Hf z (.tup [.int 4, .int 0]) = Hg at *
          walk_at "rd"
          have S7 : Same Hg Hg := Same.refl _
          have gg := gthn gef s7
          have hpg := hpf.at (s7 p)
          have f7 := f6.mono s7
          have eMg := s7 _ _ eMf
          have back : ∀ {u : Addr}, Fresh Hg u → H9 u = none := fun {u} h => by
            cases e : H9 u with
            | none => rfl
            | some o =>
              exfalso
              by_cases ep : u = p
              · obtain ⟨_, epg⟩ := hpg.is
                rw [ep, Fresh, epg] at h
                cases h
              · rw [Fresh, gg.hh u o ep e] at h
                cases h
          refine lc_R2 (by omega) (fun D i H' => Same Hg H' ∧ ∃ ys, H' D = some (.lst ys) ∧ TFs H9 H' ys (star i)) (fun D nD => ⟨up_keep nD, [], upd_same, .nil⟩) ?_ ?_
          · rintro D i H' nD hi' ⟨sg, ys, eD, ty⟩
            have ly := ty.length
            rw [star, List.length_map, List.length_range] at ly
            walk_at "rd"
            refine o_new (by walk_at "len") fun u nu => ?_
            have su : Same H' (upd H' u (.tup [.int 0, .int (1 + (i : Int))])) := up_keep nu
            have fu : TF H9 (upd H' u (.tup [.int 0, .int (1 + (i : Int))])) (.ref u) [0, 1 + (i : Int)] := ⟨u, rfl, back (fresh_back sg nu), upd_same⟩
            generalize upd H' u (.tup [.int 0, .int (1 + (i : Int))]) = Hh at *
            have eDh := su _ _ eD
            refine ⟨_, eDh, by rw [sizeLine_eq]; omega, fun b o e => (upd_ne (ne_of_none e nD)).trans (su _ _ (sg _ _ e)), ys ++ [.ref u], upd_same, ?_⟩
            rw [star_succ]
            exact pr_app ((ty.mono su).put eDh) (.cons (fu.put eDh) .nil)
          rintro D Hh nD ⟨sh, ys, eD, ty⟩
          have gh := gthn gg sh
          have hph := hpg.at (sh p)
          have eMh := sh _ _ eMg
          have fM := f7.mono sh
          have ly := ty.length
          rw [star, List.length_map, List.length_range] at ly
          have lM : ([V.ref t1, V.ref t2].take w3).length ≤ 2 := by
            rw [List.length_take]
            exact Nat.min_le_right _ _
          walk_at "rd"
          refine o_addL eD eMh (by rw [sizeLine_eq]; omega) fun S nS => ?_
          have si : Same Hh (upd Hh S (.lst (ys ++ [V.ref t1, .ref t2].take w3))) := up_keep nS
          have eS := upd_same (H := Hh) (a := S) (o := .lst (ys ++ [V.ref t1, .ref t2].take w3))
          have fS := TFs.mono si (pr_app ty fM)
          have gi := gthn gh si
          have hpi := hph.at (si p)
          have shi := sh.trans si
          generalize upd Hh S (.lst (ys ++ [V.ref t1, .ref t2].take w3)) = J0 at *
          have c0 : Same J0 J0 := Same.refl _
          have te0 : TFs H9 J0 [] [] := .nil
          walk_at "rd"
          refine o_new (by walk_at "len") fun u0 nu0 => ?_
          have v0 : Same J0 (upd J0 u0 (.tup [.int 0])) := up_keep nu0
          have te1 := pr_app (TFs.mono v0 te0) (.cons (show TF H9 (upd J0 u0 (.tup [.int 0])) (.ref u0) [0] from ⟨u0, rfl, back (fresh_back (shi.trans c0) nu0), upd_same⟩) .nil)
          have c1 := c0.trans v0
          generalize upd J0 u0 (.tup [.int 0]) = J1 at *
          walk_at "rd"
          refine o_new (by walk_at "len") fun u1 nu1 => ?_
          have v1 : Same J1 (upd J1 u1 (.tup [.int 1])) := up_keep nu1
          have te2 := pr_app (TFs.mono v1 te1) (.cons (show TF H9 (upd J1 u1 (.tup [.int 1])) (.ref u1) [1] from ⟨u1, rfl, back (fresh_back (shi.trans c1) nu1), upd_same⟩) .nil)
          have c2 := c1.trans v1
          generalize upd J1 u1 (.tup [.int 1]) = J2 at *
          walk_at "rd"
          refine o_new (by walk_at "len") fun u2 nu2 => ?_
          have v2 : Same J2 (upd J2 u2 (.tup [.int 2])) := up_keep nu2
          have te3 := pr_app (TFs.mono v2 te2) (.cons (show TF H9 (upd J2 u2 (.tup [.int 2])) (.ref u2) [2] from ⟨u2, rfl, back (fresh_back (shi.trans c2) nu2), upd_same⟩) .nil)
          have c3 := c2.trans v2
          generalize upd J2 u2 (.tup [.int 2]) = J3 at *
          walk_at "rd"
          refine o_new (by walk_at "len") fun u3 nu3 => ?_
          have v3 : Same J3 (upd J3 u3 (.tup [.int 3])) := up_keep nu3
          have te4 := pr_app (TFs.mono v3 te3) (.cons (show TF H9 (upd J3 u3 (.tup [.int 3])) (.ref u3) [3] from ⟨u3, rfl, back (fresh_back (shi.trans c3) nu3), upd_same⟩) .nil)
          have c4 := c3.trans v3
          generalize upd J3 u3 (.tup [.int 3]) = J4 at *
          walk_at "rd"
          refine o_new (by walk_at "len") fun u4 nu4 => ?_
          have v4 : Same J4 (upd J4 u4 (.tup [.int 0, .int 1])) := up_keep nu4
          have te5 := pr_app (TFs.mono v4 te4) (.cons (show TF H9 (upd J4 u4 (.tup [.int 0, .int 1])) (.ref u4) [0, 1] from ⟨u4, rfl, back (fresh_back (shi.trans c4) nu4), upd_same⟩) .nil)
          have c5 := c4.trans v4
          generalize upd J4 u4 (.tup [.int 0, .int 1]) = J5 at *
          walk_at "rd"
          refine o_new (by walk_at "len") fun u5 nu5 => ?_
          have v5 : Same J5 (upd J5 u5 (.tup [.int 0, .int 2])) := up_keep nu5
          have te6 := pr_app (TFs.mono v5 te5) (.cons (show TF H9 (upd J5 u5 (.tup [.int 0, .int 2])) (.ref u5) [0, 2] from ⟨u5, rfl, back (fresh_back (shi.trans c5) nu5), upd_same⟩) .nil)
          have c6 := c5.trans v5
          generalize upd J5 u5 (.tup [.int 0, .int 2]) = J6 at *
          walk_at "rd"
          refine o_new (by walk_at "len") fun u6 nu6 => ?_
          have v6 : Same J6 (upd J6 u6 (.tup [.int 0, .int 3])) := up_keep nu6
          have te7 := pr_app (TFs.mono v6 te6) (.cons (show TF H9 (upd J6 u6 (.tup [.int 0, .int 3])) (.ref u6) [0, 3] from ⟨u6, rfl, back (fresh_back (shi.trans c6) nu6), upd_same⟩) .nil)
          have c7 := c6.trans v6
          generalize upd J6 u6 (.tup [.int 0, .int 3]) = J7 at *
          walk_at "rd"
          refine o_new (by walk_at "len") fun u7 nu7 => ?_
          have v7 : Same J7 (upd J7 u7 (.tup [.int 1, .int 2])) := up_keep nu7
          have te8 := pr_app (TFs.mono v7 te7) (.cons (show TF H9 (upd J7 u7 (.tup [.int 1, .int 2])) (.ref u7) [1, 2] from ⟨u7, rfl, back (fresh_back (shi.trans c7) nu7), upd_same⟩) .nil)
          have c8 := c7.trans v7
          generalize upd J7 u7 (.tup [.int 1, .int 2]) = J8 at *
          walk_at "rd"
          refine o_new (by walk_at "len") fun u8 nu8 => ?_
          have v8 : Same J8 (upd J8 u8 (.tup [.int 1, .int 3])) := up_keep nu8
          have te9 := pr_app (TFs.mono v8 te8) (.cons (show TF H9 (upd J8 u8 (.tup [.int 1, .int 3])) (.ref u8) [1, 3] from ⟨u8, rfl, back (fresh_back (shi.trans c8) nu8), upd_same⟩) .nil)
          have c9 := c8.trans v8
          generalize upd J8 u8 (.tup [.int 1, .int 3]) = J9 at *
          walk_at "rd"
          refine o_new (by walk_at "len") fun u9 nu9 => ?_
          have v9 : Same J9 (upd J9 u9 (.tup [.int 2, .int 3])) := up_keep nu9
          have te10 := pr_app (TFs.mono v9 te9) (.cons (show TF H9 (upd J9 u9 (.tup [.int 2, .int 3])) (.ref u9) [2, 3] from ⟨u9, rfl, back (fresh_back (shi.trans c9) nu9), upd_same⟩) .nil)
          have c10 := c9.trans v9
          generalize upd J9 u9 (.tup [.int 2, .int 3]) = J10 at *
          walk_at "rd"
          refine o_new (by walk_at "len") fun T nT => ?_
          have vT : Same J10 (upd J10 T (.lst [.ref u0, .ref u1, .ref u2, .ref u3, .ref u4, .ref u5, .ref u6, .ref u7, .ref u8, .ref u9])) := up_keep nT
          have eT := upd_same (H := J10) (a := T) (o := .lst [.ref u0, .ref u1, .ref u2, .ref u3, .ref u4, .ref u5, .ref u6, .ref u7, .ref u8, .ref u9])
          have fT := TFs.mono vT te10
          have cT := c10.trans vT
          generalize upd J10 T (.lst [.ref u0, .ref u1, .ref u2, .ref u3, .ref u4, .ref u5, .ref u6, .ref u7, .ref u8, .ref u9]) = JT at *
          have gT := gthn gi cT
          have hpT := hpi.at (cT p)
          have fS2 := fS.mono cT
          have eS2 := cT _ _ eS
          obtain ⟨FF, gF, sF, fF⟩ := freeze gT
          have all : ∀ {xs : List V} {ds : List (List Int)}, TFs H9 JT xs ds → TIs FF xs ds := fun t => Paired.mono (fun v d ⟨t, e, nt, et⟩ => ⟨t, e, fF _ _ nt et⟩) t
          have sub : ∀ d ∈ star 20 ++ tail2.take w3, d ∈ star 20 ++ tail2 := fun d hd => by
            rcases List.mem_append.mp hd with h | h
            · exact List.mem_append_left _ h
            · exact List.mem_append_right _ (List.mem_of_mem_take h)
          refine ⟨21 + t30, 4, 0, S, T, _, _, star 20 ++ tail2.take w3, tenS, FF, _, _, rfl, ⟨by omega, by omega, by omega, by omega, by omega, by omega, by omega, SqL.of eS2, all fS2, ?_, fun d hd => well_of (by omega) (star_all d (sub d hd)), ?_, SqL.of eT, all fT, by decide, fun d hd => well_of (by omega) (ten_all d hd), ten_nd⟩, hpT, gF.nw _ _ ep9 fp6, G9.tr1 gF ep9⟩
          · rw [List.length_append, List.length_take, star, List.length_map, List.length_range, tail2]
            simp only [List.length_cons, List.length_nil]
            omega
          · exact star_nd.sublist ((List.Sublist.refl _).append (List.take_sublist _ _))
        · walk_at "rd"
          exact ⟨n, m, sp, q, q', vs, vs', dss, ess, F6, _, _, rfl, ⟨n1, n60, m1, by omega, sp0, sp1, by omega, SqL.of eq9, ts.mono g6.ff, by omega, wl, nd, SqL.of eq9', ts', by omega, wl', nd'⟩, hp9, fp6, G9⟩
      clear eq7 eq7' eq6 eq5 eq' ts wl nd ln ts' wl' nd' ln' g7 g6 nqp nqp' nq nq' fq fq' sp0 sp1 m1 m2 n1 n60 hp7 hp6 hp5 G7 G6 G5 ep7 ep6 ep5 fp6 fp3
      rintro σ' H8 ⟨n, m, sp, q, q', vs, vs', dss, ess, F8, y8, y9, rfl, j, hp8, fp8, G8⟩
      obtain ⟨o8, ep8⟩ := hp8.is
      walk_at "rd"
      apply c__law_right
      refine q__law_right.mk X G8.fh j fun F9 H9 g9 => ?_
      have G9 := G8.tr0 g9 fun b hb => ⟨o8, by rw [show b = p from hb]; exact ep8⟩
      have fp9 := g9.nw _ _ ep8 fp8
      have hp9 := hp8.at (g9.same p)
      obtain ⟨pi, pr, _, _, ep9⟩ := id hp9
      have hS9 := Same.seq G9.fh (G9.ff.seq hS)
      walk_at "rd"
      walk_at "if"
      · walk_at "rd"
        exact k _
      · walk_at "rd"
        exact ⟨_, _, _, _, _, _, _, _, F9, rfl, hp9, fp9, G9⟩
    · rintro σ' H6 ⟨y2, y3, y4, y5, y6, y7, y8, y9, F6, rfl, hp6, fp6, G6⟩
      walk_at "rd"
      exact k _

def topS (i : Nat) : Stmt := PySem.Challenge.pw_soleseat_k55_families_joined.main.body.getD i (.Pass ⟨0, 0, 0, 0⟩)
abbrev s_NoSeat___init__ : Stmt := inClass (topS 2) 0
abbrev N_NoSeat___init__ : List Str := ["self", "seat"]
theorem sc_NoSeat___init__ : FnScope N_NoSeat___init__ ["self", "seat"] (defScope s_NoSeat___init__) := ⟨rfl, rfl, rfl, by decide +kernel, rfl, by decide +kernel, by decide +kernel⟩
abbrev s_TooMany___init__ : Stmt := inClass (topS 6) 0
abbrev N_TooMany___init__ : List Str := ["self", "what"]
theorem sc_TooMany___init__ : FnScope N_TooMany___init__ ["self", "what"] (defScope s_TooMany___init__) := ⟨rfl, rfl, rfl, by decide +kernel, rfl, by decide +kernel, by decide +kernel⟩
abbrev s_word_of : Stmt := topS 9
abbrev N_word_of : List Str := ["seats", "one", "seat", "k"]
theorem sc_word_of : FnScope N_word_of ["seats", "one"] (defScope s_word_of) := ⟨rfl, rfl, rfl, by decide +kernel, rfl, by decide +kernel, by decide +kernel⟩
abbrev s_fault : Stmt := topS 10
abbrev N_fault : List Str := ["seats", "sets", "known", "at", "one", "word"]
theorem sc_fault : FnScope N_fault ["seats", "sets"] (defScope s_fault) := ⟨rfl, rfl, rfl, by decide +kernel, rfl, by decide +kernel, by decide +kernel⟩
abbrev s_looked : Stmt := topS 11
abbrev N_looked : List Str := ["seats", "sets", "wrong"]
theorem sc_looked : FnScope N_looked ["seats", "sets"] (defScope s_looked) := ⟨rfl, rfl, rfl, by decide +kernel, rfl, by decide +kernel, by decide +kernel⟩
abbrev s_joined : Stmt := topS 13
abbrev N_joined : List Str := ["seats", "sets", "at", "by_seats", "by", "one", "many", "ends", "made", "rest", "seat", "end"]
theorem sc_joined : FnScope N_joined ["seats", "sets", "at", "by_seats", "by"] (defScope s_joined) := ⟨rfl, rfl, rfl, by decide +kernel, rfl, by decide +kernel, by decide +kernel⟩
abbrev s__law_wide : Stmt := topS 15
abbrev N__law_wide : List Str := ["cell", "one", "other", "third"]
theorem sc__law_wide : FnScope N__law_wide ["cell"] (defScope s__law_wide) := ⟨rfl, rfl, rfl, by decide +kernel, rfl, by decide +kernel, by decide +kernel⟩
abbrev s__law_take : Stmt := topS 16
abbrev N__law_take : List Str := ["script", "pot", "many", "cell", "found"]
theorem sc__law_take : FnScope N__law_take ["script", "pot", "many"] (defScope s__law_take) := ⟨rfl, rfl, rfl, by decide +kernel, rfl, by decide +kernel, by decide +kernel⟩
abbrev s__law_set : Stmt := topS 17
abbrev N__law_set : List Str := ["script", "pot", "seats", "found", "seat", "k"]
theorem sc__law_set : FnScope N__law_set ["script", "pot", "seats"] (defScope s__law_set) := ⟨rfl, rfl, rfl, by decide +kernel, rfl, by decide +kernel, by decide +kernel⟩
abbrev s__law_many_seats : Stmt := topS 18
abbrev N__law_many_seats : List Str := ["script", "pot"]
theorem sc__law_many_seats : FnScope N__law_many_seats ["script", "pot"] (defScope s__law_many_seats) := ⟨rfl, rfl, rfl, by decide +kernel, rfl, by decide +kernel, by decide +kernel⟩
abbrev s__law_family : Stmt := topS 19
abbrev N__law_family : List Str := ["script", "pot", "seats", "most", "found", "k", "one"]
theorem sc__law_family : FnScope N__law_family ["script", "pot", "seats", "most"] (defScope s__law_family) := ⟨rfl, rfl, rfl, by decide +kernel, rfl, by decide +kernel, by decide +kernel⟩
abbrev s__law_whole : Stmt := topS 20
abbrev N__law_whole : List Str := ["thing"]
theorem sc__law_whole : FnScope N__law_whole ["thing"] (defScope s__law_whole) := ⟨rfl, rfl, rfl, by decide +kernel, rfl, by decide +kernel, by decide +kernel⟩
abbrev s__law_is_set : Stmt := topS 21
abbrev N__law_is_set : List Str := ["thing", "one"]
theorem sc__law_is_set : FnScope N__law_is_set ["thing"] (defScope s__law_is_set) := ⟨rfl, rfl, rfl, by decide +kernel, rfl, by decide +kernel, by decide +kernel⟩
abbrev s__law_due : Stmt := topS 22
abbrev N__law_due : List Str := ["seats", "sets", "spot", "more_sets", "found", "one", "rest", "seat", "other"]
theorem sc__law_due : FnScope N__law_due ["seats", "sets", "spot", "more_sets"] (defScope s__law_due) := ⟨rfl, rfl, rfl, by decide +kernel, rfl, by decide +kernel, by decide +kernel⟩
abbrev s__law_told : Stmt := topS 23
abbrev N__law_told : List Str := ["seats", "sets", "spot", "more_seats", "more_sets", "turn", "found", "e"]
theorem sc__law_told : FnScope N__law_told ["seats", "sets", "spot", "more_seats", "more_sets", "turn"] (defScope s__law_told) := ⟨rfl, rfl, rfl, by decide +kernel, rfl, by decide +kernel, by decide +kernel⟩
abbrev s__law_right : Stmt := topS 24
abbrev N__law_right : List Str := ["seats", "sets", "spot", "more_seats", "more_sets", "turn", "kept", "due", "found", "one"]
theorem sc__law_right : FnScope N__law_right ["seats", "sets", "spot", "more_seats", "more_sets", "turn"] (defScope s__law_right) := ⟨rfl, rfl, rfl, by decide +kernel, rfl, by decide +kernel, by decide +kernel⟩
abbrev s_law : Stmt := topS 25
abbrev N_law : List Str := ["script", "pot", "turn", "seats", "sets", "more_seats", "more_sets", "spot", "more", "k"]
theorem sc_law : FnScope N_law ["script"] (defScope s_law) := ⟨rfl, rfl, rfl, by decide +kernel, rfl, by decide +kernel, by decide +kernel⟩
structure Txt (K : PySem.W.Frag) (mg : Str → Option Value) (ad : Ad) where
  f_NoSeat___init__ : Addr
  d_NoSeat___init__ : FuncData
  F_NoSeat___init__ : Fun K "__init__" "NoSeat.__init__" s_NoSeat___init__ f_NoSeat___init__ d_NoSeat___init__
  b_NoSeat___init__ : Binds K d_NoSeat___init__ ["self", "seat"] []
  i_NoSeat : PySem.W.findIn K (.ref ad.NoSeat) "__init__" = some (some (.ref f_NoSeat___init__))
  t_NoSeat : PySem.W.typeIn K (.ref f_NoSeat___init__) = some (.type "function")
  f_TooMany___init__ : Addr
  d_TooMany___init__ : FuncData
  F_TooMany___init__ : Fun K "__init__" "TooMany.__init__" s_TooMany___init__ f_TooMany___init__ d_TooMany___init__
  b_TooMany___init__ : Binds K d_TooMany___init__ ["self", "what"] []
  i_TooMany : PySem.W.findIn K (.ref ad.TooMany) "__init__" = some (some (.ref f_TooMany___init__))
  t_TooMany : PySem.W.typeIn K (.ref f_TooMany___init__) = some (.type "function")
  f_word_of : Addr
  d_word_of : FuncData
  F_word_of : Fun K "word_of" "word_of" s_word_of f_word_of d_word_of
  b_word_of : Binds K d_word_of ["seats", "one"] []
  g_word_of : mg "word_of" = some (.ref f_word_of)
  f_fault : Addr
  d_fault : FuncData
  F_fault : Fun K "fault" "fault" s_fault f_fault d_fault
  b_fault : Binds K d_fault ["seats", "sets"] []
  g_fault : mg "fault" = some (.ref f_fault)
  f_looked : Addr
  d_looked : FuncData
  F_looked : Fun K "looked" "looked" s_looked f_looked d_looked
  b_looked : Binds K d_looked ["seats", "sets"] []
  g_looked : mg "looked" = some (.ref f_looked)
  f_joined : Addr
  d_joined : FuncData
  F_joined : Fun K "joined" "joined" s_joined f_joined d_joined
  g_joined : mg "joined" = some (.ref f_joined)
  kb_joined_0 : KBn K d_joined ["seats", "sets", "at", "by_seats", "by"] 2 ["at", "by_seats", "by"] kwApp kwApp
  kb_joined_1 : KBn K d_joined ["seats", "sets", "at", "by_seats", "by"] 2 ["by", "by_seats", "at"] kwRev kwRev
  f__law_wide : Addr
  d__law_wide : FuncData
  F__law_wide : Fun K "_law_wide" "_law_wide" s__law_wide f__law_wide d__law_wide
  b__law_wide : Binds K d__law_wide ["cell"] []
  g__law_wide : mg "_law_wide" = some (.ref f__law_wide)
  f__law_take : Addr
  d__law_take : FuncData
  F__law_take : Fun K "_law_take" "_law_take" s__law_take f__law_take d__law_take
  b__law_take : Binds K d__law_take ["script", "pot", "many"] []
  g__law_take : mg "_law_take" = some (.ref f__law_take)
  f__law_set : Addr
  d__law_set : FuncData
  F__law_set : Fun K "_law_set" "_law_set" s__law_set f__law_set d__law_set
  b__law_set : Binds K d__law_set ["script", "pot", "seats"] []
  g__law_set : mg "_law_set" = some (.ref f__law_set)
  f__law_many_seats : Addr
  d__law_many_seats : FuncData
  F__law_many_seats : Fun K "_law_many_seats" "_law_many_seats" s__law_many_seats f__law_many_seats d__law_many_seats
  b__law_many_seats : Binds K d__law_many_seats ["script", "pot"] []
  g__law_many_seats : mg "_law_many_seats" = some (.ref f__law_many_seats)
  f__law_family : Addr
  d__law_family : FuncData
  F__law_family : Fun K "_law_family" "_law_family" s__law_family f__law_family d__law_family
  b__law_family : Binds K d__law_family ["script", "pot", "seats", "most"] []
  g__law_family : mg "_law_family" = some (.ref f__law_family)
  f__law_whole : Addr
  d__law_whole : FuncData
  F__law_whole : Fun K "_law_whole" "_law_whole" s__law_whole f__law_whole d__law_whole
  b__law_whole : Binds K d__law_whole ["thing"] []
  g__law_whole : mg "_law_whole" = some (.ref f__law_whole)
  f__law_is_set : Addr
  d__law_is_set : FuncData
  F__law_is_set : Fun K "_law_is_set" "_law_is_set" s__law_is_set f__law_is_set d__law_is_set
  b__law_is_set : Binds K d__law_is_set ["thing"] []
  g__law_is_set : mg "_law_is_set" = some (.ref f__law_is_set)
  f__law_due : Addr
  d__law_due : FuncData
  F__law_due : Fun K "_law_due" "_law_due" s__law_due f__law_due d__law_due
  b__law_due : Binds K d__law_due ["seats", "sets", "spot", "more_sets"] []
  g__law_due : mg "_law_due" = some (.ref f__law_due)
  f__law_told : Addr
  d__law_told : FuncData
  F__law_told : Fun K "_law_told" "_law_told" s__law_told f__law_told d__law_told
  b__law_told : Binds K d__law_told ["seats", "sets", "spot", "more_seats", "more_sets", "turn"] []
  g__law_told : mg "_law_told" = some (.ref f__law_told)
  f__law_right : Addr
  d__law_right : FuncData
  F__law_right : Fun K "_law_right" "_law_right" s__law_right f__law_right d__law_right
  b__law_right : Binds K d__law_right ["seats", "sets", "spot", "more_seats", "more_sets", "turn"] []
  g__law_right : mg "_law_right" = some (.ref f__law_right)
  f_law : Addr
  d_law : FuncData
  F_law : Fun K "law" "law" s_law f_law d_law
  b_law : Binds K d_law ["script"] []
  g_law : mg "law" = some (.ref f_law)
  u_SEATS : Value
  g_SEATS : mg "SEATS" = some u_SEATS
  r_SEATS : RelV (.int 60) u_SEATS
  u_SETS : Value
  g_SETS : mg "SETS" = some u_SETS
  r_SETS : RelV (.int 200) u_SETS
  m_bool : mg "bool" = none
  m_enumerate : mg "enumerate" = none
  m_int : mg "int" = none
  m_isinstance : mg "isinstance" = none
  m_len : mg "len" = none
  m_list : mg "list" = none
  m_min : mg "min" = none
  m_range : mg "range" = none
  m_set : mg "set" = none
  m_sorted : mg "sorted" = none
  m_sum : mg "sum" = none
  m_tuple : mg "tuple" = none
  g_SoleError : mg "SoleError" = some (.ref ad.SoleError)
  g_NoSeat : mg "NoSeat" = some (.ref ad.NoSeat)
  g_TooMany : mg "TooMany" = some (.ref ad.TooMany)
  bs_SoleError : BaseC K ad.SoleError
  xf : Xf K ad
theorem ok_NoSeat___init__ {K : PySem.W.Frag} {mg : Str → Option Value} {base : Heap} {ad : Ad} (T : Txt K mg ad) : FnOk ad.P ad.w K mg base CX0 1 T.f_NoSeat___init__ T.d_NoSeat___init__ ["self", "seat"] (sp_NoSeat___init__ K ad) := by
  refine T.F_NoSeat___init__.ok sc_NoSeat___init__ (fun vs H Q E h => ?_) (fun cdv A outer s H vs Q E hr h => ⟨t_NoSeat___init__ K ad, ?_, ?_⟩)
  · obtain ⟨x0, x1, rfl, _⟩ := n_NoSeat___init__ h
    rfl
  · exact (pss_cons (ps_expr (pe_cinit (by rfl) T.g_SoleError T.bs_SoleError (pa_cons (pv 0) (pa_cons pe_str pa_nil))))
    (pss_one (ps_ost (pv 0) (pv 1))))
  · obtain ⟨x0, x1, rfl, h⟩ := n_NoSeat___init__ h
    exact w_NoSeat___init__ h
theorem ok_TooMany___init__ {K : PySem.W.Frag} {mg : Str → Option Value} {base : Heap} {ad : Ad} (T : Txt K mg ad) : FnOk ad.P ad.w K mg base CX0 1 T.f_TooMany___init__ T.d_TooMany___init__ ["self", "what"] (sp_TooMany___init__ K ad) := by
  refine T.F_TooMany___init__.ok sc_TooMany___init__ (fun vs H Q E h => ?_) (fun cdv A outer s H vs Q E hr h => ⟨t_TooMany___init__ K ad, ?_, ?_⟩)
  · obtain ⟨x0, x1, rfl, _⟩ := n_TooMany___init__ h
    rfl
  · exact (pss_one (ps_ost (pv 0) (pv 1)))
  · obtain ⟨x0, x1, rfl, h⟩ := n_TooMany___init__ h
    exact w_TooMany___init__ h
theorem ok_word_of {K : PySem.W.Frag} {mg : Str → Option Value} {base : Heap} {ad : Ad} (T : Txt K mg ad) : FnOk ad.P ad.w K mg base CX0 1 T.f_word_of T.d_word_of ["seats", "one"] (sp_word_of K ad) := by
  refine T.F_word_of.ok sc_word_of (fun vs H Q E h => ?_) (fun cdv A outer s H vs Q E hr h => ⟨t_word_of K ad, ?_, ?_⟩)
  · obtain ⟨x0, x1, rfl, _⟩ := n_word_of h
    rfl
  · exact (pss_cons (ps_if (pt_cmpR (op_zEq hr.units) (pe_callB cr_zLen (by rfl) T.m_len (by decide +kernel) (pa_cons (pv 1) pa_nil)) pe_int (nomark _)) (pss_one (ps_ret pe_str)) pss_nil)
    (pss_cons (ps_for PassesOwn.never rfl (pi_tup (pv 1)) (pg_name (i := 2) sc_word_of.nd rfl (Or.inl rfl))
    (pss_one (ps_if (PW.pt (pw_or (pt_cmpR (op_zLt hr.units0) (pv 2) pe_int (nomark _)) (pw_or1 (pt_cmpR op_zGe (pv 2) (pv 0) (nomark _))))) (pss_one (ps_ret pe_str)) pss_nil)))
    (pss_cons (ps_for PassesOwn.never rfl (pi_range2 (by rfl) T.m_range (pa_cons pe_int (pa_cons (pe_callB cr_zLen (by rfl) T.m_len (by decide +kernel) (pa_cons (pv 1) pa_nil)) pa_nil))) (pg_name (i := 3) sc_word_of.nd rfl (Or.inl rfl))
    (pss_one (ps_if (pt_cmpR op_zGe (pe_ix ix_seq (pv 1) (pe_op op_zSub (pv 3) pe_int) (fun _ _ => rfl)) (pe_ix ix_seq (pv 1) (pv 3) (fun _ _ => rfl)) (nomark _)) (pss_one (ps_ret pe_str)) pss_nil)))
    (pss_one (ps_ret pe_non)))))
  · obtain ⟨x0, x1, rfl, h⟩ := n_word_of h
    exact w_word_of h
theorem ok__law_wide {K : PySem.W.Frag} {mg : Str → Option Value} {base : Heap} {ad : Ad} (T : Txt K mg ad) : FnOk ad.P ad.w K mg base CX0 1 T.f__law_wide T.d__law_wide ["cell"] (sp__law_wide K ad) := by
  refine T.F__law_wide.ok sc__law_wide (fun vs H Q E h => ?_) (fun cdv A outer s H vs Q E hr h => ⟨t__law_wide K ad, ?_, ?_⟩)
  · obtain ⟨x0, rfl, _⟩ := n__law_wide h
    rfl
  · exact (pss_cons (ps_if (pt_cmpR op_zGe (pv 0) (pe_op op_zPow pe_int pe_int) (nomark _)) (pss_one (ps_ret (pv 0))) pss_nil)
    (pss_cons (ps_set (i := 1) sc__law_wide.nd rfl (Or.inl rfl) (pe_op op_zMod (pe_op op_zAdd (pe_op op_zMul (pv 0) pe_int) pe_int) pe_int))
    (pss_cons (ps_set (i := 2) sc__law_wide.nd rfl (Or.inl rfl) (pe_op op_zMod (pe_op op_zAdd (pe_op op_zAdd (pe_op op_zMul (pv 1) (pv 1)) (pe_op op_zMul (pv 0) pe_int)) pe_int) pe_int))
    (pss_cons (ps_set (i := 3) sc__law_wide.nd rfl (Or.inl rfl) (pe_op op_zMod (pe_op op_zAdd (pe_op op_zMul (pv 2) (pv 2)) (pv 1)) pe_int))
    (pss_one (ps_ret (pe_op op_zAdd (pe_op op_zDiv (pv 1) pe_int) (pe_op op_zMul pe_int (pe_op op_zAdd (pe_op op_zDiv (pv 2) pe_int) (pe_op op_zMul pe_int (pe_op op_zDiv (pv 3) pe_int)))))))))))
  · obtain ⟨x0, rfl, h⟩ := n__law_wide h
    exact w__law_wide h
theorem ok__law_whole {K : PySem.W.Frag} {mg : Str → Option Value} {base : Heap} {ad : Ad} (T : Txt K mg ad) : FnOk ad.P ad.w K mg base CX0 1 T.f__law_whole T.d__law_whole ["thing"] (sp__law_whole K ad) := by
  refine T.F__law_whole.ok sc__law_whole (fun vs H Q E h => ?_) (fun cdv A outer s H vs Q E hr h => ⟨t__law_whole K ad, ?_, ?_⟩)
  · obtain ⟨x0, rfl, _⟩ := n__law_whole h
    rfl
  · exact (pss_one (ps_ret (pe_and (pe_callB call_isi (by rfl) T.m_isinstance (by decide +kernel) (pa_cons (pv 0) (pa_cons (pe_bltn (by rfl) T.m_int (by decide +kernel) rfl) pa_nil))) (pe_one (pe_notT (pe_callB call_isi (by rfl) T.m_isinstance (by decide +kernel) (pa_cons (pv 0) (pa_cons (pe_bltn (by rfl) T.m_bool (by decide +kernel) rfl) pa_nil))))))))
  · obtain ⟨x0, rfl, h⟩ := n__law_whole h
    exact w__law_whole h
theorem ok__law_due {K : PySem.W.Frag} {mg : Str → Option Value} {base : Heap} {ad : Ad} (T : Txt K mg ad) : FnOk ad.P ad.w K mg base CX0 1 T.f__law_due T.d__law_due ["seats", "sets", "spot", "more_sets"] (sp__law_due K ad) := by
  refine T.F__law_due.ok sc__law_due (fun vs H Q E h => ?_) (fun cdv A outer s H vs Q E hr h => ⟨t__law_due K ad, ?_, ?_⟩)
  · obtain ⟨x0, x1, x2, x3, rfl, _⟩ := n__law_due h
    rfl
  · exact (pss_cons (ps_set (i := 4) sc__law_due.nd rfl (Or.inl rfl) (pe_lst pa_nil))
    (pss_cons (ps_for PassesOwn.never rfl (pi_list (pv 1)) (pg_name (i := 5) sc__law_due.nd rfl (Or.inl rfl))
    (pss_cons (ps_set (i := 6) sc__law_due.nd rfl (Or.inl rfl) (pe_lst pa_nil))
    (pss_cons (ps_for PassesOwn.never rfl (pi_tup (pv 5)) (pg_name (i := 7) sc__law_due.nd rfl (Or.inl rfl))
    (pss_cons (ps_if (pt_cmpR (op_zLt hr.units0) (pv 7) (pv 2) (nomark _)) (pss_one (ps_expr (pe_bm PySem.F.plainAttrs_list PySem.F.slot_list_append PySem.F.type_list_append mt_append (pv 6) (pa_cons (pv 7) pa_nil)))) pss_nil)
    (pss_one (ps_if (pt_cmpR op_zGt (pv 7) (pv 2) (nomark _)) (pss_one (ps_expr (pe_bm PySem.F.plainAttrs_list PySem.F.slot_list_append PySem.F.type_list_append mt_append (pv 6) (pa_cons (pe_op op_zSub (pv 7) pe_int) pa_nil)))) pss_nil))))
    (pss_one (ps_if (pt_cmpR (op_zIn hr.units65) (pv 2) (pv 5) (by rfl)) (pss_one (ps_for PassesOwn.never rfl (pi_list (pv 3)) (pg_name (i := 8) sc__law_due.nd rfl (Or.inl rfl))
    (pss_one (ps_expr (pe_bm PySem.F.plainAttrs_list PySem.F.slot_list_append PySem.F.type_list_append mt_append (pv 4) (pa_cons (pe_callTy cr_zTuple (by rfl) T.m_tuple (by decide +kernel) (pa_cons (pe_op op_zAdd (pv 6) (pe_lc (own := [("seat", 7)]) rfl sc__law_due.nd (pi_tup (pv 8)) (blkOk_by (own := [("seat", 7)]) (N := N__law_due) (sc := defScope s__law_due) (by decide +kernel)) (fun _ _ _ _ _ => (pg_name (i := 7) sc__law_due.nd rfl (Or.inl rfl))) (fun _ _ _ _ _ => pts_nil) (fun _ _ _ _ _ => (pe_op op_zAdd (pe_op op_zSub (pv 0) pe_int) (pv 7))))) pa_nil)) pa_nil)))))) (pss_one (ps_expr (pe_bm PySem.F.plainAttrs_list PySem.F.slot_list_append PySem.F.type_list_append mt_append (pv 4) (pa_cons (pe_callTy cr_zTuple (by rfl) T.m_tuple (by decide +kernel) (pa_cons (pv 6) pa_nil)) pa_nil)))))))))
    (pss_one (ps_ret (pe_callB cr_sortedTI (by rfl) T.m_sorted (by decide +kernel) (pa_cons (pv 4) pa_nil))))))
  · obtain ⟨x0, x1, x2, x3, rfl, h⟩ := n__law_due h
    exact w__law_due h
theorem ok_fault {K : PySem.W.Frag} {mg : Str → Option Value} {base : Heap} {ad : Ad} (T : Txt K mg ad) : FnOk ad.P ad.w K mg base CX0 2 T.f_fault T.d_fault ["seats", "sets"] (sp_fault K ad) := by
  refine T.F_fault.ok sc_fault (fun vs H Q E h => ?_) (fun cdv A outer s H vs Q E hr h => ⟨t_fault K ad, ?_, ?_⟩)
  · obtain ⟨x0, x1, rfl, _⟩ := n_fault h
    rfl
  · exact (pss_cons (ps_set (i := 2) sc_fault.nd rfl (Or.inl rfl) pe_dnewT)
    (pss_cons (ps_for PassesOwn.never rfl (pi_enum (by rfl) T.m_enumerate (pa_cons (pv 1) pa_nil)) (pg_tup rfl (pgs_cons (pg_name (i := 3) sc_fault.nd rfl (Or.inl rfl)) (pgs_cons (pg_name (i := 4) sc_fault.nd rfl (Or.inl rfl)) pgs_nil)))
    (pss_cons (ps_set (i := 5) sc_fault.nd rfl (Or.inl rfl) (pe_call (ok_word_of T) hr (by rfl) T.g_word_of T.F_word_of.kp T.b_word_of .nil pass0 (pa_cons (pv 0) (pa_cons (pv 4) pa_nil))))
    (pss_cons (ps_if (PW.pt (pw_and (pt_cmpR op_zIsN (pv 5) pe_non (nomark _)) (pw_and1 (pt_cmp (pc_din (hu_of hr) (pv 4) (pv 2)))))) (pss_one (ps_set (i := 5) sc_fault.nd rfl (Or.inl rfl) pe_str)) pss_nil)
    (pss_cons (ps_if (pt_cmpR op_zNotN (pv 5) pe_non (nomark _)) (pss_one (ps_ret (pe_tup (pa_cons (pv 3) (pa_cons (pv 5) pa_nil))))) pss_nil)
    (pss_one (ps_dput (hu_of hr) (pv 2) (pv 4) pe_bl rfl))))))
    (pss_one (ps_ret pe_non))))
  · obtain ⟨x0, x1, rfl, h⟩ := n_fault h
    exact w_fault h
theorem ok__law_take {K : PySem.W.Frag} {mg : Str → Option Value} {base : Heap} {ad : Ad} (T : Txt K mg ad) : FnOk ad.P ad.w K mg base CX0 2 T.f__law_take T.d__law_take ["script", "pot", "many"] (sp__law_take K ad) := by
  refine T.F__law_take.ok sc__law_take (fun vs H Q E h => ?_) (fun cdv A outer s H vs Q E hr h => ⟨t__law_take K ad, ?_, ?_⟩)
  · obtain ⟨x0, x1, x2, rfl, _⟩ := n__law_take h
    rfl
  · exact (Evl.pss_cut (ps_if (pt_cmpR (op_zEq hr.units) (pe_ix ix_seq (pv 1) pe_int (fun _ _ => rfl)) pe_int (nomark _)) (pss_cons (ps_set (i := 3) sc__law_take.nd rfl (Or.inl rfl) (pe_op op_zMul (pe_op op_zAdd (pe_op op_zMod (pe_callB (cr_sum rfl) (by rfl) T.m_sum (by decide +kernel) (pa_cons (pv 0) pa_nil)) pe_int) pe_int) (pe_op op_zAdd (pe_ix ix_seq (pv 1) pe_int (fun _ _ => rfl)) pe_int)))
    (pss_cons (ps_if (pt_cmpR (op_zLt hr.units0) (pe_ix ix_seq (pv 1) pe_int (fun _ _ => rfl)) (pe_callB cr_zLen (by rfl) T.m_len (by decide +kernel) (pa_cons (pv 0) pa_nil)) (nomark _)) (pss_one (ps_set (i := 3) sc__law_take.nd rfl (Or.inl rfl) (pe_ix ix_seq (pv 0) (pe_ix ix_seq (pv 1) pe_int (fun _ _ => rfl)) (fun _ _ => rfl)))) pss_nil)
    (pss_cons (ps_asg (pe_op op_zAdd (pe_ix ix_seq (pv 1) pe_int (fun _ _ => rfl)) pe_int) (pg_sub (pv 1) pe_int set_list))
    (pss_one (ps_asg (pe_call (ok__law_wide T) hr (by rfl) T.g__law_wide T.F__law_wide.kp T.b__law_wide .nil pass0 (pa_cons (pv 3) pa_nil)) (pg_sub (pv 1) pe_int set_list)))))) pss_nil)
    (pss_cons (ps_set (i := 4) sc__law_take.nd rfl (Or.inl rfl) (pe_op op_zMod (pe_ix ix_seq (pv 1) pe_int (fun _ _ => rfl)) (pv 2)))
    (pss_cons (ps_asg (pe_op op_zDiv (pe_ix ix_seq (pv 1) pe_int (fun _ _ => rfl)) (pv 2)) (pg_sub (pv 1) pe_int set_list))
    (pss_one (ps_ret (pv 4))))))
  · obtain ⟨x0, x1, x2, rfl, h⟩ := n__law_take h
    exact w__law_take h
theorem ok__law_is_set {K : PySem.W.Frag} {mg : Str → Option Value} {base : Heap} {ad : Ad} (T : Txt K mg ad) : FnOk ad.P ad.w K mg base CX0 2 T.f__law_is_set T.d__law_is_set ["thing"] (sp__law_is_set K ad) := by
  refine T.F__law_is_set.ok sc__law_is_set (fun vs H Q E h => ?_) (fun cdv A outer s H vs Q E hr h => ⟨t__law_is_set K ad, ?_, ?_⟩)
  · obtain ⟨x0, rfl, _⟩ := n__law_is_set h
    rfl
  · exact (pss_one (ps_ret (pe_and (pe_callB call_isi (by rfl) T.m_isinstance (by decide +kernel) (pa_cons (pv 0) (pa_cons (pe_bltn (by rfl) T.m_tuple (by decide +kernel) rfl) pa_nil))) (pe_one (pe_cmpR (op_zEq hr.units) (pe_lc (own := [("one", 1)]) rfl sc__law_is_set.nd (pi_tup (pv 0)) (blkOk_by (own := [("one", 1)]) (N := N__law_is_set) (sc := defScope s__law_is_set) (by decide +kernel)) (fun _ _ _ _ _ => (pg_name (i := 1) sc__law_is_set.nd rfl (Or.inl rfl))) (fun _ _ _ _ _ => (pts_one (pt_not (pt_truth (pe_call (ok__law_whole T) hr (by rfl) T.g__law_whole T.F__law_whole.kp T.b__law_whole .nil pass0 (pa_cons (pv 1) pa_nil)) (by intro _; rfl))))) (fun _ _ _ _ _ => pe_int)) (pe_lst pa_nil) (nomark _))))))
  · obtain ⟨x0, rfl, h⟩ := n__law_is_set h
    exact w__law_is_set h
theorem ok_looked {K : PySem.W.Frag} {mg : Str → Option Value} {base : Heap} {ad : Ad} (T : Txt K mg ad) : FnOk ad.P ad.w K mg base CX0 3 T.f_looked T.d_looked ["seats", "sets"] (sp_looked K ad) := by
  refine T.F_looked.ok sc_looked (fun vs H Q E h => ?_) (fun cdv A outer s H vs Q E hr h => ⟨t_looked K ad, ?_, ?_⟩)
  · obtain ⟨x0, x1, rfl, _⟩ := n_looked h
    rfl
  · exact (pss_cons (ps_if (PW.pt (pw_or (pt_cmpR (op_zLt hr.units0) (pv 0) pe_int (nomark _)) (pw_or1 (pt_cmpR op_zGt (pv 0) (pe_glob (by rfl) T.g_SEATS T.r_SEATS) (nomark _))))) (pss_one ps_never) pss_nil)
    (pss_cons (ps_if (pt_cmpR op_zGt (pe_callB cr_zLen (by rfl) T.m_len (by decide +kernel) (pa_cons (pv 1) pa_nil)) (pe_glob (by rfl) T.g_SETS T.r_SETS) (nomark _)) (pss_one ps_never) pss_nil)
    (pss_cons (ps_set (i := 2) sc_looked.nd rfl (Or.inl rfl) (pe_call (ok_fault T) hr (by rfl) T.g_fault T.F_fault.kp T.b_fault .nil pass0 (pa_cons (pv 0) (pa_cons (pv 1) pa_nil))))
    (pss_one (ps_if (pt_cmpR op_zNotN (pv 2) pe_non (nomark _)) (pss_one ps_never) pss_nil)))))
  · obtain ⟨x0, x1, rfl, h⟩ := n_looked h
    exact w_looked h
theorem ok__law_set {K : PySem.W.Frag} {mg : Str → Option Value} {base : Heap} {ad : Ad} (T : Txt K mg ad) : FnOk ad.P ad.w K mg base CX0 3 T.f__law_set T.d__law_set ["script", "pot", "seats"] (sp__law_set K ad) := by
  refine T.F__law_set.ok sc__law_set (fun vs H Q E h => ?_) (fun cdv A outer s H vs Q E hr h => ⟨t__law_set K ad, ?_, ?_⟩)
  · obtain ⟨x0, x1, x2, rfl, _⟩ := n__law_set h
    rfl
  · exact (pss_cons (ps_set (i := 3) sc__law_set.nd rfl (Or.inl rfl) (pe_lst pa_nil))
    (Evl.pss_cut (ps_if (PW.pt (pw_and (pt_cmpR (op_zLt hr.units0) (pv 2) pe_int (nomark _)) (pw_and1 (pt_cmpR (op_zLt hr.units0) (pe_call (ok__law_take T) hr (by rfl) T.g__law_take T.F__law_take.kp T.b__law_take .nil pass0 (pa_cons (pv 0) (pa_cons (pv 1) (pa_cons pe_int pa_nil)))) pe_int (nomark _))))) (pss_one (ps_setLc (i := 3) (own := [("seat", 4)]) rfl sc__law_set.nd rfl rfl (sw_true rfl rfl rfl (by decide +kernel)) (pi_range1 (by rfl) T.m_range (pa_cons (pv 2) pa_nil)) (blkOk_by (own := [("seat", 4)]) (N := N__law_set) (sc := defScope s__law_set) (by decide +kernel)) (fun _ _ _ _ _ => (pg_name (i := 4) sc__law_set.nd rfl (Or.inl rfl))) (fun _ _ _ _ _ => (pts_one (pt_cmpR (op_zEq hr.units) (pe_call (ok__law_take T) hr (by rfl) T.g__law_take T.F__law_take.kp T.b__law_take .nil pass0 (pa_cons (pv 0) (pa_cons (pv 1) (pa_cons pe_int pa_nil)))) pe_int (nomark _)))) (fun _ _ _ _ _ => (pv 4)))) (pss_one (ps_setLc (i := 3) (own := [("k", 5)]) rfl sc__law_set.nd rfl rfl (sw_true rfl rfl rfl (by decide +kernel)) (pi_range1 (by rfl) T.m_range (pa_cons (pe_call (ok__law_take T) hr (by rfl) T.g__law_take T.F__law_take.kp T.b__law_take .nil pass0 (pa_cons (pv 0) (pa_cons (pv 1) (pa_cons pe_int pa_nil)))) pa_nil)) (blkOk_by (own := [("k", 5)]) (N := N__law_set) (sc := defScope s__law_set) (by decide +kernel)) (fun _ _ _ _ _ => (pg_name (i := 5) sc__law_set.nd rfl (Or.inl rfl))) (fun _ _ _ _ _ => pts_nil) (fun _ _ _ _ _ => (pe_call (ok__law_take T) hr (by rfl) T.g__law_take T.F__law_take.kp T.b__law_take .nil pass0 (pa_cons (pv 0) (pa_cons (pv 1) (pa_cons (pv 2) pa_nil))))))))
    (pss_cons (ps_expr (pe_bm PySem.F.plainAttrs_list PySem.F.slot_list_append PySem.F.type_list_append mt_append (pv 3) (pa_cons (pe_call (ok__law_take T) hr (by rfl) T.g__law_take T.F__law_take.kp T.b__law_take .nil pass0 (pa_cons (pv 0) (pa_cons (pv 1) (pa_cons (pv 2) pa_nil)))) pa_nil)))
    (pss_one (ps_ret (pe_callTy cr_zTuple (by rfl) T.m_tuple (by decide +kernel) (pa_cons (pe_callB (cr_zSorted rfl) (by rfl) T.m_sorted (by decide +kernel) (pa_cons (pe_callTy (cr_zSet rfl) (by rfl) T.m_set (by decide +kernel) (pa_cons (pv 3) pa_nil)) pa_nil)) pa_nil)))))))
  · obtain ⟨x0, x1, x2, rfl, h⟩ := n__law_set h
    exact w__law_set h
theorem ok__law_many_seats {K : PySem.W.Frag} {mg : Str → Option Value} {base : Heap} {ad : Ad} (T : Txt K mg ad) : FnOk ad.P ad.w K mg base CX0 3 T.f__law_many_seats T.d__law_many_seats ["script", "pot"] (sp__law_many_seats K ad) := by
  refine T.F__law_many_seats.ok sc__law_many_seats (fun vs H Q E h => ?_) (fun cdv A outer s H vs Q E hr h => ⟨t__law_many_seats K ad, ?_, ?_⟩)
  · obtain ⟨x0, x1, rfl, _⟩ := n__law_many_seats h
    rfl
  · exact (pss_cons (ps_if (pt_cmpR (op_zEq hr.units) (pe_call (ok__law_take T) hr (by rfl) T.g__law_take T.F__law_take.kp T.b__law_take .nil pass0 (pa_cons (pv 0) (pa_cons (pv 1) (pa_cons pe_int pa_nil)))) pe_int (nomark _)) (pss_one (ps_ret (pe_op op_zAdd pe_int (pe_call (ok__law_take T) hr (by rfl) T.g__law_take T.F__law_take.kp T.b__law_take .nil pass0 (pa_cons (pv 0) (pa_cons (pv 1) (pa_cons pe_int pa_nil))))))) pss_nil)
    (pss_one (ps_ret (pe_op op_zAdd pe_int (pe_call (ok__law_take T) hr (by rfl) T.g__law_take T.F__law_take.kp T.b__law_take .nil pass0 (pa_cons (pv 0) (pa_cons (pv 1) (pa_cons pe_int pa_nil))))))))
  · obtain ⟨x0, x1, rfl, h⟩ := n__law_many_seats h
    exact w__law_many_seats h
theorem ok_joined {K : PySem.W.Frag} {mg : Str → Option Value} {base : Heap} {ad : Ad} (T : Txt K mg ad) : FnOk ad.P ad.w K mg base (L2.CX ad.P ad.w) 4 T.f_joined T.d_joined ["seats", "sets", "at", "by_seats", "by"] (sp_joined K ad) := by
  refine T.F_joined.okX sc_joined (fun vs H Q E h => ?_) (fun cdv A outer s H vs Q E hr h => ⟨t_joined K ad E, ?_, ?_⟩)
  · obtain ⟨x0, x1, x2, x3, x4, rfl, _⟩ := n_joined h
    rfl
  · exact (pss_cons (ps_expr (pe_call (ok_looked T) hr (by rfl) T.g_looked T.F_looked.kp T.b_looked .nil pass0 (pa_cons (pv 0) (pa_cons (pv 1) pa_nil))))
    (pss_cons (ps_expr (pe_call (ok_looked T) hr (by rfl) T.g_looked T.F_looked.kp T.b_looked .nil pass0 (pa_cons (pv 3) (pa_cons (pv 4) pa_nil))))
    (pss_cons (ps_if (PW.pt (pw_or (pt_cmpR (op_zLt hr.units0) (pv 2) pe_int (nomark _)) (pw_or1 (pt_cmpR op_zGe (pv 2) (pv 0) (nomark _))))) (pss_one (ps_raise rfl (takes_of rfl rfl rfl rfl) (pmk_oex T.xf.x_NoSeat T.i_NoSeat T.t_NoSeat (ok_NoSeat___init__ T) (hr.mono (by decide)) T.b_NoSeat___init__ .nil pass0 (by rfl) T.g_NoSeat (pa_cons (pv 2) pa_nil)))) pss_nil)
    (pss_cons (ps_if (pt_cmpR op_zGt (pe_op op_zAdd (pe_op op_zSub (pv 0) pe_int) (pv 3)) (pe_glob (by rfl) T.g_SEATS T.r_SEATS) (nomark _)) (pss_one (ps_raise rfl (takes_of rfl rfl rfl rfl) (pmk_oex T.xf.x_TooMany T.i_TooMany T.t_TooMany (ok_TooMany___init__ T) (hr.mono (by decide)) T.b_TooMany___init__ .nil pass0 (by rfl) T.g_TooMany (pa_cons pe_str pa_nil)))) pss_nil)
    (pss_cons (ps_set (i := 6) sc_joined.nd rfl (Or.inl rfl) (pe_callB (cr_sum rfl) (by rfl) T.m_sum (by decide +kernel) (pa_cons (pe_lc (own := [("one", 5)]) rfl sc_joined.nd (pi_list (pv 1)) (blkOk_by (own := [("one", 5)]) (N := N_joined) (sc := defScope s_joined) (by decide +kernel)) (fun _ _ _ _ _ => (pg_name (i := 5) sc_joined.nd rfl (Or.inl rfl))) (fun _ _ _ _ _ => pts_nil) (fun _ _ _ _ _ => (pe_ifExp (pt_cmpR (op_zIn hr.units65) (pv 2) (pv 5) (by rfl)) (pe_callB cr_zLen (by rfl) T.m_len (by decide +kernel) (pa_cons (pv 4) pa_nil)) pe_int))) pa_nil)))
    (pss_cons (ps_if (pt_cmpR op_zGt (pv 6) (pe_glob (by rfl) T.g_SETS T.r_SETS) (nomark _)) (pss_one (ps_raise rfl (takes_of rfl rfl rfl rfl) (pmk_oex T.xf.x_TooMany T.i_TooMany T.t_TooMany (ok_TooMany___init__ T) (hr.mono (by decide)) T.b_TooMany___init__ .nil pass0 (by rfl) T.g_TooMany (pa_cons pe_str pa_nil)))) pss_nil)
    (pss_cons (ps_setLc (i := 7) (own := [("one", 5)]) rfl sc_joined.nd rfl rfl (sw_true rfl rfl rfl (by decide +kernel)) (pi_list (pv 4)) (blkOk_by (own := [("one", 5)]) (N := N_joined) (sc := defScope s_joined) (by decide +kernel)) (fun _ _ _ _ _ => (pg_name (i := 5) sc_joined.nd rfl (Or.inl rfl))) (fun _ _ _ _ _ => pts_nil) (fun _ _ _ _ _ => (pe_callTy cr_zTuple (by rfl) T.m_tuple (by decide +kernel) (pa_cons (pe_lc (own := [("seat", 10)]) rfl sc_joined.nd (pi_tup (pv 5)) (blkOk_by (own := [("seat", 10)]) (N := N_joined) (sc := ({ kind := .function, names := [(".0", .local), ("one", .local), ("tuple", .globalImplicit), ("seats", .cell)], isGenerator := false, isCoroutine := false, more := [] } : Scope)) (by decide +kernel)) (fun _ _ _ _ _ => (pg_name (i := 10) sc_joined.nd rfl (Or.inl rfl))) (fun _ _ _ _ _ => pts_nil) (fun _ _ _ _ _ => (pe_op op_zAdd (pe_op op_zSub (pv 0) pe_int) (pv 10)))) pa_nil))))
    (pss_cons (ps_set (i := 8) sc_joined.nd rfl (Or.inl rfl) (pe_lst pa_nil))
    (pss_cons (ps_for (passes_of rfl) rfl (pi_list (pv 1)) (pg_name (i := 5) sc_joined.nd rfl (Or.inl rfl))
    (pss_cons (ps_set (i := 9) sc_joined.nd rfl (Or.inr rfl) (pe_callTy cr_zTuple (by rfl) T.m_tuple (by decide +kernel) (pa_cons (pe_lc (own := [("seat", 10)]) rfl sc_joined.nd (pi_tup (pv 5)) (blkOk_by (own := [("seat", 10)]) (N := N_joined) (sc := defScope s_joined) (by decide +kernel)) (fun _ _ _ _ _ => (pg_name (i := 10) sc_joined.nd rfl (Or.inl rfl))) (fun _ _ _ _ _ => (pts_one (pt_cmpR (op_zNe hr.units) (pv 10) (pv 2) (nomark _)))) (fun _ _ _ _ _ => (pe_op op_zSub (pv 10) (pe_callTy call_int1 (by rfl) T.m_int (by decide +kernel) (pa_cons (pe_cmpR op_zGt (pv 10) (pv 2) (nomark _)) pa_nil))))) pa_nil)))
    (pss_one (ps_if (pt_cmpR (op_zIn hr.units65) (pv 2) (pv 5) (by rfl)) (pss_one (ps_expr (pe_bm PySem.F.plainAttrs_list PySem.F.slot_list_extend PySem.F.type_list_extend mt_extend (pv 8) (pa_cons (pe_lc (own := [("end", 11)]) rfl sc_joined.nd (pi_list (pv 7)) (blkOk_by (own := [("end", 11)]) (N := N_joined) (sc := defScope s_joined) (by decide +kernel)) (fun _ _ _ _ _ => (pg_name (i := 11) sc_joined.nd rfl (Or.inl rfl))) (fun _ _ _ _ _ => pts_nil) (fun _ _ _ _ _ => (pe_op op_zAdd (pv 9) (pv 11)))) pa_nil)))) (pss_one (ps_expr (pe_bm PySem.F.plainAttrs_list PySem.F.slot_list_append PySem.F.type_list_append mt_append (pv 8) (pa_cons (pv 9) pa_nil))))))))
    (pss_one (ps_ret (pv 8))))))))))))
  · obtain ⟨x0, x1, x2, x3, x4, rfl, h⟩ := n_joined h
    exact w_joined h
theorem ok__law_family {K : PySem.W.Frag} {mg : Str → Option Value} {base : Heap} {ad : Ad} (T : Txt K mg ad) : FnOk ad.P ad.w K mg base CX0 4 T.f__law_family T.d__law_family ["script", "pot", "seats", "most"] (sp__law_family K ad) := by
  refine T.F__law_family.ok sc__law_family (fun vs H Q E h => ?_) (fun cdv A outer s H vs Q E hr h => ⟨t__law_family K ad, ?_, ?_⟩)
  · obtain ⟨x0, x1, x2, x3, rfl, _⟩ := n__law_family h
    rfl
  · exact (pss_cons (ps_set (i := 4) sc__law_family.nd rfl (Or.inl rfl) (pe_lst pa_nil))
    (pss_cons (ps_for PassesOwn.never rfl (pi_range1 (by rfl) T.m_range (pa_cons (pe_call (ok__law_take T) (hr.mono (by decide)) (by rfl) T.g__law_take T.F__law_take.kp T.b__law_take .nil pass0 (pa_cons (pv 0) (pa_cons (pv 1) (pa_cons (pe_op op_zAdd (pv 3) pe_int) pa_nil)))) pa_nil)) (pg_name (i := 5) sc__law_family.nd rfl (Or.inl rfl))
    (pss_cons (ps_set (i := 6) sc__law_family.nd rfl (Or.inl rfl) (pe_call (ok__law_set T) hr (by rfl) T.g__law_set T.F__law_set.kp T.b__law_set .nil pass0 (pa_cons (pv 0) (pa_cons (pv 1) (pa_cons (pv 2) pa_nil)))))
    (pss_one (ps_if (pt_cmpR (op_zNotIn hr.units65) (pv 6) (pv 4) (by rfl)) (pss_one (ps_expr (pe_bm PySem.F.plainAttrs_list PySem.F.slot_list_append PySem.F.type_list_append mt_append (pv 4) (pa_cons (pv 6) pa_nil)))) pss_nil))))
    (pss_one (ps_ret (pv 4)))))
  · obtain ⟨x0, x1, x2, x3, rfl, h⟩ := n__law_family h
    exact w__law_family h
theorem ok__law_told {K : PySem.W.Frag} {mg : Str → Option Value} {base : Heap} {ad : Ad} (T : Txt K mg ad) : FnOk ad.P ad.w K mg base CX0 5 T.f__law_told T.d__law_told ["seats", "sets", "spot", "more_seats", "more_sets", "turn"] (sp__law_told K ad) := by
  refine T.F__law_told.ok sc__law_told (fun vs H Q E h => ?_) (fun cdv A outer s H vs Q E hr h => ⟨t__law_told K ad, ?_, ?_⟩)
  · obtain ⟨x0, x1, x2, x3, x4, x5, rfl, _⟩ := n__law_told h
    rfl
  · exact (pss_cons (ps_try_as (i := 7) (tb := fun W => (tSeq (tIfS (tTest (tOp (zEq K) (tOp zMod (tVar 5) (tC (.int 2))) (tC (.int 0)))) (tRet (tCallNS 2 3 (sp_joined K ad) kwApp (WE W) (tCons (tVar 0) (tCons (tVar 1) tNil)) (tCons (tVar 2) (tCons (tVar 3) (tCons (tVar 4) tNil))))) tNext)
    (tAsg (tCallNS 2 3 (sp_joined K ad) kwRev (WE W) (tCons (tVar 0) (tCons (tVar 1) tNil)) (tCons (tVar 4) (tCons (tVar 3) (tCons (tVar 2) tNil)))) (gName 6)))) (ts := fun a cls d => (tSeq (tIfS (zTru K (tCB (zIsX K a cls d) (tCons (tVar 7) (tCons (tC (.ref ad.TooMany)) tNil)))) (tRet (tXfA K a cls d "what" (tVar 7))) tNext)
    (tRet (tC (.str "odd"))))) (Wout := (fun _ _ _ _ => False)) rfl rfl sc__law_told.nd rfl rfl ⟨by rfl, by decide, (.inl T.g_SoleError)⟩ takes0 (fun W pn xe tk po => (pss_cons (ps_if (pt_cmpR (op_zEq hr.units) (pe_op op_zMod (pv 5) pe_int) pe_int (nomark _)) (pss_one (ps_ret (pe_callNS (n := 2) (ks := ["at", "by_seats", "by"]) (ok_joined T) hr (by rfl) T.g_joined T.F_joined.kp T.kb_joined_0 (fun σ => passAt tk σ) (pa_cons (pv 0) (pa_cons (pv 1) pa_nil)) (pk_cons (pv 2) (pk_cons (pv 3) (pk_cons (pv 4) pk_nil)))))) pss_nil)
    (pss_one (ps_set (i := 6) sc__law_told.nd rfl (Or.inl rfl) (pe_callNS (n := 2) (ks := ["by", "by_seats", "at"]) (ok_joined T) hr (by rfl) T.g_joined T.F_joined.kp T.kb_joined_1 (fun σ => passAt tk σ) (pa_cons (pv 0) (pa_cons (pv 1) pa_nil)) (pk_cons (pv 4) (pk_cons (pv 3) (pk_cons (pv 2) pk_nil)))))))) (fun a oe cls d pn hz hf => (pss_cons (ps_if (pt_truth (pe_callB (cr_zIsX hz hf) (by rfl) T.m_isinstance (by decide +kernel) (pa_cons (pv 7) (pa_cons (pe_glob (by rfl) T.g_TooMany rfl) pa_nil))) (by intro _; rfl)) (pss_one (ps_ret (pe_xfA hz hf (pv 7)))) pss_nil)
    (pss_one (ps_ret pe_str)))))
    (pss_one (ps_ret (pv 6))))
  · obtain ⟨x0, x1, x2, x3, x4, x5, rfl, h⟩ := n__law_told h
    exact w__law_told h
theorem ok__law_right {K : PySem.W.Frag} {mg : Str → Option Value} {base : Heap} {ad : Ad} (T : Txt K mg ad) : FnOk ad.P ad.w K mg base CX0 6 T.f__law_right T.d__law_right ["seats", "sets", "spot", "more_seats", "more_sets", "turn"] (sp__law_right K ad) := by
  refine T.F__law_right.ok sc__law_right (fun vs H Q E h => ?_) (fun cdv A outer s H vs Q E hr h => ⟨t__law_right K ad, ?_, ?_⟩)
  · obtain ⟨x0, x1, x2, x3, x4, x5, rfl, _⟩ := n__law_right h
    rfl
  · exact (pss_cons (ps_set (i := 6) sc__law_right.nd rfl (Or.inl rfl) (pe_lst (pa_cons (pe_callTy cr_zList (by rfl) T.m_list (by decide +kernel) (pa_cons (pv 1) pa_nil)) (pa_cons (pe_callTy cr_zList (by rfl) T.m_list (by decide +kernel) (pa_cons (pv 4) pa_nil)) pa_nil))))
    (pss_cons (ps_set (i := 7) sc__law_right.nd rfl (Or.inl rfl) (pe_call (ok__law_due T) (hr.mono (by decide)) (by rfl) T.g__law_due T.F__law_due.kp T.b__law_due .nil pass0 (pa_cons (pv 0) (pa_cons (pv 1) (pa_cons (pv 2) (pa_cons (pv 4) pa_nil))))))
    (pss_cons (ps_set (i := 8) sc__law_right.nd rfl (Or.inl rfl) (pe_call (ok__law_told T) hr (by rfl) T.g__law_told T.F__law_told.kp T.b__law_told .nil pass0 (pa_cons (pv 0) (pa_cons (pv 1) (pa_cons (pv 2) (pa_cons (pv 3) (pa_cons (pv 4) (pa_cons (pv 5) pa_nil))))))))
    (pss_cons (ps_if (pt_cmpR (op_zNe hr.units) (pe_lst (pa_cons (pv 1) (pa_cons (pv 4) pa_nil))) (pv 6) (nomark _)) (pss_one (ps_ret pe_bl)) pss_nil)
    (pss_cons (ps_if (pt_cmpR op_zGt (pe_callB cr_zLen (by rfl) T.m_len (by decide +kernel) (pa_cons (pv 7) pa_nil)) pe_int (nomark _)) (pss_one (ps_ret (pe_cmpR (op_zEq hr.units) (pv 8) pe_str (nomark _)))) pss_nil)
    (pss_cons (ps_if (PW.pt (pw_or (pt_not (pt_truth (pe_callB call_isi (by rfl) T.m_isinstance (by decide +kernel) (pa_cons (pv 8) (pa_cons (pe_bltn (by rfl) T.m_list (by decide +kernel) rfl) pa_nil))) (by intro _; rfl))) (pw_or1 (pt_cmpR (op_zNe hr.units) (pe_lc (own := [("one", 9)]) rfl sc__law_right.nd (pi_list (pv 8)) (blkOk_by (own := [("one", 9)]) (N := N__law_right) (sc := defScope s__law_right) (by decide +kernel)) (fun _ _ _ _ _ => (pg_name (i := 9) sc__law_right.nd rfl (Or.inl rfl))) (fun _ _ _ _ _ => (pts_one (pt_not (pt_truth (pe_call (ok__law_is_set T) (hr.mono (by decide)) (by rfl) T.g__law_is_set T.F__law_is_set.kp T.b__law_is_set .nil pass0 (pa_cons (pv 9) pa_nil)) (by intro _; rfl))))) (fun _ _ _ _ _ => pe_int)) (pe_lst pa_nil) (nomark _))))) (pss_one (ps_ret pe_bl)) pss_nil)
    (pss_cons (ps_if (pt_cmpR (op_zNe hr.units) (pe_callB cr_sortedTI (by rfl) T.m_sorted (by decide +kernel) (pa_cons (pv 8) pa_nil)) (pv 7) (nomark _)) (pss_one (ps_ret pe_bl)) pss_nil)
    (pss_cons (ps_expr (pe_bm PySem.F.plainAttrs_list PySem.F.slot_list_append PySem.F.type_list_append mt_append (pv 8) (pa_cons (pe_tup pa_nil) pa_nil)))
    (pss_one (ps_ret (pe_cmpR (op_zEq hr.units) (pe_lst (pa_cons (pv 1) (pa_cons (pv 4) pa_nil))) (pv 6) (nomark _))))))))))))
  · obtain ⟨x0, x1, x2, x3, x4, x5, rfl, h⟩ := n__law_right h
    exact w__law_right h
theorem ok_law {K : PySem.W.Frag} {mg : Str → Option Value} {base : Heap} {ad : Ad} (T : Txt K mg ad) : FnOk ad.P ad.w K mg base CX0 7 T.f_law T.d_law ["script"] (sp_law K ad) := by
  refine T.F_law.ok sc_law (fun vs H Q E h => ?_) (fun cdv A outer s H vs Q E hr h => ⟨t_law K ad, ?_, ?_⟩)
  · obtain ⟨x0, rfl, _⟩ := n_law h
    rfl
  · exact (pss_cons (ps_set (i := 1) sc_law.nd rfl (Or.inl rfl) (pe_lst (pa_cons pe_int (pa_cons pe_int pa_nil))))
    (pss_cons (ps_for PassesOwn.never rfl (pi_range1 (by rfl) T.m_range (pa_cons pe_int pa_nil)) (pg_name (i := 2) sc_law.nd rfl (Or.inl rfl))
    (pss_cons (ps_set (i := 3) sc_law.nd rfl (Or.inl rfl) (pe_call (ok__law_many_seats T) (hr.mono (by decide)) (by rfl) T.g__law_many_seats T.F__law_many_seats.kp T.b__law_many_seats .nil pass0 (pa_cons (pv 0) (pa_cons (pv 1) pa_nil))))
    (pss_cons (ps_set (i := 4) sc_law.nd rfl (Or.inl rfl) (pe_call (ok__law_family T) (hr.mono (by decide)) (by rfl) T.g__law_family T.F__law_family.kp T.b__law_family .nil pass0 (pa_cons (pv 0) (pa_cons (pv 1) (pa_cons (pv 3) (pa_cons pe_int pa_nil))))))
    (pss_cons (ps_set (i := 5) sc_law.nd rfl (Or.inl rfl) (pe_op op_zAdd pe_int (pe_call (ok__law_take T) (hr.mono (by decide)) (by rfl) T.g__law_take T.F__law_take.kp T.b__law_take .nil pass0 (pa_cons (pv 0) (pa_cons (pv 1) (pa_cons (pe_callB (call_min2 rfl) (by rfl) T.m_min (by decide +kernel) (pa_cons pe_int (pa_cons (pe_op op_zSub pe_int (pv 3)) pa_nil))) pa_nil))))))
    (Evl.pss_cut (ps_if (pt_cmpR (op_zEq hr.units) (pe_call (ok__law_take T) (hr.mono (by decide)) (by rfl) T.g__law_take T.F__law_take.kp T.b__law_take .nil pass0 (pa_cons (pv 0) (pa_cons (pv 1) (pa_cons pe_int pa_nil)))) pe_int (nomark _)) (pss_one (ps_set (i := 5) sc_law.nd rfl (Or.inl rfl) (pe_op op_zSub pe_int (pv 3)))) pss_nil)
    (pss_cons (ps_set (i := 6) sc_law.nd rfl (Or.inl rfl) (pe_call (ok__law_family T) (hr.mono (by decide)) (by rfl) T.g__law_family T.F__law_family.kp T.b__law_family .nil pass0 (pa_cons (pv 0) (pa_cons (pv 1) (pa_cons (pv 5) (pa_cons pe_int pa_nil))))))
    (pss_cons (ps_set (i := 7) sc_law.nd rfl (Or.inl rfl) (pe_call (ok__law_take T) (hr.mono (by decide)) (by rfl) T.g__law_take T.F__law_take.kp T.b__law_take .nil pass0 (pa_cons (pv 0) (pa_cons (pv 1) (pa_cons (pv 3) pa_nil)))))
    (Evl.pss_cut (ps_if (pt_cmpR (op_zEq hr.units) (pe_call (ok__law_take T) (hr.mono (by decide)) (by rfl) T.g__law_take T.F__law_take.kp T.b__law_take .nil pass0 (pa_cons (pv 0) (pa_cons (pv 1) (pa_cons pe_int pa_nil)))) pe_int (nomark _)) (pss_cons (ps_set (i := 8) sc_law.nd rfl (Or.inl rfl) (pe_slice sl_z (pe_lst (pa_cons (pe_tup (pa_cons pe_int (pa_cons pe_int pa_nil))) (pa_cons (pe_tup (pa_cons pe_int (pa_cons pe_int pa_nil))) pa_nil))) po_none (po_some (pe_call (ok__law_take T) (hr.mono (by decide)) (by rfl) T.g__law_take T.F__law_take.kp T.b__law_take .nil pass0 (pa_cons (pv 0) (pa_cons (pv 1) (pa_cons pe_int pa_nil)))))))
    (pss_cons (ps_set (i := 3) sc_law.nd rfl (Or.inl rfl) (pe_op op_zAdd pe_int (pe_call (ok__law_take T) (hr.mono (by decide)) (by rfl) T.g__law_take T.F__law_take.kp T.b__law_take .nil pass0 (pa_cons (pv 0) (pa_cons (pv 1) (pa_cons pe_int pa_nil))))))
    (pss_cons (ps_asg (pe_tup (pa_cons pe_int (pa_cons pe_int pa_nil))) (pg_tup rfl (pgs_cons (pg_name (i := 5) sc_law.nd rfl (Or.inl rfl)) (pgs_cons (pg_name (i := 7) sc_law.nd rfl (Or.inl rfl)) pgs_nil))))
    (pss_cons (ps_set (i := 4) sc_law.nd rfl (Or.inl rfl) (pe_op op_zAdd (pe_lc (own := [("k", 9)]) rfl sc_law.nd (pi_range2 (by rfl) T.m_range (pa_cons pe_int (pa_cons pe_int pa_nil))) (blkOk_by (own := [("k", 9)]) (N := N_law) (sc := defScope s_law) (by decide +kernel)) (fun _ _ _ _ _ => (pg_name (i := 9) sc_law.nd rfl (Or.inl rfl))) (fun _ _ _ _ _ => pts_nil) (fun _ _ _ _ _ => (pe_tup (pa_cons pe_int (pa_cons (pv 9) pa_nil))))) (pv 8)))
    (pss_one (ps_set (i := 6) sc_law.nd rfl (Or.inl rfl) (pe_lst (pa_cons (pe_tup (pa_cons pe_int pa_nil)) (pa_cons (pe_tup (pa_cons pe_int pa_nil)) (pa_cons (pe_tup (pa_cons pe_int pa_nil)) (pa_cons (pe_tup (pa_cons pe_int pa_nil)) (pa_cons (pe_tup (pa_cons pe_int (pa_cons pe_int pa_nil))) (pa_cons (pe_tup (pa_cons pe_int (pa_cons pe_int pa_nil))) (pa_cons (pe_tup (pa_cons pe_int (pa_cons pe_int pa_nil))) (pa_cons (pe_tup (pa_cons pe_int (pa_cons pe_int pa_nil))) (pa_cons (pe_tup (pa_cons pe_int (pa_cons pe_int pa_nil))) (pa_cons (pe_tup (pa_cons pe_int (pa_cons pe_int pa_nil))) pa_nil))))))))))))))))) pss_nil)
    (pss_cons (ps_if (pt_not (pt_truth (pe_call (ok__law_right T) hr (by rfl) T.g__law_right T.F__law_right.kp T.b__law_right .nil pass0 (pa_cons (pv 3) (pa_cons (pv 4) (pa_cons (pv 7) (pa_cons (pv 5) (pa_cons (pv 6) (pa_cons (pv 2) pa_nil))))))) (by intro _; rfl))) (pss_one (ps_ret pe_bl)) pss_nil)
    (pss_one (ps_if (pt_cmpR op_zGe (pe_ix ix_seq (pv 1) pe_int (fun _ _ => rfl)) (pe_callB cr_zLen (by rfl) T.m_len (by decide +kernel) (pa_cons (pv 0) pa_nil)) (nomark _)) (pss_one (ps_ret pe_bl)) pss_nil)))))))))))
    (pss_one (ps_ret pe_bl))))
  · obtain ⟨x0, rfl, h⟩ := n_law h
    exact w_law h
theorem all_mk {l : PySem.W.OpenLaw} {w : World} {K : PySem.W.Frag} {h : Heap} {mg : Str → Option Value} {fa : Addr} (X : K.In h) (G : h.Ns mainGlobals mg) (hfa : mg "law" = some (.ref fa))
    {A_SoleError : Addr}
    (a_SoleError : PySem.W.nsIn K mainGlobals "SoleError" = some (some (.ref A_SoleError)))
    {A_NoSeat : Addr}
    (a_NoSeat : PySem.W.nsIn K mainGlobals "NoSeat" = some (some (.ref A_NoSeat)))
    {A_TooMany : Addr}
    (a_TooMany : PySem.W.nsIn K mainGlobals "TooMany" = some (some (.ref A_TooMany)))
    (is_NoSeat : PySem.W.isClsIn K A_NoSeat = true)
    (ty_NoSeat : PySem.W.typeIn K (.ref A_NoSeat) = some (.type "type"))
    (ex_NoSeat : PySem.W.subIn K (.ref A_NoSeat) (.type "BaseException") = some true)
    (is_TooMany : PySem.W.isClsIn K A_TooMany = true)
    (ty_TooMany : PySem.W.typeIn K (.ref A_TooMany) = some (.type "type"))
    (ex_TooMany : PySem.W.subIn K (.ref A_TooMany) (.type "BaseException") = some true)
    (is_SoleError : PySem.W.isClsIn K A_SoleError = true)
    (ty_SoleError : PySem.W.typeIn K (.ref A_SoleError) = some (.type "type"))
    (ex_SoleError : PySem.W.subIn K (.ref A_SoleError) (.type "BaseException") = some true)
    (hn_ : PySem.W.specialIn K (.builtin "object.__class__") "__get__" = some (some (.builtin "getset_descriptor.__get__")))
    (ht_ : PySem.W.takesIn K (.builtin "object.__class__") = some true)
    {nm_NoSeat qn_NoSeat : Str} {N_NoSeat : Addr} {bs_NoSeat sub_NoSeat : List Value} {sn_NoSeat : List Str} {ab_NoSeat : Bool} {col_NoSeat : Option Bool} {dd_NoSeat : Option Addr} {m0_NoSeat m1_NoSeat m2_NoSeat m3_NoSeat m5_NoSeat : Option Value}
    (xL_NoSeat : K.lookup A_NoSeat = some (excClassObj nm_NoSeat qn_NoSeat A_NoSeat N_NoSeat bs_NoSeat [.ref A_SoleError, .type "ValueError", .type "Exception", .type "BaseException", .type "object"] true sn_NoSeat sub_NoSeat ab_NoSeat col_NoSeat dd_NoSeat m0_NoSeat m1_NoSeat m2_NoSeat m3_NoSeat m5_NoSeat "ValueError.__new__"))
    (sa_NoSeat : PySem.W.findIn K (.ref A_NoSeat) "__setattr__" = some (some (.builtin "object.__setattr__")))
    (ga_NoSeat : PySem.W.findIn K (.ref A_NoSeat) "__getattribute__" = some (some (.builtin "BaseException.__getattribute__")))
    (gg_NoSeat : PySem.W.findIn K (.ref A_NoSeat) "__getattr__" = some none)
    (kc_NoSeat : PySem.W.keepIn K (.ref A_NoSeat) = true)
    (hd_NoSeat : PySem.W.hasDictIn K A_NoSeat = true)
    (ca_NoSeat : PySem.W.findIn K (.ref A_NoSeat) "__class__" = some (some (.builtin "object.__class__")))
    (hm_NoSeat : PySem.W.mroIn K A_NoSeat (.type "object") = some true)
    (n_NoSeat_seat : PySem.W.findIn K (.ref A_NoSeat) "seat" = some none)
    (s_NoSeat_NoSeat : PySem.W.subIn K (.ref A_NoSeat) (.ref A_NoSeat) = some true)
    (s_NoSeat_SoleError : PySem.W.subIn K (.ref A_NoSeat) (.ref A_SoleError) = some true)
    (s_NoSeat_TooMany : PySem.W.subIn K (.ref A_NoSeat) (.ref A_TooMany) = some false)
    {nm_TooMany qn_TooMany : Str} {N_TooMany : Addr} {bs_TooMany sub_TooMany : List Value} {sn_TooMany : List Str} {ab_TooMany : Bool} {col_TooMany : Option Bool} {dd_TooMany : Option Addr} {m0_TooMany m1_TooMany m2_TooMany m3_TooMany m5_TooMany : Option Value}
    (xL_TooMany : K.lookup A_TooMany = some (excClassObj nm_TooMany qn_TooMany A_TooMany N_TooMany bs_TooMany [.ref A_SoleError, .type "ValueError", .type "Exception", .type "BaseException", .type "object"] true sn_TooMany sub_TooMany ab_TooMany col_TooMany dd_TooMany m0_TooMany m1_TooMany m2_TooMany m3_TooMany m5_TooMany "ValueError.__new__"))
    (sa_TooMany : PySem.W.findIn K (.ref A_TooMany) "__setattr__" = some (some (.builtin "object.__setattr__")))
    (ga_TooMany : PySem.W.findIn K (.ref A_TooMany) "__getattribute__" = some (some (.builtin "BaseException.__getattribute__")))
    (gg_TooMany : PySem.W.findIn K (.ref A_TooMany) "__getattr__" = some none)
    (kc_TooMany : PySem.W.keepIn K (.ref A_TooMany) = true)
    (hd_TooMany : PySem.W.hasDictIn K A_TooMany = true)
    (ca_TooMany : PySem.W.findIn K (.ref A_TooMany) "__class__" = some (some (.builtin "object.__class__")))
    (hm_TooMany : PySem.W.mroIn K A_TooMany (.type "object") = some true)
    (n_TooMany_what : PySem.W.findIn K (.ref A_TooMany) "what" = some none)
    (s_TooMany_TooMany : PySem.W.subIn K (.ref A_TooMany) (.ref A_TooMany) = some true)
    (s_TooMany_SoleError : PySem.W.subIn K (.ref A_TooMany) (.ref A_SoleError) = some true)
    (rd_SoleError : PySem.W.readsIn K A_SoleError (.type "type") = true)
    (sg_SoleError : PySem.W.specialIn K (.ref A_SoleError) "__getattribute__" = some (some (.builtin "type.__getattribute__")))
    (vi_SoleError : PySem.W.findCls K (.ref A_SoleError) (.type "type") "__init__" = some (.val (.builtin "ValueError.__init__")))
    {f_NoSeat___init__ : Addr} {oc_NoSeat___init__ kV_NoSeat___init__ dc_NoSeat___init__ pm_NoSeat___init__ cd_NoSeat___init__ ct_NoSeat___init__ : Value} {od_NoSeat___init__ an_NoSeat___init__ : Option Addr} {sl_NoSeat___init__ : Array (Option Value)}
    (a_NoSeat___init__ : PySem.W.findIn K (.ref A_NoSeat) "__init__" = some (some (.ref f_NoSeat___init__)))
    (t_NoSeat___init__ : PySem.W.typeIn K (.ref f_NoSeat___init__) = some (.type "function"))
    (l_NoSeat___init__ : K.lookup f_NoSeat___init__ = some ⟨oc_NoSeat___init__, od_NoSeat___init__, .func (PySem.W.fnOf "__init__" "NoSeat.__init__" (defArgs s_NoSeat___init__) (defBody s_NoSeat___init__) (defScope s_NoSeat___init__) .none kV_NoSeat___init__ dc_NoSeat___init__ pm_NoSeat___init__ an_NoSeat___init__ cd_NoSeat___init__ ct_NoSeat___init__), sl_NoSeat___init__⟩) (c_NoSeat___init__ : PySem.W.codeIn K cd_NoSeat___init__ "NoSeat.__init__" = true) (k_NoSeat___init__ : PySem.W.keepIn K (.ref f_NoSeat___init__) = true)
    {f_TooMany___init__ : Addr} {oc_TooMany___init__ kV_TooMany___init__ dc_TooMany___init__ pm_TooMany___init__ cd_TooMany___init__ ct_TooMany___init__ : Value} {od_TooMany___init__ an_TooMany___init__ : Option Addr} {sl_TooMany___init__ : Array (Option Value)}
    (a_TooMany___init__ : PySem.W.findIn K (.ref A_TooMany) "__init__" = some (some (.ref f_TooMany___init__)))
    (t_TooMany___init__ : PySem.W.typeIn K (.ref f_TooMany___init__) = some (.type "function"))
    (l_TooMany___init__ : K.lookup f_TooMany___init__ = some ⟨oc_TooMany___init__, od_TooMany___init__, .func (PySem.W.fnOf "__init__" "TooMany.__init__" (defArgs s_TooMany___init__) (defBody s_TooMany___init__) (defScope s_TooMany___init__) .none kV_TooMany___init__ dc_TooMany___init__ pm_TooMany___init__ an_TooMany___init__ cd_TooMany___init__ ct_TooMany___init__), sl_TooMany___init__⟩) (c_TooMany___init__ : PySem.W.codeIn K cd_TooMany___init__ "TooMany.__init__" = true) (k_TooMany___init__ : PySem.W.keepIn K (.ref f_TooMany___init__) = true)
    {f_word_of : Addr} {oc_word_of kV_word_of dc_word_of pm_word_of cd_word_of ct_word_of : Value} {od_word_of an_word_of : Option Addr} {sl_word_of : Array (Option Value)}
    (a_word_of : PySem.W.nsIn K mainGlobals "word_of" = some (some (.ref f_word_of)))
    (l_word_of : K.lookup f_word_of = some ⟨oc_word_of, od_word_of, .func (PySem.W.fnOf "word_of" "word_of" (defArgs s_word_of) (defBody s_word_of) (defScope s_word_of) .none kV_word_of dc_word_of pm_word_of an_word_of cd_word_of ct_word_of), sl_word_of⟩) (c_word_of : PySem.W.codeIn K cd_word_of "word_of" = true) (k_word_of : PySem.W.keepIn K (.ref f_word_of) = true)
    {f_fault : Addr} {oc_fault kV_fault dc_fault pm_fault cd_fault ct_fault : Value} {od_fault an_fault : Option Addr} {sl_fault : Array (Option Value)}
    (a_fault : PySem.W.nsIn K mainGlobals "fault" = some (some (.ref f_fault)))
    (l_fault : K.lookup f_fault = some ⟨oc_fault, od_fault, .func (PySem.W.fnOf "fault" "fault" (defArgs s_fault) (defBody s_fault) (defScope s_fault) .none kV_fault dc_fault pm_fault an_fault cd_fault ct_fault), sl_fault⟩) (c_fault : PySem.W.codeIn K cd_fault "fault" = true) (k_fault : PySem.W.keepIn K (.ref f_fault) = true)
    {f_looked : Addr} {oc_looked kV_looked dc_looked pm_looked cd_looked ct_looked : Value} {od_looked an_looked : Option Addr} {sl_looked : Array (Option Value)}
    (a_looked : PySem.W.nsIn K mainGlobals "looked" = some (some (.ref f_looked)))
    (l_looked : K.lookup f_looked = some ⟨oc_looked, od_looked, .func (PySem.W.fnOf "looked" "looked" (defArgs s_looked) (defBody s_looked) (defScope s_looked) .none kV_looked dc_looked pm_looked an_looked cd_looked ct_looked), sl_looked⟩) (c_looked : PySem.W.codeIn K cd_looked "looked" = true) (k_looked : PySem.W.keepIn K (.ref f_looked) = true)
    {f_joined : Addr} {oc_joined kV_joined dc_joined pm_joined cd_joined ct_joined : Value} {od_joined an_joined : Option Addr} {sl_joined : Array (Option Value)}
    (a_joined : PySem.W.nsIn K mainGlobals "joined" = some (some (.ref f_joined)))
    (l_joined : K.lookup f_joined = some ⟨oc_joined, od_joined, .func (PySem.W.fnOf "joined" "joined" (defArgs s_joined) (defBody s_joined) (defScope s_joined) .none kV_joined dc_joined pm_joined an_joined cd_joined ct_joined), sl_joined⟩) (c_joined : PySem.W.codeIn K cd_joined "joined" = true) (k_joined : PySem.W.keepIn K (.ref f_joined) = true)
    {f__law_wide : Addr} {oc__law_wide kV__law_wide dc__law_wide pm__law_wide cd__law_wide ct__law_wide : Value} {od__law_wide an__law_wide : Option Addr} {sl__law_wide : Array (Option Value)}
    (a__law_wide : PySem.W.nsIn K mainGlobals "_law_wide" = some (some (.ref f__law_wide)))
    (l__law_wide : K.lookup f__law_wide = some ⟨oc__law_wide, od__law_wide, .func (PySem.W.fnOf "_law_wide" "_law_wide" (defArgs s__law_wide) (defBody s__law_wide) (defScope s__law_wide) .none kV__law_wide dc__law_wide pm__law_wide an__law_wide cd__law_wide ct__law_wide), sl__law_wide⟩) (c__law_wide : PySem.W.codeIn K cd__law_wide "_law_wide" = true) (k__law_wide : PySem.W.keepIn K (.ref f__law_wide) = true)
    {f__law_take : Addr} {oc__law_take kV__law_take dc__law_take pm__law_take cd__law_take ct__law_take : Value} {od__law_take an__law_take : Option Addr} {sl__law_take : Array (Option Value)}
    (a__law_take : PySem.W.nsIn K mainGlobals "_law_take" = some (some (.ref f__law_take)))
    (l__law_take : K.lookup f__law_take = some ⟨oc__law_take, od__law_take, .func (PySem.W.fnOf "_law_take" "_law_take" (defArgs s__law_take) (defBody s__law_take) (defScope s__law_take) .none kV__law_take dc__law_take pm__law_take an__law_take cd__law_take ct__law_take), sl__law_take⟩) (c__law_take : PySem.W.codeIn K cd__law_take "_law_take" = true) (k__law_take : PySem.W.keepIn K (.ref f__law_take) = true)
    {f__law_set : Addr} {oc__law_set kV__law_set dc__law_set pm__law_set cd__law_set ct__law_set : Value} {od__law_set an__law_set : Option Addr} {sl__law_set : Array (Option Value)}
    (a__law_set : PySem.W.nsIn K mainGlobals "_law_set" = some (some (.ref f__law_set)))
    (l__law_set : K.lookup f__law_set = some ⟨oc__law_set, od__law_set, .func (PySem.W.fnOf "_law_set" "_law_set" (defArgs s__law_set) (defBody s__law_set) (defScope s__law_set) .none kV__law_set dc__law_set pm__law_set an__law_set cd__law_set ct__law_set), sl__law_set⟩) (c__law_set : PySem.W.codeIn K cd__law_set "_law_set" = true) (k__law_set : PySem.W.keepIn K (.ref f__law_set) = true)
    {f__law_many_seats : Addr} {oc__law_many_seats kV__law_many_seats dc__law_many_seats pm__law_many_seats cd__law_many_seats ct__law_many_seats : Value} {od__law_many_seats an__law_many_seats : Option Addr} {sl__law_many_seats : Array (Option Value)}
    (a__law_many_seats : PySem.W.nsIn K mainGlobals "_law_many_seats" = some (some (.ref f__law_many_seats)))
    (l__law_many_seats : K.lookup f__law_many_seats = some ⟨oc__law_many_seats, od__law_many_seats, .func (PySem.W.fnOf "_law_many_seats" "_law_many_seats" (defArgs s__law_many_seats) (defBody s__law_many_seats) (defScope s__law_many_seats) .none kV__law_many_seats dc__law_many_seats pm__law_many_seats an__law_many_seats cd__law_many_seats ct__law_many_seats), sl__law_many_seats⟩) (c__law_many_seats : PySem.W.codeIn K cd__law_many_seats "_law_many_seats" = true) (k__law_many_seats : PySem.W.keepIn K (.ref f__law_many_seats) = true)
    {f__law_family : Addr} {oc__law_family kV__law_family dc__law_family pm__law_family cd__law_family ct__law_family : Value} {od__law_family an__law_family : Option Addr} {sl__law_family : Array (Option Value)}
    (a__law_family : PySem.W.nsIn K mainGlobals "_law_family" = some (some (.ref f__law_family)))
    (l__law_family : K.lookup f__law_family = some ⟨oc__law_family, od__law_family, .func (PySem.W.fnOf "_law_family" "_law_family" (defArgs s__law_family) (defBody s__law_family) (defScope s__law_family) .none kV__law_family dc__law_family pm__law_family an__law_family cd__law_family ct__law_family), sl__law_family⟩) (c__law_family : PySem.W.codeIn K cd__law_family "_law_family" = true) (k__law_family : PySem.W.keepIn K (.ref f__law_family) = true)
    {f__law_whole : Addr} {oc__law_whole kV__law_whole dc__law_whole pm__law_whole cd__law_whole ct__law_whole : Value} {od__law_whole an__law_whole : Option Addr} {sl__law_whole : Array (Option Value)}
    (a__law_whole : PySem.W.nsIn K mainGlobals "_law_whole" = some (some (.ref f__law_whole)))
    (l__law_whole : K.lookup f__law_whole = some ⟨oc__law_whole, od__law_whole, .func (PySem.W.fnOf "_law_whole" "_law_whole" (defArgs s__law_whole) (defBody s__law_whole) (defScope s__law_whole) .none kV__law_whole dc__law_whole pm__law_whole an__law_whole cd__law_whole ct__law_whole), sl__law_whole⟩) (c__law_whole : PySem.W.codeIn K cd__law_whole "_law_whole" = true) (k__law_whole : PySem.W.keepIn K (.ref f__law_whole) = true)
    {f__law_is_set : Addr} {oc__law_is_set kV__law_is_set dc__law_is_set pm__law_is_set cd__law_is_set ct__law_is_set : Value} {od__law_is_set an__law_is_set : Option Addr} {sl__law_is_set : Array (Option Value)}
    (a__law_is_set : PySem.W.nsIn K mainGlobals "_law_is_set" = some (some (.ref f__law_is_set)))
    (l__law_is_set : K.lookup f__law_is_set = some ⟨oc__law_is_set, od__law_is_set, .func (PySem.W.fnOf "_law_is_set" "_law_is_set" (defArgs s__law_is_set) (defBody s__law_is_set) (defScope s__law_is_set) .none kV__law_is_set dc__law_is_set pm__law_is_set an__law_is_set cd__law_is_set ct__law_is_set), sl__law_is_set⟩) (c__law_is_set : PySem.W.codeIn K cd__law_is_set "_law_is_set" = true) (k__law_is_set : PySem.W.keepIn K (.ref f__law_is_set) = true)
    {f__law_due : Addr} {oc__law_due kV__law_due dc__law_due pm__law_due cd__law_due ct__law_due : Value} {od__law_due an__law_due : Option Addr} {sl__law_due : Array (Option Value)}
    (a__law_due : PySem.W.nsIn K mainGlobals "_law_due" = some (some (.ref f__law_due)))
    (l__law_due : K.lookup f__law_due = some ⟨oc__law_due, od__law_due, .func (PySem.W.fnOf "_law_due" "_law_due" (defArgs s__law_due) (defBody s__law_due) (defScope s__law_due) .none kV__law_due dc__law_due pm__law_due an__law_due cd__law_due ct__law_due), sl__law_due⟩) (c__law_due : PySem.W.codeIn K cd__law_due "_law_due" = true) (k__law_due : PySem.W.keepIn K (.ref f__law_due) = true)
    {f__law_told : Addr} {oc__law_told kV__law_told dc__law_told pm__law_told cd__law_told ct__law_told : Value} {od__law_told an__law_told : Option Addr} {sl__law_told : Array (Option Value)}
    (a__law_told : PySem.W.nsIn K mainGlobals "_law_told" = some (some (.ref f__law_told)))
    (l__law_told : K.lookup f__law_told = some ⟨oc__law_told, od__law_told, .func (PySem.W.fnOf "_law_told" "_law_told" (defArgs s__law_told) (defBody s__law_told) (defScope s__law_told) .none kV__law_told dc__law_told pm__law_told an__law_told cd__law_told ct__law_told), sl__law_told⟩) (c__law_told : PySem.W.codeIn K cd__law_told "_law_told" = true) (k__law_told : PySem.W.keepIn K (.ref f__law_told) = true)
    {f__law_right : Addr} {oc__law_right kV__law_right dc__law_right pm__law_right cd__law_right ct__law_right : Value} {od__law_right an__law_right : Option Addr} {sl__law_right : Array (Option Value)}
    (a__law_right : PySem.W.nsIn K mainGlobals "_law_right" = some (some (.ref f__law_right)))
    (l__law_right : K.lookup f__law_right = some ⟨oc__law_right, od__law_right, .func (PySem.W.fnOf "_law_right" "_law_right" (defArgs s__law_right) (defBody s__law_right) (defScope s__law_right) .none kV__law_right dc__law_right pm__law_right an__law_right cd__law_right ct__law_right), sl__law_right⟩) (c__law_right : PySem.W.codeIn K cd__law_right "_law_right" = true) (k__law_right : PySem.W.keepIn K (.ref f__law_right) = true)
    {f_law : Addr} {oc_law kV_law dc_law pm_law cd_law ct_law : Value} {od_law an_law : Option Addr} {sl_law : Array (Option Value)}
    (a_law : PySem.W.nsIn K mainGlobals "law" = some (some (.ref f_law)))
    (l_law : K.lookup f_law = some ⟨oc_law, od_law, .func (PySem.W.fnOf "law" "law" (defArgs s_law) (defBody s_law) (defScope s_law) .none kV_law dc_law pm_law an_law cd_law ct_law), sl_law⟩) (c_law : PySem.W.codeIn K cd_law "law" = true) (k_law : PySem.W.keepIn K (.ref f_law) = true)
    {t_SEATS : Tok} (a_SEATS : PySem.W.nsIn K mainGlobals "SEATS" = some (some (.int 60 t_SEATS)))
    {t_SETS : Tok} (a_SETS : PySem.W.nsIn K mainGlobals "SETS" = some (some (.int 200 t_SETS)))
    (z_bool : PySem.W.nsIn K mainGlobals "bool" = some none)
    (z_enumerate : PySem.W.nsIn K mainGlobals "enumerate" = some none)
    (z_int : PySem.W.nsIn K mainGlobals "int" = some none)
    (z_isinstance : PySem.W.nsIn K mainGlobals "isinstance" = some none)
    (z_len : PySem.W.nsIn K mainGlobals "len" = some none)
    (z_list : PySem.W.nsIn K mainGlobals "list" = some none)
    (z_min : PySem.W.nsIn K mainGlobals "min" = some none)
    (z_range : PySem.W.nsIn K mainGlobals "range" = some none)
    (z_set : PySem.W.nsIn K mainGlobals "set" = some none)
    (z_sorted : PySem.W.nsIn K mainGlobals "sorted" = some none)
    (z_sum : PySem.W.nsIn K mainGlobals "sum" = some none)
    (z_tuple : PySem.W.nsIn K mainGlobals "tuple" = some none) :
    ∃ fd : FuncData, (∀ (s : Shared) (v : Value), BindsTo s fd ⟨[v], []⟩ [("script", v)]) ∧ ∀ base : Heap, K.In base → base.Ns mainGlobals mg → FnOk l.prog w K mg base CX0 7 fa fd ["script"] (spLaw K) := by
  have e := hfa.symm.trans (PySem.W.mg_of X G a_law)
  cases e
  let ad : Ad := { P := l.prog, w := w, SoleError := A_SoleError, NoSeat := A_NoSeat, TooMany := A_TooMany }
  have XF : Xf K ad := {
    x_NoSeat := ⟨⟨_, _, _, _, _, _, _, _, _, _, _, _, _, _, _, xL_NoSeat, (show PySem.HandSPX.refsVE [.type "ValueError", .type "Exception", .type "BaseException", .type "object"] = true from by decide +kernel)⟩, sa_NoSeat, ex_NoSeat, ty_NoSeat, kc_NoSeat⟩,
    e_NoSeat := ⟨ga_NoSeat, gg_NoSeat, ex_NoSeat, hd_NoSeat, is_NoSeat, ca_NoSeat, hn_, ht_, hm_NoSeat⟩,
    n_NoSeat_seat := n_NoSeat_seat,
    s_NoSeat_NoSeat := s_NoSeat_NoSeat,
    s_NoSeat_SoleError := s_NoSeat_SoleError,
    s_NoSeat_TooMany := s_NoSeat_TooMany,
    x_TooMany := ⟨⟨_, _, _, _, _, _, _, _, _, _, _, _, _, _, _, xL_TooMany, (show PySem.HandSPX.refsVE [.type "ValueError", .type "Exception", .type "BaseException", .type "object"] = true from by decide +kernel)⟩, sa_TooMany, ex_TooMany, ty_TooMany, kc_TooMany⟩,
    e_TooMany := ⟨ga_TooMany, gg_TooMany, ex_TooMany, hd_TooMany, is_TooMany, ca_TooMany, hn_, ht_, hm_TooMany⟩,
    n_TooMany_what := n_TooMany_what,
    s_TooMany_TooMany := s_TooMany_TooMany,
    s_TooMany_SoleError := s_TooMany_SoleError,
    c_NoSeat := ⟨is_NoSeat, ty_NoSeat, ex_NoSeat⟩,
    c_TooMany := ⟨is_TooMany, ty_TooMany, ex_TooMany⟩,
    c_SoleError := ⟨is_SoleError, ty_SoleError, ex_SoleError⟩ }
  let T : Txt K mg ad := {
    f_NoSeat___init__ := f_NoSeat___init__,
    d_NoSeat___init__ := _,
    F_NoSeat___init__ := fun_mk (st := s_NoSeat___init__) l_NoSeat___init__ c_NoSeat___init__ k_NoSeat___init__,
    b_NoSeat___init__ := (fun_mk (st := s_NoSeat___init__) l_NoSeat___init__ c_NoSeat___init__ k_NoSeat___init__).binds (ps := ["self", "seat"]) fun _ _ _ _ _ _ us hl => match us, hl with | [_, _], _ => rfl,
    i_NoSeat := a_NoSeat___init__,
    t_NoSeat := t_NoSeat___init__,
    f_TooMany___init__ := f_TooMany___init__,
    d_TooMany___init__ := _,
    F_TooMany___init__ := fun_mk (st := s_TooMany___init__) l_TooMany___init__ c_TooMany___init__ k_TooMany___init__,
    b_TooMany___init__ := (fun_mk (st := s_TooMany___init__) l_TooMany___init__ c_TooMany___init__ k_TooMany___init__).binds (ps := ["self", "what"]) fun _ _ _ _ _ _ us hl => match us, hl with | [_, _], _ => rfl,
    i_TooMany := a_TooMany___init__,
    t_TooMany := t_TooMany___init__,
    f_word_of := f_word_of,
    d_word_of := _,
    F_word_of := fun_mk (st := s_word_of) l_word_of c_word_of k_word_of,
    b_word_of := (fun_mk (st := s_word_of) l_word_of c_word_of k_word_of).binds (ps := ["seats", "one"]) fun _ _ _ _ _ _ us hl => match us, hl with | [_, _], _ => rfl,
    g_word_of := PySem.W.mg_of X G a_word_of,
    f_fault := f_fault,
    d_fault := _,
    F_fault := fun_mk (st := s_fault) l_fault c_fault k_fault,
    b_fault := (fun_mk (st := s_fault) l_fault c_fault k_fault).binds (ps := ["seats", "sets"]) fun _ _ _ _ _ _ us hl => match us, hl with | [_, _], _ => rfl,
    g_fault := PySem.W.mg_of X G a_fault,
    f_looked := f_looked,
    d_looked := _,
    F_looked := fun_mk (st := s_looked) l_looked c_looked k_looked,
    b_looked := (fun_mk (st := s_looked) l_looked c_looked k_looked).binds (ps := ["seats", "sets"]) fun _ _ _ _ _ _ us hl => match us, hl with | [_, _], _ => rfl,
    g_looked := PySem.W.mg_of X G a_looked,
    f_joined := f_joined,
    d_joined := _,
    F_joined := fun_mk (st := s_joined) l_joined c_joined k_joined,
    kb_joined_0 := Z.Fun.kbApp (fun_mk (st := s_joined) l_joined c_joined k_joined) (ps := ["seats", "sets", "at", "by_seats", "by"]) 2 ["at", "by_seats", "by"] fun _ _ _ _ _ _ us ws h1 h2 => match us, ws, h1, h2 with | [_, _], [_, _, _], _, _ => rfl,
    kb_joined_1 := Z.Fun.kbRev (fun_mk (st := s_joined) l_joined c_joined k_joined) (ps := ["seats", "sets", "at", "by_seats", "by"]) 2 ["by", "by_seats", "at"] fun _ _ _ _ _ _ us ws h1 h2 => match us, ws, h1, h2 with | [_, _], [_, _, _], _, _ => rfl,
    g_joined := PySem.W.mg_of X G a_joined,
    f__law_wide := f__law_wide,
    d__law_wide := _,
    F__law_wide := fun_mk (st := s__law_wide) l__law_wide c__law_wide k__law_wide,
    b__law_wide := (fun_mk (st := s__law_wide) l__law_wide c__law_wide k__law_wide).binds (ps := ["cell"]) fun _ _ _ _ _ _ us hl => match us, hl with | [_], _ => rfl,
    g__law_wide := PySem.W.mg_of X G a__law_wide,
    f__law_take := f__law_take,
    d__law_take := _,
    F__law_take := fun_mk (st := s__law_take) l__law_take c__law_take k__law_take,
    b__law_take := (fun_mk (st := s__law_take) l__law_take c__law_take k__law_take).binds (ps := ["script", "pot", "many"]) fun _ _ _ _ _ _ us hl => match us, hl with | [_, _, _], _ => rfl,
    g__law_take := PySem.W.mg_of X G a__law_take,
    f__law_set := f__law_set,
    d__law_set := _,
    F__law_set := fun_mk (st := s__law_set) l__law_set c__law_set k__law_set,
    b__law_set := (fun_mk (st := s__law_set) l__law_set c__law_set k__law_set).binds (ps := ["script", "pot", "seats"]) fun _ _ _ _ _ _ us hl => match us, hl with | [_, _, _], _ => rfl,
    g__law_set := PySem.W.mg_of X G a__law_set,
    f__law_many_seats := f__law_many_seats,
    d__law_many_seats := _,
    F__law_many_seats := fun_mk (st := s__law_many_seats) l__law_many_seats c__law_many_seats k__law_many_seats,
    b__law_many_seats := (fun_mk (st := s__law_many_seats) l__law_many_seats c__law_many_seats k__law_many_seats).binds (ps := ["script", "pot"]) fun _ _ _ _ _ _ us hl => match us, hl with | [_, _], _ => rfl,
    g__law_many_seats := PySem.W.mg_of X G a__law_many_seats,
    f__law_family := f__law_family,
    d__law_family := _,
    F__law_family := fun_mk (st := s__law_family) l__law_family c__law_family k__law_family,
    b__law_family := (fun_mk (st := s__law_family) l__law_family c__law_family k__law_family).binds (ps := ["script", "pot", "seats", "most"]) fun _ _ _ _ _ _ us hl => match us, hl with | [_, _, _, _], _ => rfl,
    g__law_family := PySem.W.mg_of X G a__law_family,
    f__law_whole := f__law_whole,
    d__law_whole := _,
    F__law_whole := fun_mk (st := s__law_whole) l__law_whole c__law_whole k__law_whole,
    b__law_whole := (fun_mk (st := s__law_whole) l__law_whole c__law_whole k__law_whole).binds (ps := ["thing"]) fun _ _ _ _ _ _ us hl => match us, hl with | [_], _ => rfl,
    g__law_whole := PySem.W.mg_of X G a__law_whole,
    f__law_is_set := f__law_is_set,
    d__law_is_set := _,
    F__law_is_set := fun_mk (st := s__law_is_set) l__law_is_set c__law_is_set k__law_is_set,
    b__law_is_set := (fun_mk (st := s__law_is_set) l__law_is_set c__law_is_set k__law_is_set).binds (ps := ["thing"]) fun _ _ _ _ _ _ us hl => match us, hl with | [_], _ => rfl,
    g__law_is_set := PySem.W.mg_of X G a__law_is_set,
    f__law_due := f__law_due,
    d__law_due := _,
    F__law_due := fun_mk (st := s__law_due) l__law_due c__law_due k__law_due,
    b__law_due := (fun_mk (st := s__law_due) l__law_due c__law_due k__law_due).binds (ps := ["seats", "sets", "spot", "more_sets"]) fun _ _ _ _ _ _ us hl => match us, hl with | [_, _, _, _], _ => rfl,
    g__law_due := PySem.W.mg_of X G a__law_due,
    f__law_told := f__law_told,
    d__law_told := _,
    F__law_told := fun_mk (st := s__law_told) l__law_told c__law_told k__law_told,
    b__law_told := (fun_mk (st := s__law_told) l__law_told c__law_told k__law_told).binds (ps := ["seats", "sets", "spot", "more_seats", "more_sets", "turn"]) fun _ _ _ _ _ _ us hl => match us, hl with | [_, _, _, _, _, _], _ => rfl,
    g__law_told := PySem.W.mg_of X G a__law_told,
    f__law_right := f__law_right,
    d__law_right := _,
    F__law_right := fun_mk (st := s__law_right) l__law_right c__law_right k__law_right,
    b__law_right := (fun_mk (st := s__law_right) l__law_right c__law_right k__law_right).binds (ps := ["seats", "sets", "spot", "more_seats", "more_sets", "turn"]) fun _ _ _ _ _ _ us hl => match us, hl with | [_, _, _, _, _, _], _ => rfl,
    g__law_right := PySem.W.mg_of X G a__law_right,
    f_law := fa,
    d_law := _,
    F_law := fun_mk (st := s_law) l_law c_law k_law,
    b_law := (fun_mk (st := s_law) l_law c_law k_law).binds (ps := ["script"]) fun _ _ _ _ _ _ us hl => match us, hl with | [_], _ => rfl,
    g_law := PySem.W.mg_of X G a_law,
    u_SEATS := _,
    g_SEATS := PySem.W.mg_of X G a_SEATS,
    r_SEATS := ⟨_, rfl⟩,
    u_SETS := _,
    g_SETS := PySem.W.mg_of X G a_SETS,
    r_SETS := ⟨_, rfl⟩,
    m_bool := PySem.W.mg_none_of X G z_bool,
    m_enumerate := PySem.W.mg_none_of X G z_enumerate,
    m_int := PySem.W.mg_none_of X G z_int,
    m_isinstance := PySem.W.mg_none_of X G z_isinstance,
    m_len := PySem.W.mg_none_of X G z_len,
    m_list := PySem.W.mg_none_of X G z_list,
    m_min := PySem.W.mg_none_of X G z_min,
    m_range := PySem.W.mg_none_of X G z_range,
    m_set := PySem.W.mg_none_of X G z_set,
    m_sorted := PySem.W.mg_none_of X G z_sorted,
    m_sum := PySem.W.mg_none_of X G z_sum,
    m_tuple := PySem.W.mg_none_of X G z_tuple,
    g_SoleError := PySem.W.mg_of X G a_SoleError,
    g_NoSeat := PySem.W.mg_of X G a_NoSeat,
    g_TooMany := PySem.W.mg_of X G a_TooMany,
    bs_SoleError := ⟨rd_SoleError, sg_SoleError, vi_SoleError⟩,
    xf := XF }
  exact ⟨PySem.W.fnOf "law" "law" (defArgs s_law) (defBody s_law) (defScope s_law) .none kV_law dc_law pm_law an_law cd_law ct_law, fun s v => .of_eq rfl, fun base _ _ => (ok_law (ad := ad) T).imp fun vs H Q E h => spLaw_to ad XF h⟩
end Y
open PySem PySem.W PyProof.Rows
set_option maxRecDepth 100000 in
set_option maxHeartbeats 0 in
theorem PySem.Challenge.cw_soleseat_k55_families_joined_holds : PySem.Challenge.rw_soleseat_k55_families_joined.Holds := by
  w_on; o_law; k_head; (case hw => w_witness2)
  k_fill
  refine L2.walk_of (l := PySem.Challenge.rw_soleseat_k55_families_joined) (n := 63) (k := 7) (x := "script") (CX := fun _ => L2.CX0) (sp := fun w => Z.spLaw _) rfl (by decide) rfl ⟨rfl, by decide, by decide⟩ (fun w h Y => PySem.W.kIn_of Y) ?F (fun _ _ a ns hl _ hS => Z.spLaw_in hl hS) (fun _ _ _ _ _ h => h)
  case F =>
    intro w mg fa h KX G hmg
    refine' Y.all_mk KX G hmg ?a_SoleError ?a_NoSeat ?a_TooMany ?is_NoSeat ?ty_NoSeat ?ex_NoSeat ?is_TooMany ?ty_TooMany ?ex_TooMany ?is_SoleError ?ty_SoleError ?ex_SoleError ?hn_ ?ht_ ?xL_NoSeat ?sa_NoSeat ?ga_NoSeat ?gg_NoSeat ?kc_NoSeat ?hd_NoSeat ?ca_NoSeat ?hm_NoSeat ?n_NoSeat_seat ?s_NoSeat_NoSeat ?s_NoSeat_SoleError ?s_NoSeat_TooMany ?xL_TooMany ?sa_TooMany ?ga_TooMany ?gg_TooMany ?kc_TooMany ?hd_TooMany ?ca_TooMany ?hm_TooMany ?n_TooMany_what ?s_TooMany_TooMany ?s_TooMany_SoleError ?rd_SoleError ?sg_SoleError ?vi_SoleError ?a_NoSeat___init__ ?t_NoSeat___init__ ?l_NoSeat___init__ ?c_NoSeat___init__ ?k_NoSeat___init__ ?a_TooMany___init__ ?t_TooMany___init__ ?l_TooMany___init__ ?c_TooMany___init__ ?k_TooMany___init__ ?a_word_of ?l_word_of ?c_word_of ?k_word_of ?a_fault ?l_fault ?c_fault ?k_fault ?a_looked ?l_looked ?c_looked ?k_looked ?a_joined ?l_joined ?c_joined ?k_joined ?a__law_wide ?l__law_wide ?c__law_wide ?k__law_wide ?a__law_take ?l__law_take ?c__law_take ?k__law_take ?a__law_set ?l__law_set ?c__law_set ?k__law_set ?a__law_many_seats ?l__law_many_seats ?c__law_many_seats ?k__law_many_seats ?a__law_family ?l__law_family ?c__law_family ?k__law_family ?a__law_whole ?l__law_whole ?c__law_whole ?k__law_whole ?a__law_is_set ?l__law_is_set ?c__law_is_set ?k__law_is_set ?a__law_due ?l__law_due ?c__law_due ?k__law_due ?a__law_told ?l__law_told ?c__law_told ?k__law_told ?a__law_right ?l__law_right ?c__law_right ?k__law_right ?a_law ?l_law ?c_law ?k_law ?a_SEATS ?a_SETS ?z_bool ?z_enumerate ?z_int ?z_isinstance ?z_len ?z_list ?z_min ?z_range ?z_set ?z_sorted ?z_sum ?z_tuple
    (case a_SoleError => k_is)
    (case a_NoSeat => k_is)
    (case a_TooMany => k_is)
    (case is_NoSeat => k_is)
    (case ty_NoSeat => k_is)
    (case ex_NoSeat => k_is)
    (case is_TooMany => k_is)
    (case ty_TooMany => k_is)
    (case ex_TooMany => k_is)
    (case is_SoleError => k_is)
    (case ty_SoleError => k_is)
    (case ex_SoleError => k_is)
    (case hn_ => k_is)
    (case ht_ => k_is)
    (case xL_NoSeat => k_is)
    (case sa_NoSeat => k_is)
    (case ga_NoSeat => k_is)
    (case gg_NoSeat => k_is)
    (case kc_NoSeat => k_is)
    (case hd_NoSeat => k_is)
    (case ca_NoSeat => k_is)
    (case hm_NoSeat => k_is)
    (case n_NoSeat_seat => k_is)
    (case s_NoSeat_NoSeat => first | rfl | k_is)
    (case s_NoSeat_SoleError => first | rfl | k_is)
    (case s_NoSeat_TooMany => first | rfl | k_is)
    (case xL_TooMany => k_is)
    (case sa_TooMany => k_is)
    (case ga_TooMany => k_is)
    (case gg_TooMany => k_is)
    (case kc_TooMany => k_is)
    (case hd_TooMany => k_is)
    (case ca_TooMany => k_is)
    (case hm_TooMany => k_is)
    (case n_TooMany_what => k_is)
    (case s_TooMany_TooMany => first | rfl | k_is)
    (case s_TooMany_SoleError => first | rfl | k_is)
    (case rd_SoleError => k_is)
    (case sg_SoleError => k_is)
    (case vi_SoleError => k_is)
    (case a_NoSeat___init__ => k_is)
    (case t_NoSeat___init__ => k_is)
    (case l_NoSeat___init__ => k_is)
    (case c_NoSeat___init__ => k_is)
    (case k_NoSeat___init__ => k_is)
    (case a_TooMany___init__ => k_is)
    (case t_TooMany___init__ => k_is)
    (case l_TooMany___init__ => k_is)
    (case c_TooMany___init__ => k_is)
    (case k_TooMany___init__ => k_is)
    (case a_word_of => k_is)
    (case l_word_of => k_is)
    (case c_word_of => k_is)
    (case k_word_of => k_is)
    (case a_fault => k_is)
    (case l_fault => k_is)
    (case c_fault => k_is)
    (case k_fault => k_is)
    (case a_looked => k_is)
    (case l_looked => k_is)
    (case c_looked => k_is)
    (case k_looked => k_is)
    (case a_joined => k_is)
    (case l_joined => k_is)
    (case c_joined => k_is)
    (case k_joined => k_is)
    (case a__law_wide => k_is)
    (case l__law_wide => k_is)
    (case c__law_wide => k_is)
    (case k__law_wide => k_is)
    (case a__law_take => k_is)
    (case l__law_take => k_is)
    (case c__law_take => k_is)
    (case k__law_take => k_is)
    (case a__law_set => k_is)
    (case l__law_set => k_is)
    (case c__law_set => k_is)
    (case k__law_set => k_is)
    (case a__law_many_seats => k_is)
    (case l__law_many_seats => k_is)
    (case c__law_many_seats => k_is)
    (case k__law_many_seats => k_is)
    (case a__law_family => k_is)
    (case l__law_family => k_is)
    (case c__law_family => k_is)
    (case k__law_family => k_is)
    (case a__law_whole => k_is)
    (case l__law_whole => k_is)
    (case c__law_whole => k_is)
    (case k__law_whole => k_is)
    (case a__law_is_set => k_is)
    (case l__law_is_set => k_is)
    (case c__law_is_set => k_is)
    (case k__law_is_set => k_is)
    (case a__law_due => k_is)
    (case l__law_due => k_is)
    (case c__law_due => k_is)
    (case k__law_due => k_is)
    (case a__law_told => k_is)
    (case l__law_told => k_is)
    (case c__law_told => k_is)
    (case k__law_told => k_is)
    (case a__law_right => k_is)
    (case l__law_right => k_is)
    (case c__law_right => k_is)
    (case k__law_right => k_is)
    (case a_law => k_is)
    (case l_law => k_is)
    (case c_law => k_is)
    (case k_law => k_is)
    (case a_SEATS => k_is)
    (case a_SETS => k_is)
    (case z_bool => k_is)
    (case z_enumerate => k_is)
    (case z_int => k_is)
    (case z_isinstance => k_is)
    (case z_len => k_is)
    (case z_list => k_is)
    (case z_min => k_is)
    (case z_range => k_is)
    (case z_set => k_is)
    (case z_sorted => k_is)
    (case z_sum => k_is)
    (case z_tuple => k_is)

