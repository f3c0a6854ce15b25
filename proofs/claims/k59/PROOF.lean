import PyProof.Rows.All
import Wide.All
import OpenK.AllK
import Wide.FinOn
import HandS.ForMost
import HandS.SetFor
import HandS.Strs
import HandS.Wide
import HandS.WideBits
import HandS.Deep
import HandS.IsInst
import HandS.TupAny
import HandS.Evl
import HandS.Flow
import HandS.More
import HandS.SortInts
import HandS.Style
import HandS.Conv
import HandS.TryOnly
import HandS.SortOrd
import HandS.NamedTupSort
import PySem.Challenge.RW_soleseat_k59_whole_bettered
set_option Elab.async false
set_option linter.all false
set_option maxRecDepth 100000
set_option maxHeartbeats 8000000
/-! Zset: set(list of ints) as a value, and sorted of it. -/
namespace Z
open PySem PySem.Spec PySem.Calls L2
open PyProof.Rows hiding St
def Fresh (H : Hp) (p : Addr) : Prop := H p = none
section
variable {P : Program} {w : World} {A : Around} {E : Value → Shared → Prop} {s : Shared}
abbrev mS (w : World) : Obj := { cls := .type "set", dict := none, data := .set #[] 0 (.fresh 0 0 (!w.params.followText "set-order")) }
abbrev hS1 (w : World) (s : Shared) : Heap := s.heap.push (mS w)
theorem set_of_list {l : Addr} {zs : Array Value} (ns : List Int) {Q : Value → Shared → Prop} (quiet : A.handled = none) (isl : s.heap.IsList l zs) (allI : IntsAre zs.toList ns) (few : ns.length + 1 < scanBound)
    (fin : ∀ (h2 : Heap) (tk c : Nat), SetR w h2 s.heap.objs.size (fun j => decide (j ∈ ns)) c → c ≤ ns.length →
      (∀ b o, s.heap.get? b = some o → h2.get? b = some o) → Q (.ref s.heap.objs.size) { s with heap := h2, toks := tk }) : wpAny (model P w) A (call (.type "set") [.ref l]) Q E s := by
  have hn : zs.size = ns.length := by
    have e := IntsAre.length allI
    rwa [Array.length_toList] at e
  obtain ⟨c, tl, hmro⟩ := F.called_set.mro
  have hmade := F.called_set.made
  have hsub := F.called_set.sub
  refine wpAny_call (codeAny_of_tree ?_)
  show wpAny _ _ (callAny (.type "set") _) _ _ _
  refine wpAny_pure ⟨Code.quiet_builtin _ (by decide +kernel), codeAny_builtin F.entry_type_call ?_⟩
  rw [Around.under_plain (weight_type_call_type "set" [.ref l] []) rfl]
  have a1 := F.called_set.notType
  have a2 := F.called_set.canCreate
  have a3 := F.typeCall_set_1 (.ref l)
  repeat (any_goals (first | assumption | wp_step))
  refine codeAny_mono (code_set_led1 (.ref l) (E := E) (Q₁ := fun ob s1 => ob = .ref s.heap.objs.size ∧ s1 = { s with heap := hS1 w s }) ⟨rfl, rfl⟩) fun r s1 hr => ?_
  cases r with
  | error e => exact hr
  | ok fl => cases fl with
    | ret ob =>
      obtain ⟨rfl, rfl⟩ := hr
      have g0 : (hS1 w s).get? s.heap.objs.size = some (mS w) := Heap.get?_push_size _ rfl
      have g1 : Shared.TypeIs { s with heap := hS1 w s } (.ref s.heap.objs.size) "set" := ⟨_, g0, rfl⟩
      have a4 := F.called_set.init.lookup
      have a5 := F.called_set.init.bind (.ref s.heap.objs.size)
      repeat (any_goals (first | assumption | wp_step))
      refine codeAny_mono (codeAny_call_builtin (R := wants (fun v s2 => v = .none ∧ ∃ h2 tk c, s2 = { s with heap := h2, toks := tk } ∧
        SetR w h2 s.heap.objs.size (fun j => decide (j ∈ ns)) c ∧ c ≤ ns.length ∧ ∀ b o, s.heap.get? b = some o → h2.get? b = some o) E)
        F.called_set.init.plain F.entry_set_init (check_set_init_1 g1 ?_)) fun r2 s2 hr2 => ?_
      · obtain ⟨ol, e1, e2, nl, e4⟩ := isl
        obtain ⟨oc, od, oda, osl⟩ := ol
        simp only at e2 e4
        subst e2; subst e4
        have g2 := Heap.get?_push_of_some (h := s.heap) (mS w) e1
        have u1 := F.sub_list_set
        have u2 := F.sub_list_frozenset
        have u3 : (Value.type "list" == Value.type "dict") = false := by decide
        have isl1 : (hS1 w s).IsList l zs := ⟨_, g2, rfl, nl, rfl⟩
        unfold Builtin.«set.__init__» noKeywords Builtin.Frozenset.updateFrom
        generalize hPI : pyIter = PI
        wp_walk
        subst hPI
        refine wpAny_pyIter_list isl1 ?_
        refine wpAny_bind (wpAny_runValue ?_)
        have l0 : l < s.heap.objs.size := Heap.lt_size e1
        have q3 : A.in1.in1.in1.handled = none := by simp [quiet]
        have z1 : (hS1 w s).objs.size = s.heap.objs.size + 1 := Heap.size_push ..
        have lI : l ≠ (hS1 w s).objs.size := by
          rw [z1]
          exact Nat.ne_of_lt (Nat.lt_succ_of_lt l0)
        have sf : s.heap.objs.size ∉ [(hS1 w s).objs.size, l] := fun z => by
          rw [z1] at z
          rcases List.mem_cons.mp z with z | z
          · exact Nat.ne_of_lt (Nat.lt_succ_self _) z
          · exact Nat.ne_of_gt l0 (List.mem_singleton.mp z)
        have vals : ∀ (i : Nat) (v : Value), zs[i]? = some v → ∃ k t, ns[i]? = some k ∧ v = .int k t := fun i v hv => by
          have hi : i < ns.length := hn ▸ (Array.getElem?_eq_some_iff.mp hv).1
          obtain ⟨t, e⟩ := IntsAre.int_at allI i v (by rw [Array.getElem?_toList]; exact hv)
          refine ⟨ns[i], t, List.getElem?_eq_getElem hi, e.trans ?_⟩
          rw [List.getD_eq_getElem?_getD, List.getElem?_eq_getElem hi]
          rfl
        refine set_update_ints ((Walks.list q3 _ l lI zs).toS) s.heap.objs.size sf ns hn few vals (zs.size - 0) 0 _ (by omega) (Nat.zero_le _)
          ⟨⟨_, Heap.get?_push_size _ rfl, rfl, rfl⟩, isl1.push _⟩ ⟨0, Nat.le_refl 0, setR_new_at (Heap.get?_push_of_some _ g0)⟩ fun s3 c3 mv hc3 hR => ?_
        obtain ⟨h3, g3, d3, t3, o3⟩ := s3
        obtain rfl : g3 = s.gens := mv.gens
        obtain rfl : d3 = s.drawn := mv.drawn
        obtain rfl : o3 = s.os := mv.os
        show wpAny _ _ _ _ _ _
        refine wpAny_pure ?_
        show wpAny _ _ (ret Value.none) _ _ _
        rw [hn] at hc3
        refine wpAny_pure ⟨rfl, h3, t3, c3, rfl, hR, hc3, fun b o e => ?_⟩
        have b0 : b < s.heap.objs.size := Heap.lt_size e
        refine mv.heap b o (fun z => ?_) (Heap.get?_push_of_some _ (Heap.get?_push_of_some _ e))
        rcases List.mem_cons.mp z with z | z
        · exact Nat.ne_of_lt b0 z
        · have z := List.mem_singleton.mp z
          rw [z1] at z
          exact Nat.ne_of_lt (Nat.lt_succ_of_lt b0) z
      · cases r2 with
        | error e => exact hr2
        | ok f2 => cases f2 with
          | ret v =>
            obtain ⟨rfl, h3, tk, c3, rfl, hR, hc3, hk⟩ := hr2
            repeat (any_goals (first | assumption | wp_step))
            exact fin _ _ _ hR hc3 hk
          | _ => exact hr2.elim
    | _ => exact hr.elim
end
section
variable {X : Cx}
/-- set(l), l a list or a tuple of ints -/
def zSet (K : PySem.W.Frag) (w : World) : List V → Hp → VK → Prop := fun xs H Q => ∃ (l : Addr) (ns : List Int), xs = [V.ref l] ∧ (SqL K H l (ns.map V.int) ∨ SqT K H l (ns.map V.int)) ∧ ns.length ≤ 1000 ∧
  ∀ (p : Addr) (c : Nat), c ≤ ns.length → Fresh H p → Q (.ref p) (upd H p (SetO w p (fun j => decide (j ∈ ns)) c))
theorem cr_zSet (quiet : X.calm = true) : CallR X (.type "set") (zSet X.K X.w) := by
  intro pins s σ H xs us Q I r h
  obtain ⟨l, ns, rfl, hl, few, q⟩ := h
  rw [Vals.ref1 r]
  have bnd : ns.length + 1 < scanBound := by
    unfold scanBound
    omega
  have new : H s.heap.objs.size = none := I.hok.fresh (Nat.le_refl _)
  rcases hl with hl | hl
  · obtain ⟨its, rv, pl, _⟩ := I.list hl
    exact set_of_list ns (I.ok.hd quiet) pl.isList (by simpa using ints_of_vals rv) bnd fun h2 tk c R hc k =>
      ⟨.ref _, _, I.laid (t' := tk) k (Nat.le_refl _) (setO_new R), rfl, q _ c hc new⟩
  · obtain ⟨its, rv, pl, _⟩ := I.tuple hl
    exact call_set_tupI ns (I.ok.hd quiet) pl (by simpa using ints_of_vals rv) bnd fun h2 tk c R hc k =>
      ⟨.ref _, _, I.laid (t' := tk) k (Nat.le_refl _) (setO_new R), rfl, q _ c hc new⟩
end
end Z

/-! Zp: joined operators (the kind is found as the walk goes), one lemma a step, tactics that walk. -/
namespace Z
open PySem PySem.Spec L2
open PyProof.Rows hiding St

/-! ### heaps -/
structure Gr (M : Addr → Prop) (F H F' H' : Hp) : Prop where
  ff : Same F F'
  fh : Same F' H'
  hh : ∀ b o, ¬ M b → H b = some o → H' b = some o
  nw : ∀ b o, H b = some o → F b = none → F' b = none
abbrev M0 : Addr → Prop := fun _ => False
abbrev M1 (p : Addr) : Addr → Prop := fun b => b = p
section
variable {M M' : Addr → Prop} {F H F' H' F'' H'' : Hp} {p q a b : Addr} {o u : HO} {K : PySem.W.Frag} {xs : List V}
theorem Gr.refl (h : Same F H) : Gr M F H F H := ⟨Same.refl _, h, fun _ _ _ e => e, fun _ _ _ e => e⟩
theorem Gr.trans (g : Gr M F H F' H') (k : Gr M F' H' F'' H'') (hM : ∀ b, M b → ∃ o, H b = some o) (hM' : ∀ b, M b → F b = none) (hk : ∀ b, M b → ∃ o, H' b = some o) : Gr M F H F'' H'' :=
  ⟨g.ff.trans k.ff, k.fh, fun b o n e => k.hh b o n (g.hh b o n e), fun b o e f => by
    have f' := g.nw b o e f
    by_cases hb : M b
    · obtain ⟨o', e'⟩ := hk b hb
      exact k.nw b o' e' f'
    · exact k.nw b o (g.hh b o hb e) f'⟩
theorem Gr.trans0 (g : Gr M0 F H F' H') (k : Gr M F' H' F'' H'') : Gr M F H F'' H'' :=
  ⟨g.ff.trans k.ff, k.fh, fun b o n e => k.hh b o n (g.hh b o (fun z => z) e), fun b o e f => k.nw b o (g.hh b o (fun z => z) e) (g.nw b o e f)⟩
theorem Gr.tr0 (g : Gr M F H F' H') (k : Gr M0 F' H' F'' H'') (hk : ∀ b, M b → ∃ o, H' b = some o) : Gr M F H F'' H'' :=
  ⟨g.ff.trans k.ff, k.fh, fun b o n e => k.hh b o (fun z => z) (g.hh b o n e), fun b o e f => by
    have f' := g.nw b o e f
    by_cases hb : M b
    · obtain ⟨o', e'⟩ := hk b hb
      exact k.nw b o' e' f'
    · exact k.nw b o (g.hh b o hb e) f'⟩
theorem Gr.tr1 (g : Gr (M1 p) F H F' H') (k : Gr (M1 p) F' H' F'' H'') (hp : H' p = some o) : Gr (M1 p) F H F'' H'' :=
  ⟨g.ff.trans k.ff, k.fh, fun b o n e => k.hh b o n (g.hh b o n e), fun b o' e f => by
    have f' := g.nw b o' e f
    by_cases hb : b = p
    · subst hb
      exact k.nw b o hp f'
    · exact k.nw b o' (g.hh b o' hb e) f'⟩
theorem Gr.up (g : Gr M0 F H F' H') : Gr M F H F' H' := ⟨g.ff, g.fh, fun b o _ e => g.hh b o (fun z => z) e, g.nw⟩
theorem same_new (h : Same F H) (hp : Fresh H p) : Same F (upd H p o) := fun b u e => by
  rw [upd_ne (ne_of_none (h b u e) hp)]
  exact h b u e
theorem same_mut (h : Same F H) (hp : F p = none) : Same F (upd H p o) := fun b u e => by
  rw [upd_ne (ne_of_none e hp)]
  exact h b u e
/-- a new object, not frozen -/
theorem Gr.new (h : Same F H) (hp : Fresh H p) : Gr M F H F (upd H p o) := ⟨Same.refl _, same_new h hp, fun b u _ e => by
  rw [upd_ne (ne_of_none e hp)]
  exact e, fun _ _ _ e => e⟩
/-- a new object, frozen at once -/
theorem Gr.newF (h : Same F H) (hp : Fresh H p) : Gr M F H (upd F p o) (upd H p o) :=
  ⟨fun b u e => by
    rw [upd_ne (ne_of_none (h b u e) hp)]
    exact e, fun b u e => by
    by_cases hb : b = p
    · subst hb
      rw [upd_same] at e ⊢
      exact e
    · rw [upd_ne hb] at e ⊢
      exact h b u e, fun b u _ e => by
    rw [upd_ne (ne_of_none e hp)]
    exact e, fun b u e f => by
    rw [upd_ne (ne_of_none e hp)]
    exact f⟩
/-- a change -/
theorem Gr.mut (h : Same F H) (hp : F p = none) (hM : M p) : Gr M F H F (upd H p o) := ⟨Same.refl _, same_mut h hp, fun b u n e => by
  rw [upd_ne (fun z => n (by rw [z]; exact hM))]
  exact e, fun _ _ _ e => e⟩
/-- an object that came since is frozen from now on -/
theorem Gr.frz (g : Gr M F H F' H') (hn : H p = none) (hp : H' p = some o) (hf : F' p = none) : Gr M F H (upd F' p o) H' :=
  ⟨fun b u e => by
    have e' := g.ff b u e
    rw [upd_ne (ne_of_none e' hf)]
    exact e', fun b u e => by
    by_cases hb : b = p
    · subst hb
      rw [upd_same] at e
      rw [hp]
      exact e
    · rw [upd_ne hb] at e
      exact g.fh b u e, g.hh, fun b u e f => by
    rw [upd_ne (ne_of_none e hn)]
    exact g.nw b u e f⟩
theorem Gr.put (g : Gr M F H F' H') (hf : F' p = none) (hM : M p) : Gr M F H F' (upd H' p o) := ⟨g.ff, same_mut g.fh hf, fun b u n e => by
  rw [upd_ne (fun z => n (by rw [z]; exact hM))]
  exact g.hh b u n e, g.nw⟩
theorem Gr.put1 (g : Gr (M1 p) F H F' H') (hf : F' p = none) : Gr (M1 p) F H F' (upd H' p o) := g.put hf rfl
theorem Gr.add (g : Gr M F H F' H') (hn : Fresh H' p) : Gr M F H F' (upd H' p o) := ⟨g.ff, same_new g.fh hn, fun b u n e => by
  have e' := g.hh b u n e
  rw [upd_ne (ne_of_none e' hn)]
  exact e', g.nw⟩
theorem Gr.addF (g : Gr M F H F' H') (hn : Fresh H' p) (hm : ¬ M p) : Gr M F H (upd F' p o) (upd H' p o) := by
  have k := Gr.newF (M := M) (o := o) g.fh hn
  refine ⟨g.ff.trans k.ff, k.fh, fun b u n e => k.hh b u n (g.hh b u n e), fun b u e f => ?_⟩
  have f' := g.nw b u e f
  by_cases hb : b = p
  · subst hb
    rw [Fresh, g.hh b u hm e] at hn
    cases hn
  · rw [upd_ne hb]
    exact f'
theorem Gr.same (g : Gr M0 F H F' H') : Same H H' := fun b o e => g.hh b o (fun z => z) e
/-- a change of what came since -/
theorem Gr.own (g : Gr M F H F' H') (hf : F' p = none) (hn : H p = none) : Gr M F H F' (upd H' p o) := ⟨g.ff, same_mut g.fh hf, fun b u n e => by
  rw [upd_ne (ne_of_none e hn)]
  exact g.hh b u n e, g.nw⟩
theorem Gr.nof (g : Gr M F H F' H') (h : F p = none) (h2 : H p = some o) : F' p = none := g.nw p o h2 h
theorem Gr.fresh (g : Gr M F H F' H') (hn : Fresh H' p) (hM : ∀ b, M b → ∃ o, H' b = some o) : Fresh H p := by
  unfold Fresh at *
  cases e : H p with
  | none => rfl
  | some u =>
    by_cases hb : M p
    · obtain ⟨o', e'⟩ := hM p hb
      rw [hn] at e'
      cases e'
    · rw [g.hh p u hb e] at hn
      cases hn
theorem Gr.fr1 (g : Gr (M1 p) F H F' H') (hp : H' p = some o) (hn : Fresh H' q) : Fresh H q := g.fresh hn fun b hb => ⟨o, by rw [show b = p from hb]; exact hp⟩
theorem Gr.fr0 (g : Gr M0 F H F' H') (hn : Fresh H' q) : Fresh H q := g.fresh hn fun b hb => hb.elim
theorem fresh_ne (hn : Fresh H q) (hp : H p = some o) : q ≠ p := fun e => by
  subst e
  rw [Fresh, hp] at hn
  cases hn
theorem ne_fresh (hn : Fresh H q) (hp : H p = some o) : p ≠ q := (fresh_ne hn hp).symm
theorem fresh_upd (hn : Fresh (upd H p o) q) : Fresh H q ∧ q ≠ p := by
  by_cases e : q = p
  · subst e
    rw [Fresh, upd_same] at hn
    cases hn
  · rw [Fresh, upd_ne e] at hn
    exact ⟨hn, e⟩
theorem fresh_F (h : Same F H) (hn : Fresh H p) : F p = none := by
  cases e : F p with
  | none => rfl
  | some u =>
    rw [Fresh, h p u e] at hn
    cases hn
/-- behind a part that changed p alone, p new since the beginning -/
theorem Gr.drop (g : Gr (M1 p) F H F' H') (hn : H p = none) : Gr M F H F' H' := ⟨g.ff, g.fh, fun b o _ e => g.hh b o (ne_of_none e hn) e, g.nw⟩
theorem Same.seqT (e : Same H H') (h : SqT K H a xs) : SqT K H' a xs := by
  rcases h with (h | ⟨o, h⟩) | h
  · exact .inl (.inl (e _ _ h))
  · exact .inl (.inr ⟨o, e _ _ h⟩)
  · exact .inr h
mutual
theorem Dp.mono (e : Same H H') : ∀ (d : PyData) (v : V), Dp K H v d → Dp K H' v d
  | .none, _, h => by cases h; exact .non
  | .bool _, _, h => by cases h; exact .bl _
  | .int _, _, h => by cases h; exact .int _
  | .str _, _, h => by cases h; exact .str _
  | .list ds, _, h => by
    cases h with
    | lst h1 h2 => exact .lst (e.seq h1) (DpAll.mono e ds _ h2)
  | .tuple ds, _, h => by
    cases h with
    | tup h1 h2 => exact .tup (Same.seqT e h1) (DpAll.mono e ds _ h2)
  | .dict _, _, h => by cases h
theorem DpAll.mono (e : Same H H') : ∀ (ds : List PyData) (vs : List V), DpAll K H vs ds → DpAll K H' vs ds
  | [], _, h => by cases h; exact .nil
  | d :: ds, _, h => by
    cases h with
    | cons h1 h2 => exact .cons (Dp.mono e d _ h1) (DpAll.mono e ds _ h2)
end
end

/-! ### operators of any kind -/
section
variable {X : Cx} {f : Value → Value → Sem Value} {r r' : R2}
def orR (r r' : R2) : R2 := fun x y H Q => r x y H Q ∨ r' x y H Q
theorem op_or2 (h : OpR X f r) (h' : OpR X f r') : OpR X f (orR r r') := fun pins s σ H x y v u Q I rx ry q => q.elim (h pins s σ H x y v u Q I rx ry) (h' pins s σ H x y v u Q I rx ry)
theorem ix_or2 (h : IxR X r) (h' : IxR X r') : IxR X (orR r r') := fun a b pins s σ H x y v u Q I rx ry q => q.elim (h a b pins s σ H x y v u Q I rx ry) (h' a b pins s σ H x y v u Q I rx ry)
def orC (r r' : List V → Hp → VK → Prop) : List V → Hp → VK → Prop := fun xs H Q => r xs H Q ∨ r' xs H Q
theorem cr_or2 {f : Value} {r r' : List V → Hp → VK → Prop} (h : CallR X f r) (h' : CallR X f r') : CallR X f (orC r r') := fun pins s σ H xs us Q I rx q => q.elim (h pins s σ H xs us Q I rx) (h' pins s σ H xs us Q I rx)

def zAddI : R2 := rI0 fun i j => .int (i + j)
def zAddS : R2 := fun x y H Q => ∃ i j, x = .str i ∧ y = .str j ∧ i.length + j.length ≤ sizeLine ∧ Q (.str (i ++ j)) H
def zAdd (K : PySem.W.Frag) : R2 := orR zAddI (orR zAddS (orR rCat (rCatA K)))
theorem op_zAdd : OpR X (binaryOp .Add) (zAdd X.K) := op_or2 op_add (op_or2 op_add_str (op_or2 op_cat op_catA))
def zSub : R2 := rI0 fun i j => .int (i - j)
theorem op_zSub : OpR X (binaryOp .Sub) zSub := op_sub
def zMulI : R2 := rI CMul fun i j => .int (i * j)
def zMulW : R2 := rI CMulW fun i j => .int (i * j)
def zMul : R2 := orR zMulI (orR zMulW rRep)
theorem op_zMul : OpR X (binaryOp .Mult) zMul := op_or2 op_mul (op_or2 op_mulW op_rep)
def zMod : R2 := rI (fun _ j => 0 < j) fun i j => .int (i % j)
theorem op_zMod : OpR X (binaryOp .Mod) zMod := op_mod
def zDivS : R2 := rI CDiv fun i j => .int (i / j)
def zDivW : R2 := rI CDivW fun i j => .int (i / j)
def zDiv : R2 := orR zDivS zDivW
theorem op_zDiv : OpR X (binaryOp .FloorDiv) zDiv := op_or2 op_fdiv op_fdivW
def zPow : R2 := rI CPow fun i j => .int (i ^ j.toNat)
theorem op_zPow : OpR X (binaryOp .Pow) zPow := op_pow
def zShl : R2 := rI CPow fun i j => .int (i * 2 ^ j.toNat)
theorem op_zShl : OpR X (binaryOp .LShift) zShl := op_shl
def zShr : R2 := rI (fun _ j => 0 ≤ j) fun i j => .int (i / 2 ^ j.toNat)
theorem op_zShr : OpR X (binaryOp .RShift) zShr := op_shr
def zAnd : R2 := rI0 fun i j => .int (Builtin.bitAnd i j)
theorem op_zAnd : OpR X (binaryOp .BitAnd) zAnd := op_and
def zOr : R2 := rI0 fun i j => .int (Builtin.bitOr i j)
theorem op_zOr : OpR X (binaryOp .BitOr) zOr := op_or
def zEq (K : PySem.W.Frag) : R2 := orR rEq (rEqD K)
theorem op_zEq (hu : X.A.units + 64 < cLine) : OpR X (compareOp .Eq) (zEq X.K) := op_or2 op_eq (op_eqD hu)
def zNe (K : PySem.W.Frag) : R2 := orR rNe (rNeD K)
theorem op_zNe (hu : X.A.units + 64 < cLine) : OpR X (compareOp .NotEq) (zNe X.K) := op_or2 op_ne (op_neD hu)
def zLtI : R2 := rI0 fun i j => .bl (decide (i < j))
def zLt (K : PySem.W.Frag) : R2 := orR zLtI (rLtT K)
theorem op_zLt (hu : X.A.units < cLine) : OpR X (compareOp .Lt) (zLt X.K) := op_or2 op_lt (op_ltT hu)
def zLe : R2 := rI0 fun i j => .bl (decide (i ≤ j))
theorem op_zLe : OpR X (compareOp .LtE) zLe := op_le
def zGt : R2 := rI0 fun i j => .bl (decide (j < i))
theorem op_zGt : OpR X (compareOp .Gt) zGt := op_gt
def zGe : R2 := rI0 fun i j => .bl (decide (j ≤ i))
theorem op_zGe : OpR X (compareOp .GtE) zGe := op_ge
def zIn (K : PySem.W.Frag) : R2 := orR (rIn K false) (orR (rInD K) fun x y H Q => ∃ i j, x = .str i ∧ y = .str j ∧ Q (.bl (!(Builtin.Str.occurrences j i 0 j.length 1).isEmpty)) H)
theorem op_zIn (hu : X.A.units + 65 < cLine) : OpR X (compareOp .In) (zIn X.K) := op_or2 op_in_seq (op_or2 (op_inD hu) op_in_str)
def zNotIn (K : PySem.W.Frag) : R2 := orR (rIn K true) (orR (rNotInD K) fun x y H Q => ∃ i j, x = .str i ∧ y = .str j ∧ Q (.bl (!(!(Builtin.Str.occurrences j i 0 j.length 1).isEmpty))) H)
theorem op_zNotIn (hu : X.A.units + 65 < cLine) : OpR X (compareOp .NotIn) (zNotIn X.K) := op_or2 op_notIn_seq (op_or2 (op_notInD hu) op_notin_str)
def zIsN : R2 := fun x y H Q => y = .non ∧ Q (.bl (decide (x = .non))) H
theorem op_zIsN : OpR X (compareOp .Is) zIsN := op_isN
def zNotN : R2 := fun x y H Q => y = .non ∧ Q (.bl (!decide (x = .non))) H
theorem op_zNotN : OpR X (compareOp .IsNot) zNotN := op_notN
def zLen (K : PySem.W.Frag) : List V → Hp → VK → Prop := fun xs H Q => ∃ x n, xs = [x] ∧ LenV K x H n ∧ Q (.int n) H
theorem cr_zLen : CallR X (.builtin "len") (zLen X.K) := call_len
def zList (K : PySem.W.Frag) : List V → Hp → VK → Prop := fun xs H Q => ∃ p ys, xs = [.ref p] ∧ (SqL K H p ys ∨ SqT K H p ys) ∧ ∀ l, H l = none → Q (.ref l) (upd H l (.lst ys))
theorem cr_zList : CallR X (.type "list") (zList X.K) := call_list_of
def zTuple (K : PySem.W.Frag) : List V → Hp → VK → Prop := fun xs H Q => ∃ p ys, xs = [.ref p] ∧ ((SqL K H p ys ∧ ∀ l, H l = none → Q (.ref l) (upd H l (.tup ys))) ∨ (SqT K H p ys ∧ Q (.ref p) H))
theorem cr_zTuple : CallR X (.type "tuple") (zTuple X.K) := call_tuple_of
theorem _root_.L2.Room.units65 {k : Nat} {A : Around} (r : Room k A) : A.units + 65 < cLine := by
  have := r.un
  omega
def zInt1 : List V → Hp → VK → Prop := fun xs H Q => (∃ i, xs = [.int i] ∧ Q (.int i) H) ∨ ∃ k, xs = [.bl k] ∧ Q (.int (if k then 1 else 0)) H
def zAbs : List V → Hp → VK → Prop := fun xs H Q => ∃ i, xs = [.int i] ∧ Q (.int (if i < 0 then -i else i)) H
def zMax2 : List V → Hp → VK → Prop := fun xs H Q => ∃ i j, xs = [.int i, .int j] ∧ Q (.int (if j > i then j else i)) H
def zMin2 : List V → Hp → VK → Prop := fun xs H Q => ∃ i j, xs = [.int i, .int j] ∧ Q (.int (if j < i then j else i)) H
def zSl (K : PySem.W.Frag) : V → Option Int → Option Int → Hp → VK → Prop := fun x lo hi H Q => rSlL K x lo hi H Q ∨ rSlA K x lo hi H Q
theorem sl_z : SlR X (zSl X.K) := SlR.or sl_list sl_tupA
def zTru (K : PySem.W.Frag) (ta : TE) : TT := fun σ H Q => ta σ H fun x H' => ∃ k, TruV K x H' k ∧ Q k H'
end

/-! ### one lemma a step -/
section
variable {K : PySem.W.Frag} {σ : St} {H : Hp} {D : Ends} {t u : TS} {ta tb tc te : TE} {c c' : TT} {v w x y z : V} {Q : VK} {QB : Bool → Hp → Prop} {QA : List V → Hp → Prop} {i j : Nat} {r r' : R2} {g : TG} {p q a b : Addr} {xs ys : List V} {tA tR : TA} {m n : Int} {k : Bool}
theorem s_seq (h : t { D with nx := u D } σ H) : tSeq t u D σ H := h
theorem s_asgN (h : te σ H fun v H1 => D.nx (σ.set i (some v)) H1) : tAsg te (gName i) D σ H := h
theorem s_asgS (h : te σ H fun v H1 => ta σ H1 fun o H1 => tb σ H1 fun i H2 => rSetL o i v H2 fun H3 => D.nx σ H3) : tAsg te (gSub ta tb rSetL) D σ H := h
theorem s_asgT {n : Nat} {ts : TGs} (h : te σ H fun v H1 => gTup K n ts v σ H1 D.nx) : tAsg te (gTup K n ts) D σ H := h
theorem s_drop (h : te σ H fun _ H1 => D.nx σ H1) : tDrop te D σ H := h
theorem s_ret (h : te σ H fun v H1 => D.rt v H1) : tRet te D σ H := h
theorem s_retN (h : D.rt .non H) : tRetN D σ H := h
theorem s_ifS (h : c σ H fun b H1 => if b = true then t D σ H1 else u D σ H1) : tIfS c t u D σ H := h
theorem s_next (h : D.nx σ H) : tNext D σ H := h
theorem s_break (h : D.bk σ H) : tBreak D σ H := h
theorem s_cont (h : D.ct σ H) : tCont D σ H := h
theorem s_aug {ti : TIp} (h1 : σ[i]? = some (some x)) (h : te σ H fun y H1 => ti x y H1 fun z H2 => D.nx (σ.set i (some z)) H2) : tAug i te ti D σ H := ⟨x, h1, h⟩
theorem e_var (h1 : σ[i]? = some (some v)) (h : Q v H) : tVar i σ H Q := ⟨v, h1, h⟩
theorem e_c (h : Q v H) : tC v σ H Q := h
theorem e_op (h : ta σ H fun x H1 => tb σ H1 fun y H2 => r x y H2 Q) : tOp r ta tb σ H Q := h
theorem e_un {r : V → Hp → VK → Prop} (h : ta σ H fun x H1 => r x H1 Q) : tUn r ta σ H Q := h
theorem e_chain (h : ta σ H fun x H1 => tb σ H1 fun y H2 => r x y H2 fun z H3 => ∃ k, z = .bl k ∧ (if k = true then tc σ H3 fun w' H4 => r' y w' H4 Q else Q (.bl false) H3)) : tChain r r' ta tb tc σ H Q := h
theorem e_cb {r : List V → Hp → VK → Prop} (h : tA σ H fun vs H1 => r vs H1 Q) : tCB r tA σ H Q := h
theorem e_call {sp : Sp} {E : XK} (h : tA σ H fun vs H1 => sp (vs ++ []) H1 Q E) : tCall sp [] E tA σ H Q := h
theorem a_nil (h : QA [] H) : tNil σ H QA := h
theorem a_cons (h : ta σ H fun x H1 => tR σ H1 fun xs H2 => QA (x :: xs) H2) : tCons ta tR σ H QA := h
theorem e_if (h : c σ H fun b H1 => if b = true then ta σ H1 Q else tb σ H1 Q) : tIf c ta tb σ H Q := h
theorem e_andV (h : ta σ H fun x H1 => ∃ c, x = .bl c ∧ if c = true then tb σ H1 Q else Q (.bl false) H1) : tAndV ta tb σ H Q := h
theorem e_orV (h : ta σ H fun x H1 => ∃ c, x = .bl c ∧ if c = true then Q (.bl true) H1 else tb σ H1 Q) : tOrV ta tb σ H Q := h
theorem e_notV (h : ta σ H fun x H1 => ∃ c, x = .bl c ∧ Q (.bl (!c)) H1) : tNotV ta σ H Q := h
theorem c_test (h : ta σ H fun x H1 => ∃ k, x = .bl k ∧ QB k H1) : tTest ta σ H QB := h
theorem c_B (h : ta σ H fun x H1 => ∃ k, x = .bl k ∧ QB k H1) : tB ta σ H QB := h
theorem c_and (h : c σ H fun b H1 => if b = true then c' σ H1 QB else QB false H1) : tAnd c c' σ H QB := h
theorem c_or (h : c σ H fun b H1 => if b = true then QB true H1 else c' σ H1 QB) : tOr c c' σ H QB := h
theorem c_not (h : c σ H fun b H1 => QB (!b) H1) : tNot c σ H QB := h
theorem c_tru (h : ta σ H fun x H' => ∃ k, TruV K x H' k ∧ QB k H') : zTru K ta σ H QB := h
theorem bl_ (h : QB k H) : ∃ k', V.bl k = .bl k' ∧ QB k' H := ⟨k, rfl, h⟩
theorem if_dec {p A B : Prop} {_inst : Decidable p} (h1 : p → A) (h2 : ¬ p → B) : if decide p = true then A else B := by
  by_cases h : p
  · rw [decide_eq_true h]
    exact iteT (h1 h)
  · rw [decide_eq_false h]
    exact iteF (h2 h)
theorem if_ndec {p A B : Prop} {_inst : Decidable p} (h1 : ¬ p → A) (h2 : p → B) : if (!decide p) = true then A else B := by
  by_cases h : p
  · rw [decide_eq_true h]
    exact iteF (h2 h)
  · rw [decide_eq_false h]
    exact iteT (h1 h)
theorem if_t {p A B : Prop} {_inst : Decidable p} (h : p) (h1 : A) : if decide p = true then A else B := if_dec (fun _ => h1) fun z => absurd h z
theorem if_f {p A B : Prop} {_inst : Decidable p} (h : ¬ p) (h1 : B) : if decide p = true then A else B := if_dec (fun z => absurd z h) fun _ => h1
theorem if_nt {p A B : Prop} {_inst : Decidable p} (h : ¬ p) (h1 : A) : if (!decide p) = true then A else B := if_ndec (fun _ => h1) fun z => absurd z h
theorem if_nf {p A B : Prop} {_inst : Decidable p} (h : p) (h1 : B) : if (!decide p) = true then A else B := if_ndec (fun z => absurd h z) fun _ => h1
theorem ref_ne {a : Addr} : ¬ (V.ref a = V.non) := fun h => by cases h
theorem int_ne {i : Int} : ¬ (V.int i = V.non) := fun h => by cases h
theorem str_ne {z : Str} : ¬ (V.str z = V.non) := fun h => by cases h
theorem if_b {b : Bool} {A B : Prop} (h1 : b = true → A) (h2 : b = false → B) : if b = true then A else B := by
  cases b with
  | true => exact iteT (h1 rfl)
  | false => exact iteF (h2 rfl)
theorem if_nb {b : Bool} {A B : Prop} (h1 : b = false → A) (h2 : b = true → B) : if (!b) = true then A else B := by
  cases b with
  | true => exact iteF (h2 rfl)
  | false => exact iteT (h1 rfl)
theorem iteNT {A B : Prop} (h : B) : if (!true) = true then A else B := iteF h
theorem iteNF {A B : Prop} (h : A) : if (!false) = true then A else B := iteT h
theorem o_isNr {a : Addr} {H : Hp} {Q : VK} (h : Q (.bl false) H) : zIsN (.ref a) .non H Q := ⟨rfl, h⟩
theorem o_isNi {i : Int} {H : Hp} {Q : VK} (h : Q (.bl false) H) : zIsN (.int i) .non H Q := ⟨rfl, h⟩
theorem o_isNs {i : Str} {H : Hp} {Q : VK} (h : Q (.bl false) H) : zIsN (.str i) .non H Q := ⟨rfl, h⟩
theorem o_isNn {H : Hp} {Q : VK} (h : Q (.bl true) H) : zIsN .non .non H Q := ⟨rfl, h⟩
theorem o_notNr {a : Addr} {H : Hp} {Q : VK} (h : Q (.bl true) H) : zNotN (.ref a) .non H Q := ⟨rfl, h⟩
theorem o_notNi {i : Int} {H : Hp} {Q : VK} (h : Q (.bl true) H) : zNotN (.int i) .non H Q := ⟨rfl, h⟩
theorem o_notNs {i : Str} {H : Hp} {Q : VK} (h : Q (.bl true) H) : zNotN (.str i) .non H Q := ⟨rfl, h⟩
theorem o_notNn {H : Hp} {Q : VK} (h : Q (.bl false) H) : zNotN .non .non H Q := ⟨rfl, h⟩
theorem t_bl {K : PySem.W.Frag} {b : Bool} {H : Hp} {QB : Bool → Hp → Prop} (h : QB b H) : ∃ k, TruV K (.bl b) H k ∧ QB k H := ⟨b, rfl, h⟩
theorem t_int {K : PySem.W.Frag} {i : Int} {H : Hp} {QB : Bool → Hp → Prop} (h : QB (i != 0) H) : ∃ k, TruV K (.int i) H k ∧ QB k H := ⟨_, rfl, h⟩
theorem t_lst {K : PySem.W.Frag} {a : Addr} {xs : List V} {H : Hp} {QB : Bool → Hp → Prop} (hs : SqL K H a xs) (h : QB (!xs.isEmpty) H) : ∃ k, TruV K (.ref a) H k ∧ QB k H := ⟨_, .inl ⟨xs, hs, rfl⟩, h⟩
theorem bl_if {k : Bool} {P : Bool → Prop} (h : P k) : ∃ k', V.bl k = .bl k' ∧ P k' := ⟨k, rfl, h⟩
theorem e_tup (h : tA σ H fun xs H1 => xs.length ≤ sizeLine ∧ ∀ p, H1 p = none → Q (.ref p) (upd H1 p (.tup xs))) : tTup tA σ H Q := h
theorem e_lst (h : tA σ H fun xs H1 => xs.length ≤ sizeLine ∧ ∀ p, H1 p = none → Q (.ref p) (upd H1 p (.lst xs))) : tLst tA σ H Q := h
theorem g_tup {n : Nat} {ts : TGs} {QS : St → Hp → Prop} (h : SqT K H a xs) (hn : xs.length = n) (k : ts xs σ H QS) : gTup K n ts (.ref a) σ H QS := ⟨a, xs, rfl, h, hn, k⟩
theorem g_name {QS : St → Hp → Prop} (h : QS (σ.set i (some v)) H) : gName i v σ H QS := h
theorem g_cons {ts : TGs} {QS : St → Hp → Prop} (h : g v σ H fun σ' H' => ts xs σ' H' QS) : gCons g ts (v :: xs) σ H QS := ⟨v, xs, rfl, h⟩
theorem g_nil {QS : St → Hp → Prop} (h : QS σ H) : gNil [] σ H QS := ⟨rfl, h⟩
-- operators by values
theorem o_add (h : Q (.int (m + n)) H) : zAdd K (.int m) (.int n) H Q := .inl ⟨m, n, rfl, rfl, h⟩
theorem o_addS {m n : Str} (hl : m.length + n.length ≤ sizeLine) (h : Q (.str (m ++ n)) H) : zAdd K (.str m) (.str n) H Q := .inr (.inl ⟨m, n, rfl, rfl, hl, h⟩)
theorem o_addL (ha : H a = some (.lst xs)) (hb : H b = some (.lst ys)) (hl : xs.length + ys.length ≤ sizeLine) (h : ∀ p, Fresh H p → Q (.ref p) (upd H p (.lst (xs ++ ys)))) : zAdd K (.ref a) (.ref b) H Q := .inr (.inr (.inl ⟨a, b, xs, ys, rfl, rfl, ha, hb, hl, h⟩))
theorem o_addT (ha : SqT K H a xs) (hb : SqT K H b ys) (hl : xs.length + ys.length ≤ sizeLine) (h1 : xs = [] → Q (.ref b) H) (h2 : xs ≠ [] → ys = [] → Q (.ref a) H) (h : xs ≠ [] → ys ≠ [] → ∀ p, Fresh H p → Q (.ref p) (upd H p (.tup (xs ++ ys)))) :
    zAdd K (.ref a) (.ref b) H Q := .inr (.inr (.inr ⟨a, b, xs, ys, rfl, rfl, ha, hb, hl, h1, h2, h⟩))
theorem o_sub (h : Q (.int (m - n)) H) : zSub (.int m) (.int n) H Q := ⟨m, n, rfl, rfl, h⟩
theorem o_mul (hc : CMul m n) (h : Q (.int (m * n)) H) : zMul (.int m) (.int n) H Q := .inl ⟨m, n, rfl, rfl, hc, h⟩
theorem o_mulW (hc : CMulW m n) (h : Q (.int (m * n)) H) : zMul (.int m) (.int n) H Q := .inr (.inl ⟨m, n, rfl, rfl, hc, h⟩)
theorem o_rep (ha : H a = some (.lst xs)) (h1 : -(2 ^ 63) ≤ n) (h2 : n < 2 ^ 63) (hl : xs.length * n.toNat ≤ sizeLine) (h : rRep (.ref a) (.int n) H Q) : zMul (.ref a) (.int n) H Q := .inr (.inr h)
theorem o_mod (hc : 0 < n) (h : Q (.int (m % n)) H) : zMod (.int m) (.int n) H Q := ⟨m, n, rfl, rfl, hc, h⟩
theorem o_div (hc : 0 < n) (hn : n < 1073741824) (h : Q (.int (m / n)) H) : zDiv (.int m) (.int n) H Q := .inl ⟨m, n, rfl, rfl, ⟨hc, hn⟩, h⟩
theorem o_divW (hc : CDivW m n) (h : Q (.int (m / n)) H) : zDiv (.int m) (.int n) H Q := .inr ⟨m, n, rfl, rfl, hc, h⟩
theorem o_pow (hc : CPow m n) (h : Q (.int (m ^ n.toNat)) H) : zPow (.int m) (.int n) H Q := ⟨m, n, rfl, rfl, hc, h⟩
theorem o_lt (h : Q (.bl (decide (m < n))) H) : zLt K (.int m) (.int n) H Q := .inl ⟨m, n, rfl, rfl, h⟩
theorem o_ltT {ms ns : List Int} (ha : SqT K H a (ms.map V.int)) (hb : SqT K H b (ns.map V.int)) (h : Q (.bl (HT.lexLt ms ns)) H) : zLt K (.ref a) (.ref b) H Q := .inr ⟨a, b, ms, ns, rfl, rfl, ha, hb, h⟩
theorem o_le (h : Q (.bl (decide (m ≤ n))) H) : zLe (.int m) (.int n) H Q := ⟨m, n, rfl, rfl, h⟩
theorem o_gt (h : Q (.bl (decide (n < m))) H) : zGt (.int m) (.int n) H Q := ⟨m, n, rfl, rfl, h⟩
theorem o_ge (h : Q (.bl (decide (n ≤ m))) H) : zGe (.int m) (.int n) H Q := ⟨m, n, rfl, rfl, h⟩
theorem o_eq (hs : scal x y = true) (h : Q (.bl (decide (x = y))) H) : zEq K x y H Q := .inl ⟨hs, h⟩
theorem o_ne (hs : scal x y = true) (h : Q (.bl (!decide (x = y))) H) : zNe K x y H Q := .inl ⟨hs, h⟩
theorem o_eqI (h : Q (.bl (decide (m = n))) H) : zEq K (.int m) (.int n) H Q := .inl ⟨rfl, (decide_eq_decide.mpr ⟨fun e => V.int.inj e, fun e => by rw [e]⟩ : decide (V.int m = V.int n) = decide (m = n)) ▸ h⟩
theorem o_neI (h : Q (.bl (!decide (m = n))) H) : zNe K (.int m) (.int n) H Q := .inl ⟨rfl, (decide_eq_decide.mpr ⟨fun e => V.int.inj e, fun e => by rw [e]⟩ : decide (V.int m = V.int n) = decide (m = n)) ▸ h⟩
theorem o_eqD {d e : PyData} (hx : Dp K H x d) (hy : Dp K H y e) (sd : SeqAt.shaped d = true) (se : SeqAt.shaped e = true) (h : Q (.bl (PyData.eqv d e)) H) : zEq K x y H Q := .inr ⟨d, e, hx, hy, sd, se, h⟩
theorem o_neD {d e : PyData} (hx : Dp K H x d) (hy : Dp K H y e) (sd : SeqAt.shaped d = true) (se : SeqAt.shaped e = true) (h : Q (.bl (!PyData.eqv d e)) H) : zNe K x y H Q := .inr ⟨d, e, hx, hy, sd, se, h⟩
theorem o_isN (h : Q (.bl (decide (x = .non))) H) : zIsN x .non H Q := ⟨rfl, h⟩
theorem o_notN (h : Q (.bl (!decide (x = .non))) H) : zNotN x .non H Q := ⟨rfl, h⟩
theorem o_neg (h : Q (.int (-m)) H) : rU (fun i => .int (-i)) (.int m) H Q := ⟨m, rfl, h⟩
theorem o_ixL (hl : SqL K H a xs) (hi : atI xs m = some v) (h : Q v H) : rIx K (.ref a) (.int m) H Q := .inl ⟨a, xs, m, v, rfl, rfl, hl, hi, h⟩
theorem o_ixT (hl : SqT K H a xs) (hi : atI xs m = some v) (h : Q v H) : rIx K (.ref a) (.int m) H Q := .inr (.inl ⟨a, xs, m, v, rfl, rfl, hl, hi, h⟩)
theorem o_setL (hl : H a = some (.lst xs)) (hi : ixN xs.length m = some j) {QH : Hp → Prop} (h : QH (upd H a (.lst (xs.set j v)))) : rSetL (.ref a) (.int m) v H QH := ⟨a, xs, m, j, rfl, rfl, hl, hi, h⟩
theorem o_lenL (hl : SqL K H a xs) (h : Q (.int xs.length) H) : zLen K [.ref a] H Q := ⟨_, _, rfl, .inl ⟨xs, hl, rfl⟩, h⟩
theorem o_lenT (hl : SqT K H a xs) (h : Q (.int xs.length) H) : zLen K [.ref a] H Q := ⟨_, _, rfl, .inr ⟨xs, hl, rfl⟩, h⟩
theorem o_lenS {m : Str} (hl : m.length ≤ sizeLine) (h : Q (.int m.length) H) : zLen K [.str m] H Q := ⟨_, _, rfl, ⟨hl, rfl⟩, h⟩
theorem o_listL (hl : SqL K H a xs) (h : ∀ p, Fresh H p → Q (.ref p) (upd H p (.lst xs))) : zList K [.ref a] H Q := ⟨a, xs, rfl, .inl hl, h⟩
theorem o_listT (hl : SqT K H a xs) (h : ∀ p, Fresh H p → Q (.ref p) (upd H p (.lst xs))) : zList K [.ref a] H Q := ⟨a, xs, rfl, .inr hl, h⟩
theorem o_tupleL (hl : SqL K H a xs) (h : ∀ p, Fresh H p → Q (.ref p) (upd H p (.tup xs))) : zTuple K [.ref a] H Q := ⟨a, xs, rfl, .inl ⟨hl, h⟩⟩
theorem o_tupleT (hl : SqT K H a xs) (h : Q (.ref a) H) : zTuple K [.ref a] H Q := ⟨a, xs, rfl, .inr ⟨hl, h⟩⟩
theorem o_sum {ns : List Int} (hl : SqL K H a (ns.map V.int)) (h : Q (.int ns.sum) H) : rSum K [.ref a] H Q := ⟨a, ns, rfl, hl, h⟩
theorem o_ipI {f : Int → Int → Int} (h : Q (.int (f m n)) H) : ipI f (.int m) (.int n) H Q := ⟨m, n, rfl, rfl, h⟩
theorem m_app (hl : H a = some (.lst xs)) (hz : xs.length < sizeLine) (h : Q .non (upd H a (.lst (xs ++ [v])))) : rAppend (.ref a) [v] H Q := ⟨a, xs, v, rfl, rfl, hl, hz, h⟩
theorem e_bm {T : String} {r : V → List V → Hp → VK → Prop} (h : ta σ H fun x H1 => tyV K T x H1 ∧ tA σ H1 fun xs H2 => r x xs H2 Q) : tBM K T r ta tA σ H Q := h
theorem e_bm0 {T : String} {r : V → List V → Hp → VK → Prop} (h : ta σ H fun x H1 => tyV K T x H1 ∧ r x [] H1 Q) : tBM0 K T r ta σ H Q := h
theorem ty_list (hl : SqL K H a xs) : tyV K "list" (.ref a) H := .inl ⟨rfl, xs, hl⟩
-- loops
def LpW (J : It) (g : TG) (t : TS) (D : Ends) (σ : St) (H : Hp) : Prop := ∃ W : Nat → Nat → St → Hp → Prop, (∃ m, W 0 m σ H) ∧ ∀ i m σ' H', W i m σ' H' →
  (J.stop i H' ∧ D.nx σ' H') ∨ (J.go i H' ∧ ∃ N : St → Hp → Prop, (∀ σ2 H2, N σ2 H2 → ∃ m', m' < m ∧ W (i + 1) m' σ2 H2) ∧ ∀ x H2, J.yld i H' x H2 → g x σ' H2 fun σ3 H3 => t { D with nx := N, ct := N, bk := D.nx } σ3 H3)
def LpL (K : PySem.W.Frag) (g : TG) (t : TS) (D : Ends) (σ : St) (x : V) (H : Hp) : Prop := ∃ a, x = .ref a ∧ (∃ xs, SqL K H a xs) ∧ LpW (Itl K a) g t D σ H
def LpT (K : PySem.W.Frag) (g : TG) (t : TS) (D : Ends) (σ : St) (x : V) (H : Hp) : Prop := ∃ a, x = .ref a ∧ (∃ xs, SqT K H a xs) ∧ LpW (Itt K a) g t D σ H
def LpR1 (g : TG) (t : TS) (D : Ends) (σ : St) (x : V) (H : Hp) : Prop := ∃ j : Int, [x] = [V.int j] ∧ -(2 ^ 62) ≤ j ∧ j < 2 ^ 62 ∧ LpW (Itr 0 j.toNat) g t D σ H
def LpR2 (g : TG) (t : TS) (D : Ends) (σ : St) (x y : V) (H : Hp) : Prop := ∃ i j : Int, [x, y] = [V.int i, V.int j] ∧ (-(2 ^ 62) ≤ i ∧ i < 2 ^ 62 ∧ -(2 ^ 62) ≤ j ∧ j < 2 ^ 62) ∧ LpW (Itr i (j - i).toNat) g t D σ H
def LpE (K : PySem.W.Frag) (g : TG) (t : TS) (D : Ends) (σ : St) (x : V) (H : Hp) : Prop := ∃ a xs, [x] = [V.ref a] ∧ SqL K H a xs ∧ LpW (Ite K a) g t D σ H
theorem s_forL (h : ta σ H fun x H1 => LpL K g t D σ x H1) : tFor (iList K ta) g t D σ H := h
theorem s_forT (h : ta σ H fun x H1 => LpT K g t D σ x H1) : tFor (iTup K ta) g t D σ H := h
theorem s_forR1 (h : ta σ H fun x H1 => LpR1 g t D σ x H1) : tFor (iRng1 (tCons ta tNil)) g t D σ H := h
theorem s_forR2 (h : ta σ H fun x H1 => tb σ H1 fun y H2 => LpR2 g t D σ x y H2) : tFor (iRng2 (tCons ta (tCons tb tNil))) g t D σ H := h
theorem s_forE (h : ta σ H fun x H1 => LpE K g t D σ x H1) : tFor (iEnum K (tCons ta tNil)) g t D σ H := h
theorem lp_list (hs : SqL K H a xs) (Pv : Nat → St → Hp → Prop) (h0 : Pv 0 σ H) (hl : ∀ i σ' H', i ≤ xs.length → Pv i σ' H' → SqL K H' a xs)
    (hb : ∀ i x σ' H', xs[i]? = some x → Pv i σ' H' → g x σ' H' fun σ2 H2 => t { D with nx := Pv (i + 1), ct := Pv (i + 1), bk := D.nx } σ2 H2) (hd : ∀ σ' H', Pv xs.length σ' H' → D.nx σ' H') : LpL K g t D σ (.ref a) H :=
  ⟨a, rfl, ⟨xs, hs⟩, for_list Pv h0 hl hb hd⟩
theorem lp_tup (hs : SqT K H a xs) (Pv : Nat → St → Hp → Prop) (h0 : Pv 0 σ H) (hl : ∀ i σ' H', i ≤ xs.length → Pv i σ' H' → SqT K H' a xs)
    (hb : ∀ i x σ' H', xs[i]? = some x → Pv i σ' H' → g x σ' H' fun σ2 H2 => t { D with nx := Pv (i + 1), ct := Pv (i + 1), bk := D.nx } σ2 H2) (hd : ∀ σ' H', Pv xs.length σ' H' → D.nx σ' H') : LpT K g t D σ (.ref a) H :=
  ⟨a, rfl, ⟨xs, hs⟩, for_tup Pv h0 hl hb hd⟩
theorem lp_range1 (hr : -(2 ^ 62) ≤ n ∧ n < 2 ^ 62) (Pv : Nat → St → Hp → Prop) (h0 : Pv 0 σ H)
    (hb : ∀ (i : Nat) σ' H', (i : Int) < n → Pv i σ' H' → g (.int (i : Int)) σ' H' fun σ2 H2 => t { D with nx := Pv (i + 1), ct := Pv (i + 1), bk := D.nx } σ2 H2) (hd : ∀ σ' H', Pv n.toNat σ' H' → D.nx σ' H') : LpR1 g t D σ (.int n) H :=
  ⟨n, rfl, hr.1, hr.2, for_range (lo := 0) Pv h0 (fun i σ' H' hi p => by
    have e : (0 : Int) + (i : Int) = (i : Int) := Int.zero_add _
    rw [e]
    exact hb i σ' H' (by omega) p) hd⟩
theorem lp_range2 (hr : -(2 ^ 62) ≤ m ∧ m < 2 ^ 62 ∧ -(2 ^ 62) ≤ n ∧ n < 2 ^ 62) (Pv : Nat → St → Hp → Prop) (h0 : Pv 0 σ H)
    (hb : ∀ (i : Nat) σ' H', m + (i : Int) < n → Pv i σ' H' → g (.int (m + i)) σ' H' fun σ2 H2 => t { D with nx := Pv (i + 1), ct := Pv (i + 1), bk := D.nx } σ2 H2) (hd : ∀ σ' H', Pv (n - m).toNat σ' H' → D.nx σ' H') : LpR2 g t D σ (.int m) (.int n) H :=
  ⟨m, n, rfl, hr, for_range Pv h0 (fun i σ' H' hi p => hb i σ' H' (by
    have h : i < (n - m).toNat := hi
    omega) p) hd⟩
theorem lp_enum (hs : SqL K H a xs) (Pv : Nat → St → Hp → Prop) (h0 : Pv 0 σ H) (hl : ∀ i σ' H', i ≤ xs.length → Pv i σ' H' → SqL K H' a xs)
    (hb : ∀ i x σ' H' q, xs[i]? = some x → Pv i σ' H' → Fresh H' q → g (.ref q) σ' (upd H' q (.tup [.int (i : Int), x])) fun σ2 H2 => t { D with nx := Pv (i + 1), ct := Pv (i + 1), bk := D.nx } σ2 H2)
    (hd : ∀ σ' H', Pv xs.length σ' H' → D.nx σ' H') : LpE K g t D σ (.ref a) H := by
  refine ⟨a, xs, rfl, hs, fun i m σ' H' => m = xs.length - i ∧ i ≤ xs.length ∧ Pv i σ' H', ⟨xs.length, by simp, Nat.zero_le _, h0⟩, ?_⟩
  rintro i m σ' H' ⟨rfl, hi, pv⟩
  have sq := hl i σ' H' hi pv
  by_cases c : i < xs.length
  · refine .inr ⟨⟨xs, xs[i], sq, List.getElem?_eq_getElem c⟩, Pv (i + 1), fun σ2 H2 p2 => ⟨xs.length - (i + 1), by omega, rfl, c, p2⟩, fun x H2 y => ?_⟩
    obtain ⟨q, z, rfl, nq, rfl, f⟩ := y
    exact hb i z σ' H' q (f xs sq) pv nq
  · have e : i = xs.length := by omega
    subst e
    exact .inl ⟨⟨xs, sq, Nat.le_refl _⟩, hd σ' H' pv⟩
end

end Z

/-! Zd: plain data (no truth, no dict): == is equality; tuples of ints. -/
namespace Z
open PySem PySem.Spec L2
open PyProof.Rows hiding St
mutual
def nob : PyData → Bool
  | .none | .int _ | .str _ => true
  | .bool _ | .dict _ => false
  | .list xs | .tuple xs => nobAll xs
def nobAll : List PyData → Bool
  | [] => true
  | x :: xs => nob x && nobAll xs
end
structure Pl (n : Nat) (d : PyData) : Prop where
  lay : d.canLay0 = true
  dep : d.depth ≤ n
  nob : nob d = true
theorem all_iff {f : PyData → Bool} {g : List PyData → Bool} (h0 : g [] = true) (h1 : ∀ x xs, g (x :: xs) = (f x && g xs)) : ∀ xs, (∀ x ∈ xs, f x = true) → g xs = true
  | [], _ => h0
  | x :: xs, h => by
    rw [h1, h x List.mem_cons_self, all_iff h0 h1 xs fun y hy => h y (List.mem_cons_of_mem _ hy)]
    rfl
theorem depthAll_le {n : Nat} : ∀ xs : List PyData, (∀ x ∈ xs, x.depth ≤ n) → PyData.depthAll xs ≤ n
  | [], _ => Nat.zero_le _
  | x :: xs, h => by
    show max x.depth (PyData.depthAll xs) ≤ n
    have a := h x List.mem_cons_self
    have b := depthAll_le xs fun y hy => h y (List.mem_cons_of_mem _ hy)
    omega
theorem pl_none {n : Nat} : Pl n .none := ⟨rfl, Nat.zero_le _, rfl⟩
theorem pl_int {n : Nat} {i : Int} : Pl n (.int i) := ⟨rfl, Nat.zero_le _, rfl⟩
theorem pl_str {n : Nat} {x : Str} (h : PyData.canLay0 (.str x) = true := by decide +kernel) : Pl n (.str x) := ⟨h, Nat.zero_le _, rfl⟩
theorem pl_tup {n : Nat} {ds : List PyData} (h : ∀ d ∈ ds, Pl n d) : Pl (n + 1) (.tuple ds) :=
  ⟨all_iff (f := PyData.canLay0) (g := PyData.canLayAll0) rfl (fun _ _ => rfl) ds fun d hd => (h d hd).lay, Nat.succ_le_succ (depthAll_le ds fun d hd => (h d hd).dep), all_iff (f := nob) (g := nobAll) rfl (fun _ _ => rfl) ds fun d hd => (h d hd).nob⟩
theorem pl_lst {n : Nat} {ds : List PyData} (h : ∀ d ∈ ds, Pl n d) : Pl (n + 1) (.list ds) :=
  ⟨all_iff (f := PyData.canLay0) (g := PyData.canLayAll0) rfl (fun _ _ => rfl) ds fun d hd => (h d hd).lay, Nat.succ_le_succ (depthAll_le ds fun d hd => (h d hd).dep), all_iff (f := nob) (g := nobAll) rfl (fun _ _ => rfl) ds fun d hd => (h d hd).nob⟩
theorem Pl.shaped {n : Nat} {d : PyData} (h : Pl n d) (hn : n ≤ 64) : SeqAt.shaped d = true := by
  unfold SeqAt.shaped
  rw [h.lay, Bool.true_and]
  exact decide_eq_true (Nat.le_trans h.dep hn)
mutual
theorem eqv_iff : ∀ d e : PyData, nob d = true → nob e = true → (PyData.eqv d e = true ↔ d = e)
  | .none, e, _, he => by cases e <;> simp_all [PyData.eqv, nob]
  | .bool _, _, hd, _ => by cases hd
  | .int i, e, _, he => by cases e <;> simp_all [PyData.eqv, nob]
  | .str x, e, _, he => by cases e <;> simp_all [PyData.eqv, nob]
  | .list xs, e, hd, he => by
    cases e with
    | list ys =>
      have h := eqvAll_iff xs ys hd he
      show PyData.eqvAll xs ys = true ↔ _
      rw [h]
      exact ⟨fun z => by rw [z], fun z => by cases z; rfl⟩
    | bool _ => cases he
    | dict _ => cases he
    | none => simp [PyData.eqv]
    | int _ => simp [PyData.eqv]
    | str _ => simp [PyData.eqv]
    | tuple _ => simp [PyData.eqv]
  | .tuple xs, e, hd, he => by
    cases e with
    | tuple ys =>
      have h := eqvAll_iff xs ys hd he
      show PyData.eqvAll xs ys = true ↔ _
      rw [h]
      exact ⟨fun z => by rw [z], fun z => by cases z; rfl⟩
    | bool _ => cases he
    | dict _ => cases he
    | none => simp [PyData.eqv]
    | int _ => simp [PyData.eqv]
    | str _ => simp [PyData.eqv]
    | list _ => simp [PyData.eqv]
  | .dict _, _, hd, _ => by cases hd
theorem eqvAll_iff : ∀ xs ys : List PyData, nobAll xs = true → nobAll ys = true → (PyData.eqvAll xs ys = true ↔ xs = ys)
  | [], [], _, _ => by simp [PyData.eqvAll]
  | [], _ :: _, _, _ => by simp [PyData.eqvAll]
  | _ :: _, [], _, _ => by simp [PyData.eqvAll]
  | x :: xs, y :: ys, h1, h2 => by
    have a := Bool.and_eq_true_iff.mp (show (nob x && nobAll xs) = true from h1)
    have b := Bool.and_eq_true_iff.mp (show (nob y && nobAll ys) = true from h2)
    show (PyData.eqv x y && PyData.eqvAll xs ys) = true ↔ _
    rw [Bool.and_eq_true_iff, eqv_iff x y a.1 b.1, eqvAll_iff xs ys a.2 b.2, List.cons.injEq]
end
theorem Pl.eqv {n m : Nat} {d e : PyData} (a : Pl n d) (b : Pl m e) {p : Prop} [Decidable p] (h : d = e ↔ p) : PyData.eqv d e = decide p := by
  have q := (eqv_iff d e a.nob b.nob).trans h
  by_cases hp : p
  · rw [decide_eq_true hp]
    exact q.mpr hp
  · rw [decide_eq_false hp]
    exact Bool.eq_false_iff.mpr fun z => hp (q.mp z)
theorem Pl.refl {n : Nat} {d : PyData} (a : Pl n d) : PyData.eqv d d = true := (eqv_iff d d a.nob a.nob).mpr rfl

/-! ### tuples of ints -/
abbrev dI (ns : List Int) : PyData := .tuple (ns.map .int)
abbrev dLI (dss : List (List Int)) : PyData := .list (dss.map dI)
theorem pl_dI {ns : List Int} : Pl 1 (dI ns) := pl_tup fun d hd => by
  obtain ⟨i, _, rfl⟩ := List.mem_map.mp hd
  exact pl_int
theorem pl_dLI {dss : List (List Int)} : Pl 2 (dLI dss) := pl_lst fun d hd => by
  obtain ⟨i, _, rfl⟩ := List.mem_map.mp hd
  exact pl_dI
theorem map_int_inj : ∀ {a b : List Int}, a.map PyData.int = b.map PyData.int → a = b
  | [], [], _ => rfl
  | [], _ :: _, h => by cases h
  | _ :: _, [], h => by cases h
  | x :: a, y :: b, h => by
    rw [List.map_cons, List.map_cons, List.cons.injEq] at h
    rw [PyData.int.inj h.1, map_int_inj h.2]
theorem dI_inj {a b : List Int} : dI a = dI b ↔ a = b := ⟨fun h => map_int_inj (PyData.tuple.inj h), fun h => by rw [h]⟩
theorem map_V_inj : ∀ {a b : List Int}, a.map V.int = b.map V.int → a = b
  | [], [], _ => rfl
  | [], _ :: _, h => by cases h
  | _ :: _, [], h => by cases h
  | x :: a, y :: b, h => by
    rw [List.map_cons, List.map_cons, List.cons.injEq] at h
    rw [V.int.inj h.1, map_V_inj h.2]
section
variable {K : PySem.W.Frag} {H H' F : Hp}
theorem dpAll_ints : ∀ ns : List Int, DpAll K H (ns.map V.int) (ns.map PyData.int)
  | [] => .nil
  | n :: ns => .cons (.int n) (dpAll_ints ns)
/-- v is a tuple of the ints ns -/
def TI (H : Hp) (v : V) (ns : List Int) : Prop := ∃ t, v = .ref t ∧ H t = some (.tup (ns.map V.int))
theorem TI.mono (e : Same H H') {v : V} {ns : List Int} (h : TI H v ns) : TI H' v ns := by
  obtain ⟨t, rfl, h⟩ := h
  exact ⟨t, rfl, e _ _ h⟩
theorem TI.dp {v : V} {ns : List Int} (h : TI H v ns) : Dp K H v (dI ns) := by
  obtain ⟨t, rfl, h⟩ := h
  exact .tup (SqT.of h) (dpAll_ints ns)
abbrev TIs (H : Hp) : List V → List (List Int) → Prop := Paired (TI H)
theorem TIs.mono (e : Same H H') {vs : List V} {nss : List (List Int)} (h : TIs H vs nss) : TIs H' vs nss := Paired.mono (fun _ _ => TI.mono e) h
theorem TIs.dp : ∀ {vs : List V} {nss : List (List Int)}, TIs H vs nss → DpAll K H vs (nss.map dI)
  | _, _, .nil => .nil
  | _, _, .cons h t => .cons h.dp (TIs.dp t)
theorem TIs.get : ∀ {vs : List V} {nss : List (List Int)} {i : Nat} {v : V}, TIs H vs nss → vs[i]? = some v → ∃ ns, nss[i]? = some ns ∧ TI H v ns
  | _, _, 0, _, .cons h _, e => by
    rw [List.getElem?_cons_zero] at e
    cases e
    exact ⟨_, rfl, h⟩
  | _, _, i + 1, _, .cons _ t, e => by
    rw [List.getElem?_cons_succ] at e ⊢
    exact TIs.get t e
theorem TIs.app {vs ws : List V} {nss mss : List (List Int)} (h : TIs H vs nss) (k : TIs H ws mss) : TIs H (vs ++ ws) (nss ++ mss) := by
  induction h with
  | nil => exact k
  | cons a _ ih => exact .cons a ih
theorem TIs.take : ∀ {vs : List V} {nss : List (List Int)} (n : Nat), TIs H vs nss → TIs H (vs.take n) (nss.take n)
  | _, _, 0, _ => .nil
  | _, _, _ + 1, .nil => .nil
  | _, _, n + 1, .cons h t => .cons h (TIs.take n t)
theorem TIs.drop : ∀ {vs : List V} {nss : List (List Int)} (n : Nat), TIs H vs nss → TIs H (vs.drop n) (nss.drop n)
  | _, _, 0, h => h
  | _, _, _ + 1, .nil => .nil
  | _, _, n + 1, .cons _ t => TIs.drop n t
theorem TIs.set {v : V} {ns : List Int} (h : TI H v ns) : ∀ {vs : List V} {nss : List (List Int)} (i : Nat), TIs H vs nss → TIs H (vs.set i v) (nss.set i ns)
  | _, _, _, .nil => .nil
  | _, _, 0, .cons _ t => .cons h t
  | _, _, i + 1, .cons a t => .cons a (TIs.set h i t)
theorem TIs.erase : ∀ {vs : List V} {nss : List (List Int)} (i : Nat), TIs H vs nss → TIs H (vs.eraseIdx i) (nss.eraseIdx i)
  | _, _, _, .nil => .nil
  | _, _, 0, .cons _ t => t
  | _, _, i + 1, .cons a t => .cons a (TIs.erase i t)
theorem any_dI {ns : List Int} : ∀ dss : List (List Int), ((dss.map dI).any fun z => PyData.eqv z (dI ns)) = decide (ns ∈ dss)
  | [] => by simp
  | d :: dss => by
    rw [List.map_cons, List.any_cons, any_dI dss, pl_dI.eqv pl_dI (p := ns = d) (dI_inj.trans ⟨Eq.symm, Eq.symm⟩)]
    rw [show decide (ns ∈ d :: dss) = decide (ns = d ∨ ns ∈ dss) from decide_eq_decide.mpr List.mem_cons, Bool.decide_or]
end
end Z

/-! Zq: steps: pairs, dicts, slices, comprehensions, sorted, isinstance. -/
namespace Z
open PySem PySem.Spec L2
open PyProof.Rows hiding St
section
variable {X : Cx}
def rInsert : V → List V → Hp → VK → Prop := fun x vs H Q => ∃ (l : Addr) (xs : List V) (i : Int) (y : V), x = .ref l ∧ vs = [.int i, y] ∧ H l = some (.lst xs) ∧ xs.length < sizeLine ∧ 0 ≤ i ∧ i < 2 ^ 63 ∧
  Q .non (upd H l (.lst (xs.take i.toNat ++ [y] ++ xs.drop i.toNat)))
theorem mt_zInsert : MtR X "list.insert" rInsert := mt_insert
def zSorted (K : PySem.W.Frag) (w : World) : List V → Hp → VK → Prop := orC (rSortedSet w) (rSortedI K)
theorem cr_zSorted (hc : X.calm = true) : CallR X (.builtin "sorted") (zSorted X.K X.w) := cr_or2 (cr_sortedSet hc) cr_sortedI
end
section
variable {K : PySem.W.Frag} {w0 : World} {σ : St} {H : Hp} {D : Ends} {t u : TS} {ta tb tc te tl : TE} {to' tl' th' : TO} {c c' : TT} {v w x y z : V} {Q : VK} {QH : Hp → Prop} {QS : St → Hp → Prop} {QB : Bool → Hp → Prop} {QO : Option Int → Hp → Prop} {i j : Nat} {g : TG} {p q a b l : Addr} {xs ys : List V} {tA : TA} {m n : Int} {vs : List Nat} {ns : List Int}
theorem s_par (h : ta σ H fun x H1 => tb σ H1 fun y H2 => ∃ v w, [x, y] = [v, w] ∧ D.nx ((σ.set i (some v)).set j (some w)) H2) : tPar i j (tCons ta (tCons tb tNil)) D σ H := h
theorem par_ {P : V → V → Prop} (h : P x y) : ∃ v w, [x, y] = [v, w] ∧ P v w := ⟨x, y, rfl, h⟩
theorem s_dput (h : tc σ H fun v H1 => ta σ H1 fun x H2 => tb σ H2 fun y H3 => ∃ a H4, x = .ref a ∧ DPut H3 a y v H4 ∧ D.nx σ H4) : sDPut ta tb tc D σ H := h
theorem dput_T {ks : List Key} {kvs : List (List Key × V)} (ha : H a = some (.dT kvs)) (hb : H b = some (.tup (ks.map kV))) (hl : kvs.length < sizeLine) (h : QH (upd H a (.dT (putK kvs ks v)))) :
    ∃ a' H4, V.ref a = .ref a' ∧ DPut H a' (.ref b) v H4 ∧ QH H4 := ⟨a, _, rfl, DPut.t ha hb hl, h⟩
theorem e_din (h : ta σ H fun y H1 => tb σ H1 fun x H2 => ∃ a o, x = .ref a ∧ DGet H2 a y o ∧ Q (.bl o.isSome) H2) : tDIn ta tb σ H Q := h
theorem din_T {ks : List Key} {kvs : List (List Key × V)} {P : Option V → Prop} (ha : H a = some (.dT kvs)) (hb : H b = some (.tup (ks.map kV))) (h : P (valV kvs ks)) : ∃ a' o, V.ref a = .ref a' ∧ DGet H a' (.ref b) o ∧ P o :=
  ⟨a, _, rfl, DGet.t ha hb, h⟩
theorem e_dnewT (h : ∀ p, Fresh H p → Q (.ref p) (upd H p (.dT []))) : tDNewT σ H Q := h
theorem e_dnewK (h : ∀ p, Fresh H p → Q (.ref p) (upd H p (.dK []))) : tDNewK σ H Q := h
theorem kv_ints (ns : List Int) : (ns.map (Sum.inl : Int → Key)).map kV = ns.map V.int := by
  rw [List.map_map]
  rfl
theorem e_sl {r : V → Option Int → Option Int → Hp → VK → Prop} (h : te σ H fun x H1 => tl' σ H1 fun l H2 => th' σ H2 fun u H3 => r x l u H3 Q) : tSl r te tl' th' σ H Q := h
theorem p_none (h : QO none H) : tNoPart σ H QO := h
theorem p_some (h : te σ H fun x H1 => ∃ i, x = .int i ∧ QO (some i) H1) : tPart te σ H QO := h
theorem p_int {P : Int → Prop} (h : P m) : ∃ i, V.int m = .int i ∧ P i := ⟨m, rfl, h⟩
theorem sl_L {lo hi : Option Int} (hs : SqL K H a xs) (h : ∀ p, Fresh H p → Q (.ref p) (upd H p (.lst (cutV xs lo hi)))) : zSl K (.ref a) lo hi H Q := .inl ⟨a, xs, rfl, hs, h⟩
theorem sl_T {lo hi : Option Int} (hs : SqT K H a xs) (h1 : HT.sIx xs.length 0 lo = 0 ∧ HT.sIx xs.length xs.length hi = xs.length → Q (.ref a) H)
    (h2 : ¬ (HT.sIx xs.length 0 lo = 0 ∧ HT.sIx xs.length xs.length hi = xs.length) → ∀ p, Fresh H p → Q (.ref p) (upd H p (.tup (cutV xs lo hi)))) : zSl K (.ref a) lo hi H Q := .inr ⟨a, xs, rfl, hs, h1, h2⟩
/-- a slice of a tuple, the same or a new one: what is known of it -/
theorem sl_Tk {lo hi : Option Int} (hs : SqT K H a xs) (h : ∀ p H', Same H H' → (H' = H ∨ Fresh H p ∧ H' = upd H p (.tup (cutV xs lo hi))) → SqT K H' p (cutV xs lo hi) → Q (.ref p) H') : zSl K (.ref a) lo hi H Q :=
  sl_T hs (fun ⟨e1, e2⟩ => h a H (Same.refl H) (.inl rfl) (by
    have e : cutV xs lo hi = xs := by
      unfold cutV
      rw [e1, e2, List.drop_zero, Nat.sub_zero, List.take_length]
    rw [e]
    exact hs)) fun _ p np => h p _ (fun b o e => by
      rw [upd_ne (ne_of_none e np)]
      exact e) (.inr ⟨np, rfl⟩) (SqT.of upd_same)
theorem cut_lo (xs : List V) (k : Nat) : cutV xs none (some (k : Int)) = xs.take k := by
  unfold cutV
  rw [HT.sIx_none, HT.sIx_nat, List.drop_zero, Nat.sub_zero]
  rcases Nat.le_total k xs.length with h | h
  · rw [Nat.min_eq_left h]
  · rw [Nat.min_eq_right h, List.take_length, List.take_of_length_le h]
theorem cut_hi (xs : List V) (k : Nat) : cutV xs (some (k : Int)) none = xs.drop k := by
  unfold cutV
  rw [HT.sIx_none, HT.sIx_nat]
  rcases Nat.le_total k xs.length with h | h
  · rw [Nat.min_eq_left h, List.take_of_length_le (by rw [List.length_drop]; omega)]
  · rw [Nat.min_eq_right h, List.drop_eq_nil_of_le (Nat.le_refl _), List.drop_eq_nil_of_le h]
    simp
-- comprehensions
def LcW (J : It) (g : TG) (tt : TT) (te : TE) (vs : List Nat) (σ : St) (H : Hp) (Q : VK) : Prop := ∀ D, H D = none → ∃ W : Nat → Nat → Hp → Prop, (∃ m, W 0 m (upd H D (.lst []))) ∧ ∀ i m H', W i m H' →
  (J.stop i H' ∧ Q (.ref D) H') ∨ (J.go i H' ∧ ∃ Nx : Hp → Prop, (∀ H2, Nx H2 → ∃ m', m' < m ∧ W (i + 1) m' H2) ∧ ∀ x H2, J.yld i H' x H2 → g x (wipe σ vs) H2 fun σ2 H3 => wipe σ2 vs = wipe σ vs ∧ tt σ2 H3 fun b H4 =>
    if b = true then te σ2 H4 fun y H5 => ∃ acc, H5 D = some (.lst acc) ∧ acc.length < sizeLine ∧ Nx (upd H5 D (.lst (acc ++ [y]))) else Nx H4)
def LcL (K : PySem.W.Frag) (g : TG) (tt : TT) (te : TE) (vs : List Nat) (σ : St) (x : V) (H : Hp) (Q : VK) : Prop := ∃ a, x = .ref a ∧ (∃ xs, SqL K H a xs) ∧ LcW (Itl K a) g tt te vs σ H Q
def LcT (K : PySem.W.Frag) (g : TG) (tt : TT) (te : TE) (vs : List Nat) (σ : St) (x : V) (H : Hp) (Q : VK) : Prop := ∃ a, x = .ref a ∧ (∃ xs, SqT K H a xs) ∧ LcW (Itt K a) g tt te vs σ H Q
def LcR1 (g : TG) (tt : TT) (te : TE) (vs : List Nat) (σ : St) (x : V) (H : Hp) (Q : VK) : Prop := ∃ j : Int, [x] = [V.int j] ∧ -(2 ^ 62) ≤ j ∧ j < 2 ^ 62 ∧ LcW (Itr 0 j.toNat) g tt te vs σ H Q
def LcR2 (g : TG) (tt : TT) (te : TE) (vs : List Nat) (σ : St) (x y : V) (H : Hp) (Q : VK) : Prop := ∃ i j : Int, [x, y] = [V.int i, V.int j] ∧ (-(2 ^ 62) ≤ i ∧ i < 2 ^ 62 ∧ -(2 ^ 62) ≤ j ∧ j < 2 ^ 62) ∧ LcW (Itr i (j - i).toNat) g tt te vs σ H Q
theorem e_lcL (h : tl σ H fun x H1 => LcL K g c te vs σ x H1 Q) : tLc (iList K tl) g c te vs σ H Q := h
theorem e_lcT (h : tl σ H fun x H1 => LcT K g c te vs σ x H1 Q) : tLc (iTup K tl) g c te vs σ H Q := h
theorem e_lcR1 (h : tl σ H fun x H1 => LcR1 g c te vs σ x H1 Q) : tLc (iRng1 (tCons tl tNil)) g c te vs σ H Q := h
theorem e_lcR2 (h : tl σ H fun x H1 => tb σ H1 fun y H2 => LcR2 g c te vs σ x y H2 Q) : tLc (iRng2 (tCons tl (tCons tb tNil))) g c te vs σ H Q := h
theorem c_yes (h : QB true H) : tYes σ H QB := h
theorem lc_L (hs : SqL K H a xs) (Pv : Addr → Nat → Hp → Prop) (h0 : ∀ D, Fresh H D → Pv D 0 (upd H D (.lst []))) (hl : ∀ D i H', i ≤ xs.length → Pv D i H' → SqL K H' a xs)
    (hb : ∀ D i x H', Fresh H D → xs[i]? = some x → Pv D i H' → g x (wipe σ vs) H' fun σ2 H3 => wipe σ2 vs = wipe σ vs ∧ c σ2 H3 fun b H4 =>
      if b = true then te σ2 H4 fun y H5 => ∃ acc, H5 D = some (.lst acc) ∧ acc.length < sizeLine ∧ Pv D (i + 1) (upd H5 D (.lst (acc ++ [y]))) else Pv D (i + 1) H4)
    (hd : ∀ D H', Fresh H D → Pv D xs.length H' → Q (.ref D) H') : LcL K g c te vs σ (.ref a) H Q := ⟨a, rfl, ⟨xs, hs⟩, fun D nD => lc_list (Pv D) (h0 D nD) (hl D) (fun i x H' => hb D i x H' nD) (fun H' => hd D H' nD)⟩
theorem lc_T (hs : SqT K H a xs) (Pv : Addr → Nat → Hp → Prop) (h0 : ∀ D, Fresh H D → Pv D 0 (upd H D (.lst []))) (hl : ∀ D i H', i ≤ xs.length → Pv D i H' → SqT K H' a xs)
    (hb : ∀ D i x H', Fresh H D → xs[i]? = some x → Pv D i H' → g x (wipe σ vs) H' fun σ2 H3 => wipe σ2 vs = wipe σ vs ∧ c σ2 H3 fun b H4 =>
      if b = true then te σ2 H4 fun y H5 => ∃ acc, H5 D = some (.lst acc) ∧ acc.length < sizeLine ∧ Pv D (i + 1) (upd H5 D (.lst (acc ++ [y]))) else Pv D (i + 1) H4)
    (hd : ∀ D H', Fresh H D → Pv D xs.length H' → Q (.ref D) H') : LcT K g c te vs σ (.ref a) H Q := ⟨a, rfl, ⟨xs, hs⟩, fun D nD => lc_tup (Pv D) (h0 D nD) (hl D) (fun i x H' => hb D i x H' nD) (fun H' => hd D H' nD)⟩
theorem lc_R1 (hr : -(2 ^ 62) ≤ n ∧ n < 2 ^ 62) (Pv : Addr → Nat → Hp → Prop) (h0 : ∀ D, Fresh H D → Pv D 0 (upd H D (.lst [])))
    (hb : ∀ D (i : Nat) H', Fresh H D → (i : Int) < n → Pv D i H' → g (.int (i : Int)) (wipe σ vs) H' fun σ2 H3 => wipe σ2 vs = wipe σ vs ∧ c σ2 H3 fun b H4 =>
      if b = true then te σ2 H4 fun y H5 => ∃ acc, H5 D = some (.lst acc) ∧ acc.length < sizeLine ∧ Pv D (i + 1) (upd H5 D (.lst (acc ++ [y]))) else Pv D (i + 1) H4)
    (hd : ∀ D H', Fresh H D → Pv D n.toNat H' → Q (.ref D) H') : LcR1 g c te vs σ (.int n) H Q := ⟨n, rfl, hr.1, hr.2, fun D nD => lc_range (lo := 0) (Pv D) (h0 D nD) (fun i H' hi p => by
    have e : (0 : Int) + (i : Int) = (i : Int) := Int.zero_add _
    rw [e]
    exact hb D i H' nD (by omega) p) (fun H' => hd D H' nD)⟩
theorem lc_R2 (hr : -(2 ^ 62) ≤ m ∧ m < 2 ^ 62 ∧ -(2 ^ 62) ≤ n ∧ n < 2 ^ 62) (Pv : Addr → Nat → Hp → Prop) (h0 : ∀ D, Fresh H D → Pv D 0 (upd H D (.lst [])))
    (hb : ∀ D (i : Nat) H', Fresh H D → m + (i : Int) < n → Pv D i H' → g (.int (m + i)) (wipe σ vs) H' fun σ2 H3 => wipe σ2 vs = wipe σ vs ∧ c σ2 H3 fun b H4 =>
      if b = true then te σ2 H4 fun y H5 => ∃ acc, H5 D = some (.lst acc) ∧ acc.length < sizeLine ∧ Pv D (i + 1) (upd H5 D (.lst (acc ++ [y]))) else Pv D (i + 1) H4)
    (hd : ∀ D H', Fresh H D → Pv D (n - m).toNat H' → Q (.ref D) H') : LcR2 g c te vs σ (.int m) (.int n) H Q := ⟨m, n, rfl, hr, fun D nD => lc_range (Pv D) (h0 D nD) (fun i H' hi p => hb D i H' nD (by omega) p) (fun H' => hd D H' nD)⟩
theorem w_split {σ2 : St} {R : Prop} (h1 : wipe σ2 vs = wipe σ vs) (h2 : R) : wipe σ2 vs = wipe σ vs ∧ R := ⟨h1, h2⟩
-- built-in methods of lists
theorem m_ext {zs : List V} (hl : H a = some (.lst xs)) (hb : H b = some (.lst zs)) (hz : xs.length + zs.length ≤ sizeLine) (h : Q .non (upd H a (.lst (xs ++ zs)))) : rExtend (.ref a) [.ref b] H Q := ⟨a, b, xs, zs, rfl, rfl, hl, hb, hz, h⟩
theorem m_popN (hl : H a = some (.lst xs)) {k : Nat} (hk : xs[k]? = some y) (hz : xs.length ≤ sizeLine) (h : Q y (upd H a (.lst (xs.eraseIdx k)))) : rPopAt (.ref a) [.int (k : Int)] H Q := by
  have e := (List.getElem?_eq_some_iff.mp hk).1
  refine ⟨a, xs, (k : Int), k, y, rfl, rfl, hl, by omega, by rw [sizeLine_eq] at hz; omega, (ixN_seq (Evl.ixN_nat e)).1, hk, h⟩
theorem m_pop (hl : H a = some (.lst xs)) (hk : xs[xs.length - 1]? = some y) (h : Q y (upd H a (.lst xs.dropLast))) : rPop (.ref a) [] H Q := ⟨a, xs, y, rfl, rfl, hl, hk, h⟩
theorem m_ins {k : Nat} (hl : H a = some (.lst xs)) (hz : xs.length < sizeLine) (hk : (k : Int) < 2 ^ 63) (h : Q .non (upd H a (.lst (xs.take k ++ [y] ++ xs.drop k)))) : rInsert (.ref a) [.int (k : Int), y] H Q :=
  ⟨a, xs, (k : Int), y, rfl, rfl, hl, hz, by omega, hk, h⟩
-- sorted, set
theorem o_setL' (hs : SqL K H a (ns.map V.int)) (hl : ns.length ≤ 1000) (h : ∀ p c, c ≤ ns.length → Fresh H p → Q (.ref p) (upd H p (SetO w0 p (fun j => decide (j ∈ ns)) c))) : zSet K w0 [.ref a] H Q := ⟨a, ns, rfl, .inl hs, hl, h⟩
theorem o_setT' (hs : SqT K H a (ns.map V.int)) (hl : ns.length ≤ 1000) (h : ∀ p c, c ≤ ns.length → Fresh H p → Q (.ref p) (upd H p (SetO w0 p (fun j => decide (j ∈ ns)) c))) : zSet K w0 [.ref a] H Q := ⟨a, ns, rfl, .inr hs, hl, h⟩
theorem o_sortSet {S : Int → Bool} {k : Nat} (hs : H a = some (SetO w0 a S k)) (hk : k < 64) (h : ∀ (ns : List Int) (p : Addr), ns.Pairwise (· < ·) → (∀ k : Int, k ∈ ns ↔ S k = true) → ns.length = k → Fresh H p → Q (.ref p) (upd H p (.lst (ns.map V.int)))) :
    zSorted K w0 [.ref a] H Q := .inl ⟨a, S, k, rfl, hs, hk, h⟩
theorem o_sortI (hs : SqL K H a (ns.map V.int)) (h : ∀ (ns' : List Int) (p : Addr), ns'.Perm ns → ns'.Pairwise (· ≤ ·) → Fresh H p → Q (.ref p) (upd H p (.lst (ns'.map V.int)))) : zSorted K w0 [.ref a] H Q := .inr ⟨a, ns, rfl, hs, h⟩
-- isinstance
theorem ty_L (h : SqL K H a xs) : TyX K H (.ref a) (.type "list") := by
  rcases h with (h | ⟨o, h⟩) | ⟨o, its, k, e, c, _⟩
  · exact .base (.lst h)
  · exact .base (.frz h)
  · exact .kList e c
theorem ty_T (h : SqT K H a xs) : TyX K H (.ref a) (.type "tuple") := by
  rcases h with (h | ⟨o, h⟩) | ⟨o, its, k, e, c, _⟩
  · exact .base (.tup h)
  · exact .fTuple h
  · exact .kTuple e c
theorem isi {A B : String} {r : Bool} (ht : TyX K H x (.type A)) (hk : kitB A B = some r) (h : Q (.bl r) H) : rIsi K [x, .ty B] H Q := ⟨x, .ty B, .type A, .type B, r, rfl, .ty B, ht, kit_ty hk, h⟩
theorem i_int_int (h : Q (.bl true) H) : rIsi K [.int m, .ty "int"] H Q := isi (.base (.int m)) (by decide +kernel) h
theorem i_int_bool (h : Q (.bl false) H) : rIsi K [.int m, .ty "bool"] H Q := isi (.base (.int m)) (by decide +kernel) h
theorem i_int_str (h : Q (.bl false) H) : rIsi K [.int m, .ty "str"] H Q := isi (.base (.int m)) (by decide +kernel) h
theorem i_int_tuple (h : Q (.bl false) H) : rIsi K [.int m, .ty "tuple"] H Q := isi (.base (.int m)) (by decide +kernel) h
theorem i_int_list (h : Q (.bl false) H) : rIsi K [.int m, .ty "list"] H Q := isi (.base (.int m)) (by decide +kernel) h
theorem i_bl_int {k : Bool} (h : Q (.bl true) H) : rIsi K [.bl k, .ty "int"] H Q := isi (.base (.bl k)) (by decide +kernel) h
theorem i_bl_bool {k : Bool} (h : Q (.bl true) H) : rIsi K [.bl k, .ty "bool"] H Q := isi (.base (.bl k)) (by decide +kernel) h
theorem i_bl_str {k : Bool} (h : Q (.bl false) H) : rIsi K [.bl k, .ty "str"] H Q := isi (.base (.bl k)) (by decide +kernel) h
theorem i_bl_tuple {k : Bool} (h : Q (.bl false) H) : rIsi K [.bl k, .ty "tuple"] H Q := isi (.base (.bl k)) (by decide +kernel) h
theorem i_bl_list {k : Bool} (h : Q (.bl false) H) : rIsi K [.bl k, .ty "list"] H Q := isi (.base (.bl k)) (by decide +kernel) h
theorem i_str_int {k : Str} (h : Q (.bl false) H) : rIsi K [.str k, .ty "int"] H Q := isi (.base (.str k)) (by decide +kernel) h
theorem i_str_bool {k : Str} (h : Q (.bl false) H) : rIsi K [.str k, .ty "bool"] H Q := isi (.base (.str k)) (by decide +kernel) h
theorem i_str_str {k : Str} (h : Q (.bl true) H) : rIsi K [.str k, .ty "str"] H Q := isi (.base (.str k)) (by decide +kernel) h
theorem i_str_tuple {k : Str} (h : Q (.bl false) H) : rIsi K [.str k, .ty "tuple"] H Q := isi (.base (.str k)) (by decide +kernel) h
theorem i_str_list {k : Str} (h : Q (.bl false) H) : rIsi K [.str k, .ty "list"] H Q := isi (.base (.str k)) (by decide +kernel) h
theorem i_non_int (h : Q (.bl false) H) : rIsi K [.non, .ty "int"] H Q := isi (.base .non) (by decide +kernel) h
theorem i_non_bool (h : Q (.bl false) H) : rIsi K [.non, .ty "bool"] H Q := isi (.base .non) (by decide +kernel) h
theorem i_non_str (h : Q (.bl false) H) : rIsi K [.non, .ty "str"] H Q := isi (.base .non) (by decide +kernel) h
theorem i_non_tuple (h : Q (.bl false) H) : rIsi K [.non, .ty "tuple"] H Q := isi (.base .non) (by decide +kernel) h
theorem i_non_list (h : Q (.bl false) H) : rIsi K [.non, .ty "list"] H Q := isi (.base .non) (by decide +kernel) h
theorem i_T_int (hs : SqT K H a xs) (h : Q (.bl false) H) : rIsi K [.ref a, .ty "int"] H Q := isi (ty_T hs) (by decide +kernel) h
theorem i_T_bool (hs : SqT K H a xs) (h : Q (.bl false) H) : rIsi K [.ref a, .ty "bool"] H Q := isi (ty_T hs) (by decide +kernel) h
theorem i_T_str (hs : SqT K H a xs) (h : Q (.bl false) H) : rIsi K [.ref a, .ty "str"] H Q := isi (ty_T hs) (by decide +kernel) h
theorem i_T_tuple (hs : SqT K H a xs) (h : Q (.bl true) H) : rIsi K [.ref a, .ty "tuple"] H Q := isi (ty_T hs) (by decide +kernel) h
theorem i_T_list (hs : SqT K H a xs) (h : Q (.bl false) H) : rIsi K [.ref a, .ty "list"] H Q := isi (ty_T hs) (by decide +kernel) h
theorem i_L_int (hs : SqL K H a xs) (h : Q (.bl false) H) : rIsi K [.ref a, .ty "int"] H Q := isi (ty_L hs) (by decide +kernel) h
theorem i_L_bool (hs : SqL K H a xs) (h : Q (.bl false) H) : rIsi K [.ref a, .ty "bool"] H Q := isi (ty_L hs) (by decide +kernel) h
theorem i_L_str (hs : SqL K H a xs) (h : Q (.bl false) H) : rIsi K [.ref a, .ty "str"] H Q := isi (ty_L hs) (by decide +kernel) h
theorem i_L_tuple (hs : SqL K H a xs) (h : Q (.bl false) H) : rIsi K [.ref a, .ty "tuple"] H Q := isi (ty_L hs) (by decide +kernel) h
theorem i_L_list (hs : SqL K H a xs) (h : Q (.bl true) H) : rIsi K [.ref a, .ty "list"] H Q := isi (ty_L hs) (by decide +kernel) h
-- deep == and in
theorem o_inD {d : PyData} {ds : List PyData} (hx : Dp K H x d) (hy : Dp K H y (.list ds)) (sd : SeqAt.shaped d = true) (se : SeqAt.shaped (.list ds) = true) (h : Q (.bl (ds.any fun z => PyData.eqv z d)) H) : zIn K x y H Q := .inr (.inl ⟨d, ds, hx, hy, sd, se, h⟩)
theorem o_notInD {d : PyData} {ds : List PyData} (hx : Dp K H x d) (hy : Dp K H y (.list ds)) (sd : SeqAt.shaped d = true) (se : SeqAt.shaped (.list ds) = true) (h : Q (.bl (!ds.any fun z => PyData.eqv z d)) H) : zNotIn K x y H Q := .inr (.inl ⟨d, ds, hx, hy, sd, se, h⟩)
theorem eqV_int (m n : Int) : eqV (.int m) (.int n) = decide (m = n) := by
  unfold eqV
  first | rfl | (simp [BEq.beq]) | simp
theorem inV_ints : ∀ (m : Int) (ns : List Int), inV (.int m) (ns.map V.int) = decide (m ∈ ns)
  | m, [] => by simp [inV]
  | m, n :: ns => by
    have ih := inV_ints m ns
    unfold inV at ih ⊢
    rw [List.map_cons, List.any_cons, ih, eqV_int, show decide (m ∈ n :: ns) = decide (m = n ∨ m ∈ ns) from decide_eq_decide.mpr List.mem_cons, Bool.decide_or]
    congr 1
    exact decide_eq_decide.mpr ⟨Eq.symm, Eq.symm⟩
theorem flat_ints : ∀ ns : List Int, (ns.map V.int).all flatV = true
  | [] => rfl
  | n :: ns => by
    rw [List.map_cons, List.all_cons, flat_ints ns]
    rfl
theorem o_inI (hs : SqL K H a (ns.map V.int) ∨ SqT K H a (ns.map V.int)) (h : Q (.bl (decide (m ∈ ns))) H) : zIn K (.int m) (.ref a) H Q := .inl ⟨a, _, rfl, hs, rfl, flat_ints ns, by
  rw [inV_ints, if_neg Bool.false_ne_true]
  exact h⟩
theorem o_notInI (hs : SqL K H a (ns.map V.int) ∨ SqT K H a (ns.map V.int)) (h : Q (.bl (!decide (m ∈ ns))) H) : zNotIn K (.int m) (.ref a) H Q := .inl ⟨a, _, rfl, hs, rfl, flat_ints ns, by
  rw [inV_ints, if_pos rfl]
  exact h⟩
theorem e_notT (h : ta σ H fun x H1 => ∃ k, TruV K x H1 k ∧ Q (.bl (!k)) H1) : tNotT K ta σ H Q := h
theorem g_sub {to ti : TE} {ts : TSet} (h : to σ H fun o H1 => ti σ H1 fun i H2 => ts o i v H2 fun H3 => QS σ H3) : gSub to ti ts v σ H QS := h
theorem o_setN (hl : H a = some (.lst xs)) {k : Nat} (hk : k < xs.length) (h : QH (upd H a (.lst (xs.set k v)))) : rSetL (.ref a) (.int (k : Int)) v H QH := o_setL hl (Evl.ixN_nat hk) h
theorem z_int1 (h : Q (.int m) H) : zInt1 [.int m] H Q := .inl ⟨m, rfl, h⟩
theorem z_int1b {k : Bool} (h : Q (.int (if k then 1 else 0)) H) : zInt1 [.bl k] H Q := .inr ⟨k, rfl, h⟩
theorem z_abs (h : Q (.int (if m < 0 then -m else m)) H) : zAbs [.int m] H Q := ⟨m, rfl, h⟩
theorem z_max2 (h : Q (.int (if n > m then n else m)) H) : zMax2 [.int m, .int n] H Q := ⟨m, n, rfl, h⟩
theorem z_min2 (h : Q (.int (if n < m then n else m)) H) : zMin2 [.int m, .int n] H Q := ⟨m, n, rfl, h⟩
end
abbrev dL (ns : List Int) : PyData := .list (ns.map .int)
theorem pl_dL {ns : List Int} : Pl 1 (dL ns) := pl_lst fun d hd => by
  obtain ⟨i, _, rfl⟩ := List.mem_map.mp hd
  exact pl_int
theorem dL_inj {a b : List Int} : dL a = dL b ↔ a = b := ⟨fun h => map_int_inj (PyData.list.inj h), fun h => by rw [h]⟩
section
variable {K : PySem.W.Frag} {H : Hp} {a b : Addr} {ns ms : List Int} {Q : VK}
theorem o_neIL (ha : SqL K H a (ns.map V.int)) (hb : SqL K H b (ms.map V.int)) (h : Q (.bl (!decide (ns = ms))) H) : zNe K (.ref a) (.ref b) H Q :=
  o_neD (.lst ha (dpAll_ints ns)) (.lst hb (dpAll_ints ms)) (pl_dL.shaped (by decide)) (pl_dL.shaped (by decide)) (by rw [pl_dL.eqv pl_dL dL_inj]; exact h)
theorem o_eqIL (ha : SqL K H a (ns.map V.int)) (hb : SqL K H b (ms.map V.int)) (h : Q (.bl (decide (ns = ms))) H) : zEq K (.ref a) (.ref b) H Q :=
  o_eqD (.lst ha (dpAll_ints ns)) (.lst hb (dpAll_ints ms)) (pl_dL.shaped (by decide)) (pl_dL.shaped (by decide)) (by rw [pl_dL.eqv pl_dL dL_inj]; exact h)
theorem o_neIT (ha : SqT K H a (ns.map V.int)) (hb : SqT K H b (ms.map V.int)) (h : Q (.bl (!decide (ns = ms))) H) : zNe K (.ref a) (.ref b) H Q :=
  o_neD (.tup ha (dpAll_ints ns)) (.tup hb (dpAll_ints ms)) (pl_dI.shaped (by decide)) (pl_dI.shaped (by decide)) (by rw [pl_dI.eqv pl_dI dI_inj]; exact h)
theorem o_eqIT (ha : SqT K H a (ns.map V.int)) (hb : SqT K H b (ms.map V.int)) (h : Q (.bl (decide (ns = ms))) H) : zEq K (.ref a) (.ref b) H Q :=
  o_eqD (.tup ha (dpAll_ints ns)) (.tup hb (dpAll_ints ms)) (pl_dI.shaped (by decide)) (pl_dI.shaped (by decide)) (by rw [pl_dI.eqv pl_dI dI_inj]; exact h)
end
theorem divW70 {m n : Int} (h : 0 < n) (h2 : n ≤ 10 ^ 70) : CDivW m n := wide_div (b := 240) h (by
  have : n.toNat ≤ 10 ^ 70 := by omega
  have e : n.natAbs = n.toNat := by omega
  rw [e]
  exact Nat.lt_of_le_of_lt this (by decide)) (by decide) (by decide)
theorem o_div70 {m n : Int} {H : Hp} {Q : VK} (h : 0 < n) (h2 : n ≤ 10 ^ 70) (k : Q (.int (m / n)) H) : zDiv (.int m) (.int n) H Q := o_divW (divW70 h h2) k
theorem o_new {n : Nat} {H : Hp} {P : Addr → Prop} (h1 : n ≤ sizeLine) (h2 : ∀ p, Fresh H p → P p) : n ≤ sizeLine ∧ ∀ p, H p = none → P p := ⟨h1, h2⟩
theorem s_cut {t u : TS} {D : Ends} {σ : St} {H : Hp} (Mid : St → Hp → Prop) (h1 : t { D with nx := Mid } σ H) (h2 : ∀ σ' H', Mid σ' H' → u D σ' H') : Evl.tCut t u D σ H := ⟨Mid, h1, h2⟩
/-! ### tuples that are known: new since H, or frozen -/
structure Tk (F H H' : Hp) (p : Addr) (xs : List V) : Prop where
  at' : H' p = some (.tup xs)
  own : H p = none ∨ F p = some (.tup xs)
section
variable {K : PySem.W.Frag} {F H F1 H1 H2 : Hp} {a b p r : Addr} {o : HO} {xs ys : List V} {Q : VK}
theorem Tk.keep (h : Tk F H H1 p xs) (k : ∀ q o, H1 q = some o → H2 q = some o) : Tk F H H2 p xs := ⟨k _ _ h.at', h.own⟩
theorem Tk.gr (h : Tk F H H1 p xs) (g : Gr (M1 r) F1 H1 F1 H2) (n : p ≠ r) : Tk F H H2 p xs := ⟨g.hh _ _ n h.at', h.own⟩
theorem Tk.old (hF : Same F H1) (h : F p = some (.tup xs)) : Tk F H H1 p xs := ⟨hF _ _ h, .inr h⟩
theorem Tk.new (g : Gr (M1 r) F H F1 H1) (hr : H1 r = some o) (hn : Fresh H1 p) : Tk F H (upd H1 p (.tup xs)) p xs := ⟨upd_same, .inl (g.fr1 hr hn)⟩
theorem up_keep (hn : Fresh H1 p) : ∀ q u, H1 q = some u → (upd H1 p o) q = some u := fun q u e => (upd_ne (ne_of_none e hn)).trans e
theorem add_tk (g : Gr (M1 r) F H F1 H1) (hr : H1 r = some o) (ha : Tk F H H1 a xs) (hb : Tk F H H1 b ys) (hl : xs.length + ys.length ≤ sizeLine)
    (k : ∀ p H2, Gr (M1 r) F H F1 H2 → (∀ q o, H1 q = some o → H2 q = some o) → Tk F H H2 p (xs ++ ys) → Q (.ref p) H2) : zAdd K (.ref a) (.ref b) H1 Q :=
  o_addT (SqT.of ha.at') (SqT.of hb.at') hl (fun e => k _ _ g (fun _ _ h => h) (by rw [e]; exact hb)) (fun _ e => k _ _ g (fun _ _ h => h) (by rw [e, List.append_nil]; exact ha))
    fun _ _ p hn => k p _ (g.add hn) (up_keep hn) (.new g hr hn)
theorem sl_tk {lo hi : Option Int} (g : Gr (M1 r) F H F1 H1) (hr : H1 r = some o) (ha : Tk F H H1 a xs)
    (k : ∀ p H2, Gr (M1 r) F H F1 H2 → (∀ q o, H1 q = some o → H2 q = some o) → Tk F H H2 p (cutV xs lo hi) → Q (.ref p) H2) : zSl K (.ref a) lo hi H1 Q :=
  sl_T (SqT.of ha.at') (fun ⟨e1, e2⟩ => k _ _ g (fun _ _ h => h) (by
    have e : cutV xs lo hi = xs := by
      unfold cutV
      rw [e1, e2, List.drop_zero, Nat.sub_zero, List.take_length]
    rw [e]
    exact ha)) fun _ p hn => k p _ (g.add hn) (up_keep hn) (.new g hr hn)
/-- frozen from now on -/
theorem Gr.hold {M : Addr → Prop} (g : Gr M F H F1 H1) (h : Tk F H H1 p xs) : Gr M F H (upd F1 p (.tup xs)) H1 := by
  refine ⟨fun b u e => ?_, fun b u e => ?_, g.hh, fun b u e f => ?_⟩
  · by_cases hb : b = p
    · subst hb
      have e1 := g.fh _ _ (g.ff _ _ e)
      rw [h.at'] at e1
      rw [upd_same]
      exact e1
    · rw [upd_ne hb]
      exact g.ff _ _ e
  · by_cases hb : b = p
    · subst hb
      rw [upd_same] at e
      rw [h.at']
      exact e
    · rw [upd_ne hb] at e
      exact g.fh _ _ e
  · by_cases hb : b = p
    · subst hb
      rcases h.own with z | z
      · rw [z] at e
        cases e
      · rw [z] at f
        cases f
    · rw [upd_ne hb]
      exact g.nw _ _ e f
end
/-! ### [1 for x in .. if test], the test changing nothing -/
section
variable {K : PySem.W.Frag} {σ : St} {H : Hp} {a : Addr} {xs : List V} {vs : List Nat} {j : Nat} {tt : TT} {p : Nat → Bool} {Q : VK} {n : Int}
def ones (c : Nat) : HO := .lst ((List.replicate c (1 : Int)).map V.int)
def OnesAt (p : Nat → Bool) (H : Hp) (D : Addr) (i : Nat) (H' : Hp) : Prop := ∃ c, c ≤ i ∧ (c = 0 ↔ ∀ k, k < i → p k = false) ∧ H' = upd H D (ones c)
theorem ones_turn {D : Addr} {i : Nat} {σ1 : St} {H' : Hp} (hD : Fresh H D) (hi : i < 100000) (h : OnesAt p H D i H') (ht : ∀ H2 (QB : Bool → Hp → Prop), Same H H2 → QB (p i) H2 → tt σ1 H2 QB) :
    tt σ1 H' fun b H4 => if b = true then tC (.int 1) σ1 H4 fun y H5 => ∃ acc, H5 D = some (.lst acc) ∧ acc.length < sizeLine ∧ OnesAt p H D (i + 1) (upd H5 D (.lst (acc ++ [y]))) else OnesAt p H D (i + 1) H4 := by
  obtain ⟨c, hc, e, rfl⟩ := h
  refine ht _ _ (fun b o e => (upd_ne (ne_of_none e hD)).trans e) ?_
  cases hp : p i with
  | true =>
    refine iteT ⟨_, upd_same, ?_, c + 1, by omega, ⟨fun z => by omega, fun z => ?_⟩, ?_⟩
    · rw [List.length_map, List.length_replicate, sizeLine_eq]
      omega
    · rw [z i (Nat.lt_succ_self i)] at hp
      cases hp
    · rw [upd_upd]
      unfold ones
      rw [List.replicate_succ', List.map_append]
      rfl
  | false =>
    refine iteF ⟨c, by omega, e.trans ⟨fun z k hk => ?_, fun z k hk => z k (by omega)⟩, rfl⟩
    by_cases hk' : k = i
    · rw [hk']
      exact hp
    · exact z k (by omega)
theorem ones_start {D : Addr} : OnesAt p H D 0 (upd H D (.lst [])) := ⟨0, Nat.le_refl _, ⟨fun _ k hk => absurd hk (Nat.not_lt_zero _), fun _ => rfl⟩, rfl⟩
theorem lcT_ones (p : Nat → Bool) (hs : SqT K H a xs) (hz : xs.length ≤ 10000) (ht : ∀ i x H2 (QB : Bool → Hp → Prop), xs[i]? = some x → Same H H2 → QB (p i) H2 → tt ((wipe σ vs).set j (some x)) H2 QB)
    (k : ∀ D c, Fresh H D → (c = 0 ↔ ∀ i, i < xs.length → p i = false) → Q (.ref D) (upd H D (ones c))) (hw : ∀ x, wipe ((wipe σ vs).set j (some x)) vs = wipe σ vs := by intro _; rfl) : LcT K (gName j) tt (tC (.int 1)) vs σ (.ref a) H Q :=
  lc_T hs (fun D i H' => OnesAt p H D i H' ∧ Fresh H D) (fun D hD => ⟨ones_start, hD⟩) (fun D i H' _ ⟨⟨c, _, _, e⟩, hD⟩ => by
    rw [e]
    exact Same.seqT (fun b o e => (upd_ne (ne_of_none e hD)).trans e) hs) (fun D i x H' hD hx h => ⟨hw x, by
      have hi := (List.getElem?_eq_some_iff.mp hx).1
      have := ones_turn (tt := tt) (σ1 := (wipe σ vs).set j (some x)) hD (by omega) h.1 (fun H2 QB hs q => ht i x H2 QB hx hs q)
      simpa only [hD, and_true] using this⟩) fun D H' hD ⟨⟨c, _, e, eH⟩, _⟩ => by
    rw [eH]
    exact k D c hD e
theorem lcL_ones (p : Nat → Bool) (hs : SqL K H a xs) (hz : xs.length ≤ 10000) (ht : ∀ i x H2 (QB : Bool → Hp → Prop), xs[i]? = some x → Same H H2 → QB (p i) H2 → tt ((wipe σ vs).set j (some x)) H2 QB)
    (k : ∀ D c, Fresh H D → (c = 0 ↔ ∀ i, i < xs.length → p i = false) → Q (.ref D) (upd H D (ones c))) (hw : ∀ x, wipe ((wipe σ vs).set j (some x)) vs = wipe σ vs := by intro _; rfl) : LcL K (gName j) tt (tC (.int 1)) vs σ (.ref a) H Q :=
  lc_L hs (fun D i H' => OnesAt p H D i H' ∧ Fresh H D) (fun D hD => ⟨ones_start, hD⟩) (fun D i H' _ ⟨⟨c, _, _, e⟩, hD⟩ => by
    rw [e]
    exact Same.seq (fun b o e => (upd_ne (ne_of_none e hD)).trans e) hs) (fun D i x H' hD hx h => ⟨hw x, by
      have hi := (List.getElem?_eq_some_iff.mp hx).1
      have := ones_turn (tt := tt) (σ1 := (wipe σ vs).set j (some x)) hD (by omega) h.1 (fun H2 QB hs q => ht i x H2 QB hx hs q)
      simpa only [hD, and_true] using this⟩) fun D H' hD ⟨⟨c, _, e, eH⟩, _⟩ => by
    rw [eH]
    exact k D c hD e
theorem lcR_ones (p : Nat → Bool) (hz : -(2 ^ 62) ≤ n ∧ n ≤ 10000) (ht : ∀ (i : Nat) H2 (QB : Bool → Hp → Prop), (i : Int) < n → Same H H2 → QB (p i) H2 → tt ((wipe σ vs).set j (some (.int (i : Int)))) H2 QB)
    (k : ∀ D c, Fresh H D → (c = 0 ↔ ∀ i : Nat, (i : Int) < n → p i = false) → Q (.ref D) (upd H D (ones c))) (hw : ∀ x, wipe ((wipe σ vs).set j (some x)) vs = wipe σ vs := by intro _; rfl) : LcR1 (gName j) tt (tC (.int 1)) vs σ (.int n) H Q :=
  lc_R1 (by omega) (fun D i H' => OnesAt p H D i H') (fun D hD => ones_start) (fun D i H' hD hi h => ⟨hw _, ones_turn (tt := tt) hD (by omega) h (fun H2 QB hs q => ht i H2 QB hi hs q)⟩) fun D H' hD ⟨c, _, e, eH⟩ => by
    rw [eH]
    exact k D c hD (e.trans ⟨fun z i hi => z i (by omega), fun z i hi => z i (by omega)⟩)
theorem o_neOnes {b : Addr} {c : Nat} (ha : H a = some (ones c)) (hb : H b = some (.lst [])) (h : Q (.bl (!decide (c = 0))) H) : zNe K (.ref a) (.ref b) H Q :=
  o_neIL (ns := List.replicate c 1) (ms := []) (SqL.of ha) (SqL.of hb) (by
    have : decide (List.replicate c (1 : Int) = []) = decide (c = 0) := decide_eq_decide.mpr ⟨fun z => by simpa using congrArg List.length z, fun z => by rw [z]; rfl⟩
    rw [this]
    exact h)
theorem o_eqOnes {b : Addr} {c : Nat} (ha : H a = some (ones c)) (hb : H b = some (.lst [])) (h : Q (.bl (decide (c = 0))) H) : zEq K (.ref a) (.ref b) H Q :=
  o_eqIL (ns := List.replicate c 1) (ms := []) (SqL.of ha) (SqL.of hb) (by
    have : decide (List.replicate c (1 : Int) = []) = decide (c = 0) := decide_eq_decide.mpr ⟨fun z => by simpa using congrArg List.length z, fun z => by rw [z]; rfl⟩
    rw [this]
    exact h)
end
/-! ### the law -/
def spLaw (K : PySem.W.Frag) : Sp := fun vs H Q _ => ∃ (a : Addr) (ns : List Int), vs = [.ref a] ∧ ns.length ≤ 63 ∧ SqL K H a (ns.map V.int) ∧ ∀ H', Q (.bl true) H'
theorem spLaw_in {K : PySem.W.Frag} {H : Hp} {a : Addr} {ns : List Int} {E : XK} (hl : ns.length ≤ 63) (hS : SqL K H a (ns.map V.int)) : spLaw K [.ref a] H (fun v _ => v = .bl true) E := ⟨a, ns, rfl, hl, hS, fun _ => rfl⟩
theorem atI_ints {ns : List Int} {j : Nat} {x : Int} (h : ns[j]? = some x) : atI (ns.map V.int) (j : Int) = some (.int x) := atI_nat (by rw [List.getElem?_map, h]; rfl)
end Z

/-! Zr: more steps. -/
namespace Z
open PySem PySem.Spec L2
open PyProof.Rows hiding St
theorem Pl.up {n m : Nat} {d : PyData} (h : Pl n d) (hn : n ≤ m := by omega) : Pl m d := ⟨h.lay, Nat.le_trans h.dep hn, h.nob⟩
section
variable {K : PySem.W.Frag} {σ : St} {H : Hp} {te : TE} {Q : VK} {a : Addr} {xs : List V} {ns : List Int} {vs : List Nat} {j : Nat} {tt : TT} {m n : Int}
theorem e_revL (h : te σ H fun x H1 => ∃ a xs, x = .ref a ∧ SqL K H1 a xs ∧ ∀ p, H1 p = none → Q (.ref p) (upd H1 p (.lst xs.reverse))) : tRevL K te σ H Q := h
theorem rev_V {k : Nat} (h1 : σ[k]? = some (some (.ref a))) (hs : SqL K H a xs) (h : ∀ p, Fresh H p → Q (.ref p) (upd H p (.lst xs.reverse))) : tRevL K (tVar k) σ H Q := ⟨_, h1, a, xs, rfl, hs, h⟩
theorem o_min (hs : SqL K H a (ns.map V.int)) (h0 : m ∈ ns) (h1 : ∀ y ∈ ns, m ≤ y) (h : Q (.int m) H) : rMin K [.ref a] H Q := ⟨a, ns, rfl, hs, List.length_pos_of_mem h0, fun m' a1 a2 => by
  have e : m' = m := Int.le_antisymm (a2 m h0) (h1 m' a1)
  rw [e]
  exact h⟩
theorem o_max (hs : SqL K H a (ns.map V.int)) (h0 : m ∈ ns) (h1 : ∀ y ∈ ns, y ≤ m) (h : Q (.int m) H) : rMax K [.ref a] H Q := ⟨a, ns, rfl, hs, List.length_pos_of_mem h0, fun m' a1 a2 => by
  have e : m' = m := Int.le_antisymm (h1 m' a1) (a2 m h0)
  rw [e]
  exact h⟩
theorem atI_z {x : V} (h : xs[0]? = some x) : atI xs 0 = some x := atI_nat (j := 0) h
theorem atI_zi {x : Int} (h : ns[0]? = some x) : atI (ns.map V.int) 0 = some (.int x) := atI_z (by rw [List.getElem?_map, h]; rfl)
theorem o_eqS {x y : Str} (h : Q (.bl (decide (x = y))) H) : zEq K (.str x) (.str y) H Q := .inl ⟨rfl, (decide_eq_decide.mpr ⟨fun e => V.str.inj e, fun e => by rw [e]⟩ : decide (V.str x = V.str y) = decide (x = y)) ▸ h⟩
theorem o_neS {x y : Str} (h : Q (.bl (!decide (x = y))) H) : zNe K (.str x) (.str y) H Q := .inl ⟨rfl, (decide_eq_decide.mpr ⟨fun e => V.str.inj e, fun e => by rw [e]⟩ : decide (V.str x = V.str y) = decide (x = y)) ▸ h⟩
theorem o_neB {x y : Bool} (h : Q (.bl (!decide (x = y))) H) : zNe K (.bl x) (.bl y) H Q := .inl ⟨rfl, (decide_eq_decide.mpr ⟨fun e => V.bl.inj e, fun e => by rw [e]⟩ : decide (V.bl x = V.bl y) = decide (x = y)) ▸ h⟩
theorem o_eqB {x y : Bool} (h : Q (.bl (decide (x = y))) H) : zEq K (.bl x) (.bl y) H Q := .inl ⟨rfl, (decide_eq_decide.mpr ⟨fun e => V.bl.inj e, fun e => by rw [e]⟩ : decide (V.bl x = V.bl y) = decide (x = y)) ▸ h⟩
theorem o_isT {x : Bool} (h : Q (.bl x) H) : rIsB (.bl x) (.bl true) H Q := ⟨x, true, rfl, rfl, by simpa using h⟩
theorem o_isF {x : Bool} (h : Q (.bl (!x)) H) : rIsB (.bl x) (.bl false) H Q := ⟨x, false, rfl, rfl, by cases x <;> simpa using h⟩
def zDm : List V → Hp → VK → Prop := fun xs H Q => ∃ i j, xs = [.int i, .int j] ∧ CDivP i j ∧ ∀ p, H p = none → Q (.ref p) (upd H p (.tup [.int (i / j), .int (i % j)]))
theorem o_divmod (h0 : 0 < n) (hm : m.natAbs < 2 ^ 240) (h : ∀ p, Fresh H p → Q (.ref p) (upd H p (.tup [.int (m / n), .int (m % n)]))) : zDm [.int m, .int n] H Q := ⟨m, n, rfl, divp_ok h0 (by
  have := PyProof.Rows.intBits_le hm
  omega), h⟩
theorem e_tupRg1 {ta : TE} (h : ta σ H fun x H1 => ∃ n, x = .int n ∧ RgOk 0 n ∧ ∀ q, H1 q = none → Q (.ref q) (upd H1 q (.tup (rgV 0 n)))) : tTupRg (tRg1 ta) σ H Q := h
theorem e_tupRg2 {ta tb : TE} (h : ta σ H fun x H1 => tb σ H1 fun y H2 => ∃ i j, x = .int i ∧ y = .int j ∧ RgOk i j ∧ ∀ q, H2 q = none → Q (.ref q) (upd H2 q (.tup (rgV i j)))) : tTupRg (tRg2 ta tb) σ H Q := h
theorem e_lstRg1 {ta : TE} (h : ta σ H fun x H1 => ∃ n, x = .int n ∧ RgOk 0 n ∧ ∀ q, H1 q = none → Q (.ref q) (upd H1 q (.lst (rgV 0 n)))) : tLstRg (tRg1 ta) σ H Q := h
theorem e_lstRg2 {ta tb : TE} (h : ta σ H fun x H1 => tb σ H1 fun y H2 => ∃ i j, x = .int i ∧ y = .int j ∧ RgOk i j ∧ ∀ q, H2 q = none → Q (.ref q) (upd H2 q (.lst (rgV i j)))) : tLstRg (tRg2 ta tb) σ H Q := h
theorem rg1_ {P : Int → Hp → Addr → Prop} (h0 : RgOk 0 n) (h : ∀ q, Fresh H q → P n (upd H q (.tup (rgV 0 n))) q) : ∃ n', V.int n = .int n' ∧ RgOk 0 n' ∧ ∀ q, H q = none → P n' (upd H q (.tup (rgV 0 n'))) q := ⟨n, rfl, h0, h⟩
theorem s_while {c : TT} {t : TS} {D : Ends} (W : Nat → St → Hp → Prop) (m0 : Nat) (h0 : W m0 σ H) (hs : ∀ m σ' H', W m σ' H' → c σ' H' fun b H1 => if b = true then ∃ N : St → Hp → Prop, (∀ σ2 H2, N σ2 H2 → ∃ m', m' < m ∧ W m' σ2 H2) ∧ t { D with nx := N, ct := N, bk := D.nx } σ' H1 else D.nx σ' H1) :
    tWhile c t D σ H := ⟨W, ⟨m0, h0⟩, hs⟩
theorem w_turn {t : TS} {D : Ends} {W : Nat → St → Hp → Prop} {k : Nat} (h : t { D with nx := fun σ2 H2 => ∃ m', m' < k ∧ W m' σ2 H2, ct := fun σ2 H2 => ∃ m', m' < k ∧ W m' σ2 H2, bk := D.nx } σ H) : ∃ N : St → Hp → Prop, (∀ σ2 H2, N σ2 H2 → ∃ m', m' < k ∧ W m' σ2 H2) ∧ t { D with nx := N, ct := N, bk := D.nx } σ H :=
  ⟨_, fun _ _ h => h, h⟩
/-! ### [f x for x in xs if p x], test and element changing nothing -/
def FilAt (p : V → Bool) (f : V → V) (xs : List V) (H : Hp) (D : Addr) (i : Nat) (H' : Hp) : Prop := H' = upd H D (.lst (((xs.take i).filter p).map f))
theorem fil_turn {p : V → Bool} {f : V → V} {D : Addr} {i : Nat} {σ1 : St} {H' : Hp} {x : V} (hD : Fresh H D) (hx : xs[i]? = some x) (hi : xs.length ≤ 10000) (h : FilAt p f xs H D i H') (ht : ∀ H2 (QB : Bool → Hp → Prop), Same H H2 → QB (p x) H2 → tt σ1 H2 QB)
    (he : ∀ H2 (Q : VK), Same H H2 → p x = true → Q (f x) H2 → te σ1 H2 Q) :
    tt σ1 H' fun b H4 => if b = true then te σ1 H4 fun y H5 => ∃ acc, H5 D = some (.lst acc) ∧ acc.length < sizeLine ∧ FilAt p f xs H D (i + 1) (upd H5 D (.lst (acc ++ [y]))) else FilAt p f xs H D (i + 1) H4 := by
  subst h
  have il := (List.getElem?_eq_some_iff.mp hx).1
  have sm : ∀ o, Same H (upd H D o) := fun o b u e => (upd_ne (ne_of_none e hD)).trans e
  have tk : xs.take (i + 1) = xs.take i ++ [x] := by
    rw [List.take_add_one, hx]
    rfl
  refine ht _ _ (sm _) ?_
  cases hp : p x with
  | true =>
    refine iteT (he _ _ (sm _) hp ⟨_, upd_same, ?_, ?_⟩)
    · rw [List.length_map, sizeLine_eq]
      have := List.length_filter_le p (xs.take i)
      rw [List.length_take] at this
      omega
    · show upd (upd H D _) D _ = _
      rw [upd_upd, tk, List.filter_append, List.map_append, List.filter_cons_of_pos hp]
      rfl
  | false =>
    refine iteF ?_
    show upd H D _ = _
    rw [tk, List.filter_append, List.filter_cons_of_neg (by rw [hp]; exact Bool.false_ne_true), List.filter_nil, List.append_nil]
theorem lcT_fil (p : V → Bool) (f : V → V) (hs : SqT K H a xs) (hz : xs.length ≤ 10000) (ht : ∀ x ∈ xs, ∀ H2 (QB : Bool → Hp → Prop), Same H H2 → QB (p x) H2 → tt ((wipe σ vs).set j (some x)) H2 QB)
    (he : ∀ x ∈ xs, ∀ H2 (Q : VK), Same H H2 → p x = true → Q (f x) H2 → te ((wipe σ vs).set j (some x)) H2 Q)
    (k : ∀ D, Fresh H D → Q (.ref D) (upd H D (.lst ((xs.filter p).map f)))) (hw : ∀ x, wipe ((wipe σ vs).set j (some x)) vs = wipe σ vs := by intro _; rfl) : LcT K (gName j) tt te vs σ (.ref a) H Q :=
  lc_T hs (fun D i H' => FilAt p f xs H D i H' ∧ Fresh H D) (fun D hD => ⟨rfl, hD⟩) (fun D i H' _ ⟨e, hD⟩ => by
    rw [e]
    exact Same.seqT (fun b o e => (upd_ne (ne_of_none e hD)).trans e) hs) (fun D i x H' hD hx h => ⟨hw x, by
      have hm := List.mem_of_getElem? hx
      have := fil_turn (tt := tt) (te := te) (σ1 := (wipe σ vs).set j (some x)) hD hx hz h.1 (fun H2 QB hs q => ht x hm H2 QB hs q) (fun H2 Q hs hp q => he x hm H2 Q hs hp q)
      simpa only [hD, and_true] using this⟩) fun D H' hD ⟨e, _⟩ => by
    rw [e, List.take_length]
    exact k D hD
theorem lcL_fil (p : V → Bool) (f : V → V) (hs : SqL K H a xs) (hz : xs.length ≤ 10000) (ht : ∀ x ∈ xs, ∀ H2 (QB : Bool → Hp → Prop), Same H H2 → QB (p x) H2 → tt ((wipe σ vs).set j (some x)) H2 QB)
    (he : ∀ x ∈ xs, ∀ H2 (Q : VK), Same H H2 → p x = true → Q (f x) H2 → te ((wipe σ vs).set j (some x)) H2 Q)
    (k : ∀ D, Fresh H D → Q (.ref D) (upd H D (.lst ((xs.filter p).map f)))) (hw : ∀ x, wipe ((wipe σ vs).set j (some x)) vs = wipe σ vs := by intro _; rfl) : LcL K (gName j) tt te vs σ (.ref a) H Q :=
  lc_L hs (fun D i H' => FilAt p f xs H D i H' ∧ Fresh H D) (fun D hD => ⟨rfl, hD⟩) (fun D i H' _ ⟨e, hD⟩ => by
    rw [e]
    exact Same.seq (fun b o e => (upd_ne (ne_of_none e hD)).trans e) hs) (fun D i x H' hD hx h => ⟨hw x, by
      have hm := List.mem_of_getElem? hx
      have := fil_turn (tt := tt) (te := te) (σ1 := (wipe σ vs).set j (some x)) hD hx hz h.1 (fun H2 QB hs q => ht x hm H2 QB hs q) (fun H2 Q hs hp q => he x hm H2 Q hs hp q)
      simpa only [hD, and_true] using this⟩) fun D H' hD ⟨e, _⟩ => by
    rw [e, List.take_length]
    exact k D hD
/-- ints through a test, to values -/
def onI (p : Int → Bool) : V → Bool
  | .int z => p z
  | _ => false
def mapI (f : Int → V) : V → V
  | .int z => f z
  | v => v
theorem fil_ints (p : Int → Bool) (f : Int → V) : ∀ ns : List Int, ((ns.map V.int).filter (onI p)).map (mapI f) = (ns.filter p).map f
  | [] => rfl
  | n :: ns => by
    have ih := fil_ints p f ns
    rw [List.map_cons, List.filter_cons, List.filter_cons]
    show ((if onI p (.int n) = true then _ else _) : List V).map _ = _
    show ((if p n = true then _ else _) : List V).map _ = _
    cases hp : p n with
    | true => rw [if_pos rfl, if_pos rfl, List.map_cons, List.map_cons, ih]; rfl
    | false => rw [if_neg Bool.false_ne_true, if_neg Bool.false_ne_true, ih]
theorem lcT_int (p : Int → Bool) (f : Int → V) (hs : SqT K H a (ns.map V.int)) (hz : ns.length ≤ 10000) (ht : ∀ x ∈ ns, ∀ H2 (QB : Bool → Hp → Prop), Same H H2 → QB (p x) H2 → tt ((wipe σ vs).set j (some (.int x))) H2 QB)
    (he : ∀ x ∈ ns, ∀ H2 (Q : VK), Same H H2 → p x = true → Q (f x) H2 → te ((wipe σ vs).set j (some (.int x))) H2 Q)
    (k : ∀ D, Fresh H D → Q (.ref D) (upd H D (.lst ((ns.filter p).map f)))) (hw : ∀ x, wipe ((wipe σ vs).set j (some x)) vs = wipe σ vs := by intro _; rfl) : LcT K (gName j) tt te vs σ (.ref a) H Q :=
  lcT_fil (onI p) (mapI f) hs (by rw [List.length_map]; exact hz) (fun x hx H2 QB hs q => by
    obtain ⟨z, hz, rfl⟩ := List.mem_map.mp hx
    exact ht z hz H2 QB hs q) (fun x hx H2 Q hs hp q => by
    obtain ⟨z, hz, rfl⟩ := List.mem_map.mp hx
    exact he z hz H2 Q hs hp q) (fun D hD => by
    rw [fil_ints]
    exact k D hD) hw
theorem lcL_int (p : Int → Bool) (f : Int → V) (hs : SqL K H a (ns.map V.int)) (hz : ns.length ≤ 10000) (ht : ∀ x ∈ ns, ∀ H2 (QB : Bool → Hp → Prop), Same H H2 → QB (p x) H2 → tt ((wipe σ vs).set j (some (.int x))) H2 QB)
    (he : ∀ x ∈ ns, ∀ H2 (Q : VK), Same H H2 → p x = true → Q (f x) H2 → te ((wipe σ vs).set j (some (.int x))) H2 Q)
    (k : ∀ D, Fresh H D → Q (.ref D) (upd H D (.lst ((ns.filter p).map f)))) (hw : ∀ x, wipe ((wipe σ vs).set j (some x)) vs = wipe σ vs := by intro _; rfl) : LcL K (gName j) tt te vs σ (.ref a) H Q :=
  lcL_fil (onI p) (mapI f) hs (by rw [List.length_map]; exact hz) (fun x hx H2 QB hs q => by
    obtain ⟨z, hz, rfl⟩ := List.mem_map.mp hx
    exact ht z hz H2 QB hs q) (fun x hx H2 Q hs hp q => by
    obtain ⟨z, hz, rfl⟩ := List.mem_map.mp hx
    exact he z hz H2 Q hs hp q) (fun D hD => by
    rw [fil_ints]
    exact k D hD) hw
/-! ### the same, test and element making new things -/
def GrowAt (l : List V) (H : Hp) (D : Addr) (H' : Hp) : Prop := Same H H' ∧ H' D = some (.lst l)
theorem grow_turn {b : Bool} {y : V} {l l' : List V} {D : Addr} {σ1 : St} {H' : Hp} (hD : Fresh H D) (hz : l.length < sizeLine) (h : GrowAt l H D H') (hl : l' = if b = true then l ++ [y] else l) (ht : ∀ H2 (QB : Bool → Hp → Prop), Same H H2 → (∀ H3, Same H2 H3 → QB b H3) → tt σ1 H2 QB)
    (he : ∀ H2 (Q : VK), Same H H2 → b = true → (∀ H3, Same H2 H3 → Q y H3) → te σ1 H2 Q) :
    tt σ1 H' fun b H4 => if b = true then te σ1 H4 fun y H5 => ∃ acc, H5 D = some (.lst acc) ∧ acc.length < sizeLine ∧ GrowAt l' H D (upd H5 D (.lst (acc ++ [y]))) else GrowAt l' H D H4 := by
  refine ht _ _ h.1 fun H3 s3 => ?_
  have S3 := h.1.trans s3
  cases b with
  | true =>
    rw [if_pos rfl] at hl
    refine iteT (he _ _ S3 rfl fun H4 s4 => ⟨l, s4 _ _ (s3 _ _ h.2), hz, fun a o e => ?_, ?_⟩)
    · rw [upd_ne (ne_of_none e hD)]
      exact s4 _ _ (S3 _ _ e)
    · rw [upd_same, hl]
  | false =>
    rw [if_neg Bool.false_ne_true] at hl
    refine iteF ⟨S3, ?_⟩
    rw [hl]
    exact s3 _ _ h.2
theorem fil_take {p : V → Bool} {f : V → V} {x : V} {i : Nat} (hx : xs[i]? = some x) : ((xs.take (i + 1)).filter p).map f = if p x = true then ((xs.take i).filter p).map f ++ [f x] else ((xs.take i).filter p).map f := by
  have tk : xs.take (i + 1) = xs.take i ++ [x] := by
    rw [List.take_add_one, hx]
    rfl
  rw [tk, List.filter_append, List.map_append]
  by_cases h : p x = true
  · rw [if_pos h, List.filter_cons_of_pos h]
    rfl
  · rw [if_neg h, List.filter_cons_of_neg h, List.filter_nil, List.map_nil, List.append_nil]
theorem fil_short {p : V → Bool} {f : V → V} {i : Nat} (hz : xs.length ≤ 10000) : (((xs.take i).filter p).map f).length < sizeLine := by
  have := List.length_filter_le p (xs.take i)
  rw [List.length_take] at this
  rw [List.length_map, sizeLine_eq]
  omega
theorem lcT_grow (p : V → Bool) (f : V → V) (hs : SqT K H a xs) (hz : xs.length ≤ 10000) (ht : ∀ x ∈ xs, ∀ H2 (QB : Bool → Hp → Prop), Same H H2 → (∀ H3, Same H2 H3 → QB (p x) H3) → tt ((wipe σ vs).set j (some x)) H2 QB)
    (he : ∀ x ∈ xs, ∀ H2 (Q : VK), Same H H2 → p x = true → (∀ H3, Same H2 H3 → Q (f x) H3) → te ((wipe σ vs).set j (some x)) H2 Q)
    (k : ∀ D H', Fresh H D → Same H H' → H' D = some (.lst ((xs.filter p).map f)) → Q (.ref D) H') (hw : ∀ x, wipe ((wipe σ vs).set j (some x)) vs = wipe σ vs := by intro _; rfl) : LcT K (gName j) tt te vs σ (.ref a) H Q :=
  lc_T hs (fun D i H' => GrowAt (((xs.take i).filter p).map f) H D H') (fun D hD => ⟨fun b u e => (upd_ne (ne_of_none e hD)).trans e, upd_same⟩) (fun D i H' _ h => Same.seqT h.1 hs) (fun D i x H' hD hx h => ⟨hw x, by
    have hm := List.mem_of_getElem? hx
    exact grow_turn (b := p x) (y := f x) hD (fil_short hz) h (fil_take hx) (fun H2 QB hs q => ht x hm H2 QB hs q) (fun H2 Q hs hp q => he x hm H2 Q hs hp q)⟩) fun D H' hD h => by
    rw [List.take_length] at h
    exact k D H' hD h.1 h.2
theorem lcL_grow (p : V → Bool) (f : V → V) (hs : SqL K H a xs) (hz : xs.length ≤ 10000) (ht : ∀ x ∈ xs, ∀ H2 (QB : Bool → Hp → Prop), Same H H2 → (∀ H3, Same H2 H3 → QB (p x) H3) → tt ((wipe σ vs).set j (some x)) H2 QB)
    (he : ∀ x ∈ xs, ∀ H2 (Q : VK), Same H H2 → p x = true → (∀ H3, Same H2 H3 → Q (f x) H3) → te ((wipe σ vs).set j (some x)) H2 Q)
    (k : ∀ D H', Fresh H D → Same H H' → H' D = some (.lst ((xs.filter p).map f)) → Q (.ref D) H') (hw : ∀ x, wipe ((wipe σ vs).set j (some x)) vs = wipe σ vs := by intro _; rfl) : LcL K (gName j) tt te vs σ (.ref a) H Q :=
  lc_L hs (fun D i H' => GrowAt (((xs.take i).filter p).map f) H D H') (fun D hD => ⟨fun b u e => (upd_ne (ne_of_none e hD)).trans e, upd_same⟩) (fun D i H' _ h => Same.seq h.1 hs) (fun D i x H' hD hx h => ⟨hw x, by
    have hm := List.mem_of_getElem? hx
    exact grow_turn (b := p x) (y := f x) hD (fil_short hz) h (fil_take hx) (fun H2 QB hs q => ht x hm H2 QB hs q) (fun H2 Q hs hp q => he x hm H2 Q hs hp q)⟩) fun D H' hD h => by
    rw [List.take_length] at h
    exact k D H' hD h.1 h.2
theorem lcT_igrow (p : Int → Bool) (f : Int → V) (hs : SqT K H a (ns.map V.int)) (hz : ns.length ≤ 10000) (ht : ∀ x ∈ ns, ∀ H2 (QB : Bool → Hp → Prop), Same H H2 → (∀ H3, Same H2 H3 → QB (p x) H3) → tt ((wipe σ vs).set j (some (.int x))) H2 QB)
    (he : ∀ x ∈ ns, ∀ H2 (Q : VK), Same H H2 → p x = true → (∀ H3, Same H2 H3 → Q (f x) H3) → te ((wipe σ vs).set j (some (.int x))) H2 Q)
    (k : ∀ D H', Fresh H D → Same H H' → H' D = some (.lst ((ns.filter p).map f)) → Q (.ref D) H') (hw : ∀ x, wipe ((wipe σ vs).set j (some x)) vs = wipe σ vs := by intro _; rfl) : LcT K (gName j) tt te vs σ (.ref a) H Q :=
  lcT_grow (onI p) (mapI f) hs (by rw [List.length_map]; exact hz) (fun x hx H2 QB hs q => by
    obtain ⟨z, hz, rfl⟩ := List.mem_map.mp hx
    exact ht z hz H2 QB hs q) (fun x hx H2 Q hs hp q => by
    obtain ⟨z, hz, rfl⟩ := List.mem_map.mp hx
    exact he z hz H2 Q hs hp q) (fun D H' hD hS e => by
    rw [fil_ints] at e
    exact k D H' hD hS e) hw
theorem lcR_grow (p : Nat → Bool) (f : Nat → V) (hz : -(2 ^ 62) ≤ n ∧ n ≤ 10000) (ht : ∀ i : Nat, (i : Int) < n → ∀ H2 (QB : Bool → Hp → Prop), Same H H2 → (∀ H3, Same H2 H3 → QB (p i) H3) → tt ((wipe σ vs).set j (some (.int (i : Int)))) H2 QB)
    (he : ∀ i : Nat, (i : Int) < n → ∀ H2 (Q : VK), Same H H2 → p i = true → (∀ H3, Same H2 H3 → Q (f i) H3) → te ((wipe σ vs).set j (some (.int (i : Int)))) H2 Q)
    (k : ∀ D H', Fresh H D → Same H H' → H' D = some (.lst (((List.range n.toNat).filter p).map f)) → Q (.ref D) H') (hw : ∀ x, wipe ((wipe σ vs).set j (some x)) vs = wipe σ vs := by intro _; rfl) : LcR1 (gName j) tt te vs σ (.int n) H Q :=
  lc_R1 (by omega) (fun D i H' => GrowAt (((List.range i).filter p).map f) H D H') (fun D hD => ⟨fun b u e => (upd_ne (ne_of_none e hD)).trans e, upd_same⟩) (fun D i H' hD hi h => ⟨hw _, by
    refine grow_turn (b := p i) (y := f i) hD ?_ h ?_ (fun H2 QB hs q => ht i hi H2 QB hs q) (fun H2 Q hs hp q => he i hi H2 Q hs hp q)
    · have := List.length_filter_le p (List.range i)
      rw [List.length_range] at this
      rw [List.length_map, sizeLine_eq]
      omega
    · rw [List.range_succ, List.filter_append, List.map_append]
      by_cases h : p i = true
      · rw [if_pos h, List.filter_cons_of_pos h]
        rfl
      · rw [if_neg h, List.filter_cons_of_neg h, List.filter_nil, List.map_nil, List.append_nil]⟩) fun D H' hD h => k D H' hD h.1 h.2
end
end Z

/-! Zb: bits: numbers as sets of seats. -/
namespace Z
open PySem PySem.Spec L2
open PyProof.Rows hiding St
section
variable {X : Cx}
theorem ip_or : PIp X .BitOr (ipI fun i j => Builtin.bitOr i j) := by
  intro pins s σ H x y v u Q I r1 r2 h
  obtain ⟨i, j, e1, e2, q⟩ := h
  subst e1; subst e2
  obtain ⟨t, rfl⟩ := r1
  obtain ⟨t', rfl⟩ := r2
  exact ior_int ⟨.int _, _, I.tok _, ⟨_, rfl⟩, q⟩
end
/-! ### the words over Nat -/
theorem and_nat (a b : Nat) : Builtin.bitAnd (a : Int) (b : Int) = ((a &&& b : Nat) : Int) := bitAnd_pp (Int.natCast_nonneg a) (Int.natCast_nonneg b)
theorem not_not (x : Int) : Builtin.bitNot (Builtin.bitNot x) = x := by
  unfold Builtin.bitNot
  omega
theorem or_nat (a b : Nat) : Builtin.bitOr (a : Int) (b : Int) = ((a ||| b : Nat) : Int) := by
  have h : ∀ n : Nat, ¬ 0 ≤ Builtin.bitNot (n : Int) := fun n => by
    unfold Builtin.bitNot
    omega
  show Builtin.bitNot (Builtin.bitAnd (Builtin.bitNot a) (Builtin.bitNot b)) = _
  rw [bitAnd_nn (h a) (h b), not_not, not_not, not_not]
  rfl
theorem shl_one (k : Nat) : (1 : Int) * 2 ^ ((k : Int)).toNat = ((2 ^ k : Nat) : Int) := by
  rw [Int.toNat_natCast, Int.one_mul, Int.natCast_pow]
  rfl
theorem shr_nat (a k : Nat) : (a : Int) / 2 ^ ((k : Int)).toNat = ((a >>> k : Nat) : Int) := by
  rw [Int.toNat_natCast, Nat.shiftRight_eq_div_pow, Int.natCast_ediv, Int.natCast_pow]
  rfl
theorem bits_nat (a : Nat) : Builtin.Int.intBits (a : Int) = if a = 0 then 0 else a.log2 + 1 := by
  unfold Builtin.Int.intBits
  by_cases h : a = 0
  · subst h
    rfl
  · rw [if_neg h, if_neg (by simpa using h), Int.natAbs_natCast]
/-- the least bit -/
theorem low_nat (a : Nat) (h : 0 < a) : Builtin.bitAnd (a : Int) (-(a : Int)) = ((a - (a &&& (a - 1)) : Nat) : Int) := by
  have e : Builtin.bitNot (-(a : Int)) = ((a - 1 : Nat) : Int) := by
    unfold Builtin.bitNot
    omega
  rw [bitAnd_pn (by omega) (by omega), e, Int.toNat_natCast, Int.toNat_natCast]
  have : a &&& (a - 1) ≤ a := Nat.and_le_left
  omega
/-! ### sets of seats as numbers -/
def bitsN : List Int → Nat
  | [] => 0
  | d :: r => 2 ^ d.toNat ||| bitsN r
theorem bitsN_app : ∀ a b : List Int, bitsN (a ++ b) = bitsN a ||| bitsN b
  | [], b => (Nat.zero_or _).symm
  | d :: a, b => by
    rw [List.cons_append, bitsN, bitsN, bitsN_app a b, Nat.or_assoc]
theorem bitsN_test : ∀ {l : List Int}, (∀ d ∈ l, 0 ≤ d) → ∀ i : Nat, (bitsN l).testBit i = decide ((i : Int) ∈ l)
  | [], _, i => by
    rw [bitsN, Nat.zero_testBit]
    simp
  | d :: r, h, i => by
    rw [bitsN, Nat.testBit_or, bitsN_test (fun x hx => h x (List.mem_cons_of_mem _ hx)), Nat.testBit_two_pow]
    have h0 := h d List.mem_cons_self
    rw [show decide ((i : Int) ∈ d :: r) = decide ((i : Int) = d ∨ (i : Int) ∈ r) from decide_eq_decide.mpr List.mem_cons, Bool.decide_or]
    congr 1
    exact decide_eq_decide.mpr ⟨fun e => by omega, fun e => by omega⟩
theorem bitsN_lt {m : Nat} : ∀ {l : List Int}, (∀ d ∈ l, 0 ≤ d ∧ d < m) → bitsN l < 2 ^ m
  | [], _ => Nat.two_pow_pos m
  | d :: r, h => by
    have h0 := h d List.mem_cons_self
    rw [bitsN]
    exact Nat.or_lt_two_pow (Nat.pow_lt_pow_right (by decide) (by omega)) (bitsN_lt fun x hx => h x (List.mem_cons_of_mem _ hx))
theorem pw_ext : ∀ {a b : List Int}, a.Pairwise (· < ·) → b.Pairwise (· < ·) → (∀ x, x ∈ a ↔ x ∈ b) → a = b
  | [], [], _, _, _ => rfl
  | [], y :: b, _, _, h => absurd ((h y).mpr List.mem_cons_self) List.not_mem_nil
  | x :: a, [], _, _, h => absurd ((h x).mp List.mem_cons_self) List.not_mem_nil
  | x :: a, y :: b, ha, hb, h => by
    have ha' := List.pairwise_cons.mp ha
    have hb' := List.pairwise_cons.mp hb
    have e : x = y := by
      rcases List.mem_cons.mp ((h x).mp List.mem_cons_self) with e | hx
      · exact e
      rcases List.mem_cons.mp ((h y).mpr List.mem_cons_self) with e | hy
      · exact e.symm
      have := ha'.1 y hy
      have := hb'.1 x hx
      omega
    subst e
    rw [pw_ext ha'.2 hb'.2 fun z => ⟨fun hz => by
      rcases List.mem_cons.mp ((h z).mp (List.mem_cons_of_mem _ hz)) with e | hz'
      · have := ha'.1 z hz
        omega
      · exact hz', fun hz => by
      rcases List.mem_cons.mp ((h z).mpr (List.mem_cons_of_mem _ hz)) with e | hz'
      · have := hb'.1 z hz
        omega
      · exact hz'⟩]
/-- the seats of a number -/
def seatsN (n : Nat) : List Int := ((List.range (Builtin.Int.intBits (n : Int))).filter fun i => n.testBit i).map fun (i : Nat) => (i : Int)
theorem seatsN_mem (n : Nat) (x : Int) : x ∈ seatsN n ↔ 0 ≤ x ∧ n.testBit x.toNat = true := by
  unfold seatsN
  rw [List.mem_map]
  constructor
  · rintro ⟨i, hi, rfl⟩
    have := (List.mem_filter.mp hi).2
    exact ⟨by omega, by rw [Int.toNat_natCast]; exact this⟩
  · rintro ⟨h0, h1⟩
    refine ⟨x.toNat, List.mem_filter.mpr ⟨List.mem_range.mpr ?_, h1⟩, by omega⟩
    rw [bits_nat]
    split
    · rename_i e
      rw [e, Nat.zero_testBit] at h1
      cases h1
    · have := Nat.ge_two_pow_of_testBit h1
      rcases Nat.lt_or_ge x.toNat (n.log2 + 1) with hl | hl
      · exact hl
      · have a : n < 2 ^ (n.log2 + 1) := Nat.lt_log2_self
        have b : 2 ^ (n.log2 + 1) ≤ 2 ^ x.toNat := Nat.pow_le_pow_right (by decide) hl
        omega
theorem seatsN_up (n : Nat) : (seatsN n).Pairwise (· < ·) := by
  unfold seatsN
  rw [List.pairwise_map]
  exact (List.pairwise_lt_range.filter _).imp fun h => by omega
theorem seats_bits {l : List Int} (up : l.Pairwise (· < ·)) (h : ∀ d ∈ l, 0 ≤ d) : seatsN (bitsN l) = l := pw_ext (seatsN_up _) up fun x => by
  rw [seatsN_mem]
  constructor
  · rintro ⟨h0, h1⟩
    rw [bitsN_test h] at h1
    have := of_decide_eq_true h1
    rw [Int.toNat_of_nonneg h0] at this
    exact this
  · intro hx
    refine ⟨h x hx, ?_⟩
    rw [bitsN_test h, Int.toNat_of_nonneg (h x hx)]
    exact decide_eq_true hx
theorem bitsN_and {a b : List Int} (ha : ∀ d ∈ a, 0 ≤ d) (hb : ∀ d ∈ b, 0 ≤ d) (i : Nat) : (bitsN a &&& bitsN b).testBit i = decide ((i : Int) ∈ a ∧ (i : Int) ∈ b) := by
  rw [Nat.testBit_and, bitsN_test ha, bitsN_test hb, Bool.decide_and]
theorem bitsN_inj {a b : List Int} (ua : a.Pairwise (· < ·)) (ub : b.Pairwise (· < ·)) (ha : ∀ d ∈ a, 0 ≤ d) (hb : ∀ d ∈ b, 0 ≤ d) : bitsN a = bitsN b ↔ a = b :=
  ⟨fun e => by rw [← seats_bits ua ha, e, seats_bits ub hb], fun e => by rw [e]⟩
/-- other & one == other -/
theorem bitsN_sub {a b : List Int} (ha : ∀ d ∈ a, 0 ≤ d) (hb : ∀ d ∈ b, 0 ≤ d) : bitsN a &&& bitsN b = bitsN a ↔ ∀ x ∈ a, x ∈ b := by
  constructor
  · intro e x hx
    have h0 := ha x hx
    have q : (bitsN a &&& bitsN b).testBit x.toNat = (bitsN a).testBit x.toNat := by rw [e]
    rw [bitsN_and ha hb, bitsN_test ha, Int.toNat_of_nonneg h0] at q
    have : decide (x ∈ a) = true := decide_eq_true hx
    rw [this] at q
    exact (of_decide_eq_true q).2
  · intro h
    refine Nat.eq_of_testBit_eq fun i => ?_
    rw [bitsN_and ha hb, bitsN_test ha]
    exact decide_eq_decide.mpr ⟨fun z => z.1, fun z => ⟨z, h _ z⟩⟩
theorem bitsN_apart {a b : List Int} (ha : ∀ d ∈ a, 0 ≤ d) (hb : ∀ d ∈ b, 0 ≤ d) : bitsN a &&& bitsN b = 0 ↔ ∀ x ∈ a, x ∉ b := by
  constructor
  · intro e x hx hx'
    have h0 := ha x hx
    have q : (bitsN a &&& bitsN b).testBit x.toNat = false := by rw [e, Nat.zero_testBit]
    rw [bitsN_and ha hb, Int.toNat_of_nonneg h0] at q
    exact of_decide_eq_false q ⟨hx, hx'⟩
  · intro h
    refine Nat.eq_of_testBit_eq fun i => ?_
    rw [bitsN_and ha hb, Nat.zero_testBit]
    exact decide_eq_false fun z => h _ z.1 z.2
/-- n & -n is the power of the least bit -/
theorem low_bit {n i : Nat} (hi : n.testBit i = true) (hl : ∀ j, j < i → n.testBit j = false) : n - (n &&& (n - 1)) = 2 ^ i := by
  obtain ⟨q, hq⟩ : ∃ q, n = q * 2 ^ (i + 1) + 2 ^ i := by
    refine ⟨n / 2 ^ (i + 1), ?_⟩
    have e : n % 2 ^ (i + 1) = 2 ^ i := by
      refine Nat.eq_of_testBit_eq fun j => ?_
      rw [Nat.testBit_mod_two_pow, Nat.testBit_two_pow]
      by_cases h : j = i
      · subst h
        simp [hi]
      · by_cases h2 : j < i
        · rw [hl j h2]
          simp [Ne.symm h]
        · simp [Ne.symm h]
          omega
    have := Nat.div_add_mod n (2 ^ (i + 1))
    rw [e, Nat.mul_comm] at this
    exact this.symm
  have p : 0 < 2 ^ i := Nat.two_pow_pos i
  have e2 : n - 1 = q * 2 ^ (i + 1) + (2 ^ i - 1) := by omega
  have e3 : n &&& (n - 1) = q * 2 ^ (i + 1) := by
    refine Nat.eq_of_testBit_eq fun j => ?_
    rw [Nat.testBit_and, e2, hq, Nat.mul_comm q, Nat.testBit_two_pow_mul_add _ (by rw [Nat.pow_succ]; omega), Nat.testBit_two_pow_mul_add _ (by rw [Nat.pow_succ]; omega), Nat.testBit_two_pow_mul]
    by_cases h : j < i + 1
    · rw [if_pos h, if_pos h, Nat.testBit_two_pow, Nat.testBit_two_pow_sub_one]
      have : decide (j ≥ i + 1) = false := decide_eq_false (by omega)
      rw [this, Bool.false_and, Bool.and_eq_false_iff]
      by_cases h2 : i = j
      · exact .inr (decide_eq_false (by omega))
      · exact .inl (decide_eq_false h2)
    · rw [if_neg h, if_neg h, Bool.and_self]
      have : decide (j ≥ i + 1) = true := decide_eq_true (by omega)
      rw [this, Bool.true_and]
  rw [e3, hq]
  omega
theorem bits_pow (i : Nat) : Builtin.Int.intBits ((2 ^ i : Nat) : Int) = i + 1 := by
  rw [bits_nat, if_neg (Nat.ne_of_gt (Nat.two_pow_pos i)), Nat.log2_two_pow]
/-! ### steps -/
section
variable {K : PySem.W.Frag} {σ : St} {H : Hp} {Q : VK} {QB : Bool → Hp → Prop} {ta : TE} {x : V} {a b k : Nat} {m : Int}
theorem o_shl1 (hk : k ≤ 1000) (h : Q (.int ((2 ^ k : Nat) : Int)) H) : zShl (.int 1) (.int (k : Int)) H Q := ⟨1, (k : Int), rfl, rfl, by
  refine ⟨by omega, ?_, ?_⟩ <;> first | decide | omega, by dsimp only; rw [shl_one]; exact h⟩
theorem o_shr (h : Q (.int ((a >>> k : Nat) : Int)) H) : zShr (.int (a : Int)) (.int (k : Int)) H Q := ⟨(a : Int), (k : Int), rfl, rfl, by omega, by dsimp only; rw [shr_nat]; exact h⟩
theorem o_and (h : Q (.int ((a &&& b : Nat) : Int)) H) : zAnd (.int (a : Int)) (.int (b : Int)) H Q := ⟨(a : Int), (b : Int), rfl, rfl, by dsimp only; rw [and_nat]; exact h⟩
theorem o_or (h : Q (.int ((a ||| b : Nat) : Int)) H) : zOr (.int (a : Int)) (.int (b : Int)) H Q := ⟨(a : Int), (b : Int), rfl, rfl, by dsimp only; rw [or_nat]; exact h⟩
theorem o_and1 (h : Q (.int ((a % 2 : Nat) : Int)) H) : zAnd (.int (a : Int)) (.int 1) H Q := ⟨(a : Int), 1, rfl, rfl, by
  dsimp only
  rw [show (1 : Int) = ((1 : Nat) : Int) from rfl, and_nat, Nat.and_one_is_mod]
  exact h⟩
theorem o_low (ha : 0 < a) (h : Q (.int ((a - (a &&& (a - 1)) : Nat) : Int)) H) : zAnd (.int (a : Int)) (.int (-(a : Int))) H Q := ⟨(a : Int), -(a : Int), rfl, rfl, by dsimp only; rw [low_nat a ha]; exact h⟩
theorem o_ipOr (h : Q (.int ((a ||| b : Nat) : Int)) H) : ipI (fun i j => Builtin.bitOr i j) (.int (a : Int)) (.int (b : Int)) H Q := ⟨(a : Int), (b : Int), rfl, rfl, by dsimp only; rw [or_nat]; exact h⟩
theorem g_lst {n : Nat} {ts : TGs} {c : Addr} {xs : List V} {QS : St → Hp → Prop} (h : SqL K H c xs) (hn : xs.length = n) (k : ts xs σ H QS) : gLst K n ts (.ref c) σ H QS := ⟨c, xs, rfl, h, hn, k⟩
theorem dLI_inj {a b : List (List Int)} : dLI a = dLI b ↔ a = b := by
  refine ⟨fun h => ?_, fun h => by rw [h]⟩
  have : ∀ {a b : List (List Int)}, a.map dI = b.map dI → a = b := fun {a} => by
    induction a with
    | nil => intro b h; cases b with
      | nil => rfl
      | cons _ _ => cases h
    | cons x a ih => intro b h; cases b with
      | nil => cases h
      | cons y b =>
        rw [List.map_cons, List.map_cons, List.cons.injEq] at h
        rw [dI_inj.mp h.1, ih h.2]
  exact this (PyData.list.inj h)
/-- lists of tuples of ints -/
theorem o_neLI {c d : Addr} {us ws : List V} {as bs : List (List Int)} (ha : SqL K H c us) (hb : SqL K H d ws) (ta : TIs H us as) (tb : TIs H ws bs) (h : Q (.bl (!decide (as = bs))) H) : zNe K (.ref c) (.ref d) H Q :=
  o_neD (.lst ha ta.dp) (.lst hb tb.dp) (pl_dLI.shaped (by decide)) (pl_dLI.shaped (by decide)) (by rw [pl_dLI.eqv pl_dLI dLI_inj]; exact h)
theorem o_eqLI {c d : Addr} {us ws : List V} {as bs : List (List Int)} (ha : SqL K H c us) (hb : SqL K H d ws) (ta : TIs H us as) (tb : TIs H ws bs) (h : Q (.bl (decide (as = bs))) H) : zEq K (.ref c) (.ref d) H Q :=
  o_eqD (.lst ha ta.dp) (.lst hb tb.dp) (pl_dLI.shaped (by decide)) (pl_dLI.shaped (by decide)) (by rw [pl_dLI.eqv pl_dLI dLI_inj]; exact h)
theorem s_asgU {n : Nat} {ts : TGs} {D : Ends} {te : TE} (h : te σ H fun v H1 => gLst K n ts v σ H1 D.nx) : tAsg te (gLst K n ts) D σ H := h
theorem e_bits (h : ta σ H fun x H1 => ∃ i, x = .int i ∧ Q (.int (Builtin.Int.intBits i : Nat)) H1) : tBits ta σ H Q := h
theorem bits_ {P : V → Prop} (h : P (.int (Builtin.Int.intBits m : Nat))) : ∃ i, V.int m = .int i ∧ P (.int (Builtin.Int.intBits i : Nat)) := ⟨m, rfl, h⟩
theorem t_bit (h : QB (a.testBit k) H) : ∃ q, TruV K (.int ((a >>> k % 2 : Nat) : Int)) H q ∧ QB q H := by
  refine t_int ?_
  have e : ((((a >>> k) % 2 : Nat) : Int) != 0) = a.testBit k := by
    rw [Nat.testBit_eq_decide_div_mod_eq, Nat.shiftRight_eq_div_pow]
    rcases Nat.mod_two_eq_zero_or_one (a / 2 ^ k) with z | z
    · rw [z]
      rfl
    · rw [z]
      rfl
  have e2 : ((((a >>> k % 2 : Nat)) : Int) != 0) = a.testBit k := e
  rw [e2]
  exact h
end
/-! ### what a part made, frozen -/
theorem gr_of_same {F H H' : Hp} {D : Addr} (hF : Same F H) (s : Same H H') (hD : Fresh H D) : ∃ F', Gr M0 F H F' H' ∧ F' D = none ∧ ∀ b o, H b = none → b ≠ D → H' b = some o → F' b = some o := by
  refine ⟨fun b => if ((H b).isNone && decide (b ≠ D)) = true then H' b else F b, ⟨fun b u e => ?_, fun b u e => ?_, fun b o _ e => s b o e, fun b o e f => ?_⟩, ?_, fun b o e1 e2 e3 => ?_⟩
  · rw [hF b u e, if_neg (by simp)]
    exact e
  · split at e
    · exact e
    · exact s b u (hF b u e)
  · show (if _ then _ else _) = _
    rw [e, if_neg (by simp)]
    exact f
  · show (if _ then _ else _) = _
    rw [if_neg (by simp)]
    exact fresh_F hF hD
  · show (if _ then _ else _) = _
    rw [e1, if_pos (by simp [e2])]
    exact e3
section
variable {K : PySem.W.Frag} {σ : St} {H : Hp} {tl te : TE} {c : TT} {Q : VK} {i j : Nat} {g : TG} {a : Addr} {xs : List V} {vs : List Nat} {ns : List Int}
def LcE (K : PySem.W.Frag) (g : TG) (tt : TT) (te : TE) (vs : List Nat) (σ : St) (x : V) (H : Hp) (Q : VK) : Prop := ∃ a xs, [x] = [V.ref a] ∧ SqL K H a xs ∧ LcW (Ite K a) g tt te vs σ H Q
theorem e_lcE (h : tl σ H fun x H1 => LcE K g c te vs σ x H1 Q) : tLc (iEnum K (tCons tl tNil)) g c te vs σ H Q := h
theorem lc_E (hs : SqL K H a xs) (Pv : Addr → Nat → Hp → Prop) (h0 : ∀ D, Fresh H D → Pv D 0 (upd H D (.lst []))) (hl : ∀ D i H', i ≤ xs.length → Pv D i H' → SqL K H' a xs)
    (hb : ∀ D i x H' q, Fresh H D → xs[i]? = some x → Pv D i H' → Fresh H' q → g (.ref q) (wipe σ vs) (upd H' q (.tup [.int (i : Int), x])) fun σ2 H3 => wipe σ2 vs = wipe σ vs ∧ c σ2 H3 fun b H4 =>
      if b = true then te σ2 H4 fun y H5 => ∃ acc, H5 D = some (.lst acc) ∧ acc.length < sizeLine ∧ Pv D (i + 1) (upd H5 D (.lst (acc ++ [y]))) else Pv D (i + 1) H4)
    (hd : ∀ D H', Fresh H D → Pv D xs.length H' → Q (.ref D) H') : LcE K g c te vs σ (.ref a) H Q := by
  refine ⟨a, xs, rfl, hs, fun D nD => ⟨fun i m H' => m = xs.length - i ∧ i ≤ xs.length ∧ Pv D i H', ⟨xs.length, by simp, Nat.zero_le _, h0 D nD⟩, ?_⟩⟩
  rintro i m H' ⟨rfl, hi, pv⟩
  have sq := hl D i H' hi pv
  by_cases cc : i < xs.length
  · refine .inr ⟨⟨xs, xs[i], sq, List.getElem?_eq_getElem cc⟩, Pv D (i + 1), fun H2 p2 => ⟨xs.length - (i + 1), by omega, rfl, cc, p2⟩, fun x H2 y => ?_⟩
    obtain ⟨q, z, rfl, nq, rfl, f⟩ := y
    exact hb D i z H' q nD (f xs sq) pv nq
  · have e : i = xs.length := by omega
    subst e
    exact .inl ⟨⟨xs, sq, Nat.le_refl _⟩, hd D H' nD pv⟩
/-- what the turns of a comprehension have made -/
def RelAt (R : Nat → V → Hp → Prop) (H : Hp) (D : Addr) (i : Nat) (H' : Hp) : Prop := Same H H' ∧ ∃ ys, H' D = some (.lst ys) ∧ ys.length = i ∧ ∀ j y, ys[j]? = some y → R j y H' ∧ y ≠ .ref D
/-- what a relation of made values must bear -/
structure Stab (R : Nat → V → Hp → Prop) : Prop where
  mono : ∀ i y H1 H2, Same H1 H2 → R i y H1 → R i y H2
  put : ∀ i y H1 D acc acc', H1 D = some (.lst acc) → y ≠ .ref D → R i y H1 → R i y (upd H1 D (.lst acc'))
theorem rel_turn {R : Nat → V → Hp → Prop} (S : Stab R) {D : Addr} {n : Nat} {H' H2 : Hp} {te : TE} {σ1 : St} (nD : Fresh H D) (hz : n ≤ 10000) (h : RelAt R H D n H') (s2 : Same H' H2)
    (he : ∀ (Q : VK), (∀ y H3, Same H2 H3 → (∀ b, y = .ref b → Fresh H2 b ∨ ∃ o, H b = some o) → R n y H3 → Q y H3) → te σ1 H2 Q) :
    te σ1 H2 fun y H5 => ∃ acc, H5 D = some (.lst acc) ∧ acc.length < sizeLine ∧ RelAt R H D (n + 1) (upd H5 D (.lst (acc ++ [y]))) := by
  obtain ⟨sH, ys, eD, ly, hy⟩ := h
  refine he _ fun y H3 s3 fr r => ?_
  have eD3 := s3 _ _ (s2 _ _ eD)
  have ny : y ≠ .ref D := fun e => by
    rcases fr D e with f | ⟨o, f⟩
    · rw [Fresh, s2 _ _ eD] at f
      cases f
    · rw [Fresh, f] at nD
      cases nD
  refine ⟨ys, eD3, by rw [sizeLine_eq]; omega, fun b o e => ?_, ys ++ [y], upd_same, by rw [List.length_append, ly]; rfl, fun j z ez => ?_⟩
  · rw [upd_ne (ne_of_none e nD)]
    exact s3 _ _ (s2 _ _ (sH _ _ e))
  · rcases Nat.lt_or_ge j ys.length with l | l
    · rw [List.getElem?_append_left l] at ez
      have q := hy j z ez
      exact ⟨S.put _ _ _ _ _ _ eD3 q.2 (S.mono _ _ _ _ (s2.trans s3) q.1), q.2⟩
    · rw [List.getElem?_append_right l] at ez
      have l0 : j - ys.length = 0 := by
        have := (List.getElem?_eq_some_iff.mp ez).1
        simp only [List.length_singleton] at this
        omega
      rw [l0, List.getElem?_cons_zero] at ez
      obtain rfl : y = z := Option.some.inj ez
      rw [show j = n by omega]
      exact ⟨S.put _ _ _ _ _ _ eD3 ny r, ny⟩
theorem rel_start {R : Nat → V → Hp → Prop} {D : Addr} (nD : Fresh H D) : RelAt R H D 0 (upd H D (.lst [])) := ⟨fun b o e => (upd_ne (ne_of_none e nD)).trans e, [], upd_same, rfl, fun j y h => by cases h⟩
theorem lcL_rel (R : Nat → V → Hp → Prop) (S : Stab R) (hs : SqL K H a xs) (hz : xs.length ≤ 10000)
    (he : ∀ i x, xs[i]? = some x → ∀ H2 (Q : VK), Same H H2 → (∀ y H3, Same H2 H3 → (∀ b, y = .ref b → Fresh H2 b ∨ ∃ o, H b = some o) → R i y H3 → Q y H3) → te ((wipe σ vs).set j (some x)) H2 Q)
    (k : ∀ D H' ys, Fresh H D → Same H H' → H' D = some (.lst ys) → ys.length = xs.length → (∀ i y, ys[i]? = some y → R i y H') → Q (.ref D) H') (hw : ∀ x, wipe ((wipe σ vs).set j (some x)) vs = wipe σ vs := by intro _; rfl) : LcL K (gName j) tYes te vs σ (.ref a) H Q :=
  lc_L hs (fun D i H' => RelAt R H D i H') (fun D nD => rel_start nD) (fun D i H' _ h => Same.seq h.1 hs) (fun D i x H' nD hx h => ⟨hw x, c_yes (iteT (rel_turn S nD (by have := (List.getElem?_eq_some_iff.mp hx).1; omega) h (Same.refl _) fun Q q => he i x hx H' Q h.1 q))⟩)
    fun D H' nD ⟨sH, ys, eD, ly, hy⟩ => k D H' ys nD sH eD ly fun i y e => (hy i y e).1
theorem lcT_rel (R : Nat → V → Hp → Prop) (S : Stab R) (hs : SqT K H a xs) (hz : xs.length ≤ 10000)
    (he : ∀ i x, xs[i]? = some x → ∀ H2 (Q : VK), Same H H2 → (∀ y H3, Same H2 H3 → (∀ b, y = .ref b → Fresh H2 b ∨ ∃ o, H b = some o) → R i y H3 → Q y H3) → te ((wipe σ vs).set j (some x)) H2 Q)
    (k : ∀ D H' ys, Fresh H D → Same H H' → H' D = some (.lst ys) → ys.length = xs.length → (∀ i y, ys[i]? = some y → R i y H') → Q (.ref D) H') (hw : ∀ x, wipe ((wipe σ vs).set j (some x)) vs = wipe σ vs := by intro _; rfl) : LcT K (gName j) tYes te vs σ (.ref a) H Q :=
  lc_T hs (fun D i H' => RelAt R H D i H') (fun D nD => rel_start nD) (fun D i H' _ h => Same.seqT h.1 hs) (fun D i x H' nD hx h => ⟨hw x, c_yes (iteT (rel_turn S nD (by have := (List.getElem?_eq_some_iff.mp hx).1; omega) h (Same.refl _) fun Q q => he i x hx H' Q h.1 q))⟩)
    fun D H' nD ⟨sH, ys, eD, ly, hy⟩ => k D H' ys nD sH eD ly fun i y e => (hy i y e).1
theorem lcR_rel {n : Int} (R : Nat → V → Hp → Prop) (S : Stab R) (hn : -(2 ^ 62) ≤ n ∧ n ≤ 10000)
    (he : ∀ i : Nat, (i : Int) < n → ∀ H2 (Q : VK), Same H H2 → (∀ y H3, Same H2 H3 → (∀ b, y = .ref b → Fresh H2 b ∨ ∃ o, H b = some o) → R i y H3 → Q y H3) → te ((wipe σ vs).set j (some (.int (i : Int)))) H2 Q)
    (k : ∀ D H' ys, Fresh H D → Same H H' → H' D = some (.lst ys) → ys.length = n.toNat → (∀ i y, ys[i]? = some y → R i y H') → Q (.ref D) H') (hw : ∀ x, wipe ((wipe σ vs).set j (some x)) vs = wipe σ vs := by intro _; rfl) : LcR1 (gName j) tYes te vs σ (.int n) H Q :=
  lc_R1 (by omega) (fun D i H' => RelAt R H D i H') (fun D nD => rel_start nD) (fun D i H' nD hi h => ⟨hw _, c_yes (iteT (rel_turn S nD (by omega) h (Same.refl _) fun Q q => he i hi H' Q h.1 q))⟩)
    fun D H' nD ⟨sH, ys, eD, ly, hy⟩ => k D H' ys nD sH eD ly fun i y e => (hy i y e).1
theorem lcE_rel (R : Nat → V → Hp → Prop) (S : Stab R) (hs : SqL K H a xs) (hz : xs.length ≤ 10000)
    (he : ∀ n x, xs[n]? = some x → ∀ H2 (Q : VK), Same H H2 → (∀ y H3, Same H2 H3 → (∀ b, y = .ref b → Fresh H2 b ∨ ∃ o, H b = some o) → R n y H3 → Q y H3) → te (((wipe σ vs).set i (some (.int (n : Int)))).set j (some x)) H2 Q)
    (k : ∀ D H' ys, Fresh H D → Same H H' → H' D = some (.lst ys) → ys.length = xs.length → (∀ i y, ys[i]? = some y → R i y H') → Q (.ref D) H')
    (hw : ∀ x y, wipe (((wipe σ vs).set i (some x)).set j (some y)) vs = wipe σ vs := by intro _ _; rfl) : LcE K (gTup K 2 (gCons (gName i) (gCons (gName j) gNil))) tYes te vs σ (.ref a) H Q :=
  lc_E hs (fun D i H' => RelAt R H D i H') (fun D nD => rel_start nD) (fun D i H' _ h => Same.seq h.1 hs) (fun D n x H' q nD hx h nq => by
    have s2 : Same H' (upd H' q (.tup [.int (n : Int), x])) := fun b o e => (upd_ne (ne_of_none e nq)).trans e
    refine g_tup (SqT.of upd_same) rfl (g_cons (g_name (g_cons (g_name (g_nil ⟨hw _ _, c_yes (iteT ?_)⟩)))))
    exact rel_turn S nD (by have := (List.getElem?_eq_some_iff.mp hx).1; omega) h s2 fun Q q => he n x hx _ Q (h.1.trans s2) q)
    fun D H' nD ⟨sH, ys, eD, ly, hy⟩ => k D H' ys nD sH eD ly fun i y e => (hy i y e).1
theorem stab_val {f : Nat → V → Prop} : Stab fun i y _ => f i y := ⟨fun _ _ _ _ _ h => h, fun _ _ _ _ _ _ _ _ h => h⟩
theorem stab_TI {f : Nat → List Int → Prop} : Stab fun i y H => ∃ ns, f i ns ∧ TI H y ns := ⟨fun _ _ _ _ s ⟨ns, h, t⟩ => ⟨ns, h, t.mono s⟩, fun i y H1 D acc acc' e _ ⟨ns, h, t, e1, e2⟩ => ⟨ns, h, t, e1, by
  rw [upd_ne]
  · exact e2
  · intro z
    rw [z, e] at e2
    cases e2⟩⟩
theorem lcL_igrow (p : Int → Bool) (f : Int → V) (hs : SqL K H a (ns.map V.int)) (hz : ns.length ≤ 10000) {tt : TT} (ht : ∀ x ∈ ns, ∀ H2 (QB : Bool → Hp → Prop), Same H H2 → (∀ H3, Same H2 H3 → QB (p x) H3) → tt ((wipe σ vs).set j (some (.int x))) H2 QB)
    (he : ∀ x ∈ ns, ∀ H2 (Q : VK), Same H H2 → p x = true → (∀ H3, Same H2 H3 → Q (f x) H3) → te ((wipe σ vs).set j (some (.int x))) H2 Q)
    (k : ∀ D H', Fresh H D → Same H H' → H' D = some (.lst ((ns.filter p).map f)) → Q (.ref D) H') (hw : ∀ x, wipe ((wipe σ vs).set j (some x)) vs = wipe σ vs := by intro _; rfl) : LcL K (gName j) tt te vs σ (.ref a) H Q :=
  lcL_grow (onI p) (mapI f) hs (by rw [List.length_map]; exact hz) (fun x hx H2 QB hs q => by
    obtain ⟨z, hz, rfl⟩ := List.mem_map.mp hx
    exact ht z hz H2 QB hs q) (fun x hx H2 Q hs hp q => by
    obtain ⟨z, hz, rfl⟩ := List.mem_map.mp hx
    exact he z hz H2 Q hs hp q) (fun D H' hD hS e => by
    rw [fil_ints] at e
    exact k D H' hD hS e) hw
/-! ### filters by place, growing -/
theorem rng_step (p : Nat → Bool) (f : Nat → V) (i : Nat) : ((List.range (i + 1)).filter p).map f = if p i = true then ((List.range i).filter p).map f ++ [f i] else ((List.range i).filter p).map f := by
  rw [List.range_succ, List.filter_append, List.map_append]
  by_cases h : p i = true
  · rw [if_pos h, List.filter_cons_of_pos h]
    rfl
  · rw [if_neg h, List.filter_cons_of_neg h, List.filter_nil, List.map_nil, List.append_nil]
theorem rng_short (p : Nat → Bool) (f : Nat → V) {i : Nat} (h : i ≤ 10000) : (((List.range i).filter p).map f).length < sizeLine := by
  have := List.length_filter_le p (List.range i)
  rw [List.length_range] at this
  rw [List.length_map, sizeLine_eq]
  omega
theorem lcL_ig {tt : TT} (p : Nat → Bool) (f : Nat → V) (hs : SqL K H a xs) (hz : xs.length ≤ 10000) (ht : ∀ i x, xs[i]? = some x → ∀ H2 (QB : Bool → Hp → Prop), Same H H2 → (∀ H3, Same H2 H3 → QB (p i) H3) → tt ((wipe σ vs).set j (some x)) H2 QB)
    (he : ∀ i x, xs[i]? = some x → ∀ H2 (Q : VK), Same H H2 → p i = true → (∀ H3, Same H2 H3 → Q (f i) H3) → te ((wipe σ vs).set j (some x)) H2 Q)
    (k : ∀ D H', Fresh H D → Same H H' → H' D = some (.lst (((List.range xs.length).filter p).map f)) → Q (.ref D) H') (hw : ∀ x, wipe ((wipe σ vs).set j (some x)) vs = wipe σ vs := by intro _; rfl) : LcL K (gName j) tt te vs σ (.ref a) H Q :=
  lc_L hs (fun D i H' => GrowAt (((List.range i).filter p).map f) H D H') (fun D hD => ⟨fun b u e => (upd_ne (ne_of_none e hD)).trans e, upd_same⟩) (fun D i H' _ h => Same.seq h.1 hs) (fun D i x H' hD hx h => ⟨hw x,
    grow_turn (b := p i) (y := f i) hD (rng_short p f (by have := (List.getElem?_eq_some_iff.mp hx).1; omega)) h (rng_step p f i) (fun H2 QB hs q => ht i x hx H2 QB hs q) (fun H2 Q hs hp q => he i x hx H2 Q hs hp q)⟩) fun D H' hD h => k D H' hD h.1 h.2
theorem lcT_ig {tt : TT} (p : Nat → Bool) (f : Nat → V) (hs : SqT K H a xs) (hz : xs.length ≤ 10000) (ht : ∀ i x, xs[i]? = some x → ∀ H2 (QB : Bool → Hp → Prop), Same H H2 → (∀ H3, Same H2 H3 → QB (p i) H3) → tt ((wipe σ vs).set j (some x)) H2 QB)
    (he : ∀ i x, xs[i]? = some x → ∀ H2 (Q : VK), Same H H2 → p i = true → (∀ H3, Same H2 H3 → Q (f i) H3) → te ((wipe σ vs).set j (some x)) H2 Q)
    (k : ∀ D H', Fresh H D → Same H H' → H' D = some (.lst (((List.range xs.length).filter p).map f)) → Q (.ref D) H') (hw : ∀ x, wipe ((wipe σ vs).set j (some x)) vs = wipe σ vs := by intro _; rfl) : LcT K (gName j) tt te vs σ (.ref a) H Q :=
  lc_T hs (fun D i H' => GrowAt (((List.range i).filter p).map f) H D H') (fun D hD => ⟨fun b u e => (upd_ne (ne_of_none e hD)).trans e, upd_same⟩) (fun D i H' _ h => Same.seqT h.1 hs) (fun D i x H' hD hx h => ⟨hw x,
    grow_turn (b := p i) (y := f i) hD (rng_short p f (by have := (List.getElem?_eq_some_iff.mp hx).1; omega)) h (rng_step p f i) (fun H2 QB hs q => ht i x hx H2 QB hs q) (fun H2 Q hs hp q => he i x hx H2 Q hs hp q)⟩) fun D H' hD h => k D H' hD h.1 h.2
theorem ones_of (p : Nat → Bool) (n : Nat) : HO.lst (((List.range n).filter p).map fun _ => V.int 1) = ones ((List.range n).filter p).length ∧ (((List.range n).filter p).length = 0 ↔ ∀ i, i < n → p i = false) := by
  constructor
  · unfold ones
    congr 1
    rw [List.map_replicate]
    exact List.map_const'
  · rw [List.length_eq_zero_iff, List.filter_eq_nil_iff]
    exact ⟨fun h i hi => Bool.eq_false_iff.mpr (h i (List.mem_range.mpr hi)), fun h i hi => Bool.eq_false_iff.mp (h i (List.mem_range.mp hi))⟩
/-- [1 for x in xs if ..], the test making new things -/
theorem lcL_onesG {tt : TT} (p : Nat → Bool) (hs : SqL K H a xs) (hz : xs.length ≤ 10000) (ht : ∀ i x, xs[i]? = some x → ∀ H2 (QB : Bool → Hp → Prop), Same H H2 → (∀ H3, Same H2 H3 → QB (p i) H3) → tt ((wipe σ vs).set j (some x)) H2 QB)
    (k : ∀ D c H', Fresh H D → Same H H' → H' D = some (ones c) → (c = 0 ↔ ∀ i, i < xs.length → p i = false) → Q (.ref D) H') (hw : ∀ x, wipe ((wipe σ vs).set j (some x)) vs = wipe σ vs := by intro _; rfl) : LcL K (gName j) tt (tC (.int 1)) vs σ (.ref a) H Q :=
  lcL_ig p (fun _ => .int 1) hs hz ht (fun i x hx H2 Q s hp q => q _ (Same.refl _)) (fun D H' nD s e => k D _ H' nD s (e.trans (congrArg some (ones_of p _).1)) (ones_of p _).2) hw
theorem lcT_onesG {tt : TT} (p : Nat → Bool) (hs : SqT K H a xs) (hz : xs.length ≤ 10000) (ht : ∀ i x, xs[i]? = some x → ∀ H2 (QB : Bool → Hp → Prop), Same H H2 → (∀ H3, Same H2 H3 → QB (p i) H3) → tt ((wipe σ vs).set j (some x)) H2 QB)
    (k : ∀ D c H', Fresh H D → Same H H' → H' D = some (ones c) → (c = 0 ↔ ∀ i, i < xs.length → p i = false) → Q (.ref D) H') (hw : ∀ x, wipe ((wipe σ vs).set j (some x)) vs = wipe σ vs := by intro _; rfl) : LcT K (gName j) tt (tC (.int 1)) vs σ (.ref a) H Q :=
  lcT_ig p (fun _ => .int 1) hs hz ht (fun i x hx H2 Q s hp q => q _ (Same.refl _)) (fun D H' nD s e => k D _ H' nD s (e.trans (congrArg some (ones_of p _).1)) (ones_of p _).2) hw
/-! ### lists by place; lists of ints -/
theorem paired_of {α β : Type} {R : α → β → Prop} : ∀ {ws : List α} {ns : List β}, ws.length = ns.length → (∀ (i : Nat) (y : α), ws[i]? = some y → ∃ n, ns[i]? = some n ∧ R y n) → Paired R ws ns
  | [], [], _, _ => .nil
  | [], _ :: _, h, _ => by cases h
  | _ :: _, [], h, _ => by cases h
  | w :: ws, n :: ns, l, h => .cons (by
      obtain ⟨m, e, r⟩ := h 0 w rfl
      cases e
      exact r) (paired_of (by simpa using l) fun i y e => h (i + 1) y e)
theorem paired_get {α β : Type} {R : α → β → Prop} : ∀ {ws : List α} {ns : List β} {i : Nat} {y : α}, Paired R ws ns → ws[i]? = some y → ∃ n, ns[i]? = some n ∧ R y n
  | _, _, 0, _, .cons h _, e => by
    rw [List.getElem?_cons_zero] at e
    cases e
    exact ⟨_, rfl, h⟩
  | _, _, i + 1, _, .cons _ t, e => by
    rw [List.getElem?_cons_succ] at e ⊢
    exact paired_get t e
theorem ys_of {ys zs : List V} (l : ys.length = zs.length) (h : ∀ (i : Nat) (y : V), ys[i]? = some y → zs[i]? = some y) : ys = zs := List.ext_getElem? fun i => by
  cases e : ys[i]? with
  | some y => exact (h i y e).symm
  | none =>
    rw [List.getElem?_eq_none_iff] at e
    exact (List.getElem?_eq_none_iff.mpr (by omega)).symm
/-- v is a list of the ints ns -/
def LI (H : Hp) (v : V) (ns : List Int) : Prop := ∃ t, v = .ref t ∧ H t = some (.lst (ns.map V.int))
theorem LI.mono {H' : Hp} (e : Same H H') {v : V} {ns : List Int} (h : LI H v ns) : LI H' v ns := by
  obtain ⟨t, rfl, h⟩ := h
  exact ⟨t, rfl, e _ _ h⟩
theorem LI.dp {v : V} {ns : List Int} (h : LI H v ns) : Dp K H v (dL ns) := by
  obtain ⟨t, rfl, h⟩ := h
  exact .lst (SqL.of h) (dpAll_ints ns)
abbrev LIs (H : Hp) : List V → List (List Int) → Prop := Paired (LI H)
theorem LIs.mono {H' : Hp} (e : Same H H') {vs : List V} {nss : List (List Int)} (h : LIs H vs nss) : LIs H' vs nss := Paired.mono (fun _ _ => LI.mono e) h
theorem LIs.dp : ∀ {vs : List V} {nss : List (List Int)}, LIs H vs nss → DpAll K H vs (nss.map dL)
  | _, _, .nil => .nil
  | _, _, .cons h t => .cons h.dp (LIs.dp t)
theorem stab_LI {f : Nat → List Int → Prop} : Stab fun i y H => ∃ ns, f i ns ∧ LI H y ns := ⟨fun _ _ _ _ s ⟨ns, h, t⟩ => ⟨ns, h, t.mono s⟩, fun i y H1 D acc acc' e ny ⟨ns, h, t, e1, e2⟩ => ⟨ns, h, t, e1, by
  rw [upd_ne]
  · exact e2
  · intro z
    rw [e1, z] at ny
    exact ny rfl⟩⟩
theorem fresh_back {H' : Hp} {p : Addr} (s : Same H H') (h : Fresh H' p) : Fresh H p := by
  cases e : H p with
  | none => exact e
  | some o =>
    rw [Fresh, s _ _ e] at h
    cases h
/-- tuples stay when a list is changed -/
theorem ti_put {c : Addr} {us as : List V} {nss : List (List Int)} (h : TIs H us nss) (e : H c = some (.lst as)) {bs : List V} : TIs (upd H c (.lst bs)) us nss := Paired.mono (fun v ns h => by
  obtain ⟨t, rfl, h⟩ := h
  refine ⟨t, rfl, ?_⟩
  rw [upd_ne]
  · exact h
  · intro z
    rw [z, e] at h
    cases h) h
theorem li_put {c : Addr} {us bs : List V} {nss : List (List Int)} (h : LIs H us nss) (e : ∀ u ∈ us, u ≠ .ref c) : LIs (upd H c (.lst bs)) us nss := paired_of h.length fun i y ey => by
  obtain ⟨n, hn, t, rfl, ht⟩ := paired_get h ey
  refine ⟨n, hn, t, rfl, ?_⟩
  rw [upd_ne]
  · exact ht
  · exact fun z => e _ (List.mem_of_getElem? ey) (by rw [z])
theorem li_app {us ws : List V} {as bs : List (List Int)} (h : LIs H us as) (k : LIs H ws bs) : LIs H (us ++ ws) (as ++ bs) := by
  induction h with
  | nil => exact k
  | cons a _ ih => exact .cons a ih
theorem gr_same0 {F H' : Hp} (hF : Same F H) (s : Same H H') : Gr M0 F H F H' := ⟨Same.refl _, hF.trans s, fun b o _ e => s b o e, fun _ _ _ e => e⟩
end
end Z

/-! Zs: sorted(t), t a tuple. -/
namespace PySem
open PyProof.Rows
section
variable {prog : Program} {w : World} {A : Around} {E : Value → Shared → Prop} {s : Shared}
theorem z_collect_tup {l : Addr} {o : Obj} {n : Nat} {vs : List Value} {Q : List Value → Shared → Prop} (ho : s.heap.get? l = some o) (hc : o.cls = .type "tuple") (hd : o.data = .seq vs.toArray n)
    (h : Q vs { s with heap := (s.heap.push (seqObj "list" #[] 0)).update s.heap.objs.size (Obj.mapSeq (· ++ vs.toArray)) }) (hsz : vs.length ≤ sizeLine) :
    wpAny (model prog w) A (collect (.ref l)) Q E s := by
  unfold collect
  refine wpAny_bind (wpAny_runValue (codeAny_builtin entry_proto_collect' ?_))
  show wpAny _ _ (do again (.builtin "list.__iadd__" ⟨[← newList [], .ref l], []⟩)) _ _ s
  refine wpAny_bind (wpAny_newList (wpAny_pure ⟨Code.quiet_builtin _ (by decide +kernel), codeAny_builtin entry_list_iadd' ?_⟩))
  show wpAny _ _ (Builtin.List.listExtendWith (.ref s.heap.objs.size) (.ref l) (.ref s.heap.objs.size)) _ _ { s with heap := s.heap.push (seqObj "list" #[] 0) }
  unfold Builtin.List.listExtendWith
  have ho' : (s.heap.push (seqObj "list" #[] 0)).get? l = some o := Heap.get?_push_of_some _ ho
  refine wpAny_bind (wpAny_typeOf (T := "tuple") ⟨o, ho', hc⟩ ?_)
  have ht : (Value.type "tuple" == Value.type "tuple") = true := by rfl
  rw [if_pos (by rw [ht]; simp)]
  refine wpAny_bind (listItems_at ho' hd ?_)
  refine wpAny_bind (listItems_at (xs := #[]) (n := 0) (Heap.get?_push_size _ rfl) rfl ?_)
  rw [if_neg (by simp)]
  refine wpAny_bind (listUpdate_at (xs := #[]) (n := 0) (Heap.get?_push_size _ rfl) rfl ?_ (Nat.zero_le _) (by show (#[] ++ vs.toArray).size ≤ sizeLine + 1; simp only [Array.size_append, List.size_toArray, List.length_nil]; omega))
  refine wpAny_pure ?_
  show wpAny (model prog w) A (do
      let o ← load s.heap.objs.size
      match o.data with
      | .seq xs _ => pure xs.toList
      | _ => unsupported "internal:collect") Q E { s with heap := (s.heap.push (seqObj "list" #[] 0)).update s.heap.objs.size (Obj.mapSeq (· ++ vs.toArray)) }
  refine wpAny_bind (wpAny_load (get?_update_seq (Heap.get?_push_size _ rfl) _) ?_)
  show wpAny _ _ (pure ((#[] : Array Value) ++ vs.toArray).toList) Q E _
  rw [show ((#[] : Array Value) ++ vs.toArray).toList = vs by simp]
  exact wpAny_pure h
end
end PySem
namespace SrtO
open PySem PyProof.Rows
section
variable {prog : Program} {w : World} {A : Around} {E : Value → Shared → Prop} {s : Shared}
theorem z_sorted_ordT {l : Addr} {o : Obj} {n : Nat} {vs : List Value} {ltv : Value → Value → Bool} {Q : Value → Shared → Prop} (O : Swo ltv) (ho : s.heap.get? l = some o) (hc : o.cls = .type "tuple") (hd : o.data = .seq vs.toArray n) (hz : vs.length ≤ sizeLine)
    (hS : 2 ≤ vs.length → ∀ (h₁ : Heap) (a : Addr), h₁.get? a = some (seqObj "list" vs.toArray 0) → (∀ b o, s.heap.get? b = some o → b ≠ a ∧ h₁.get? b = some o) → SortableO prog w A.in1.in1 { s with heap := h₁ } a vs ltv)
    (h : ∀ out : List Value, Srtd ltv out → Stb ltv out vs → Q (.ref (s.heap.objs.size + 1)) { s with heap := sortedAll s.heap vs out.toArray }) :
    wpAny (model prog w) A (call (.builtin "sorted") [.ref l]) Q E s := by
  refine Calls.call_function_entry kind_sorted plain_sorted entry_sorted (args_sorted1 _) ?_
  unfold Builtin.«sorted»
  refine wpAny_bind (m := checkCount "sorted" 1 1 _) (wpAny_pure ?_)
  refine wpAny_bind (z_collect_tup ho hc hd ?_ hz)
  refine wpAny_bind (wpAny_newList ?_ hz)
  have hsz : ((s.heap.push (seqObj "list" #[] 0)).update s.heap.objs.size (Obj.mapSeq (· ++ vs.toArray))).objs.size = s.heap.objs.size + 1 := by
    rw [Heap.size_update, size_push']
  have hoL : (((s.heap.push (seqObj "list" #[] 0)).update s.heap.objs.size (Obj.mapSeq (· ++ vs.toArray))).push (seqObj "list" vs.toArray 0)).get? (s.heap.objs.size + 1) = some (seqObj "list" vs.toArray 0) := by
    rw [← hsz]; exact Heap.get?_push_size _ rfl
  have keep : ∀ b o, s.heap.get? b = some o → b ≠ s.heap.objs.size + 1 ∧ (((s.heap.push (seqObj "list" #[] 0)).update s.heap.objs.size (Obj.mapSeq (· ++ vs.toArray))).push (seqObj "list" vs.toArray 0)).get? b = some o := fun b o q => by
    have hlt : b < s.heap.objs.size := Heap.lt_size q
    refine ⟨Nat.ne_of_lt (Nat.lt_succ_of_lt hlt), Heap.get?_push_of_some _ ?_⟩
    rw [Heap.get?_update_ne _ _ _ _ (Nat.ne_of_lt hlt)]
    exact Heap.get?_push_of_some _ q
  show wpAny _ _ _ _ _ { s with heap := ((s.heap.push (seqObj "list" #[] 0)).update s.heap.objs.size (Obj.mapSeq (· ++ vs.toArray))).push (seqObj "list" vs.toArray 0) }
  rw [hsz]
  refine wpAny_bind (wpAny_holding (wpAny_call_entry slot_list_sort ⟨_, hoL, rfl⟩ entry_list_sort (list_sort_ord O hoL hz (fun h2 => hS h2 _ _ hoL keep) fun out hs hb => ⟨_, rfl, ?_⟩) (args_list_sort _)))
  exact wpAny_pure ⟨_, rfl, h out hs hb⟩
end
end SrtO
namespace Z
open PySem PySem.Spec L2
open PyProof.Rows hiding St
/-- sorted(t), t a tuple of ints -/
def rSortedIT (K : PySem.W.Frag) : List V → Hp → VK → Prop := fun vs H Q => ∃ (a : Addr) (ns : List Int), vs = [V.ref a] ∧ SqT K H a (ns.map V.int) ∧ ∀ (ns' : List Int) (p : Addr), ns'.Perm ns → ns'.Pairwise (· ≤ ·) → H p = none → Q (.ref p) (upd H p (.lst (ns'.map V.int)))
section
variable {X : Cx}
theorem cr_sortedIT : CallR X (.builtin "sorted") (rSortedIT X.K) := by
  intro pins s σ H vs us Q I r h
  obtain ⟨a, ns, rfl, hs, q⟩ := h
  obtain ⟨its, rv, ⟨o, ho, hc, n, hd⟩, hz⟩ := I.tuple hs
  rw [Vals.ref1 r]
  have hi := rv.ints
  refine SrtO.z_sorted_ordT SrtO.swo_int ho hc hd (by rw [← rv.length]; exact hz) (fun h2 h₁ a' _ _ => SrtO.ints_sortable hi h2) fun out h1 h2 => ?_
  obtain ⟨k1, k2, k3⟩ := SrtO.ints_out hi h1 h2
  obtain ⟨ep, he'⟩ := PyProof.Rows.sortedAll_at s.heap its out.toArray
  have hlen : ((out.map SrtO.iv).map V.int).length ≤ sizeLine := by
    rw [List.length_map, k2.length_eq]
    rw [List.length_map] at hz
    exact hz
  exact ⟨.ref _, upd H (s.heap.objs.size + 1) (.lst ((out.map SrtO.iv).map V.int)), I.laid (t' := s.toks) (fun _ _ => PyProof.Rows.sortedAll_old) (Nat.le_succ _) ⟨hlen, out, ep, vals_of_ints k1, he'⟩, rfl, q _ _ k2 k3 (I.hok.fresh (Nat.le_succ _))⟩
def zSortedT (K : PySem.W.Frag) (w : World) : List V → Hp → VK → Prop := orC (zSorted K w) (rSortedIT K)
theorem cr_zSortedT (hc : X.calm = true) : CallR X (.builtin "sorted") (zSortedT X.K X.w) := cr_or2 (cr_zSorted hc) cr_sortedIT
end
section
variable {K : PySem.W.Frag} {w0 : World} {σ : L2.St} {H : Hp} {Q : VK} {a b : Addr} {ta tb : TE} {v : V} {ns : List Int}
theorem o_sortIT (hs : SqT K H a (ns.map V.int)) (h : ∀ (ns' : List Int) (p : Addr), ns'.Perm ns → ns'.Pairwise (· ≤ ·) → Fresh H p → Q (.ref p) (upd H p (.lst (ns'.map V.int)))) : zSortedT K w0 [.ref a] H Q := .inr ⟨a, ns, rfl, hs, h⟩
theorem e_dget (h : ta σ H fun x H1 => tb σ H1 fun y H2 => ∃ a v, x = .ref a ∧ DGet H2 a y (some v) ∧ Q v H2) : tDGet ta tb σ H Q := h
theorem dget_T {P : V → Prop} {ks : List Key} {kvs : List (List Key × V)} (ha : H a = some (.dT kvs)) (hb : H b = some (.tup (ks.map kV))) (hv : valV kvs ks = some v) (h : P v) : ∃ a' v', V.ref a = .ref a' ∧ DGet H a' (.ref b) (some v') ∧ P v' := ⟨a, v, rfl, by rw [← hv]; exact DGet.t ha hb, h⟩
theorem e_dnin' {ta tb : TE} (h : ta σ H fun y H1 => tb σ H1 fun x H2 => ∃ a o, x = .ref a ∧ DGet H2 a y o ∧ Q (.bl (!o.isSome)) H2) : tDNotIn ta tb σ H Q := h
end
end Z

/-! Zt: sorted(xs), xs a list of tuples of ints, none of them empty. -/
namespace SrtO
open PySem PyProof.Rows Srt
section
variable {prog : Program} {w : World} {A : Around} {E : Value → Shared → Prop} {s : Shared}
def lexD (D : Bool) : List Int → List Int → Bool
  | x :: xs, y :: ys => if x = y then lexD D xs ys else decide (x < y)
  | _, _ => D
theorem lexD_eq : ∀ ns ms : List Int, HT.lexLt ns ms = lexD (decide (ns.length < ms.length)) ns ms
  | [], [] => rfl
  | [], _ :: _ => by simp [HT.lexLt, lexD]
  | _ :: _, [] => by simp [HT.lexLt, lexD]
  | x :: xs, y :: ys => by
    rw [HT.lexLt_cons, lexD, lexD_eq xs ys]
    have : decide ((x :: xs).length < (y :: ys).length) = decide (xs.length < ys.length) := decide_eq_decide.mpr (by simp)
    rw [this]
theorem lexD_ints {D b : Bool} {Q : Bool → Shared → Prop} {xs ys : List Value} {ns ms : List Int} (hx : IntsAre xs ns) (hy : IntsAre ys ms) (i : Nat) (h : Q (lexD D ns ms) s) : PySem.W.KatLex prog w A b D Q (xs.zip ys) i s := by
  induction hx generalizing ys ms i with
  | nil =>
    have e : lexD D [] ms = D := by cases ms <;> rfl
    rw [e] at h
    exact PySem.W.kat_nil h
  | @cons p t xs ns hx ih =>
    cases hy with
    | nil => exact PySem.W.kat_nil h
    | @cons q u ys ms hy =>
      show PySem.W.KatLex prog w A b D Q ((Value.int p t, Value.int q u) :: xs.zip ys) i s
      refine PySem.W.kat_cons (wpAny_eqBool_int ?_)
      by_cases e : p = q
      · subst e
        rw [beq_self_eq_true]
        have d : lexD D (p :: ns) (p :: ms) = lexD D ns ms := by rw [lexD, if_pos rfl]
        rw [d] at h
        exact PySem.W.kat_yes (ih hy (i + 1) h)
      · rw [show (p == q) = false from beq_eq_false_iff_ne.mpr e]
        refine PySem.W.kat_no (TS.oneLt_ints _ ?_)
        have d : lexD D (p :: ns) (q :: ms) = decide (p < q) := by rw [lexD, if_neg e]
        rw [d] at h
        exact h
theorem ti_cmp {vs : List Value} {k : Value → List Int} (hp : ∀ v ∈ vs, TS.TupInts s.heap v (k v)) : Cmp prog w A s (tuples' true) (fun p => p.1 ∈ vs) (lt2 fun v u => HT.lexLt (k v) (k u)) := by
  intro p q hm hm'
  show wpAny (model prog w) A (keyLt' (tuples' true) p.1 q.1) (fun r s' => s' = s ∧ r = HT.lexLt (k p.1) (k q.1)) (fun _ _ => False) s
  obtain ⟨a, xs, e1, ⟨o, ho, hc, n, hdt⟩, i⟩ := hp _ hm
  obtain ⟨a', ys, e2, ⟨o', ho', hc', n', hdt'⟩, i'⟩ := hp _ hm'
  generalize k p.1 = ns at i ⊢
  generalize k q.1 = ms at i' ⊢
  rw [e1, e2]
  refine PySem.W.kat_lt ho hdt ho' hdt' ?_
  have sz : decide (xs.size < ys.size) = decide (ns.length < ms.length) := by
    have l1 := i.length
    have l2 := i'.length
    rw [Array.length_toList] at l1 l2
    rw [l1, l2]
  rw [sz]
  exact lexD_ints i i' 0 ⟨rfl, (lexD_eq ns ms).symm⟩
theorem ti_firsts {h : Heap} {k : Value → List Int} : ∀ vs : List Value, (∀ v ∈ vs, TS.TupInts h v (k v) ∧ k v ≠ []) → ∃ fs, PySem.W.KatTups h vs fs ∧ fs.length = vs.length ∧ ∀ f, f ∈ fs → ∃ n t, f = Value.int n t
  | [], _ => ⟨[], PySem.W.KatTups.nil, rfl, fun f hf => by simp at hf⟩
  | v :: vs, x => by
    obtain ⟨fs, kt, hl, hi⟩ := ti_firsts vs fun u hu => x u (List.mem_cons_of_mem _ hu)
    obtain ⟨⟨a, xs, rfl, ⟨o, ho, hc, n, hdt⟩, i⟩, hn⟩ := x v (List.mem_cons_self ..)
    obtain ⟨y, ys, e⟩ : ∃ y ys, xs.toList = y :: ys := by
      cases q : xs.toList with
      | nil =>
        rw [q] at i
        have l := i.length
        rw [List.length_nil] at l
        exact absurd (List.length_eq_zero_iff.mp l.symm) hn
      | cons y ys => exact ⟨y, ys, rfl⟩
    obtain ⟨m, t, hy⟩ := i.all y (by rw [e]; exact List.mem_cons_self ..)
    refine ⟨y :: fs, PySem.W.KatTups.cons ho hc hdt ?_ kt, by simp [hl], ?_⟩
    · have z := congrArg (fun l : List Value => l[0]?) e
      simpa using z
    · intro f hf
      rcases List.mem_cons.mp hf with rfl | hf
      · exact ⟨m, t, hy⟩
      · exact hi f hf
theorem ti_sortable {a : Addr} {vs : List Value} {k : Value → List Int} (h0 : 0 < vs.length) (hp : ∀ v ∈ vs, TS.TupInts s.heap v (k v) ∧ k v ≠ []) (ha : ∀ o, s.heap.get? a = some o → o.cls ≠ .type "tuple") : SortableO prog w A s a vs fun v u => HT.lexLt (k v) (k u) := by
  intro h' keep
  have hp' : ∀ v ∈ vs, TS.TupInts h' v (k v) ∧ k v ≠ [] := fun v hm => ⟨(hp v hm).1.keeps fun b o e c => keep b o (fun z => by subst z; exact ha o e c) e, (hp v hm).2⟩
  obtain ⟨fs, h1, h2, h3⟩ := ti_firsts vs hp'
  refine ⟨tuples' true, fun Q E hq => ?_, ti_cmp fun v hm => (hp' v hm).1⟩
  refine PySem.W.kat_kind (T := .type "int") h1 (by omega) (fun f hm => ?_) (by rfl) ?_
  · obtain ⟨x, t, rfl⟩ := h3 f hm
    exact PySem.W.Looks.now
  · have e : (Value.type "int" != Value.type "tuple") = true := by first | decide +kernel | rfl | decide
    rw [e]
    exact hq
end
end SrtO
namespace Z
open PySem PySem.Spec L2
open PyProof.Rows hiding St
/-- sorted(xs), xs tuples of ints, none empty -/
def rSortedTI (K : PySem.W.Frag) : List V → Hp → VK → Prop := fun vs H Q => ∃ (a : Addr) (xs : List V) (dss : List (List Int)), vs = [V.ref a] ∧ SqL K H a xs ∧ TIs H xs dss ∧ (∀ d ∈ dss, d ≠ []) ∧
  ∀ ys ess p, TIs H ys ess → ys.Perm xs → ess.Perm dss → ess.Pairwise (fun d e => HT.lexLt e d = false) → H p = none → Q (.ref p) (upd H p (.lst ys))
theorem pair_map {α β : Type} {R : α → β → Prop} (f : α → β) : ∀ {xs : List α} {ds : List β}, Paired R xs ds → (∀ x d, x ∈ xs → R x d → f x = d) → ds = xs.map f
  | _, _, .nil, _ => rfl
  | _, _, .cons a r, hf => by rw [List.map_cons, hf _ _ (List.mem_cons_self ..) a, ← pair_map f r fun x d hx r => hf x d (List.mem_cons_of_mem _ hx) r]
theorem pair_all {α β γ : Type} {R : γ → β → Prop} (g : α → γ) (f : α → β) : ∀ {ys : List α}, (∀ y ∈ ys, R (g y) (f y)) → Paired R (ys.map g) (ys.map f)
  | [], _ => .nil
  | y :: ys, h => .cons (h y (List.mem_cons_self ..)) (pair_all g f fun z hz => h z (List.mem_cons_of_mem _ hz))
theorem pair_back {α β γ : Type} {R : γ → β → Prop} (g : α → γ) : ∀ {xs : List α} {ds : List β}, Paired R (xs.map g) ds → Paired (fun v d => R (g v) d) xs ds
  | [], _, .nil => .nil
  | _ :: _, _, .cons a r => .cons a (pair_back g r)
section
variable {X : Cx}
theorem cr_sortedTI : CallR X (.builtin "sorted") (rSortedTI X.K) := by
  intro pins s σ H vs us Q I r h
  obtain ⟨a, xs, dss, rfl, hs, ht, hn, q⟩ := h
  obtain ⟨its, rv, hl, hz⟩ := I.list hs
  obtain ⟨u, rfl, ru⟩ := vals1 r
  obtain rfl : u = Value.ref a := ru
  obtain ⟨e1, e2⟩ := refs_back rv fun x m => by
    obtain ⟨j, hj, rfl⟩ := List.getElem_of_mem m
    obtain ⟨d, _, t, e, _⟩ := ht.get (List.getElem?_eq_getElem hj)
    exact ⟨t, e⟩
  have tup : ∀ v ∈ its, TS.TupInts s.heap v (TS.intsOf s.heap v) ∧ TS.intsOf s.heap v ≠ [] ∧ TI H (backV v) (TS.intsOf s.heap v) := fun v hv => by
    obtain ⟨t, rfl⟩ := e2 v hv
    have hm : V.ref t ∈ xs := by rw [e1]; exact List.mem_map.mpr ⟨_, hv, rfl⟩
    obtain ⟨j, hj, ej⟩ := List.getElem_of_mem hm
    obtain ⟨d, hd, t', e, et⟩ := ht.get (List.getElem?_eq_getElem hj)
    rw [ej] at e
    cases e
    obtain ⟨_, its2, r2, o, ho, hc, n, hdt⟩ := I.hok _ _ et
    have ti : TS.TupInts s.heap (.ref t) d := ⟨t, its2.toArray, rfl, ⟨o, ho, hc, n, hdt⟩, r2.ints⟩
    rw [ti.ints]
    exact ⟨ti, hn d (List.mem_of_getElem? hd), t, rfl, et⟩
  have hzs : its.length ≤ sizeLine := by rw [← rv.length]; exact hz
  refine SrtO.sorted_ord (NtL.swo_lexL (TS.intsOf s.heap)) hl.isList hzs (fun h2 h₁ a' ha kk => ?_) fun out h1 h2 => ?_
  · refine SrtO.ti_sortable (s := { s with heap := h₁ }) (by omega) (fun v hv => ⟨(tup v hv).1.keeps fun b o e _ => (kk b o e).2, (tup v hv).2.1⟩) fun o e => ?_
    have e' : some o = some (seqObj "list" its.toArray 0) := e.symm.trans ha
    cases e'
    intro c
    exact absurd (Value.type.inj c) (by decide)
  · obtain ⟨ep, he'⟩ := PyProof.Rows.sortedAll_at s.heap its out.toArray
    have hp := h2.perm
    have h3 : ∀ u ∈ out, ∃ a, u = Value.ref a := fun u hu => e2 u (hp.mem_iff.mp hu)
    have e0 : dss = its.map (TS.intsOf s.heap) := by
      have hf : ∀ x d, x ∈ its → TI H (backV x) d → TS.intsOf s.heap x = d := fun x d hx r => by
        obtain ⟨t, et, e⟩ := r
        obtain ⟨t', et', e'⟩ := (tup x hx).2.2
        rw [et] at et'
        cases et'
        rw [e] at e'
        have := Option.some.inj e'
        injection this with this
        exact ((List.map_inj_right fun a b h => by cases h; rfl).mp this).symm
      rw [e1] at ht
      exact pair_map _ (pair_back backV ht) hf
    have hlen : (out.map backV).length ≤ sizeLine := by
      rw [List.length_map, hp.length_eq]
      exact hzs
    refine ⟨.ref _, upd H (s.heap.objs.size + 1) (.lst (out.map backV)), I.laid (t' := s.toks) (fun _ _ => PyProof.Rows.sortedAll_old) (Nat.le_succ _) ⟨hlen, out, ep, vals_back h3, he'⟩, rfl, q _ (out.map (TS.intsOf s.heap)) _ (pair_all _ _ fun v hv => (tup v (hp.mem_iff.mp hv)).2.2) (by rw [e1]; exact hp.map backV) ?_ ?_ (I.hok.fresh (Nat.le_succ _))⟩
    · rw [e0]
      exact hp.map _
    · exact List.pairwise_map.mpr (h1.imp fun {x y} z => z)
/-! ### two sorted lists of the same tuples are the same -/
theorem lex_tot : ∀ {a b : List Int}, HT.lexLt a b = false → HT.lexLt b a = false → a = b
  | [], [], _, _ => rfl
  | [], _ :: _, h, _ => by cases h
  | _ :: _, [], _, h => by cases h
  | x :: r, y :: t, h1, h2 => by
    rw [HT.lexLt_cons] at h1 h2
    by_cases e : x = y
    · subst e
      rw [if_pos rfl] at h1 h2
      rw [lex_tot h1 h2]
    · rw [if_neg e, decide_eq_false_iff_not] at h1
      rw [if_neg (fun z => e z.symm), decide_eq_false_iff_not] at h2
      omega
theorem sorted_one {a b : List (List Int)} (ha : a.Pairwise fun d e => HT.lexLt e d = false) (hb : b.Pairwise fun d e => HT.lexLt e d = false) (p : a.Perm b) : a = b := p.eq_of_pairwise (fun _ _ _ _ h1 h2 => lex_tot h2 h1) ha hb
theorem o_sortTI {a : Addr} {xs : List V} {dss : List (List Int)} {K : PySem.W.Frag} {H : Hp} {Q : VK} (hs : SqL K H a xs) (ht : TIs H xs dss) (hn : ∀ d ∈ dss, d ≠ []) (h : ∀ ys ess p, TIs H ys ess → ys.Perm xs → ess.Perm dss → ess.Pairwise (fun d e => HT.lexLt e d = false) → H p = none → Q (.ref p) (upd H p (.lst ys))) : rSortedTI K [.ref a] H Q := ⟨a, xs, dss, rfl, hs, ht, hn, h⟩
end
end Z

open PySem PySem.Spec L2
open PyProof.Rows hiding St
local macro_rules | `(tactic| walk_at "ne") => `(tactic| first
  | with_reducible assumption
  | (refine Ne.symm ?_; with_reducible assumption)
  | exact Z.ne_fresh (by assumption) (by walk_at "at")
  | exact Z.fresh_ne (by assumption) (by walk_at "at"))
local macro_rules | `(tactic| walk_at "at") => `(tactic| first
  | with_reducible assumption
  | exact upd_same
  | exact Eq.trans (upd_ne (by walk_at "ne")) (by walk_at "at")
  | exact Z.Gr.hh (by assumption) _ _ (by first | (intro hh; exact hh) | walk_at "ne") (by walk_at "at")
  | (exact Z.Gr.fh (by assumption) _ _ (by assumption)))
local macro_rules | `(tactic| walk_at "same") => `(tactic| first
  | with_reducible assumption
  | with_reducible exact Same.refl _
  | exact Z.Gr.fh (by assumption)
  | exact Z.Gr.same (by assumption)
  | (refine Z.same_new ?_ (by assumption); walk_at "same")
  | (refine Z.same_mut ?_ (by assumption); walk_at "same"))
local macro_rules | `(tactic| walk_at "sqL") => `(tactic| first
  | with_reducible assumption
  | exact SqL.of (by walk_at "at")
  | ((refine Same.seq ?_ (by with_reducible assumption)); · walk_at "same"))
local macro_rules | `(tactic| walk_at "sqT") => `(tactic| first
  | with_reducible assumption
  | exact SqT.of (by walk_at "at")
  | ((refine Z.Same.seqT ?_ (by with_reducible assumption)); · walk_at "same"))
local macro_rules | `(tactic| walk_at "len") => `(tactic| first
  | assumption
  | omega
  | (simp only [List.length_append, List.length_cons, List.length_nil, List.length_map, List.length_set, List.length_replicate, List.length_range, sizeLine_eq]; omega)
  | (simp only [sizeLine_eq]; omega))
local macro_rules | `(tactic| walk_at "side") => `(tactic| first
  | rfl
  | assumption
  | omega
  | exact Or.inl ⟨by omega, by omega⟩
  | exact Or.inr ⟨by omega, by omega⟩
  | walk_at "len")
local macro_rules | `(tactic| walk_at "s1") => `(tactic| first
  | with_reducible apply Z.e_var rfl
  | with_reducible apply Z.e_c
  | with_reducible apply Z.e_op
  | with_reducible apply Z.s_seq
  | with_reducible apply Z.s_asgN
  | with_reducible apply Z.s_ifS
  | with_reducible apply Z.a_cons
  | with_reducible apply Z.a_nil
  | with_reducible apply Z.c_test
  | with_reducible apply Z.bl_if
  | with_reducible apply Z.o_eqI
  | with_reducible apply Z.o_neI
  | with_reducible apply Z.o_eqS
  | with_reducible apply Z.o_neS
  | with_reducible apply Z.o_neB
  | with_reducible apply Z.o_eqB
  | with_reducible apply Z.o_isT
  | with_reducible apply Z.s_aug rfl
  | with_reducible apply Z.o_ipOr
  | with_reducible apply Z.o_ipI
  | with_reducible apply Z.o_and1
  | with_reducible apply Z.o_and
  | with_reducible apply Z.o_or
  | with_reducible apply Z.o_shr
  | with_reducible apply Z.e_bits
  | with_reducible apply Z.bits_
  | with_reducible apply Z.e_lcE
  | with_reducible apply Z.e_tupRg2
  | with_reducible apply Z.e_tupRg1
  | with_reducible apply Z.e_lstRg2
  | with_reducible apply Z.e_lstRg1
  | with_reducible apply Z.o_lt
  | with_reducible apply Z.o_le
  | with_reducible apply Z.o_gt
  | with_reducible apply Z.o_ge
  | with_reducible apply Z.o_add
  | with_reducible apply Z.o_sub
  | ((with_reducible refine Z.o_pow ?_ ?_); (· exact ⟨by decide, by decide, by decide⟩); (try simp only [Int.reduceToNat, Int.reducePow]))
  | ((with_reducible refine Z.o_mod ?_ ?_); · walk_at "side")
  | ((with_reducible refine Z.o_div ?_ ?_ ?_); iterate 2 (· walk_at "side"))
  | ((with_reducible refine Z.o_div70 ?_ ?_ ?_); iterate 2 (· walk_at "side"))
  | ((with_reducible refine Z.o_mul ?_ ?_); · walk_at "side")
  | with_reducible apply Z.e_cb
  | ((with_reducible apply Z.o_lenL); · walk_at "sqL")
  | ((with_reducible apply Z.o_lenT); · walk_at "sqT")
  | ((with_reducible apply Z.o_ixL); (· walk_at "sqL"); (· rfl))
  | ((with_reducible apply Z.o_ixT); (· walk_at "sqT"); (· rfl))
  | ((with_reducible apply Z.o_setL); (· walk_at "at"); (· rfl))
  | ((with_reducible apply Z.o_sum); (· walk_at "sqL"))
  | with_reducible apply Z.s_ret
  | with_reducible apply Z.s_retN
  | with_reducible apply Z.s_next
  | with_reducible apply Z.s_drop
  | with_reducible apply Z.c_and
  | with_reducible apply Z.c_or
  | with_reducible apply Z.c_not
  | with_reducible apply Z.c_tru
  | with_reducible apply Z.c_B
  | with_reducible apply Z.e_un
  | with_reducible apply Z.o_neg
  | with_reducible apply Z.e_if
  | with_reducible apply Z.e_call
  | with_reducible apply Z.e_callD
  | with_reducible apply Z.e_callN
  | with_reducible apply Z.e_callNS
  | with_reducible refine Z.kw_go rfl rfl ?_
  | with_reducible apply Z.e_tup
  | with_reducible apply Z.e_lst
  | with_reducible apply Z.e_chain
  | with_reducible apply Z.s_asgS
  | with_reducible apply Z.s_asgT
  | with_reducible apply Z.s_asgU
  | with_reducible apply Z.s_forL
  | with_reducible apply Z.s_forV
  | with_reducible apply Z.e_lc2TL
  | with_reducible apply Z.s_forT
  | with_reducible apply Z.s_forR1
  | with_reducible apply Z.s_forR2
  | with_reducible apply Z.s_forE
  | with_reducible apply Z.e_lcL
  | with_reducible apply Z.e_lcT
  | with_reducible apply Z.e_lcR1
  | with_reducible apply Z.e_lcR2
  | with_reducible apply Z.c_yes
  | with_reducible apply Z.s_break
  | with_reducible apply Z.s_cont
  | with_reducible apply Z.o_isNr
  | with_reducible apply Z.o_isNi
  | with_reducible apply Z.o_isNs
  | with_reducible apply Z.o_isNn
  | with_reducible apply Z.o_notNr
  | with_reducible apply Z.o_notNi
  | with_reducible apply Z.o_notNs
  | with_reducible apply Z.o_notNn
  | with_reducible apply Z.t_bl
  | with_reducible apply Z.o_isN
  | with_reducible apply Z.o_notN
  | with_reducible apply Z.e_bm
  | with_reducible apply Z.e_bm0
  | with_reducible apply Z.g_name
  | with_reducible apply Z.g_cons
  | with_reducible apply Z.g_nil
  | with_reducible apply Z.g_sub
  | with_reducible apply Z.e_andV
  | with_reducible apply Z.e_orV
  | with_reducible apply Z.e_notV
  | with_reducible apply Z.e_notT
  | ((with_reducible apply Z.g_tup); (· walk_at "sqT"); (· rfl))
  | ((with_reducible apply Z.g_lst); (· walk_at "sqL"); (· rfl))
  | with_reducible apply Z.e_dget
  | with_reducible apply Z.e_dnin'
  | with_reducible apply Z.e_dcL
  | with_reducible apply Z.e_dnin
  | with_reducible apply Z.o_nisF
  | with_reducible apply Z.o_nisT
  | with_reducible apply Z.s_raise
  | with_reducible apply Z.e_mkO
  | with_reducible apply Z.e_callS
  | with_reducible apply Z.e_veI
  | with_reducible apply Z.s_ost
  | with_reducible apply Z.e_xfA
  | with_reducible apply Z.s_try
  | with_reducible apply Z.e_dnewT
  | with_reducible apply Z.e_dnewK
  | with_reducible apply Z.s_par
  | with_reducible apply Z.par_
  | with_reducible apply Z.s_dput
  | with_reducible apply Z.e_din
  | with_reducible apply Z.e_sl
  | with_reducible apply Z.p_none
  | with_reducible apply Z.p_some
  | with_reducible apply Z.p_int
  | with_reducible apply Z.z_int1
  | with_reducible apply Z.z_int1b
  | with_reducible apply Z.z_abs
  | with_reducible apply Z.z_max2
  | with_reducible apply Z.z_min2
  | ((with_reducible refine Z.w_split ?_ ?_); · rfl)
  | with_reducible apply Z.i_int_int
  | ((with_reducible apply Z.i_T_tuple); · walk_at "sqT")
  | ((with_reducible apply Z.i_L_tuple); · walk_at "sqL")
  | ((with_reducible apply Z.i_T_list); · walk_at "sqT")
  | ((with_reducible apply Z.i_L_list); · walk_at "sqL")
  | ((with_reducible apply Z.i_T_int); · walk_at "sqT")
  | ((with_reducible apply Z.i_L_int); · walk_at "sqL")
  | ((with_reducible apply Z.i_T_bool); · walk_at "sqT")
  | ((with_reducible apply Z.i_L_bool); · walk_at "sqL")
  | ((with_reducible apply Z.i_T_str); · walk_at "sqT")
  | ((with_reducible apply Z.i_L_str); · walk_at "sqL")
  | with_reducible apply Z.i_int_bool
  | with_reducible apply Z.i_int_str
  | with_reducible apply Z.i_int_tuple
  | with_reducible apply Z.i_int_list
  | with_reducible apply Z.i_str_str
  | with_reducible apply Z.i_str_tuple
  | with_reducible apply Z.i_str_list
  | with_reducible apply Z.i_str_int
  | with_reducible apply Z.i_str_bool
  | with_reducible apply Z.i_bl_int
  | with_reducible apply Z.i_bl_bool
  | with_reducible apply Z.i_bl_str
  | with_reducible apply Z.i_bl_tuple
  | with_reducible apply Z.i_bl_list
  | with_reducible apply Z.i_non_int
  | with_reducible apply Z.i_non_bool
  | with_reducible apply Z.i_non_str
  | with_reducible apply Z.i_non_tuple
  | with_reducible apply Z.i_non_list)
local macro_rules | `(tactic| walk_at "dec") => `(tactic| first | assumption | with_reducible rfl | omega | exact Z.ref_ne | exact Z.int_ne | exact Z.str_ne | (simp only [List.length_nil, List.length_cons]; omega) | decide)
local macro_rules | `(tactic| walk_at "s2") => `(tactic| first
  | with_reducible refine iteT ?_
  | with_reducible refine iteF ?_
  | with_reducible refine Z.iteNT ?_
  | with_reducible refine Z.iteNF ?_
  | ((with_reducible refine Z.if_t ?_ ?_); (· walk_at "dec"))
  | ((with_reducible refine Z.if_f ?_ ?_); (· walk_at "dec"))
  | ((with_reducible refine Z.if_nt ?_ ?_); (· walk_at "dec"))
  | ((with_reducible refine Z.if_nf ?_ ?_); (· walk_at "dec")))
local macro_rules | `(tactic| walk_at "rd") => `(tactic| repeat (first | walk_at "s1" | walk_at "s2"))
local macro_rules | `(tactic| walk_at "if") => `(tactic| first
  | with_reducible refine Z.if_dec (fun h => ?_) (fun h => ?_)
  | with_reducible refine Z.if_ndec (fun h => ?_) (fun h => ?_)
  | with_reducible refine Z.if_nb (fun h => ?_) (fun h => ?_)
  | with_reducible refine Z.if_b (fun h => ?_) (fun h => ?_))

namespace Y
open PySem PySem.Spec L2 Z
open PyProof.Rows hiding St
structure Ad where
  P : Program
  w : World
theorem bitsN_snoc (a : List Int) (z : Int) : bitsN (a ++ [z]) = bitsN a ||| 2 ^ z.toNat := by
  rw [bitsN_app, bitsN, bitsN, Nat.or_zero]
abbrev nV (n : Nat) : V := .int (n : Int)
inductive q_bits_of (K : PySem.W.Frag) (ad : Ad) : V → Hp → VK → Prop
  | mk {a : Addr} {ns : List Int} {H : Hp} {Q : VK} (hs : SqT K H a (ns.map V.int)) (h : ∀ d ∈ ns, 0 ≤ d ∧ d ≤ 1000) (k : Q (.int (bitsN ns : Nat)) H) : q_bits_of K ad (.ref a) H Q
def sp_bits_of (K : PySem.W.Frag) (ad : Ad) : Sp := fun vs H Q _ => match vs with | [x0] => q_bits_of K ad x0 H Q | _ => False
theorem c_bits_of {K : PySem.W.Frag} {ad : Ad} {x0 : V} {H : Hp} {Q : VK} {E : XK} (h : q_bits_of K ad x0 H Q) : sp_bits_of K ad ([x0] ++ []) H Q E := h
theorem n_bits_of {K : PySem.W.Frag} {ad : Ad} {vs : List V} {H : Hp} {Q : VK} {E : XK} (h : sp_bits_of K ad vs H Q E) : ∃ x0, vs = [x0] ∧ q_bits_of K ad x0 H Q := match vs, h with | [x0], h => ⟨x0, rfl, h⟩
def t_bits_of (K : PySem.W.Frag) (ad : Ad) : TS := (tSeq (tAsg (tC (.int 0)) (gName 1))
    (tSeq (tFor (iTup K (tVar 0)) (gName 2)
    (tAug 1 (tOp zShl (tC (.int 1)) (tVar 2)) (ipI fun i j => Builtin.bitOr i j)))
    (tRet (tVar 1))))
theorem w_bits_of {K : PySem.W.Frag} {ad : Ad} {x0 : V} {H : Hp} {Q : VK} (h : q_bits_of K ad x0 H Q) : t_bits_of K ad ⟨fun _ H' => Q .non H', Q, fun _ _ => False, fun _ _ => False⟩ [some x0, none, none] H := by
  cases h with
  | @mk a ns _ _ hs h k =>
    unfold t_bits_of
    walk_at "rd"
    refine lp_tup hs (fun i σ' H' => H' = H ∧ ∃ y, σ' = [some (.ref a), some (.int (bitsN (ns.take i) : Nat)), y]) ⟨rfl, _, rfl⟩ (fun i σ' H' _ h => by rw [h.1]; exact hs) ?_ ?_
    · rintro i x σ' H' hx ⟨rfl, y, rfl⟩
      rw [List.getElem?_map] at hx
      obtain ⟨z, hz, rfl⟩ := Option.map_eq_some_iff.mp hx
      have hz2 := h z (List.mem_of_getElem? hz)
      obtain ⟨k', rfl⟩ : ∃ k' : Nat, z = (k' : Int) := ⟨z.toNat, by omega⟩
      have tk : ns.take (i + 1) = ns.take i ++ [(k' : Int)] := by
        rw [List.take_add_one, hz]
        rfl
      walk_at "rd"
      refine o_shl1 (by omega) ?_
      walk_at "rd"
      refine ⟨rfl, some (.int (k' : Int)), ?_⟩
      rw [tk, bitsN_snoc, Int.toNat_natCast]
      rfl
    · rintro σ' H' ⟨rfl, y, rfl⟩
      rw [List.length_map, List.take_length]
      walk_at "rd"
      exact k
inductive q_seats_in (K : PySem.W.Frag) (ad : Ad) : V → Hp → VK → Prop
  | mk {n : Nat} {H : Hp} {Q : VK} (h : n < 2 ^ 1000) (k : ∀ t H', Same H H' → Fresh H t → H' t = some (.tup ((seatsN n).map V.int)) → Q (.ref t) H') : q_seats_in K ad (.int (n : Int)) H Q
def sp_seats_in (K : PySem.W.Frag) (ad : Ad) : Sp := fun vs H Q _ => match vs with | [x0] => q_seats_in K ad x0 H Q | _ => False
theorem c_seats_in {K : PySem.W.Frag} {ad : Ad} {x0 : V} {H : Hp} {Q : VK} {E : XK} (h : q_seats_in K ad x0 H Q) : sp_seats_in K ad ([x0] ++ []) H Q E := h
theorem n_seats_in {K : PySem.W.Frag} {ad : Ad} {vs : List V} {H : Hp} {Q : VK} {E : XK} (h : sp_seats_in K ad vs H Q E) : ∃ x0, vs = [x0] ∧ q_seats_in K ad x0 H Q := match vs, h with | [x0], h => ⟨x0, rfl, h⟩
def t_seats_in (K : PySem.W.Frag) (ad : Ad) : TS := (tRet (tCB (zTuple K) (tCons (tLc (iRng1 (tCons (tBits (tVar 0)) tNil)) (gName 1) (zTru K (tOp zAnd (tOp zShr (tVar 0) (tVar 1)) (tC (.int 1)))) (tVar 1) [1]) tNil)))
theorem w_seats_in {K : PySem.W.Frag} {ad : Ad} {x0 : V} {H : Hp} {Q : VK} (h : q_seats_in K ad x0 H Q) : t_seats_in K ad ⟨fun _ H' => Q .non H', Q, fun _ _ => False, fun _ _ => False⟩ [some x0, none] H := by
  cases h with
  | @mk n _ _ h k =>
    unfold t_seats_in
    have hb : Builtin.Int.intBits (n : Int) ≤ 1000 := by
      have := PyProof.Rows.intBits_le (show (n : Int).natAbs < 2 ^ 1000 by rw [Int.natAbs_natCast]; exact h)
      omega
    walk_at "rd"
    refine lcR_grow (fun i : Nat => n.testBit i) nV ⟨by omega, by omega⟩ (fun i hi H2 QB s2 q => ?_) (fun i hi H2 Q2 s2 hp q => ?_) (fun D H' nD s' eD => ?_)
    · walk_at "rd"
      refine t_bit ?_
      exact q _ (Same.refl _)
    · walk_at "rd"
      exact q _ (Same.refl _)
    · walk_at "rd"
      refine o_tupleL (SqL.of eD) fun t nt => ?_
      have ft : Fresh H t := by
        cases e : H t with
        | none => exact e
        | some o =>
          rw [Fresh, s' _ _ e] at nt
          cases nt
      refine k t _ (same_new s' nt) ft ?_
      rw [upd_same, Int.toNat_natCast, seatsN, List.map_map]
      rfl
def leastN (ns : List Nat) (n : Nat) : Bool := !(ns.any fun o => decide (o ≠ n) && decide (o &&& n = o))
inductive q_least_of (K : PySem.W.Frag) (ad : Ad) : V → Hp → VK → Prop
  | mk {a : Addr} {ns : List Nat} {H : Hp} {Q : VK} (hs : SqL K H a (ns.map nV)) (hl : ns.length ≤ 1000) (k : ∀ D H', Same H H' → Fresh H D → H' D = some (.lst ((ns.filter (leastN ns)).map nV)) → Q (.ref D) H') : q_least_of K ad (.ref a) H Q
theorem nV_map (ns : List Nat) : (ns.map fun n : Nat => (n : Int)).map V.int = ns.map nV := by
  rw [List.map_map]
  rfl
theorem fil_nat (p : Int → Bool) (q : Nat → Bool) : ∀ ns : List Nat, (∀ n ∈ ns, p (n : Int) = q n) → ((ns.map fun n : Nat => (n : Int)).filter p).map V.int = (ns.filter q).map nV
  | [], _ => rfl
  | n :: ns, h => by
    rw [List.map_cons, List.filter_cons, List.filter_cons, h n List.mem_cons_self]
    split
    · rw [List.map_cons, List.map_cons, fil_nat p q ns fun m hm => h m (List.mem_cons_of_mem _ hm)]
    · exact fil_nat p q ns fun m hm => h m (List.mem_cons_of_mem _ hm)
def sp_least_of (K : PySem.W.Frag) (ad : Ad) : Sp := fun vs H Q _ => match vs with | [x0] => q_least_of K ad x0 H Q | _ => False
theorem c_least_of {K : PySem.W.Frag} {ad : Ad} {x0 : V} {H : Hp} {Q : VK} {E : XK} (h : q_least_of K ad x0 H Q) : sp_least_of K ad ([x0] ++ []) H Q E := h
theorem n_least_of {K : PySem.W.Frag} {ad : Ad} {vs : List V} {H : Hp} {Q : VK} {E : XK} (h : sp_least_of K ad vs H Q E) : ∃ x0, vs = [x0] ∧ q_least_of K ad x0 H Q := match vs, h with | [x0], h => ⟨x0, rfl, h⟩
def t_least_of (K : PySem.W.Frag) (ad : Ad) : TS := (tRet (tLc (iList K (tVar 0)) (gName 1) (tNot (zTru K (tCB (rAny K) (tCons (tLc (iList K (tVar 0)) (gName 2) tYes (tAndV (tOp (zNe K) (tVar 2) (tVar 1)) (tOp (zEq K) (tOp zAnd (tVar 2) (tVar 1)) (tVar 2))) [2]) tNil)))) (tVar 1) [1]))
theorem w_least_of {K : PySem.W.Frag} {ad : Ad} {x0 : V} {H : Hp} {Q : VK} (h : q_least_of K ad x0 H Q) : t_least_of K ad ⟨fun _ H' => Q .non H', Q, fun _ _ => False, fun _ _ => False⟩ [some x0, none, none] H := by
  cases h with
  | @mk a ns _ _ hs hl k =>
    unfold t_least_of
    rw [← nV_map] at hs
    walk_at "rd"
    refine lcL_igrow (fun z => leastN ns z.toNat) V.int hs (by rw [List.length_map]; omega) (fun x hx H2 QB s2 q => ?_) (fun x hx H2 Q2 s2 hp q => ?_) (fun D H' nD s' eD => ?_)
    · obtain ⟨n, hn, rfl⟩ := List.mem_map.mp hx
      walk_at "rd"
      refine lcL_igrow (fun _ => true) (fun z => V.bl (decide (z.toNat ≠ n) && decide (z.toNat &&& n = z.toNat))) (Same.seq s2 hs) (by rw [List.length_map]; omega) (fun y hy H3 QB3 s3 q3 => ?_) (fun y hy H3 Q3 s3 hp q3 => ?_) (fun D H' nD s' eD => ?_)
      · walk_at "rd"
        exact q3 _ (Same.refl _)
      · obtain ⟨o, ho, rfl⟩ := List.mem_map.mp hy
        rw [Int.toNat_natCast] at q3
        walk_at "rd"
        have e1 : decide ((o : Int) = (n : Int)) = decide (o = n) := decide_eq_decide.mpr (by omega)
        by_cases h : o = n
        · have : (o : Int) = (n : Int) := by omega
          rw [decide_eq_false (by simpa using h), Bool.false_and] at q3
          walk_at "rd"
          exact q3 _ (Same.refl _)
        · have : ¬ ((o : Int) = (n : Int)) := by omega
          rw [decide_eq_true h, Bool.true_and] at q3
          walk_at "rd"
          rw [show decide (((o &&& n : Nat) : Int) = (o : Int)) = decide (o &&& n = o) from decide_eq_decide.mpr (by omega)]
          exact q3 _ (Same.refl _)
      · walk_at "rd"
        refine ⟨_, ns.map fun o => decide (o ≠ n) && decide (o &&& n = o), rfl, SqL.of (eD.trans ?_), ?_⟩
        · rw [List.filter_eq_self.mpr (fun _ _ => rfl), List.map_map, List.map_map]
          congr 2
        · walk_at "rd"
          rw [List.any_map] 
          exact q _ s'
    · walk_at "rd"
      exact q _ (Same.refl _)
    · rw [fil_nat _ (leastN ns) ns fun n _ => by rw [Int.toNat_natCast]] at eD
      walk_at "rd"
      exact k D H' s' nD eD
inductive q_least_bit (K : PySem.W.Frag) (ad : Ad) : V → Hp → VK → Prop
  | mk {n i : Nat} {H : Hp} {Q : VK} (hi : n.testBit i = true) (hl : ∀ j, j < i → n.testBit j = false) (k : Q (.int (i : Int)) H) : q_least_bit K ad (.int (n : Int)) H Q
def apartRow (n : Nat) : List Nat → Nat → Option Nat
  | [], _ => none
  | m :: r, j => if n &&& m = 0 then some j else apartRow n r (j + 1)
def apartOf : List Nat → Nat → Option (Nat × Nat)
  | [], _ => none
  | n :: r, i => match apartRow n r (i + 1) with
    | some j => some (i, j)
    | none => apartOf r (i + 1)
inductive q_first_apart (K : PySem.W.Frag) (ad : Ad) : V → Hp → VK → Prop
  | mk {a : Addr} {ns : List Nat} {H : Hp} {Q : VK} (hs : SqL K H a (ns.map nV)) (hl : ns.length ≤ 1000) (k0 : apartOf ns 0 = none → ∀ H', Same H H' → Q .non H')
    (k1 : ∀ i j, apartOf ns 0 = some (i, j) → ∀ t H', Same H H' → H' t = some (.tup [.int (i : Nat), .int (j : Nat)]) → Q (.ref t) H') : q_first_apart K ad (.ref a) H Q
def sp_first_apart (K : PySem.W.Frag) (ad : Ad) : Sp := fun vs H Q _ => match vs with | [x0] => q_first_apart K ad x0 H Q | _ => False
theorem c_first_apart {K : PySem.W.Frag} {ad : Ad} {x0 : V} {H : Hp} {Q : VK} {E : XK} (h : q_first_apart K ad x0 H Q) : sp_first_apart K ad ([x0] ++ []) H Q E := h
theorem n_first_apart {K : PySem.W.Frag} {ad : Ad} {vs : List V} {H : Hp} {Q : VK} {E : XK} (h : sp_first_apart K ad vs H Q E) : ∃ x0, vs = [x0] ∧ q_first_apart K ad x0 H Q := match vs, h with | [x0], h => ⟨x0, rfl, h⟩
def t_first_apart (K : PySem.W.Frag) (ad : Ad) : TS := (tSeq (tFor (iEnum K (tCons (tVar 0) tNil)) (gTup K 2 (gCons (gName 1) (gCons (gName 2) gNil)))
    (tFor (iRng2 (tCons (tOp (zAdd K) (tVar 1) (tC (.int 1))) (tCons (tCB (zLen K) (tCons (tVar 0) tNil)) tNil))) (gName 3)
    (tIfS (tTest (tOp (zEq K) (tOp zAnd (tVar 2) (tOp (rIx K) (tVar 0) (tVar 3))) (tC (.int 0)))) (tRet (tTup (tCons (tVar 1) (tCons (tVar 3) tNil)))) tNext)))
    (tRet (tC .non)))
theorem w_first_apart {K : PySem.W.Frag} {ad : Ad} {x0 : V} {H : Hp} {Q : VK} (h : q_first_apart K ad x0 H Q) : t_first_apart K ad ⟨fun _ H' => Q .non H', Q, fun _ _ => False, fun _ _ => False⟩ [some x0, none, none, none] H := by
  cases h with
  | @mk a ns _ _ hs hl k0 k1 =>
    unfold t_first_apart
    walk_at "rd"
    refine lp_enum hs (fun i σ' H2 => Same H H2 ∧ apartOf ns 0 = apartOf (ns.drop i) i ∧ ∃ y1 y2 y3, σ' = [some (.ref a), y1, y2, y3]) ⟨Same.refl _, rfl, _, _, _, rfl⟩ (fun i σ' H2 _ h => Same.seq h.1 hs) ?_ ?_
    · rintro i x σ' H2 u hx ⟨s2, ea, y1, y2, y3, rfl⟩ nu
      rw [List.getElem?_map] at hx
      obtain ⟨n, hn, rfl⟩ := Option.map_eq_some_iff.mp hx
      have ilt : i < ns.length := (List.getElem?_eq_some_iff.mp hn).1
      have dr : ns.drop i = n :: ns.drop (i + 1) := by
        rw [List.drop_eq_getElem_cons ilt, (List.getElem?_eq_some_iff.mp hn).2]
      rw [dr, apartOf] at ea
      have s3 : Same H (upd H2 u (.tup [.int (i : Int), nV n])) := same_new s2 nu
      walk_at "rd"
      rw [List.length_map]
      refine lp_range2 (by omega) (fun j σ' H3 => Same H H3 ∧ apartRow n (ns.drop (i + 1)) (i + 1) = apartRow n (ns.drop (i + 1 + j)) (i + 1 + j) ∧ ∃ y3, σ' = [some (.ref a), some (.int (i : Int)), some (nV n), y3]) ⟨s3, rfl, _, rfl⟩ ?_ ?_
      · rintro j σ' H3 hj ⟨s3, er, y3, rfl⟩
        have jlt : i + 1 + j < ns.length := by omega
        have hm : ns[i + 1 + j]? = some ns[i + 1 + j] := List.getElem?_eq_getElem jlt
        have dr2 : ns.drop (i + 1 + j) = ns[i + 1 + j] :: ns.drop (i + 1 + j + 1) := List.drop_eq_getElem_cons jlt
        rw [dr2, apartRow] at er
        generalize ns[i + 1 + j] = m at *
        walk_at "rd"
        refine o_ixL (Same.seq s3 hs) (v := nV m) ?_ ?_
        · rw [show (i : Int) + 1 + (j : Int) = ((i + 1 + j : Nat) : Int) by omega]
          exact atI_nat (by rw [List.getElem?_map, hm]; rfl)
        walk_at "rd"
        walk_at "if"
        · rename_i h0
          rw [if_pos (by omega)] at er
          rw [er] at ea
          walk_at "rd"
          refine o_new (by walk_at "len") fun t nt => ?_
          refine k1 i (i + 1 + j) ea t _ (same_new s3 nt) ?_
          rw [upd_same]
          congr 4
        · rename_i h0
          rw [if_neg (by omega)] at er
          walk_at "rd"
          exact ⟨s3, er, _, rfl⟩
      · rintro σ' H3 ⟨s3, er, y3, rfl⟩
        rw [show i + 1 + ((ns.length : Int) - ((i : Int) + 1)).toNat = ns.length by omega, List.drop_length, apartRow] at er
        rw [er] at ea
        exact ⟨s3, ea, _, _, _, rfl⟩
    · rintro σ' H2 ⟨s2, ea, y1, y2, y3, rfl⟩
      rw [List.length_map, List.drop_length, apartOf] at ea
      walk_at "rd"
      exact k0 ea _ s2

/-! ### the drawing of sets (shared by the laws on families) -/
def Pot (H : Hp) (p : Addr) : Prop := ∃ i r : Int, 0 ≤ i ∧ 0 ≤ r ∧ H p = some (.lst [.int i, .int r])
theorem Pot.at {H H' : Hp} {p : Addr} (h : Pot H p) (e : ∀ o, H p = some o → H' p = some o) : Pot H' p := by
  obtain ⟨i, r, hi, hr, h⟩ := h
  exact ⟨i, r, hi, hr, e _ h⟩
theorem Pot.upd {H : Hp} {p q : Addr} {o : HO} (h : Pot H p) (n : p ≠ q) : Pot (L2.upd H q o) p := h.at fun o e => (upd_ne n).trans e
theorem Pot.ne {H : Hp} {p u : Addr} {xs : List V} (h : Pot H p) (e : H u = some (.tup xs)) : u ≠ p := fun z => by
  obtain ⟨i, r, hi, hr, h⟩ := h
  rw [z, h] at e
  cases e
theorem Pot.is {H : Hp} {p : Addr} (h : Pot H p) : ∃ o, H p = some o := by
  obtain ⟨i, r, hi, hr, h⟩ := h
  exact ⟨_, h⟩
inductive q__law_wide (K : PySem.W.Frag) (ad : Ad) : V → Hp → VK → Prop
  | mk {n : Int} {H : Hp} {Q : VK} (k : ∀ r, 0 ≤ r → Q (.int r) H) : q__law_wide K ad (.int n) H Q
def sp__law_wide (K : PySem.W.Frag) (ad : Ad) : Sp := fun vs H Q _ => match vs with | [x0] => q__law_wide K ad x0 H Q | _ => False
theorem c__law_wide {K : PySem.W.Frag} {ad : Ad} {x0 : V} {H : Hp} {Q : VK} {E : XK} (h : q__law_wide K ad x0 H Q) : sp__law_wide K ad ([x0] ++ []) H Q E := h
theorem n__law_wide {K : PySem.W.Frag} {ad : Ad} {vs : List V} {H : Hp} {Q : VK} {E : XK} (h : sp__law_wide K ad vs H Q E) : ∃ x0, vs = [x0] ∧ q__law_wide K ad x0 H Q := match vs, h with | [x0], h => ⟨x0, rfl, h⟩
def t__law_wide (K : PySem.W.Frag) (ad : Ad) : TS := (tSeq (tIfS (tTest (tOp zGe (tVar 0) (tOp zPow (tC (.int 10)) (tC (.int 18))))) (tRet (tVar 0)) tNext)
    (tSeq (tAsg (tOp zMod (tOp (zAdd K) (tOp zMul (tVar 0) (tC (.int 48271))) (tC (.int 12345))) (tC (.int 2147483647))) (gName 1))
    (tSeq (tAsg (tOp zMod (tOp (zAdd K) (tOp (zAdd K) (tOp zMul (tVar 1) (tVar 1)) (tOp zMul (tVar 0) (tC (.int 69621)))) (tC (.int 7))) (tC (.int 2147483629))) (gName 2))
    (tSeq (tAsg (tOp zMod (tOp (zAdd K) (tOp zMul (tVar 2) (tVar 2)) (tVar 1)) (tC (.int 1000000007))) (gName 3))
    (tRet (tOp (zAdd K) (tOp zDiv (tVar 1) (tC (.int 8))) (tOp zMul (tC (.int 268435456)) (tOp (zAdd K) (tOp zDiv (tVar 2) (tC (.int 8))) (tOp zMul (tC (.int 268435456)) (tOp zDiv (tVar 3) (tC (.int 8))))))))))))
theorem w__law_wide {K : PySem.W.Frag} {ad : Ad} {x0 : V} {H : Hp} {Q : VK} (h : q__law_wide K ad x0 H Q) : t__law_wide K ad ⟨fun _ H' => Q .non H', Q, fun _ _ => False, fun _ _ => False⟩ [some x0, none, none, none] H := by
  cases h with
  | @mk n _ _ k => 
    unfold t__law_wide
    walk_at "rd"
    walk_at "if"
    · walk_at "rd"
      rename_i h
      exact k _ (by omega)
    · walk_at "rd"
      exact k _ (by omega)
inductive q__law_take (K : PySem.W.Frag) (ad : Ad) : V → V → V → Hp → VK → Prop
  | mk {a p : Addr} {m : Int} {ns : List Int} {F H : Hp} {Q : VK} (hF : Same F H) (hS : SqL K F a (ns.map V.int)) (hp : Pot H p) (fp : F p = none) (hm : 0 < m) (hM : m ≤ 10 ^ 70)
    (k : ∀ d H', 0 ≤ d → d < m → Pot H' p → Gr (M1 p) F H F H' → Q (.int d) H') : q__law_take K ad (.ref a) (.ref p) (.int m) H Q
def sp__law_take (K : PySem.W.Frag) (ad : Ad) : Sp := fun vs H Q _ => match vs with | [x0, x1, x2] => q__law_take K ad x0 x1 x2 H Q | _ => False
theorem c__law_take {K : PySem.W.Frag} {ad : Ad} {x0 x1 x2 : V} {H : Hp} {Q : VK} {E : XK} (h : q__law_take K ad x0 x1 x2 H Q) : sp__law_take K ad ([x0, x1, x2] ++ []) H Q E := h
theorem n__law_take {K : PySem.W.Frag} {ad : Ad} {vs : List V} {H : Hp} {Q : VK} {E : XK} (h : sp__law_take K ad vs H Q E) : ∃ x0 x1 x2, vs = [x0, x1, x2] ∧ q__law_take K ad x0 x1 x2 H Q := match vs, h with | [x0, x1, x2], h => ⟨x0, x1, x2, rfl, h⟩
def t__law_take (K : PySem.W.Frag) (ad : Ad) : TS := (Evl.tCut (tIfS (tTest (tOp (zEq K) (tOp (rIx K) (tVar 1) (tC (.int 1))) (tC (.int 0)))) (tSeq (tAsg (tOp zMul (tOp (zAdd K) (tOp zMod (tCB (rSum K) (tCons (tVar 0) tNil)) (tC (.int 1000003))) (tC (.int 7919))) (tOp (zAdd K) (tOp (rIx K) (tVar 1) (tC (.int 0))) (tC (.int 1)))) (gName 3))
    (tSeq (tIfS (tTest (tOp (zLt K) (tOp (rIx K) (tVar 1) (tC (.int 0))) (tCB (zLen K) (tCons (tVar 0) tNil)))) (tAsg (tOp (rIx K) (tVar 0) (tOp (rIx K) (tVar 1) (tC (.int 0)))) (gName 3)) tNext)
    (tSeq (tAsg (tOp (zAdd K) (tOp (rIx K) (tVar 1) (tC (.int 0))) (tC (.int 1))) (gSub (tVar 1) (tC (.int 0)) rSetL))
    (tAsg (tCall (sp__law_wide K ad) [] E0 (tCons (tVar 3) tNil)) (gSub (tVar 1) (tC (.int 1)) rSetL))))) tNext)
    (tSeq (tAsg (tOp zMod (tOp (rIx K) (tVar 1) (tC (.int 1))) (tVar 2)) (gName 4))
    (tSeq (tAsg (tOp zDiv (tOp (rIx K) (tVar 1) (tC (.int 1))) (tVar 2)) (gSub (tVar 1) (tC (.int 1)) rSetL))
    (tRet (tVar 4)))))
theorem w__law_take {K : PySem.W.Frag} {ad : Ad} {x0 x1 x2 : V} {H : Hp} {Q : VK} (h : q__law_take K ad x0 x1 x2 H Q) : t__law_take K ad ⟨fun _ H' => Q .non H', Q, fun _ _ => False, fun _ _ => False⟩ [some x0, some x1, some x2, none, none] H := by
  cases h with
  | @mk a p m ns F _ _ hF hS hp fp hm hM k =>
    obtain ⟨i, r, hi, hr, hp⟩ := hp
    unfold t__law_take
    refine Z.s_cut (fun σ' H' => ∃ i r c, 0 ≤ i ∧ 0 ≤ r ∧ σ' = [some (.ref a), some (.ref p), some (.int m), c, none] ∧ H' p = some (.lst [.int i, .int r]) ∧ Gr (M1 p) F H F H') ?_ ?_
    · walk_at "rd"
      walk_at "if"
      · walk_at "rd"
        walk_at "if"
        · rename_i h
          rw [List.length_map] at h
          obtain ⟨j, rfl⟩ : ∃ j : Nat, i = (j : Int) := ⟨i.toNat, by omega⟩
          have hj : ns[j]? = some ns[j] := List.getElem?_eq_getElem (by omega)
          walk_at "rd"
          with_reducible apply o_ixL (Same.seq hF hS) (atI_ints hj)
          walk_at "rd"
          apply c__law_wide
          apply q__law_wide.mk
          intro r' h0
          walk_at "rd"
          exact ⟨_, r', _, by omega, h0, rfl, upd_same, ((Gr.refl hF).put1 fp).put1 fp⟩
        · walk_at "rd"
          apply c__law_wide
          apply q__law_wide.mk
          intro r' h0
          walk_at "rd"
          exact ⟨_, r', _, by omega, h0, rfl, upd_same, ((Gr.refl hF).put1 fp).put1 fp⟩
      · walk_at "rd"
        exact ⟨i, r, _, hi, hr, rfl, hp, Gr.refl hF⟩
    · rintro σ' H' ⟨i, r, c, hi, hr, rfl, hp, g⟩
      walk_at "rd"
      exact k _ _ (Int.emod_nonneg _ (by omega)) (Int.emod_lt_of_pos _ hm) ⟨i, r / m, hi, Int.ediv_nonneg hr (by omega), upd_same⟩ (g.put1 fp)

/-- a set, well made -/
structure Well (m : Int) (ds : List Int) : Prop where
  ne : ds ≠ []
  up : ds.Pairwise (· < ·)
  within : ∀ d ∈ ds, 0 ≤ d ∧ d < m
  few : ds.length ≤ 33
inductive q__law_set (K : PySem.W.Frag) (ad : Ad) : V → V → V → Hp → VK → Prop
  | mk {a p : Addr} {ns : List Int} {m : Int} {F H : Hp} {Q : VK} (hF : Same F H) (hS : SqL K F a (ns.map V.int)) (hp : Pot H p) (fp : F p = none) (hm : 0 < m) (hM : m ≤ 60)
    (k : ∀ ds t F' H', Well m ds → ds.length ≤ 11 → F' t = some (.tup (ds.map V.int)) → Pot H' p → Gr (M1 p) F H F' H' → Q (.ref t) H') : q__law_set K ad (.ref a) (.ref p) (.int m) H Q
def sp__law_set (K : PySem.W.Frag) (ad : Ad) : Sp := fun vs H Q _ => match vs with | [x0, x1, x2] => q__law_set K ad x0 x1 x2 H Q | _ => False
theorem c__law_set {K : PySem.W.Frag} {ad : Ad} {x0 x1 x2 : V} {H : Hp} {Q : VK} {E : XK} (h : q__law_set K ad x0 x1 x2 H Q) : sp__law_set K ad ([x0, x1, x2] ++ []) H Q E := h
theorem n__law_set {K : PySem.W.Frag} {ad : Ad} {vs : List V} {H : Hp} {Q : VK} {E : XK} (h : sp__law_set K ad vs H Q E) : ∃ x0 x1 x2, vs = [x0, x1, x2] ∧ q__law_set K ad x0 x1 x2 H Q := match vs, h with | [x0, x1, x2], h => ⟨x0, x1, x2, rfl, h⟩
def t__law_set (K : PySem.W.Frag) (ad : Ad) : TS := (tSeq (tAsg (tLst tNil) (gName 3))
    (Evl.tCut (tIfS (tAnd (tTest (tOp (zLt K) (tVar 2) (tC (.int 10)))) (tTest (tOp (zLt K) (tCall (sp__law_take K ad) [] E0 (tCons (tVar 0) (tCons (tVar 1) (tCons (tC (.int 3)) tNil)))) (tC (.int 2))))) (tAsg (tLc (iRng1 (tCons (tVar 2) tNil)) (gName 4) (tTest (tOp (zEq K) (tCall (sp__law_take K ad) [] E0 (tCons (tVar 0) (tCons (tVar 1) (tCons (tC (.int 2)) tNil)))) (tC (.int 1)))) (tVar 4) [4]) (gName 3)) (tAsg (tLc (iRng1 (tCons (tCall (sp__law_take K ad) [] E0 (tCons (tVar 0) (tCons (tVar 1) (tCons (tC (.int 6)) tNil)))) tNil)) (gName 5) tYes (tCall (sp__law_take K ad) [] E0 (tCons (tVar 0) (tCons (tVar 1) (tCons (tVar 2) tNil)))) [5]) (gName 3)))
    (tSeq (tDrop (tBM K "list" rAppend (tVar 3) (tCons (tCall (sp__law_take K ad) [] E0 (tCons (tVar 0) (tCons (tVar 1) (tCons (tVar 2) tNil)))) tNil)))
    (tRet (tCB (zTuple K) (tCons (tCB (zSorted K ad.w) (tCons (tCB (zSet K ad.w) (tCons (tVar 3) tNil)) tNil)) tNil))))))
theorem w__law_set {K : PySem.W.Frag} {ad : Ad} {x0 x1 x2 : V} {H : Hp} {Q : VK} (h : q__law_set K ad x0 x1 x2 H Q) : t__law_set K ad ⟨fun _ H' => Q .non H', Q, fun _ _ => False, fun _ _ => False⟩ [some x0, some x1, some x2, none, none, none] H := by
  cases h with
  | @mk a p ns m F _ _ hF hS hp fp hm hM k =>
    unfold t__law_set
    walk_at "rd"
    refine o_new (Nat.zero_le _) fun q0 n0 => ?_
    obtain ⟨i0, r0, hi0, hr0, ep⟩ := id hp
    have g0 : Gr (M1 p) F H F (upd H q0 (.lst [])) := (Gr.refl hF).add n0
    have hp0 : Pot (upd H q0 (.lst [])) p := ⟨i0, r0, hi0, hr0, by walk_at "at"⟩
    obtain ⟨_, _, _, _, ep0⟩ := id hp0
    refine s_cut (fun σ' H' => ∃ (acc : List Int) (D : Addr) (y4 y5 : Option V), σ' = [some (.ref a), some (.ref p), some (.int m), some (.ref D), y4, y5] ∧ H' D = some (.lst (acc.map V.int)) ∧ acc.length ≤ 10 ∧ (∀ x ∈ acc, 0 ≤ x ∧ x < m) ∧ Fresh H D ∧ Pot H' p ∧ Gr (M1 p) F H F H') ?_ ?_
    · have two : ∀ H1, Pot H1 p → Gr (M1 p) F H F H1 → tAsg (tLc (iRng1 (tCons (tCall (sp__law_take K ad) [] E0 (tCons (tVar 0) (tCons (tVar 1) (tCons (tC (.int 6)) tNil)))) tNil)) (gName 5) tYes (tCall (sp__law_take K ad) [] E0 (tCons (tVar 0) (tCons (tVar 1) (tCons (tVar 2) tNil)))) [5]) (gName 3)
          { nx := fun σ' H' => ∃ (acc : List Int) (D : Addr) (y4 y5 : Option V), σ' = [some (.ref a), some (.ref p), some (.int m), some (.ref D), y4, y5] ∧ H' D = some (.lst (acc.map V.int)) ∧ acc.length ≤ 10 ∧ (∀ x ∈ acc, 0 ≤ x ∧ x < m) ∧ Fresh H D ∧ Pot H' p ∧ Gr (M1 p) F H F H', rt := Q }
          [some (.ref a), some (.ref p), some (.int m), some (.ref q0), none, none] H1 := fun H1 hp1 g1 => by
        walk_at "rd"
        apply c__law_take
        refine q__law_take.mk g1.fh hS hp1 fp (by omega) (by omega) fun d H2 h0 h1 hp2 g2 => ?_
        obtain ⟨_, _, _, _, ep1⟩ := id hp1
        have g12 := g1.tr1 g2 ep1
        walk_at "rd"
        obtain ⟨_, _, _, _, ep2⟩ := id hp2
        refine lc_R1 (by omega) (fun D i H' => ∃ acc : List Int, H' D = some (.lst (acc.map V.int)) ∧ acc.length ≤ i ∧ (∀ x ∈ acc, 0 ≤ x ∧ x < m) ∧ Pot H' p ∧ Gr (M1 p) F H F H') ?_ ?_ ?_
        · intro D nD
          exact ⟨[], upd_same, Nat.le_refl _, by simp, hp2.upd (fresh_ne nD ep2).symm, g12.add nD⟩
        · rintro D i H3 nD hi ⟨acc, eD, ha, hw, hp3, g3⟩
          walk_at "rd"
          apply c__law_take
          refine q__law_take.mk g3.fh hS hp3 fp (by omega) (by omega) fun d H4 h0 h1 hp4 g4 => ?_
          obtain ⟨_, _, _, _, ep3⟩ := id hp3
          obtain ⟨_, _, _, _, ep4⟩ := id hp4
          have nDp := fresh_ne nD ep2
          have nDH := g12.fr1 ep2 nD
          refine ⟨_, g4.hh D _ nDp eD, by walk_at "len", acc ++ [d], ?_, by walk_at "len", ?_, hp4.upd nDp.symm, (g3.tr1 g4 ep3).own (fresh_F hF nDH) nDH⟩
          · rw [upd_same, List.map_append]
            rfl
          · intro x hx
            rcases List.mem_append.mp hx with hx | hx
            · exact hw x hx
            · rw [List.mem_singleton.mp hx]
              exact ⟨h0, h1⟩
        · rintro D H3 nD ⟨acc, eD, ha, hw, hp3, g3⟩
          exact ⟨acc, D, _, _, rfl, eD, by omega, hw, g12.fr1 ep2 nD, hp3, g3⟩
      walk_at "rd"
      walk_at "if"
      · rename_i hm10
        walk_at "rd"
        apply c__law_take
        refine q__law_take.mk g0.fh hS hp0 fp (by omega) (by omega) fun d H2 h0 h1 hp2 g2 => ?_
        have g12 := g0.tr1 g2 ep0
        walk_at "rd"
        obtain ⟨_, _, _, _, ep2⟩ := id hp2
        walk_at "if"
        · walk_at "rd"
          refine lc_R1 (by omega) (fun D i H' => ∃ acc : List Int, H' D = some (.lst (acc.map V.int)) ∧ acc.length ≤ i ∧ (∀ x ∈ acc, 0 ≤ x ∧ x < m) ∧ Pot H' p ∧ Gr (M1 p) F H F H') ?_ ?_ ?_
          · intro D nD
            exact ⟨[], upd_same, Nat.le_refl _, by simp, hp2.upd (fresh_ne nD ep2).symm, g12.add nD⟩
          · rintro D i H3 nD hi ⟨acc, eD, ha, hw, hp3, g3⟩
            walk_at "rd"
            apply c__law_take
            refine q__law_take.mk g3.fh hS hp3 fp (by omega) (by omega) fun d H4 h0 h1 hp4 g4 => ?_
            obtain ⟨_, _, _, _, ep3⟩ := id hp3
            obtain ⟨_, _, _, _, ep4⟩ := id hp4
            have nDp := fresh_ne nD ep2
            have nDH := g12.fr1 ep2 nD
            walk_at "rd"
            walk_at "if"
            · walk_at "rd"
              refine ⟨_, g4.hh D _ nDp eD, by walk_at "len", acc ++ [(i : Int)], ?_, by walk_at "len", ?_, hp4.upd nDp.symm, (g3.tr1 g4 ep3).own (fresh_F hF nDH) nDH⟩
              · rw [upd_same, List.map_append]
                rfl
              · intro x hx
                rcases List.mem_append.mp hx with hx | hx
                · exact hw x hx
                · rw [List.mem_singleton.mp hx]
                  exact ⟨by omega, hi⟩
            · exact ⟨acc, g4.hh D _ nDp eD, by omega, hw, hp4, g3.tr1 g4 ep3⟩
          · rintro D H3 nD ⟨acc, eD, ha, hw, hp3, g3⟩
            exact ⟨acc, D, _, _, rfl, eD, by omega, hw, g12.fr1 ep2 nD, hp3, g3⟩
        · exact two H2 hp2 g12
      · refine iteF ?_
        exact two _ hp0 g0
    · rintro σ' H1 ⟨acc, D, y4, y5, rfl, eD, ha, hw, nD, hp1, g1⟩
      have nDp : D ≠ p := fresh_ne nD ep
      have fD := fresh_F hF nD
      obtain ⟨_, _, _, _, ep1⟩ := id hp1
      walk_at "rd"
      refine ⟨ty_list (SqL.of eD), ?_⟩
      walk_at "rd"
      apply c__law_take
      refine q__law_take.mk g1.fh hS hp1 fp (by omega) (by omega) fun d H2 h0 h1 hp2 g2 => ?_
      have g12 := g1.tr1 g2 ep1
      obtain ⟨i2, r2, hi2, hr2, ep2⟩ := id hp2
      have eD2 := g2.hh D _ nDp eD
      walk_at "rd"
      refine m_app eD2 (by walk_at "len") ?_
      walk_at "rd"
      have e3 : (upd H2 D (.lst (acc.map V.int ++ [.int d]))) D = some (.lst ((acc ++ [d]).map V.int)) := by
        rw [upd_same, List.map_append]
        rfl
      refine o_setL' (SqL.of e3) (by walk_at "len") fun q3 c hc n3 => ?_
      walk_at "rd"
      rw [List.length_append] at hc
      refine o_sortSet upd_same (by
        have := hc
        simp only [List.length_cons, List.length_nil] at this
        omega) fun ds q4 up hmem hlen n4 => ?_
      walk_at "rd"
      refine o_tupleL (SqL.of upd_same) fun t nt => ?_
      have G3 : Gr (M1 p) F H F (upd H2 D (.lst (acc.map V.int ++ [.int d]))) := g12.own fD nD
      have G4 := (G3.add n3 (o := SetO ad.w q3 (fun j => decide (j ∈ acc ++ [d])) c)).add n4 (o := .lst (ds.map V.int))
      have inn : ∀ x, x ∈ ds ↔ x ∈ acc ++ [d] := fun x => (hmem x).trans decide_eq_true_iff
      have dl : ds.length ≤ 11 := by
        have := hc
        simp only [List.length_cons, List.length_nil] at this
        omega
      refine k ds t _ _ ⟨fun e => ?_, up, fun x hx => ?_, by omega⟩ dl upd_same ?_ (G4.addF nt (fresh_ne nt (by walk_at "at")))
      · have : d ∈ ds := (inn d).mpr (by simp)
        rw [e] at this
        cases this
      · rcases List.mem_append.mp ((inn x).mp hx) with hx | hx
        · exact hw x hx
        · rw [List.mem_singleton.mp hx]
          exact ⟨h0, h1⟩
      · exact ⟨i2, r2, hi2, hr2, by walk_at "at"⟩
inductive q__law_family (K : PySem.W.Frag) (ad : Ad) : V → V → V → V → Hp → VK → Prop
  | mk {a p : Addr} {ns : List Int} {m most : Int} {F H : Hp} {Q : VK} (hF : Same F H) (hS : SqL K F a (ns.map V.int)) (hp : Pot H p) (fp : F p = none) (hm : 0 < m) (hM : m ≤ 60) (h0 : 0 ≤ most) (h1 : most ≤ 100)
    (k : ∀ q vs dss F' H', Fresh H q → H' q = some (.lst vs) → F' q = none → TIs F' vs dss → (∀ d ∈ dss, Well m d ∧ d.length ≤ 11) → dss.Nodup → (dss.length : Int) ≤ most → Pot H' p → Gr (M1 p) F H F' H' → Q (.ref q) H') :
    q__law_family K ad (.ref a) (.ref p) (.int m) (.int most) H Q
def sp__law_family (K : PySem.W.Frag) (ad : Ad) : Sp := fun vs H Q _ => match vs with | [x0, x1, x2, x3] => q__law_family K ad x0 x1 x2 x3 H Q | _ => False
theorem c__law_family {K : PySem.W.Frag} {ad : Ad} {x0 x1 x2 x3 : V} {H : Hp} {Q : VK} {E : XK} (h : q__law_family K ad x0 x1 x2 x3 H Q) : sp__law_family K ad ([x0, x1, x2, x3] ++ []) H Q E := h
theorem n__law_family {K : PySem.W.Frag} {ad : Ad} {vs : List V} {H : Hp} {Q : VK} {E : XK} (h : sp__law_family K ad vs H Q E) : ∃ x0 x1 x2 x3, vs = [x0, x1, x2, x3] ∧ q__law_family K ad x0 x1 x2 x3 H Q := match vs, h with | [x0, x1, x2, x3], h => ⟨x0, x1, x2, x3, rfl, h⟩
def t__law_family (K : PySem.W.Frag) (ad : Ad) : TS := (tSeq (tAsg (tLst tNil) (gName 4))
    (tSeq (tFor (iRng1 (tCons (tCall (sp__law_take K ad) [] E0 (tCons (tVar 0) (tCons (tVar 1) (tCons (tOp (zAdd K) (tVar 3) (tC (.int 1))) tNil)))) tNil)) (gName 5)
    (tSeq (tAsg (tCall (sp__law_set K ad) [] E0 (tCons (tVar 0) (tCons (tVar 1) (tCons (tVar 2) tNil)))) (gName 6))
    (tIfS (tTest (tOp (zNotIn K) (tVar 6) (tVar 4))) (tDrop (tBM K "list" rAppend (tVar 4) (tCons (tVar 6) tNil))) tNext)))
    (tRet (tVar 4))))
theorem w__law_family {K : PySem.W.Frag} {ad : Ad} {x0 x1 x2 x3 : V} {H : Hp} {Q : VK} (h : q__law_family K ad x0 x1 x2 x3 H Q) : t__law_family K ad ⟨fun _ H' => Q .non H', Q, fun _ _ => False, fun _ _ => False⟩ [some x0, some x1, some x2, some x3, none, none, none] H := by
  cases h with
  | @mk a p ns m most F _ _ hF hS hp fp hm hM h0 h1 k =>
    unfold t__law_family
    walk_at "rd"
    refine o_new (Nat.zero_le _) fun q0 n0 => ?_
    walk_at "rd"
    obtain ⟨_, ep⟩ := hp.is
    have hp0 := hp.upd (o := .lst []) (fresh_ne n0 ep).symm
    apply c__law_take
    refine q__law_take.mk (same_new hF n0) hS hp0 fp (by omega) (by omega) fun d H1 d0 d1 hp1 g1 => ?_
    have G1 : Gr (M1 p) F H F H1 := ((Gr.refl hF).add n0).tr1 g1 hp0.is.choose_spec
    walk_at "rd"
    have fq : F q0 = none := fresh_F hF n0
    refine lp_range1 (by omega) (fun i σ' H' => ∃ (y5 y6 : Option V) (vs : List V) (dss : List (List Int)) (F' : Hp), σ' = [some (.ref a), some (.ref p), some (.int m), some (.int most), some (.ref q0), y5, y6] ∧
      H' q0 = some (.lst vs) ∧ TIs F' vs dss ∧ (∀ d ∈ dss, Well m d ∧ d.length ≤ 11) ∧ dss.Nodup ∧ dss.length ≤ i ∧ F' q0 = none ∧ Pot H' p ∧ Gr (M1 p) F H F' H') ?_ ?_ ?_
    · exact ⟨_, _, [], [], F, rfl, g1.hh _ _ (fresh_ne n0 ep) upd_same, .nil, by simp, List.nodup_nil, Nat.le_refl _, fq, hp1, G1⟩
    · rintro i σ' H2 hi ⟨y5, y6, vs, dss, F2, rfl, eq, ts, wl, nd, ln, fq2, hp2, G2⟩
      walk_at "rd"
      apply c__law_set
      refine q__law_set.mk G2.fh (G2.ff.seq hS) hp2 (G2.nof fp ep) hm hM fun ds t F3 H3 wd wl11 et hp3 G3 => ?_
      obtain ⟨_, ep2⟩ := hp2.is
      have G23 := G2.tr1 G3 ep2
      have eq3 := G3.hh q0 _ (fresh_ne n0 ep) eq
      have fq3 := G3.nw q0 _ eq fq2
      have td : TI F3 (.ref t) ds := ⟨t, rfl, et⟩
      have ts3 := ts.mono G3.ff
      have vl : vs.length = dss.length := ts3.length
      walk_at "rd"
      refine o_notInD (td.mono G3.fh).dp (.lst (SqL.of eq3) (ts3.mono G3.fh).dp) (pl_dI.shaped (by decide)) (pl_dLI.shaped (by decide)) ?_
      rw [any_dI]
      walk_at "rd"
      walk_at "if"
      · rename_i hn
        walk_at "rd"
        refine ⟨ty_list (SqL.of eq3), ?_⟩
        walk_at "rd"
        refine m_app eq3 (by walk_at "len") ?_
        refine ⟨_, _, _, dss ++ [ds], F3, rfl, upd_same, ts3.app (.cons td .nil), ?_, ?_, by walk_at "len", fq3, hp3.upd (fresh_ne n0 ep).symm, G23.own fq3 n0⟩
        · intro d hd
          rcases List.mem_append.mp hd with hd | hd
          · exact wl d hd
          · rw [List.mem_singleton.mp hd]
            exact ⟨wd, wl11⟩
        · exact List.nodup_append.mpr ⟨nd, by simp, fun x hx y hy e => hn (by rw [← List.mem_singleton.mp hy, ← e]; exact hx)⟩
      · walk_at "rd"
        exact ⟨_, _, vs, dss, F3, rfl, eq3, ts3, wl, nd, by omega, fq3, hp3, G23⟩
    · rintro σ' H2 ⟨y5, y6, vs, dss, F2, rfl, eq, ts, wl, nd, ln, fq2, hp2, G2⟩
      walk_at "rd"
      exact k q0 vs dss F2 H2 n0 eq fq2 ts wl nd (by omega) hp2 G2

inductive q__law_whole (K : PySem.W.Frag) (ad : Ad) : V → Hp → VK → Prop
  | int {i : Int} {H : Hp} {Q : VK} (k : Q (.bl true) H) : q__law_whole K ad (.int i) H Q
def sp__law_whole (K : PySem.W.Frag) (ad : Ad) : Sp := fun vs H Q _ => match vs with | [x0] => q__law_whole K ad x0 H Q | _ => False
theorem c__law_whole {K : PySem.W.Frag} {ad : Ad} {x0 : V} {H : Hp} {Q : VK} {E : XK} (h : q__law_whole K ad x0 H Q) : sp__law_whole K ad ([x0] ++ []) H Q E := h
theorem n__law_whole {K : PySem.W.Frag} {ad : Ad} {vs : List V} {H : Hp} {Q : VK} {E : XK} (h : sp__law_whole K ad vs H Q E) : ∃ x0, vs = [x0] ∧ q__law_whole K ad x0 H Q := match vs, h with | [x0], h => ⟨x0, rfl, h⟩
def t__law_whole (K : PySem.W.Frag) (ad : Ad) : TS := (tRet (tAndV (tCB (rIsi K) (tCons (tVar 0) (tCons (tC (.ty "int")) tNil))) (tNotT K (tCB (rIsi K) (tCons (tVar 0) (tCons (tC (.ty "bool")) tNil))))))
theorem w__law_whole {K : PySem.W.Frag} {ad : Ad} {x0 : V} {H : Hp} {Q : VK} (h : q__law_whole K ad x0 H Q) : t__law_whole K ad ⟨fun _ H' => Q .non H', Q, fun _ _ => False, fun _ _ => False⟩ [some x0] H := by
  cases h with
  | @int i _ _ k =>
    unfold t__law_whole
    walk_at "rd"
    exact k

/-! ### families looked at -/
def outs (n : Int) (ns : List Int) : Bool := ns.any fun x => decide (x < 0) || decide (n ≤ x)
def desc : List Int → Bool
  | a :: b :: r => decide (b ≤ a) || desc (b :: r)
  | _ => false
theorem desc_iff : ∀ ns : List Int, desc ns = true ↔ ∃ (j : Nat) (x y : Int), ns[j]? = some x ∧ ns[j + 1]? = some y ∧ y ≤ x
  | [] => by simp [desc]
  | [a] => by
    simp only [desc, Bool.false_eq_true, false_iff]
    rintro ⟨j, x, y, h1, h2, _⟩
    simp at h2
  | a :: b :: r => by
    rw [desc, Bool.or_eq_true, desc_iff (b :: r), decide_eq_true_iff]
    constructor
    · rintro (h | ⟨j, x, y, h1, h2, h⟩)
      · exact ⟨0, a, b, rfl, rfl, h⟩
      · exact ⟨j + 1, x, y, by simpa using h1, by simpa using h2, h⟩
    · rintro ⟨j, x, y, h1, h2, h⟩
      cases j with
      | zero =>
        left
        have e1 : a = x := by simpa using h1
        have e2 : b = y := by simpa using h2
        omega
      | succ j => exact .inr ⟨j, x, y, by simpa using h1, by simpa using h2, h⟩
def wordOf (n : Int) (ns : List Int) : Option Str := if ns = [] then some "empty" else if outs n ns = true then some "outside" else if desc ns = true then some "order" else none
def vO : Option Str → V
  | none => .non
  | some w => .str w
inductive q_word_of (K : PySem.W.Frag) (ad : Ad) : V → V → Hp → VK → Prop
  | mk {n : Int} {a : Addr} {ns : List Int} {H : Hp} {Q : VK} (hs : SqT K H a (ns.map V.int)) (hl : ns.length ≤ 1000) (k : Q (vO (wordOf n ns)) H) : q_word_of K ad (.int n) (.ref a) H Q
def sp_word_of (K : PySem.W.Frag) (ad : Ad) : Sp := fun vs H Q _ => match vs with | [x0, x1] => q_word_of K ad x0 x1 H Q | _ => False
theorem c_word_of {K : PySem.W.Frag} {ad : Ad} {x0 x1 : V} {H : Hp} {Q : VK} {E : XK} (h : q_word_of K ad x0 x1 H Q) : sp_word_of K ad ([x0, x1] ++ []) H Q E := h
theorem n_word_of {K : PySem.W.Frag} {ad : Ad} {vs : List V} {H : Hp} {Q : VK} {E : XK} (h : sp_word_of K ad vs H Q E) : ∃ x0 x1, vs = [x0, x1] ∧ q_word_of K ad x0 x1 H Q := match vs, h with | [x0, x1], h => ⟨x0, x1, rfl, h⟩
def t_word_of (K : PySem.W.Frag) (ad : Ad) : TS := (tSeq (tIfS (tTest (tOp (zEq K) (tCB (zLen K) (tCons (tVar 1) tNil)) (tC (.int 0)))) (tRet (tC (.str "empty"))) tNext)
    (tSeq (tFor (iTup K (tVar 1)) (gName 2)
    (tIfS (tOr (tTest (tOp (zLt K) (tVar 2) (tC (.int 0)))) (tTest (tOp zGe (tVar 2) (tVar 0)))) (tRet (tC (.str "outside"))) tNext))
    (tSeq (tFor (iRng2 (tCons (tC (.int 1)) (tCons (tCB (zLen K) (tCons (tVar 1) tNil)) tNil))) (gName 3)
    (tIfS (tTest (tOp zGe (tOp (rIx K) (tVar 1) (tOp zSub (tVar 3) (tC (.int 1)))) (tOp (rIx K) (tVar 1) (tVar 3)))) (tRet (tC (.str "order"))) tNext))
    (tRet (tC .non)))))
theorem w_word_of {K : PySem.W.Frag} {ad : Ad} {x0 x1 : V} {H : Hp} {Q : VK} (h : q_word_of K ad x0 x1 H Q) : t_word_of K ad ⟨fun _ H' => Q .non H', Q, fun _ _ => False, fun _ _ => False⟩ [some x0, some x1, none, none] H := by
  cases h with
  | @mk n a ns _ _ hs hl k =>
    unfold t_word_of
    walk_at "rd"
    walk_at "if"
    · rename_i h
      walk_at "rd"
      have e : ns = [] := by
        cases ns with
        | nil => rfl
        | cons x r =>
          simp at h
          omega
      rw [wordOf, if_pos e] at k
      exact k
    rename_i h
    have ne : ns ≠ [] := fun e => h (by rw [e]; rfl)
    walk_at "rd"
    refine lp_tup hs (fun i σ' H' => H' = H ∧ (∃ y2, σ' = [some (.int n), some (.ref a), y2, none]) ∧ ∀ x ∈ ns.take i, ¬ (x < 0 ∨ n ≤ x)) ⟨rfl, ⟨_, rfl⟩, by simp⟩ (fun i σ' H' _ hp => by rw [hp.1]; exact hs) ?_ ?_
    · rintro i x σ' H' hx ⟨rfl, ⟨y2, rfl⟩, ok⟩
      rw [List.getElem?_map] at hx
      obtain ⟨z, hz, rfl⟩ := Option.map_eq_some_iff.mp hx
      have out : z < 0 ∨ n ≤ z → wordOf n ns = some ("outside" : Str) := fun hz' => by
        have : outs n ns = true := List.any_eq_true.mpr ⟨z, List.mem_of_getElem? hz, by simpa using hz'⟩
        rw [wordOf, if_neg ne, if_pos this]
      walk_at "rd"
      walk_at "if"
      · walk_at "rd"
        rename_i hz'
        rw [out (.inl hz')] at k
        exact k
      · walk_at "rd"
        walk_at "if"
        · walk_at "rd"
          rename_i hz'
          rw [out (.inr hz')] at k
          exact k
        · walk_at "rd"
          rename_i h1 h2
          refine ⟨rfl, ⟨_, rfl⟩, fun x hx => ?_⟩
          rw [List.take_add_one, hz] at hx
          rcases List.mem_append.mp hx with hx | hx
          · exact ok x hx
          · have : x = z := by simpa using hx
            omega
    · rintro σ' H' ⟨rfl, ⟨y2, rfl⟩, ok⟩
      rw [List.length_map, List.take_length] at ok
      have no : ¬ outs n ns = true := fun z => by
        obtain ⟨x, hx, e⟩ := List.any_eq_true.mp z
        exact ok x hx (by simpa using e)
      walk_at "rd"
      rw [List.length_map]
      refine lp_range2 (by omega) (fun i σ' H'' => H'' = H' ∧ (∃ y2 y3, σ' = [some (.int n), some (.ref a), y2, y3]) ∧ ∀ j x y, j < i → ns[j]? = some x → ns[j + 1]? = some y → x < y) ⟨rfl, ⟨_, _, rfl⟩, by omega⟩ ?_ ?_
      · rintro i σ' H'' hi ⟨rfl, ⟨y2, y3, rfl⟩, ok2⟩
        have i1 : ns[i]? = some ns[i] := List.getElem?_eq_getElem (by omega)
        have i2 : ns[i + 1]? = some ns[i + 1] := List.getElem?_eq_getElem (by omega)
        walk_at "rd"
        rw [show (1 : Int) + (i : Int) - 1 = (i : Int) by omega]
        with_reducible apply o_ixT hs (atI_ints i1)
        walk_at "rd"
        rw [show (1 : Int) + (i : Int) = ((i + 1 : Nat) : Int) by omega]
        with_reducible apply o_ixT hs (atI_ints i2)
        walk_at "rd"
        walk_at "if"
        · rename_i hd
          walk_at "rd"
          have : desc ns = true := (desc_iff ns).mpr ⟨i, _, _, i1, i2, hd⟩
          rw [wordOf, if_neg ne, if_neg no, if_pos this] at k
          exact k
        · rename_i hd
          walk_at "rd"
          refine ⟨rfl, ⟨_, _, rfl⟩, fun j x y hj h1 h2 => ?_⟩
          by_cases e : j = i
          · subst e
            rw [i1] at h1
            rw [i2] at h2
            have a1 := Option.some.inj h1
            have a2 := Option.some.inj h2
            omega
          · exact ok2 j x y (by omega) h1 h2
      · rintro σ' H'' ⟨rfl, ⟨y2, y3, rfl⟩, ok2⟩
        walk_at "rd"
        have : ¬ desc ns = true := fun z => by
          obtain ⟨j, x, y, h1, h2, h3⟩ := (desc_iff ns).mp z
          have := ok2 j x y (by
            have := (List.getElem?_eq_some_iff.mp h2).1
            omega) h1 h2
          omega
        rw [wordOf, if_neg ne, if_neg no, if_neg this] at k
        exact k
def faultOf (n : Int) : List (List Int) → List (List Int) → Nat → Option (Nat × Str)
  | [], _, _ => none
  | d :: r, known, at' => match wordOf n d with
    | some w => some (at', w)
    | none => if d ∈ known then some (at', "again") else faultOf n r (known ++ [d]) (at' + 1)
def FaultV (F : Hp) (v : V) : Option (Nat × Str) → Prop
  | none => v = .non
  | some (j, w) => ∃ t, v = .ref t ∧ F t = some (.tup [.int (j : Nat), .str w])
def keyI (d : List Int) : List Key := d.map Sum.inl
theorem keyI_inj {a b : List Int} (h : keyI a = keyI b) : a = b := by
  have := congrArg (List.map kV) h
  unfold keyI at this
  rw [kv_ints, kv_ints] at this
  exact map_V_inj this
theorem known_iff {kvs : List (List Key × V)} {ks : List (List Int)} (h : kvs.map (·.1) = ks.map keyI) (d : List Int) : (valV kvs (keyI d)).isSome = decide (d ∈ ks) := by
  rw [← valV_any]
  have : (kvs.any fun kv => decide (kv.1 = keyI d)) = ((kvs.map (·.1)).any fun x => decide (x = keyI d)) := by
    rw [List.any_map]
    rfl
  rw [this, h, List.any_map]
  by_cases hd : d ∈ ks
  · rw [decide_eq_true hd]
    exact List.any_eq_true.mpr ⟨d, hd, decide_eq_true rfl⟩
  · rw [decide_eq_false hd]
    refine List.any_eq_false.mpr fun x hx e => hd ?_
    have := keyI_inj (of_decide_eq_true e)
    rwa [← this]
inductive q_fault (K : PySem.W.Frag) (ad : Ad) : V → V → Hp → VK → Prop
  | mk {n : Int} {a : Addr} {vs : List V} {dss : List (List Int)} {F H : Hp} {Q : VK} (hF : Same F H) (hs : SqL K H a vs) (ts : TIs F vs dss) (hl : dss.length ≤ 1000) (hd : ∀ d ∈ dss, d.length ≤ 1000)
    (k : ∀ v F' H', Gr M0 F H F' H' → FaultV F' v (faultOf n dss [] 0) → Q v H') : q_fault K ad (.int n) (.ref a) H Q
def sp_fault (K : PySem.W.Frag) (ad : Ad) : Sp := fun vs H Q _ => match vs with | [x0, x1] => q_fault K ad x0 x1 H Q | _ => False
theorem c_fault {K : PySem.W.Frag} {ad : Ad} {x0 x1 : V} {H : Hp} {Q : VK} {E : XK} (h : q_fault K ad x0 x1 H Q) : sp_fault K ad ([x0, x1] ++ []) H Q E := h
theorem n_fault {K : PySem.W.Frag} {ad : Ad} {vs : List V} {H : Hp} {Q : VK} {E : XK} (h : sp_fault K ad vs H Q E) : ∃ x0 x1, vs = [x0, x1] ∧ q_fault K ad x0 x1 H Q := match vs, h with | [x0, x1], h => ⟨x0, x1, rfl, h⟩
def t_fault (K : PySem.W.Frag) (ad : Ad) : TS := (tSeq (tAsg tDNewT (gName 2))
    (tSeq (tFor (iEnum K (tCons (tVar 1) tNil)) (gTup K 2 (gCons (gName 3) (gCons (gName 4) gNil)))
    (tSeq (tAsg (tCall (sp_word_of K ad) [] E0 (tCons (tVar 0) (tCons (tVar 4) tNil))) (gName 5))
    (tSeq (tIfS (tAnd (tTest (tOp zIsN (tVar 5) (tC .non))) (tB (tDIn (tVar 4) (tVar 2)))) (tAsg (tC (.str "again")) (gName 5)) tNext)
    (tSeq (tIfS (tTest (tOp zNotN (tVar 5) (tC .non))) (tRet (tTup (tCons (tVar 3) (tCons (tVar 5) tNil)))) tNext)
    (sDPut (tVar 2) (tVar 4) (tC (.bl true)))))))
    (tRet (tC .non))))
theorem w_fault {K : PySem.W.Frag} {ad : Ad} {x0 x1 : V} {H : Hp} {Q : VK} (h : q_fault K ad x0 x1 H Q) : t_fault K ad ⟨fun _ H' => Q .non H', Q, fun _ _ => False, fun _ _ => False⟩ [some x0, some x1, none, none, none, none] H := by
  cases h with
  | @mk n a vs dss F _ _ hF hs ts hl hd k =>
    have lv : vs.length = dss.length := ts.length
    unfold t_fault
    walk_at "rd"
    intro dk nk
    walk_at "rd"
    have fk : F dk = none := fresh_F hF nk
    refine lp_enum (Same.seq ((Gr.refl (M := M0) hF).add nk).same hs) (fun i σ' H' => ∃ (y3 y4 y5 : Option V) (kvs : List (List Key × V)), σ' = [some (.int n), some (.ref a), some (.ref dk), y3, y4, y5] ∧ H' dk = some (.dT kvs) ∧
      kvs.map (·.1) = (dss.take i).map keyI ∧ faultOf n dss [] 0 = faultOf n (dss.drop i) (dss.take i) i ∧ Gr M0 F H F H') ?_ ?_ ?_ ?_
    · exact ⟨_, _, _, [], rfl, upd_same, rfl, rfl, (Gr.refl hF).add nk⟩
    · rintro i σ' H' hi ⟨y3, y4, y5, kvs, rfl, ek, ks, ef, G⟩
      exact Same.seq G.same hs
    · rintro i x σ' H' q hx ⟨y3, y4, y5, kvs, rfl, ek, ks, ef, G⟩ nq
      obtain ⟨ds, hds, td⟩ := ts.get hx
      obtain ⟨t, rfl, et⟩ := td
      have ilt : i < dss.length := (List.getElem?_eq_some_iff.mp hds).1
      have kl : kvs.length = i := by
        have := congrArg List.length ks
        rw [List.length_map, List.length_map, List.length_take] at this
        omega
      have G2 := G.add nq (o := .tup [.int (i : Int), .ref t])
      have ek2 : (upd H' q (.tup [.int (i : Int), .ref t])) dk = some (.dT kvs) := by walk_at "at"
      have et2 := G2.fh _ _ et
      have dr : dss.drop i = ds :: dss.drop (i + 1) := by
        rw [List.drop_eq_getElem_cons ilt, (List.getElem?_eq_some_iff.mp hds).2]
      have tk : dss.take (i + 1) = dss.take i ++ [ds] := by
        rw [List.take_add_one, hds]
        rfl
      rw [dr] at ef
      walk_at "rd"
      apply c_word_of
      refine q_word_of.mk (SqT.of et2) (hd ds (List.mem_of_getElem? hds)) ?_
      cases e : wordOf n ds with
      | some w =>
        have ef' : faultOf n dss [] 0 = some (i, w) := by
          rw [ef, faultOf, e]
        rw [ef'] at k
        dsimp only [vO]
        walk_at "rd"
        refine o_new (by walk_at "len") fun u nu => ?_
        walk_at "rd"
        exact k _ _ _ (G2.addF nu fun z => z) ⟨u, rfl, upd_same⟩
      | none =>
        dsimp only [vO]
        walk_at "rd"
        refine din_T ek2 (et2.trans (by rw [keyI, kv_ints])) (ks := keyI ds) ?_
        rw [known_iff ks]
        walk_at "rd"
        walk_at "if"
        · rename_i hk
          have ef' : faultOf n dss [] 0 = some (i, ("again" : Str)) := by
            rw [ef, faultOf, e]
            simp only [hk, if_true]
          rw [ef'] at k
          walk_at "rd"
          refine o_new (by walk_at "len") fun u nu => ?_
          walk_at "rd"
          exact k _ _ _ (G2.addF nu fun z => z) ⟨u, rfl, upd_same⟩
        · rename_i hk
          walk_at "rd"
          refine dput_T ek2 (et2.trans (by rw [keyI, kv_ints])) (ks := keyI ds) (by walk_at "len") ?_
          have new : valV kvs (keyI ds) = none := by
            have := known_iff ks ds
            rw [decide_eq_false hk] at this
            exact Option.isSome_eq_false_iff.mp this |> Option.isNone_iff_eq_none.mp
          refine ⟨_, _, _, _, rfl, upd_same, ?_, ?_, G2.own fk nk⟩
          · rw [putK_new _ new, List.map_append, ks, tk, List.map_append]
            rfl
          · rw [ef, faultOf, e, tk]
            simp only [hk, if_false]
    · rintro σ' H' ⟨y3, y4, y5, kvs, rfl, ek, ks, ef, G⟩
      walk_at "rd"
      rw [lv, List.drop_length, faultOf] at ef
      rw [ef] at k
      exact k _ _ _ G rfl

theorem well_word {m : Int} {d : List Int} (h : Well m d) : wordOf m d = none := by
  rw [wordOf, if_neg h.ne, if_neg, if_neg]
  · intro z
    obtain ⟨j, x, y, h1, h2, h3⟩ := (desc_iff d).mp z
    obtain ⟨l1, e1⟩ := List.getElem?_eq_some_iff.mp h1
    obtain ⟨l2, e2⟩ := List.getElem?_eq_some_iff.mp h2
    have := List.pairwise_iff_getElem.mp h.up j (j + 1) l1 l2 (by omega)
    omega
  · intro z
    obtain ⟨x, hx, e⟩ := List.any_eq_true.mp z
    have := h.within x hx
    have e' : x < 0 ∨ m ≤ x := by simpa using e
    omega
theorem well_fault {m : Int} : ∀ (dss known : List (List Int)) (i : Nat), (∀ d ∈ dss, Well m d) → dss.Nodup → (∀ d ∈ dss, d ∉ known) → faultOf m dss known i = none
  | [], _, _, _, _, _ => rfl
  | d :: r, known, i, hw, nd, nk => by
    rw [faultOf, well_word (hw d List.mem_cons_self)]
    simp only [nk d List.mem_cons_self, if_false]
    have nd' := List.nodup_cons.mp nd
    exact well_fault r _ _ (fun x hx => hw x (List.mem_cons_of_mem _ hx)) nd'.2 fun x hx z => by
      rcases List.mem_append.mp z with z | z
      · exact nk x (List.mem_cons_of_mem _ hx) z
      · rw [List.mem_singleton.mp z] at hx
        exact nd'.1 hx
inductive q_looked (K : PySem.W.Frag) (ad : Ad) : V → V → Hp → VK → Prop
  | mk {n : Int} {a : Addr} {vs : List V} {dss : List (List Int)} {F H : Hp} {Q : VK} (h1 : 1 ≤ n) (h2 : n ≤ 60) (hF : Same F H) (hs : SqL K H a vs) (ts : TIs F vs dss) (hl : dss.length ≤ 200) (hd : ∀ d ∈ dss, Well n d) (nd : dss.Nodup)
    (k : ∀ F' H', Gr M0 F H F' H' → Q .non H') : q_looked K ad (.int n) (.ref a) H Q
def sp_looked (K : PySem.W.Frag) (ad : Ad) : Sp := fun vs H Q _ => match vs with | [x0, x1] => q_looked K ad x0 x1 H Q | _ => False
theorem c_looked {K : PySem.W.Frag} {ad : Ad} {x0 x1 : V} {H : Hp} {Q : VK} {E : XK} (h : q_looked K ad x0 x1 H Q) : sp_looked K ad ([x0, x1] ++ []) H Q E := h
theorem n_looked {K : PySem.W.Frag} {ad : Ad} {vs : List V} {H : Hp} {Q : VK} {E : XK} (h : sp_looked K ad vs H Q E) : ∃ x0 x1, vs = [x0, x1] ∧ q_looked K ad x0 x1 H Q := match vs, h with | [x0, x1], h => ⟨x0, x1, rfl, h⟩
def t_looked (K : PySem.W.Frag) (ad : Ad) : TS := (tSeq (tIfS (tOr (tTest (tOp (zLt K) (tVar 0) (tC (.int 1)))) (tTest (tOp zGt (tVar 0) (tC (.int 60))))) tNever tNext)
    (tSeq (tIfS (tTest (tOp zGt (tCB (zLen K) (tCons (tVar 1) tNil)) (tC (.int 200)))) tNever tNext)
    (tSeq (tAsg (tCall (sp_fault K ad) [] E0 (tCons (tVar 0) (tCons (tVar 1) tNil))) (gName 2))
    (tIfS (tTest (tOp zNotN (tVar 2) (tC .non))) tNever tNext))))
theorem w_looked {K : PySem.W.Frag} {ad : Ad} {x0 x1 : V} {H : Hp} {Q : VK} (h : q_looked K ad x0 x1 H Q) : t_looked K ad ⟨fun _ H' => Q .non H', Q, fun _ _ => False, fun _ _ => False⟩ [some x0, some x1, none] H := by
  cases h with
  | @mk n a vs dss F _ _ h1 h2 hF hs ts hl hd nd k =>
    have lv : vs.length = dss.length := ts.length
    unfold t_looked
    walk_at "rd"
    apply c_fault
    refine q_fault.mk hF hs ts (by omega) (fun d h => by have := (hd d h).few; omega) fun v F1 H1 g1 hv => ?_
    rw [well_fault dss [] 0 hd nd (by simp)] at hv
    obtain rfl : v = .non := hv
    walk_at "rd"
    exact k _ _ g1

theorem well_ge {m : Int} {d : List Int} (h : Well m d) : ∀ x ∈ d, 0 ≤ x := fun x hx => (h.within x hx).1
theorem stab_TIn {f : Nat → List Int → Prop} : Stab fun i y H => ∃ ns, f i ns ∧ TI H y ns := stab_TI
theorem bits_small {m : Int} {d : List Int} (hm : m ≤ 60) (h : Well m d) : bitsN d < 2 ^ 1000 := by
  have := bitsN_lt (m := 60) (l := d) fun x hx => ⟨(h.within x hx).1, by have := (h.within x hx).2; omega⟩
  exact Nat.lt_of_lt_of_le this (Nat.pow_le_pow_right (by decide) (by decide))
/-- the list of bits of the sets, made by a comprehension -/
theorem rows_of {dss : List (List Int)} {ys : List V} (l : ys.length = dss.length) (h : ∀ (i : Nat) (y : V), ys[i]? = some y → ∃ d, dss[i]? = some d ∧ y = nV (bitsN d)) : ys = (dss.map bitsN).map nV := ys_of (by rw [List.length_map, List.length_map, l]) fun i y e => by
  obtain ⟨d, hd, rfl⟩ := h i y e
  rw [List.getElem?_map, List.getElem?_map, hd]
  rfl

def leastS (dss : List (List Int)) (d : List Int) : Bool := !(dss.any fun o => decide (o ≠ d) && decide (∀ x ∈ o, x ∈ d))
theorem any_mem {α : Type} {p q : α → Bool} : ∀ {l : List α}, (∀ x ∈ l, p x = q x) → l.any p = l.any q
  | [], _ => rfl
  | x :: l, h => by
    rw [List.any_cons, List.any_cons, h x List.mem_cons_self, any_mem fun y hy => h y (List.mem_cons_of_mem _ hy)]
theorem leastN_S {m : Int} {dss : List (List Int)} (hd : ∀ d ∈ dss, Well m d) {d : List Int} (h : d ∈ dss) : leastN (dss.map bitsN) (bitsN d) = leastS dss d := by
  unfold leastN leastS
  rw [List.any_map]
  congr 1
  refine any_mem fun o ho => ?_
  have wo := hd o ho
  have wd := hd d h
  show (decide (bitsN o ≠ bitsN d) && decide (bitsN o &&& bitsN d = bitsN o)) = _
  congr 1
  · exact decide_eq_decide.mpr (not_congr (bitsN_inj wo.up wd.up (well_ge wo) (well_ge wd)))
  · exact decide_eq_decide.mpr (bitsN_sub (well_ge wo) (well_ge wd))
theorem filter_bits {m : Int} {dss : List (List Int)} (hd : ∀ d ∈ dss, Well m d) : ∀ l : List (List Int), (∀ d ∈ l, d ∈ dss) → (l.map bitsN).filter (leastN (dss.map bitsN)) = (l.filter (leastS dss)).map bitsN
  | [], _ => rfl
  | d :: l, h => by
    rw [List.map_cons, List.filter_cons, List.filter_cons, leastN_S hd (h d List.mem_cons_self), filter_bits hd l fun x hx => h x (List.mem_cons_of_mem _ hx)]
    split <;> rfl
inductive q_least_ones (K : PySem.W.Frag) (ad : Ad) : V → V → Hp → VK → Prop
  | mk {n : Int} {a : Addr} {vs : List V} {dss : List (List Int)} {F H : Hp} {Q : VK} (h1 : 1 ≤ n) (h2 : n ≤ 60) (hF : Same F H) (hs : SqL K H a vs) (ts : TIs F vs dss) (hl : dss.length ≤ 200) (hd : ∀ d ∈ dss, Well n d) (nd : dss.Nodup)
    (k : ∀ D ws H', Same H H' → Fresh H D → H' D = some (.lst ws) → TIs H' ws (dss.filter (leastS dss)) → Q (.ref D) H') : q_least_ones K ad (.int n) (.ref a) H Q
/-! ### meeting -/
def shareOf (e d : List Int) : Option Int := e.find? fun x => decide (x ∈ d)
theorem share_none {m : Int} {e d : List Int} (he : Well m e) (hd : Well m d) : shareOf e d = none ↔ bitsN e &&& bitsN d = 0 := by
  rw [bitsN_apart (well_ge he) (well_ge hd), shareOf, List.find?_eq_none]
  simp
/-- the least seat of both -/
theorem share_some {m : Int} {e d : List Int} {x : Int} (he : Well m e) (hd : Well m d) (h : shareOf e d = some x) : 0 ≤ x ∧ (bitsN d &&& bitsN e).testBit x.toNat = true ∧ ∀ j, j < x.toNat → (bitsN d &&& bitsN e).testBit j = false := by
  obtain ⟨h1, as, bs, e1, h2⟩ := List.find?_eq_some_iff_append.mp h
  have hx : x ∈ e := by
    rw [e1]
    simp
  have x0 := well_ge he x hx
  have hxd := of_decide_eq_true h1
  refine ⟨x0, ?_, fun j hj => ?_⟩
  · rw [bitsN_and (well_ge hd) (well_ge he), Int.toNat_of_nonneg x0]
    exact decide_eq_true ⟨hxd, hx⟩
  · rw [bitsN_and (well_ge hd) (well_ge he)]
    refine decide_eq_false fun ⟨hjd, hje⟩ => ?_
    have up := he.up
    rw [e1] at hje up
    rcases List.mem_append.mp hje with q | q
    · have := h2 _ q
      simp [hjd] at this
    · rcases List.mem_cons.mp q with q | q
      · omega
      · have := List.rel_of_pairwise_cons (List.pairwise_append.mp up).2.1 q
        omega
def tabOf (dss : List (List Int)) (k : Nat) : List Int := (dss.take k).map fun e => (shareOf e (dss.getD k [])).getD 0
theorem row_none {n : Nat} : ∀ {ms : List Nat} {i : Nat}, apartRow n ms i = none → ∀ m ∈ ms, n &&& m ≠ 0
  | [], _, _, _, h => by cases h
  | m :: r, i, h, x, hx => by
    rw [apartRow] at h
    split at h
    · cases h
    · rename_i h0
      rcases List.mem_cons.mp hx with e | hx
      · rw [e]
        exact h0
      · exact row_none h x hx
theorem apart_none : ∀ {ns : List Nat} {i : Nat}, apartOf ns i = none → ns.Pairwise fun n m => n &&& m ≠ 0
  | [], _, _ => .nil
  | n :: r, i, h => by
    rw [apartOf] at h
    cases e : apartRow n r (i + 1) with
    | some j =>
      rw [e] at h
      cases h
    | none =>
      rw [e] at h
      exact .cons (row_none e) (apart_none h)
def MeetV (H : Hp) (v : V) (dss : List (List Int)) : Prop :=
  (∃ i j t, apartOf (dss.map bitsN) 0 = some (i, j) ∧ v = .ref t ∧ H t = some (.tup [.str "apart", .int (i : Nat), .int (j : Nat)])) ∨
  (∃ t b rs, apartOf (dss.map bitsN) 0 = none ∧ v = .ref t ∧ H t = some (.tup [.str "meets", .ref b]) ∧ H b = some (.lst rs) ∧ LIs H rs ((List.range dss.length).map (tabOf dss)))
theorem MeetV.mono {H H' : Hp} {v : V} {dss : List (List Int)} (s : Same H H') (h : MeetV H v dss) : MeetV H' v dss := by
  rcases h with ⟨i, j, t, a, b, c⟩ | ⟨t, b, rs, a, e, c, d, l⟩
  · exact .inl ⟨i, j, t, a, b, s _ _ c⟩
  · exact .inr ⟨t, b, rs, a, e, s _ _ c, s _ _ d, l.mono s⟩
def dMeet (dss : List (List Int)) : PyData := match apartOf (dss.map bitsN) 0 with
  | some (i, j) => .tuple [.str "apart", .int (i : Nat), .int (j : Nat)]
  | none => .tuple [.str "meets", .list (((List.range dss.length).map (tabOf dss)).map dL)]
theorem pl_meet (dss : List (List Int)) : Pl 3 (dMeet dss) := by
  unfold dMeet
  split
  · refine pl_tup fun d hd => ?_
    rcases List.mem_cons.mp hd with rfl | hd
    · exact pl_str
    · rcases List.mem_cons.mp hd with rfl | hd
      · exact pl_int
      · rw [List.mem_singleton.mp hd]
        exact pl_int
  · refine pl_tup fun d hd => ?_
    rcases List.mem_cons.mp hd with rfl | hd
    · exact pl_str
    · rw [List.mem_singleton.mp hd]
      refine pl_lst fun d hd => ?_
      obtain ⟨x, _, rfl⟩ := List.mem_map.mp hd
      exact pl_dL
theorem MeetV.dp {K : PySem.W.Frag} {H : Hp} {v : V} {dss : List (List Int)} (h : MeetV H v dss) : Dp K H v (dMeet dss) := by
  rcases h with ⟨i, j, t, a, rfl, c⟩ | ⟨t, b, rs, a, rfl, c, d, l⟩
  · unfold dMeet
    rw [a]
    exact .tup (SqT.of c) (.cons (.str _) (.cons (.int _) (.cons (.int _) .nil)))
  · unfold dMeet
    rw [a]
    exact .tup (SqT.of c) (.cons (.str _) (.cons (.lst (SqL.of d) l.dp) .nil))
inductive q_meeting (K : PySem.W.Frag) (ad : Ad) : V → V → Hp → VK → Prop
  | mk {n : Int} {a : Addr} {vs : List V} {dss : List (List Int)} {F H : Hp} {Q : VK} (h1 : 1 ≤ n) (h2 : n ≤ 60) (hF : Same F H) (hs : SqL K H a vs) (ts : TIs F vs dss) (hl : dss.length ≤ 200) (hd : ∀ d ∈ dss, Well n d) (nd : dss.Nodup)
    (k : ∀ v H', Same H H' → MeetV H' v dss → Q v H') : q_meeting K ad (.int n) (.ref a) H Q

/-! ### joined -/
def TF (H0 H : Hp) (v : V) (d : List Int) : Prop := ∃ t, v = .ref t ∧ H0 t = none ∧ H t = some (.tup (d.map V.int))
theorem TF.mono {H0 H H' : Hp} {v : V} {d : List Int} (s : Same H H') (h : TF H0 H v d) : TF H0 H' v d := by
  obtain ⟨t, e, n, x⟩ := h
  exact ⟨t, e, n, s _ _ x⟩
theorem TF.put {H0 H : Hp} {v : V} {d : List Int} {D : Addr} {o : HO} {acc : List V} (e : H D = some (.lst acc)) (h : TF H0 H v d) : TF H0 (upd H D o) v d := by
  obtain ⟨t, et, n, x⟩ := h
  refine ⟨t, et, n, ?_⟩
  rw [upd_ne]
  · exact x
  · intro z
    rw [z, e] at x
    cases x
theorem stab_TF {H0 : Hp} {f : Nat → List Int → Prop} : Stab fun i y H => ∃ ns, f i ns ∧ TF H0 H y ns := ⟨fun _ _ _ _ s ⟨ns, h, t⟩ => ⟨ns, h, t.mono s⟩, fun i y H1 D acc acc' e _ ⟨ns, h, t⟩ => ⟨ns, h, t.put e⟩⟩
abbrev TFs (H0 H : Hp) : List V → List (List Int) → Prop := Paired (TF H0 H)
theorem TFs.mono {H0 H H' : Hp} (s : Same H H') {vs : List V} {ds : List (List Int)} (h : TFs H0 H vs ds) : TFs H0 H' vs ds := Paired.mono (fun _ _ => TF.mono s) h
theorem TFs.put {H0 H : Hp} {D : Addr} {o : HO} {acc : List V} (e : H D = some (.lst acc)) {vs : List V} {ds : List (List Int)} (h : TFs H0 H vs ds) : TFs H0 (upd H D o) vs ds := Paired.mono (fun _ _ => TF.put e) h
theorem pr_app {α β : Type} {R : α → β → Prop} {a c : List α} {b d : List β} (h : Paired R a b) (k : Paired R c d) : Paired R (a ++ c) (b ++ d) := by
  induction h with
  | nil => exact k
  | cons x _ ih => exact .cons x ih
theorem TFs.get : ∀ {H0 H : Hp} {vs : List V} {nss : List (List Int)} {i : Nat} {v : V}, TFs H0 H vs nss → vs[i]? = some v → ∃ ns, nss[i]? = some ns ∧ TF H0 H v ns
  | _, _, _, _, i, v, h, e => L2.paired_get h e
def restOf (at' : Int) (d : List Int) : List Int := (d.filter fun z => !decide (z = at')).map fun z => z - if decide (at' < z) = true then 1 else 0
def endOf (n : Int) (e : List Int) : List Int := e.map fun z => n - 1 + z
def jOne (n at' : Int) (es : List (List Int)) (d : List Int) : List (List Int) := if at' ∈ d then es.map fun e => restOf at' d ++ endOf n e else [restOf at' d]
def joinS (n at' : Int) (es dss : List (List Int)) : List (List Int) := dss.flatMap (jOne n at' es)
theorem joinS_snoc {n at' : Int} {es dss : List (List Int)} {d : List Int} {i : Nat} (h : dss[i]? = some d) : joinS n at' es (dss.take (i + 1)) = joinS n at' es (dss.take i) ++ jOne n at' es d := by
  rw [List.take_add_one, h, joinS, List.flatMap_append]
  simp [joinS]
theorem joinS_many (n : Int) {at' : Int} {es : List (List Int)} : ∀ dss : List (List Int), (dss.map fun d => if at' ∈ d then (es.length : Int) else 1).sum = ((joinS n at' es dss).length : Nat)
  | [] => rfl
  | d :: r => by
    rw [List.map_cons, List.sum_cons, joinS_many n r, joinS, joinS, List.flatMap_cons, List.length_append, jOne]
    split
    · rw [List.length_map]
      omega
    · rw [List.length_singleton]
      omega
theorem joinS_le {n at' : Int} {es : List (List Int)} (dss : List (List Int)) (i : Nat) : (joinS n at' es (dss.take i)).length ≤ (joinS n at' es dss).length := by
  have : joinS n at' es dss = joinS n at' es (dss.take i) ++ joinS n at' es (dss.drop i) := by
    rw [joinS, joinS, joinS, ← List.flatMap_append, List.take_append_drop]
  rw [this, List.length_append]
  omega
theorem rest_fil (at' : Int) (d : List Int) : ((d.filter fun z => !decide (z = at')).map fun z => V.int (z - if decide (at' < z) = true then 1 else 0)) = (restOf at' d).map V.int := by
  rw [restOf, List.map_map]
  rfl

/-! ### what a joined family is -/
def hasP (P : Int → Bool) (dss : List (List Int)) : Bool := dss.any fun d => d.all P
def SD (dss : List (List Int)) : Prop := ∀ P : Int → Bool, hasP P dss = !hasP (fun x => !P x) dss
def Meets (dss : List (List Int)) : Prop := ∀ d ∈ dss, ∀ e ∈ dss, ∃ x, x ∈ d ∧ x ∈ e
theorem SD.meets {dss : List (List Int)} (h : SD dss) : Meets dss := fun d hd e he => Classical.byContradiction fun no => by
  have z := h fun x => decide (x ∈ d)
  have h1 : hasP (fun x => decide (x ∈ d)) dss = true := List.any_eq_true.mpr ⟨d, hd, List.all_eq_true.mpr fun x hx => decide_eq_true hx⟩
  have h2 : hasP (fun x => !decide (x ∈ d)) dss = true := List.any_eq_true.mpr ⟨e, he, List.all_eq_true.mpr fun x hx => by
    rw [decide_eq_false fun hd => no ⟨x, hd, hx⟩]
    rfl⟩
  rw [h1, h2] at z
  cases z

/-! ### weights -/
def oneOf (k b : Nat) : List Int := ((List.range k).filter fun s => b.testBit s).map fun s : Nat => (s : Int)
def wAt (w : List Int) (s : Int) : Int := w.getD s.toNat 0
def wsum (w : List Int) (d : List Int) : Int := (d.map (wAt w)).sum
def goodB (w : List Int) (b : Nat) : Bool := decide (w.sum < 2 * wsum w (oneOf w.length b)) && (oneOf w.length b).all fun s => !decide (w.sum < 2 * (wsum w (oneOf w.length b) - wAt w s))
def goodS (w : List Int) : List (List Int) := ((List.range (2 ^ w.length)).filter (goodB w)).map (oneOf w.length)
theorem mem_oneOf {k b : Nat} {x : Int} : x ∈ oneOf k b ↔ ∃ s : Nat, x = (s : Int) ∧ s < k ∧ b.testBit s = true := by
  rw [oneOf, List.mem_map]
  constructor
  · rintro ⟨s, hs, rfl⟩
    have := List.mem_filter.mp hs
    exact ⟨s, rfl, List.mem_range.mp this.1, this.2⟩
  · rintro ⟨s, rfl, h1, h2⟩
    exact ⟨s, List.mem_filter.mpr ⟨List.mem_range.mpr h1, h2⟩, rfl⟩
def wOf (w : List Int) (k : Nat) (P : Nat → Bool) : Int := ((List.range k).map fun s => if P s = true then w.getD s 0 else 0).sum
theorem wOf_succ (w : List Int) (k : Nat) (P : Nat → Bool) : wOf w (k + 1) P = wOf w k P + if P k = true then w.getD k 0 else 0 := by
  rw [wOf, List.range_succ, List.map_append, List.sum_append, wOf, List.map_singleton, List.sum_singleton]
theorem wsum_oneOf (w : List Int) (b : Nat) : ∀ k, wsum w (oneOf k b) = wOf w k b.testBit
  | 0 => rfl
  | k + 1 => by
    rw [wOf_succ, ← wsum_oneOf w b k, oneOf, List.range_succ, List.filter_append, List.map_append, wsum, List.map_append, List.sum_append, wsum, oneOf]
    congr 1
    by_cases h : b.testBit k = true
    · rw [List.filter_cons_of_pos h, if_pos h]
      simp [wAt]
    · rw [List.filter_cons_of_neg h, if_neg h]
      rfl
theorem wOf_le {w : List Int} (hw : ∀ x ∈ w, 0 ≤ x) {P R : Nat → Bool} : ∀ {k : Nat}, (∀ s, s < k → P s = true → R s = true) → wOf w k P ≤ wOf w k R
  | 0, _ => Int.le_refl _
  | k + 1, h => by
    have ih := wOf_le hw (k := k) fun s hs => h s (by omega)
    rw [wOf_succ, wOf_succ]
    have p0 : 0 ≤ w.getD k 0 := by
      rw [List.getD_eq_getElem?_getD]
      cases e : w[k]? with
      | none => exact Int.le_refl _
      | some x => exact hw x (List.mem_of_getElem? e)
    by_cases hp : P k = true
    · rw [if_pos hp, if_pos (h k (by omega) hp)]
      omega
    · rw [if_neg hp]
      split <;> omega
theorem wOf_not (w : List Int) (P : Nat → Bool) : ∀ k, wOf w k P + wOf w k (fun s => !P s) = wOf w k fun _ => true
  | 0 => rfl
  | k + 1 => by
    have ih := wOf_not w P k
    rw [wOf_succ, wOf_succ, wOf_succ]
    cases P k <;> simp <;> omega
theorem wOf_all (w : List Int) : (wOf w w.length fun _ => true) = w.sum := by
  have : ∀ k, k ≤ w.length → (wOf w k fun _ => true) = (w.take k).sum := fun k => by
    induction k with
    | zero => exact fun _ => rfl
    | succ k ih =>
      intro h
      rw [wOf_succ, ih (by omega), List.take_add_one, List.sum_append, if_pos rfl, List.getD_eq_getElem?_getD]
      rw [List.getElem?_eq_getElem (by omega)]
      simp
  rw [this _ (Nat.le_refl _), List.take_length]
theorem wOf_off {w : List Int} {P R : Nat → Bool} {s : Nat} (h : ∀ j, R j = (P j && decide (j ≠ s))) (hs : P s = true) : ∀ {k : Nat}, s < k → wOf w k R = wOf w k P - w.getD s 0
  | 0, l => by omega
  | k + 1, l => by
    rw [wOf_succ, wOf_succ, h k]
    rcases Nat.lt_or_ge s k with l' | l'
    · rw [wOf_off h hs l', decide_eq_true (by omega : k ≠ s), Bool.and_true]
      omega
    · obtain rfl : s = k := by omega
      have : wOf w s R = wOf w s P := by
        have e : ∀ j ∈ List.range s, (if R j = true then w.getD j 0 else 0) = if P j = true then w.getD j 0 else 0 := fun j hj => by
          have := List.mem_range.mp hj
          rw [h j, decide_eq_true (by omega : j ≠ s), Bool.and_true]
        rw [wOf, wOf, List.map_congr_left e]
      rw [this, hs]
      simp
theorem getD_wAt (w : List Int) (s : Nat) : wAt w (s : Int) = w.getD s 0 := rfl
/-- a least choice of more than half of the weight -/
theorem good_ex {w : List Int} (P : Nat → Bool) : ∀ b : Nat, b < 2 ^ w.length → (∀ s, b.testBit s = true → P s = true) → w.sum < 2 * wOf w w.length b.testBit → ∃ b', b' < 2 ^ w.length ∧ (∀ s, b'.testBit s = true → P s = true) ∧ goodB w b' = true := fun b => by
  induction b using Nat.strongRecOn with
  | _ b ih =>
    intro hb hp hw
    by_cases h : ∃ s : Nat, s < w.length ∧ b.testBit s = true ∧ w.sum < 2 * (wOf w w.length b.testBit - w.getD s 0)
    · obtain ⟨s, hs, ht, h2⟩ := h
      have tb : ∀ j, (b &&& (b ^^^ 2 ^ s)).testBit j = (b.testBit j && decide (j ≠ s)) := fun j => by
        rw [Nat.testBit_and, Nat.testBit_xor, Nat.testBit_two_pow]
        by_cases e : s = j
        · subst e
          simp [ht]
        · have : j ≠ s := fun z => e z.symm
          simp [e, this]
      have lt : b &&& (b ^^^ 2 ^ s) < b := Nat.lt_of_le_of_ne Nat.and_le_left fun z => by
        have := tb s
        rw [z, ht] at this
        simp at this
      exact ih _ lt (by omega) (fun j hj => hp j (by rw [tb, Bool.and_eq_true] at hj; exact hj.1)) (by rw [wOf_off tb ht hs]; exact h2)
    · refine ⟨b, hb, hp, ?_⟩
      rw [goodB, wsum_oneOf, decide_eq_true hw, Bool.true_and, List.all_eq_true]
      intro x hx
      obtain ⟨s, rfl, hs, ht⟩ := mem_oneOf.mp hx
      rw [getD_wAt, decide_eq_false fun z => h ⟨s, hs, ht, z⟩]
      rfl
theorem good_has {w : List Int} (hw : ∀ x ∈ w, 0 ≤ x) (P : Int → Bool) : hasP P (goodS w) = decide (w.sum < 2 * wOf w w.length fun s => P (s : Int)) := by
  refine Bool.eq_iff_iff.mpr ?_
  rw [hasP, List.any_eq_true, decide_eq_true_iff]
  constructor
  · rintro ⟨d, hd, hp⟩
    obtain ⟨b, hb, rfl⟩ := List.mem_map.mp hd
    have hg := (List.mem_filter.mp hb).2
    rw [goodB, Bool.and_eq_true, decide_eq_true_iff, wsum_oneOf] at hg
    have := wOf_le hw (k := w.length) (P := b.testBit) (R := fun s => P (s : Int)) fun s hs ht => List.all_eq_true.mp hp _ (mem_oneOf.mpr ⟨s, rfl, hs, ht⟩)
    omega
  · intro h
    have bt : ∀ k, ∃ b : Nat, b < 2 ^ k ∧ ∀ s, b.testBit s = (decide (s < k) && P (s : Int)) := fun k => by
      have ml : ∀ x : Int, x ∈ ((List.range k).filter fun s : Nat => P (s : Int)).map (fun s : Nat => (s : Int)) ↔ ∃ s : Nat, s < k ∧ P (s : Int) = true ∧ (s : Int) = x := fun x => by
        rw [List.mem_map]
        constructor
        · rintro ⟨s, hs, e⟩
          have := List.mem_filter.mp hs
          exact ⟨s, List.mem_range.mp this.1, this.2, e⟩
        · rintro ⟨s, h1, h2, e⟩
          exact ⟨s, List.mem_filter.mpr ⟨List.mem_range.mpr h1, h2⟩, e⟩
      refine ⟨bitsN (((List.range k).filter fun s : Nat => P (s : Int)).map fun s : Nat => (s : Int)), bitsN_lt fun d hd => ?_, fun s => ?_⟩
      · obtain ⟨s, h1, _, rfl⟩ := (ml d).mp hd
        omega
      · rw [bitsN_test fun d hd => by
          obtain ⟨s, h1, _, rfl⟩ := (ml d).mp hd
          omega]
        refine Bool.eq_iff_iff.mpr ?_
        rw [decide_eq_true_iff, ml, Bool.and_eq_true, decide_eq_true_iff]
        constructor
        · rintro ⟨s', h1, h2, e⟩
          obtain rfl : s' = s := by omega
          exact ⟨h1, h2⟩
        · exact fun ⟨h1, h2⟩ => ⟨s, h1, h2, rfl⟩
    obtain ⟨b, hb, ht⟩ := bt w.length
    have e : wOf w w.length b.testBit = wOf w w.length fun s => P (s : Int) := by
      have e : ∀ j ∈ List.range w.length, (if b.testBit j = true then w.getD j 0 else 0) = if P (j : Int) = true then w.getD j 0 else 0 := fun j hj => by
        rw [ht j, decide_eq_true (List.mem_range.mp hj), Bool.true_and]
      rw [wOf, wOf, List.map_congr_left e]
    obtain ⟨b', h1, h2, h3⟩ := good_ex (fun s => P (s : Int)) b hb (fun s hs => by
      rw [ht s, Bool.and_eq_true] at hs
      exact hs.2) (by rw [e]; exact h)
    refine ⟨_, List.mem_map.mpr ⟨b', List.mem_filter.mpr ⟨List.mem_range.mpr h1, h3⟩, rfl⟩, List.all_eq_true.mpr fun x hx => ?_⟩
    obtain ⟨s, rfl, _, ht⟩ := mem_oneOf.mp hx
    exact h2 s ht
theorem good_SD {w : List Int} (hw : ∀ x ∈ w, 0 ≤ x) (odd : w.sum % 2 = 1) : SD (goodS w) := fun P => by
  have := (wOf_not w (fun s => P (s : Int)) w.length).trans (wOf_all w)
  rw [good_has hw, good_has hw]
  by_cases h : w.sum < 2 * wOf w w.length fun s => P (s : Int)
  · rw [decide_eq_true h, decide_eq_false (by omega)]
    rfl
  · rw [decide_eq_false h, decide_eq_true (by omega)]
    rfl
theorem good_well {w : List Int} (hw : ∀ x ∈ w, 0 ≤ x) (hl : w.length ≤ 5) : ∀ d ∈ goodS w, Well (w.length : Nat) d ∧ d.length ≤ w.length := fun d hd => by
  obtain ⟨b, hb, rfl⟩ := List.mem_map.mp hd
  have hg := (List.mem_filter.mp hb).2
  rw [goodB, Bool.and_eq_true, decide_eq_true_iff] at hg
  have len : (oneOf w.length b).length ≤ w.length := by
    rw [oneOf, List.length_map]
    exact Nat.le_trans (List.length_filter_le _ _) (by rw [List.length_range]; exact Nat.le_refl _)
  refine ⟨⟨fun z => ?_, ?_, fun x hx => ?_, by omega⟩, len⟩
  · rw [z] at hg
    have s0 : 0 ≤ w.sum := by
      clear hb hg z len hl hd
      induction w with
      | nil => exact Int.le_refl _
      | cons x w ih =>
        rw [List.sum_cons]
        have := ih fun y hy => hw y (List.mem_cons_of_mem _ hy)
        have := hw x (List.mem_cons_self ..)
        omega
    have : wsum w [] = 0 := rfl
    omega
  · rw [oneOf, List.pairwise_map]
    exact (List.pairwise_lt_range.filter _).imp fun h => by omega
  · obtain ⟨s, rfl, hs, _⟩ := mem_oneOf.mp hx
    omega
theorem good_nodup (w : List Int) : (goodS w).Nodup := by
  rw [goodS, List.Nodup, List.pairwise_map]
  refine List.Pairwise.imp_of_mem (fun {b c} hb hc ne e => ne ?_) (List.nodup_range.filter _)
  have hb := List.mem_range.mp (List.mem_filter.mp hb).1
  have hc := List.mem_range.mp (List.mem_filter.mp hc).1
  refine Nat.eq_of_testBit_eq fun j => ?_
  rcases Nat.lt_or_ge j w.length with l | l
  · refine Bool.eq_iff_iff.mpr ⟨fun h => ?_, fun h => ?_⟩
    · have : (j : Int) ∈ oneOf w.length b := mem_oneOf.mpr ⟨j, rfl, l, h⟩
      rw [e] at this
      obtain ⟨s, es, _, h⟩ := mem_oneOf.mp this
      rwa [show j = s by omega]
    · have : (j : Int) ∈ oneOf w.length c := mem_oneOf.mpr ⟨j, rfl, l, h⟩
      rw [← e] at this
      obtain ⟨s, es, _, h⟩ := mem_oneOf.mp this
      rwa [show j = s by omega]
  · have p := Nat.pow_le_pow_right (by decide : 0 < 2) l
    rw [Nat.testBit_lt_two_pow (Nat.lt_of_lt_of_le hb p), Nat.testBit_lt_two_pow (Nat.lt_of_lt_of_le hc p)]
theorem good_len {w : List Int} (hl : w.length ≤ 5) : (goodS w).length ≤ 32 := by
  rw [goodS, List.length_map]
  refine Nat.le_trans (List.length_filter_le _ _) ?_
  rw [List.length_range]
  exact Nat.pow_le_pow_right (n := 2) (by decide) hl

theorem gthn {M : Addr → Prop} {F H F' H' H'' : Hp} (g : Gr M F H F' H') (s : Same H' H'') : Gr M F H F' H'' := ⟨g.ff, g.fh.trans s, fun b o n e => s _ _ (g.hh b o n e), g.nw⟩
theorem wAt_get {w : List Int} {s : Nat} (h : s < w.length) : w[s]? = some (wAt w (s : Int)) := by
  rw [List.getElem?_eq_getElem h, wAt, Int.toNat_natCast, List.getD_eq_getElem?_getD, List.getElem?_eq_getElem h]
  rfl
theorem bit_div (b i : Nat) : decide ((b : Int) / ((2 ^ i : Nat) : Int) % 2 = 1) = b.testBit i := by
  rw [Nat.testBit_eq_decide_div_mod_eq]
  refine decide_eq_decide.mpr ?_
  omega
theorem wAt_nn {w : List Int} (hw : ∀ x ∈ w, 0 ≤ x) (s : Int) : 0 ≤ wAt w s := by
  rw [wAt, List.getD_eq_getElem?_getD]
  cases e : w[s.toNat]? with
  | none => exact Int.le_refl _
  | some x => exact hw x (List.mem_of_getElem? e)
def gOf (w : List Int) (i : Nat) : List (List Int) := ((List.range i).filter (goodB w)).map (oneOf w.length)
theorem gOf_yes {w : List Int} {i : Nat} (h : goodB w i = true) : gOf w (i + 1) = gOf w i ++ [oneOf w.length i] := by
  rw [gOf, List.range_succ, List.filter_append, List.filter_cons_of_pos h, List.map_append]
  rfl
theorem gOf_no {w : List Int} {i : Nat} (h : ¬ goodB w i = true) : gOf w (i + 1) = gOf w i := by
  rw [gOf, List.range_succ, List.filter_append, List.filter_cons_of_neg h, List.map_append]
  exact List.append_nil _
inductive q__law_good (K : PySem.W.Frag) (ad : Ad) : V → V → V → Hp → VK → Prop
  | mk {a p : Addr} {ns : List Int} {most : Int} {F H : Hp} {Q : VK} (hF : Same F H) (hS : SqL K F a (ns.map V.int)) (hp : Pot H p) (fp : F p = none) (h0 : 1 ≤ most) (h1 : most ≤ 5)
    (k : ∀ r q vs w F' H', 1 ≤ w.length → (w.length : Int) ≤ most → H' r = some (.lst [.int (w.length : Nat), .ref q]) → H' q = some (.lst vs) → q ≠ p → TIs F' vs (goodS w) → (∀ x ∈ w, 0 ≤ x) → w.sum % 2 = 1 → F' q = none → Pot H' p → Gr (M1 p) F H F' H' → Q (.ref r) H') : q__law_good K ad (.ref a) (.ref p) (.int most) H Q
def sp__law_good (K : PySem.W.Frag) (ad : Ad) : Sp := fun vs H Q _ => match vs with | [x0, x1, x2] => q__law_good K ad x0 x1 x2 H Q | _ => False
theorem c__law_good {K : PySem.W.Frag} {ad : Ad} {x0 x1 x2 : V} {H : Hp} {Q : VK} {E : XK} (h : q__law_good K ad x0 x1 x2 H Q) : sp__law_good K ad ([x0, x1, x2] ++ []) H Q E := h
theorem n__law_good {K : PySem.W.Frag} {ad : Ad} {vs : List V} {H : Hp} {Q : VK} {E : XK} (h : sp__law_good K ad vs H Q E) : ∃ x0 x1 x2, vs = [x0, x1, x2] ∧ q__law_good K ad x0 x1 x2 H Q := match vs, h with | [x0, x1, x2], h => ⟨x0, x1, x2, rfl, h⟩
def t__law_good (K : PySem.W.Frag) (ad : Ad) : TS := (tSeq (tAsg (tLc (iRng1 (tCons (tOp (zAdd K) (tC (.int 1)) (tCall (sp__law_take K ad) [] E0 (tCons (tVar 0) (tCons (tVar 1) (tCons (tVar 2) tNil))))) tNil)) (gName 8) tYes (tCall (sp__law_take K ad) [] E0 (tCons (tVar 0) (tCons (tVar 1) (tCons (tC (.int 4)) tNil)))) [8]) (gName 3))
    (Evl.tCut (tIfS (tTest (tOp (zEq K) (tOp zMod (tCB (rSum K) (tCons (tVar 3) tNil)) (tC (.int 2))) (tC (.int 0)))) (tAsg (tOp (zAdd K) (tOp (rIx K) (tVar 3) (tC (.int 0))) (tC (.int 1))) (gSub (tVar 3) (tC (.int 0)) rSetL)) tNext)
    (tSeq (tAsg (tLst tNil) (gName 4))
    (tSeq (tFor (iRng1 (tCons (tOp (rIx K) (tLst (tCons (tC (.int 1)) (tCons (tC (.int 2)) (tCons (tC (.int 4)) (tCons (tC (.int 8)) (tCons (tC (.int 16)) (tCons (tC (.int 32)) tNil))))))) (tCB (zLen K) (tCons (tVar 3) tNil))) tNil)) (gName 5)
    (tSeq (tAsg (tCB (zTuple K) (tCons (tLc (iRng1 (tCons (tCB (zLen K) (tCons (tVar 3) tNil)) tNil)) (gName 9) (tTest (tOp (zEq K) (tOp zMod (tOp zDiv (tVar 5) (tOp (rIx K) (tLst (tCons (tC (.int 1)) (tCons (tC (.int 2)) (tCons (tC (.int 4)) (tCons (tC (.int 8)) (tCons (tC (.int 16)) tNil)))))) (tVar 9))) (tC (.int 2))) (tC (.int 1)))) (tVar 9) [9]) tNil)) (gName 6))
    (tSeq (tAsg (tCB (rSum K) (tCons (tLc (iTup K (tVar 6)) (gName 9) tYes (tOp (rIx K) (tVar 3) (tVar 9)) [9]) tNil)) (gName 7))
    (tIfS (tTest (tOp zGt (tOp zMul (tC (.int 2)) (tVar 7)) (tCB (rSum K) (tCons (tVar 3) tNil)))) (tIfS (tTest (tOp (zEq K) (tLc (iTup K (tVar 6)) (gName 9) (tTest (tOp zGt (tOp zMul (tC (.int 2)) (tOp zSub (tVar 7) (tOp (rIx K) (tVar 3) (tVar 9)))) (tCB (rSum K) (tCons (tVar 3) tNil)))) (tC (.int 1)) [9]) (tLst tNil))) (tDrop (tBM K "list" rAppend (tVar 4) (tCons (tVar 6) tNil))) tNext) tNext))))
    (tRet (tLst (tCons (tCB (zLen K) (tCons (tVar 3) tNil)) (tCons (tVar 4) tNil))))))))
theorem w__law_good {K : PySem.W.Frag} {ad : Ad} {x0 x1 x2 : V} {H : Hp} {Q : VK} (h : q__law_good K ad x0 x1 x2 H Q) : t__law_good K ad ⟨fun _ H' => Q .non H', Q, fun _ _ => False, fun _ _ => False⟩ [some x0, some x1, some x2, none, none, none, none, none, none, none] H := by
  cases h with
  | @mk a p ns most F _ _ hF hS hp fp h0 h1 k =>
    unfold t__law_good
    obtain ⟨_, ep⟩ := hp.is
    walk_at "rd"
    apply c__law_take
    refine q__law_take.mk hF hS hp fp (by omega) (by omega) fun kk H1 k0 k1 hp1 g1 => ?_
    obtain ⟨_, ep1⟩ := hp1.is
    walk_at "rd"
    refine lc_R1 (by omega) (fun D i H' => ∃ w : List Int, H' D = some (.lst (w.map V.int)) ∧ w.length = i ∧ (∀ x ∈ w, 0 ≤ x ∧ x < 4) ∧ Pot H' p ∧ Gr (M1 p) F H F H') ?_ ?_ ?_
    · intro D nD
      exact ⟨[], upd_same, rfl, by simp, hp1.upd (fresh_ne nD ep1).symm, g1.add nD⟩
    · rintro D i H3 nD hi ⟨w, eD, lw, hw, hp3, g3⟩
      obtain ⟨_, ep3⟩ := hp3.is
      have nDp := fresh_ne nD ep1
      have nDH := g1.fr1 ep1 nD
      walk_at "rd"
      apply c__law_take
      refine q__law_take.mk g3.fh hS hp3 fp (by omega) (by omega) fun d H4 d0 d1 hp4 g4 => ?_
      walk_at "rd"
      refine ⟨_, g4.hh D _ nDp eD, by walk_at "len", w ++ [d], ?_, by walk_at "len", ?_, hp4.upd nDp.symm, (g3.tr1 g4 ep3).own (fresh_F hF nDH) nDH⟩
      · rw [upd_same, List.map_append]
        rfl
      · intro x hx
        rcases List.mem_append.mp hx with hx | hx
        · exact hw x hx
        · rw [List.mem_singleton.mp hx]
          exact ⟨d0, d1⟩
    rintro wq H2 nwq ⟨w, eW, lw, hw, hp2, g2⟩
    obtain ⟨_, ep2⟩ := hp2.is
    have nWp := fresh_ne nwq ep1
    have nWH := g1.fr1 ep1 nwq
    have fW := fresh_F hF nWH
    have l1 : 1 ≤ w.length := by omega
    have l2 : (w.length : Int) ≤ most := by omega
    clear lw
    walk_at "rd"
    refine s_cut (fun σ' H' => ∃ w : List Int, σ' = [some (.ref a), some (.ref p), some (.int most), some (.ref wq), none, none, none, none, none, none] ∧ H' wq = some (.lst (w.map V.int)) ∧ 1 ≤ w.length ∧ (w.length : Int) ≤ most ∧ (∀ x ∈ w, 0 ≤ x ∧ x ≤ 4) ∧ w.sum % 2 = 1 ∧ Pot H' p ∧ Gr (M1 p) F H F H') ?_ ?_
    · walk_at "rd"
      walk_at "if"
      · rename_i hev
        obtain ⟨x, w', rfl⟩ := List.exists_cons_of_length_pos (by omega : 0 < w.length)
        walk_at "rd"
        refine o_ixL (SqL.of eW) (atI_ints (j := 0) rfl) ?_
        walk_at "rd"
        refine o_setN (k := 0) eW (by rw [List.length_map]; omega) ?_
        rw [List.sum_cons] at hev
        refine ⟨(x + 1) :: w', rfl, upd_same, l1, l2, fun y hy => ?_, by rw [List.sum_cons]; omega, hp2.upd nWp.symm, g2.own fW nWH⟩
        rcases List.mem_cons.mp hy with rfl | hy
        · have := hw x (List.mem_cons_self ..)
          omega
        · have := hw y (List.mem_cons_of_mem _ hy)
          omega
      · rename_i hod
        walk_at "rd"
        exact ⟨w, rfl, eW, l1, l2, fun x hx => ⟨(hw x hx).1, by have := (hw x hx).2; omega⟩, by omega, hp2, g2⟩
    clear eW l1 l2 hw g1 hp1 ep1 ep2 g2 hp2
    rintro σ' H3 ⟨w, rfl, eW, l1, l2, hw, odd, hp3, g3⟩
    obtain ⟨_, ep3⟩ := hp3.is
    obtain ⟨m, hm⟩ : ∃ m : Nat, m = w.length := ⟨_, rfl⟩
    have w0 : ∀ x ∈ w, 0 ≤ x := fun x hx => (hw x hx).1
    walk_at "rd"
    refine o_new (Nat.zero_le _) fun q0 n0 => ?_
    have s4 : Same H3 (upd H3 q0 (.lst [])) := up_keep n0
    have nqp : q0 ≠ p := fresh_ne n0 ep3
    have nqw : q0 ≠ wq := fresh_ne n0 eW
    have eq4 := upd_same (H := H3) (a := q0) (o := .lst [])
    have hp4 := hp3.at (s4 p)
    have G4 : Gr (M1 p) F H F (upd H3 q0 (.lst [])) := gthn g3 s4
    have nqH : Fresh H q0 := g3.fr1 ep3 n0
    have fq : F q0 = none := fresh_F hF nqH
    have eW4 := s4 _ _ eW
    generalize upd H3 q0 (.lst []) = H4 at *
    walk_at "rd"
    refine o_new (by walk_at "len") fun u nu => ?_
    have s5 : Same H4 (upd H4 u (.lst [.int 1, .int 2, .int 4, .int 8, .int 16, .int 32])) := up_keep nu
    have eu := upd_same (H := H4) (a := u) (o := .lst [.int 1, .int 2, .int 4, .int 8, .int 16, .int 32])
    have G5 := gthn G4 s5
    have hp5 := hp4.at (s5 p)
    have eq5 := s5 _ _ eq4
    have eW5 := s5 _ _ eW4
    generalize upd H4 u (.lst [.int 1, .int 2, .int 4, .int 8, .int 16, .int 32]) = H5 at *
    walk_at "rd"
    rw [List.length_map, ← hm]
    refine o_ixL (SqL.of eu) (v := .int ((2 ^ m : Nat) : Int)) (by
      have : m = 1 ∨ m = 2 ∨ m = 3 ∨ m = 4 ∨ m = 5 := by omega
      rcases this with e | e | e | e | e <;> (rw [e]; rfl)) ?_
    walk_at "rd"
    obtain ⟨N, hN⟩ : ∃ N : Nat, N = 2 ^ m := ⟨_, rfl⟩
    have N32 : N ≤ 32 := by
      rw [hN]
      exact Nat.pow_le_pow_right (n := 2) (by decide) (by omega : m ≤ 5)
    rw [← hN]
    refine lp_range1 (by omega) (fun i σ' H' => ∃ y5 y6 y7 vs F', σ' = [some (.ref a), some (.ref p), some (.int most), some (.ref wq), some (.ref q0), y5, y6, y7, none, none] ∧ H' q0 = some (.lst vs) ∧ TIs F' vs (gOf w i) ∧ F' q0 = none ∧ F' p = none ∧ Pot H' p ∧ Gr (M1 p) F H F' H' ∧ H' wq = some (.lst (w.map V.int))) ?_ ?_ ?_
    · exact ⟨_, _, _, [], F, rfl, eq5, .nil, fq, fp, hp5, G5, eW5⟩
    · rintro i σ' H6 hi ⟨y5, y6, y7, vs, F6, rfl, eq, ts, fq6, fp6, hp6, G6, eW6⟩
      obtain ⟨_, ep6⟩ := hp6.is
      have i32 : i < 32 := by omega
      have lg : (gOf w i).length ≤ i := by
        rw [gOf, List.length_map]
        exact Nat.le_trans (List.length_filter_le _ _) (by rw [List.length_range]; exact Nat.le_refl _)
      walk_at "rd"
      rw [List.length_map]
      refine lcR_grow (fun s : Nat => i.testBit s) (fun s : Nat => V.int (s : Int)) ⟨by omega, by omega⟩ (fun s hs H2 QB SF q => ?_) (fun s hs H2 Q3 SF hb q => ?_) (fun D H7 nD s7 eD => ?_)
      · walk_at "rd"
        refine o_new (by walk_at "len") fun v nv => ?_
        have s5' : Same H2 (upd H2 v (.lst [.int 1, .int 2, .int 4, .int 8, .int 16])) := up_keep nv
        have ev := upd_same (H := H2) (a := v) (o := .lst [.int 1, .int 2, .int 4, .int 8, .int 16])
        walk_at "rd"
        refine o_ixL (SqL.of ev) (v := .int ((2 ^ s : Nat) : Int)) (by
          have : s = 0 ∨ s = 1 ∨ s = 2 ∨ s = 3 ∨ s = 4 := by omega
          rcases this with e | e | e | e | e <;> (rw [e]; rfl)) ?_
        have p0 : 0 < 2 ^ s := Nat.two_pow_pos s
        have p1 := Nat.pow_le_pow_right (n := 2) (by decide) (by omega : s ≤ 5)
        refine o_div (by omega) (by omega) ?_
        walk_at "rd"
        rw [bit_div]
        exact q _ s5'
      · walk_at "rd"
        exact q _ (Same.refl _)
      have eD : H7 D = some (.lst ((oneOf w.length i).map V.int)) := by
        rw [eD, oneOf, List.map_map, Int.toNat_natCast]
        rfl
      walk_at "rd"
      refine o_tupleL (SqL.of eD) fun t nt => ?_
      have s8 : Same H6 (upd H7 t (.tup ((oneOf w.length i).map V.int))) := s7.trans (up_keep nt)
      have et := upd_same (H := H7) (a := t) (o := .tup ((oneOf w.length i).map V.int))
      have eq7 := s7 _ _ eq
      obtain ⟨_, ep7⟩ := (hp6.at (s7 p)).is
      have ntq : t ≠ q0 := fresh_ne nt eq7
      have ntp : t ≠ p := fresh_ne nt ep7
      have G8 : Gr (M1 p) F H (upd F6 t (.tup ((oneOf w.length i).map V.int))) (upd H7 t (.tup ((oneOf w.length i).map V.int))) := (gthn G6 s7).addF nt ntp
      have ef8 := upd_same (H := F6) (a := t) (o := .tup ((oneOf w.length i).map V.int))
      have fq8 : (upd F6 t (.tup ((oneOf w.length i).map V.int))) q0 = none := (upd_ne ntq.symm).trans fq6
      have fp8 : (upd F6 t (.tup ((oneOf w.length i).map V.int))) p = none := (upd_ne ntp.symm).trans fp6
      have ff8 : Same F6 (upd F6 t (.tup ((oneOf w.length i).map V.int))) := up_keep (fresh_F (gthn G6 s7).fh nt)
      generalize upd H7 t (.tup ((oneOf w.length i).map V.int)) = H8 at *
      generalize upd F6 t (.tup ((oneOf w.length i).map V.int)) = F8 at *
      have ts8 : TIs F8 vs (gOf w i) := ts.mono ff8
      have td : TI F8 (.ref t) (oneOf w.length i) := ⟨t, rfl, ef8⟩
      have lo : (oneOf w.length i).length ≤ 5 := by
        rw [oneOf, List.length_map]
        exact Nat.le_trans (List.length_filter_le _ _) (by rw [List.length_range]; omega)
      have eW8 := s8 _ _ eW6
      walk_at "rd"
      refine lcT_igrow (fun _ => true) (fun x => V.int (wAt w x)) (SqT.of et) (by omega) (fun x hx H9 QB s9 q => ?_) (fun x hx H9 Q9 s9 _ q => ?_) (fun D9 H9 n9 s9 eD9 => ?_)
      · exact q _ (Same.refl _)
      · obtain ⟨s, rfl, hs, _⟩ := mem_oneOf.mp hx
        walk_at "rd"
        refine o_ixL (SqL.of (s9 _ _ eW8)) (atI_ints (wAt_get hs)) ?_
        exact q _ (Same.refl _)
      rw [List.filter_eq_self.mpr fun _ _ => rfl] at eD9
      have eD9 : H9 D9 = some (.lst (((oneOf w.length i).map (wAt w)).map V.int)) := by
        rw [eD9, List.map_map]
        rfl
      have eW9 := s9 _ _ eW8
      have et9 := s9 _ _ et
      have S9 := s8.trans s9
      have eq9 := S9 _ _ eq
      have G9 := gthn G8 s9
      have hp9 := hp6.at (S9 p)
      walk_at "rd"
      rw [show ((oneOf w.length i).map (wAt w)).sum = wsum w (oneOf w.length i) from rfl]
      have no : ∀ HX, Same H9 HX → ¬ goodB w i = true → ∃ y5 y6 y7 vs F', [some (V.ref a), some (V.ref p), some (V.int most), some (V.ref wq), some (V.ref q0), some (V.int (i : Int)), some (V.ref t), some (V.int (wsum w (oneOf w.length i))), none, none] = [some (V.ref a), some (V.ref p), some (V.int most), some (V.ref wq), some (V.ref q0), y5, y6, y7, none, none] ∧ HX q0 = some (.lst vs) ∧ TIs F' vs (gOf w (i + 1)) ∧ F' q0 = none ∧ F' p = none ∧ Pot HX p ∧ Gr (M1 p) F H F' HX ∧ HX wq = some (.lst (w.map V.int)) :=
        fun HX sx hg => ⟨_, _, _, vs, F8, rfl, sx _ _ eq9, by rw [gOf_no hg]; exact ts8, fq8, fp8, hp9.at (sx p), gthn G9 sx, sx _ _ eW9⟩
      walk_at "if"
      · rename_i hgt
        walk_at "rd"
        refine lcT_onesG (fun j => decide (w.sum < 2 * (wsum w (oneOf w.length i) - wAt w ((oneOf w.length i).getD j 0)))) (SqT.of et9) (by rw [List.length_map]; omega) (fun j x hx HA QB sA q => ?_) (fun D1 c HA nD1 sA eD1 hc => ?_)
        · rw [List.getElem?_map] at hx
          obtain ⟨z, hz, rfl⟩ := Option.map_eq_some_iff.mp hx
          obtain ⟨s, rfl, hs, _⟩ := mem_oneOf.mp (List.mem_of_getElem? hz)
          walk_at "rd"
          refine o_ixL (SqL.of (sA _ _ eW9)) (atI_ints (wAt_get hs)) ?_
          have eWA := sA _ _ eW9
          walk_at "rd"
          have e : (oneOf w.length i).getD j 0 = (s : Int) := by
            rw [List.getD_eq_getElem?_getD, hz]
            rfl
          rw [e] at q
          exact q _ (Same.refl _)
        · rw [List.length_map] at hc
          have hg : goodB w i = decide (c = 0) := by
            refine Bool.eq_iff_iff.mpr ?_
            rw [goodB, decide_eq_true hgt, Bool.true_and, List.all_eq_true, decide_eq_true_iff, hc]
            constructor
            · intro h j hj
              have := h _ (List.getElem_mem hj)
              rw [List.getD_eq_getElem?_getD, List.getElem?_eq_getElem hj]
              simpa using this
            · intro h x hx
              obtain ⟨j, hj, rfl⟩ := List.getElem_of_mem hx
              have := h j hj
              rw [List.getD_eq_getElem?_getD, List.getElem?_eq_getElem hj] at this
              simpa using this
          walk_at "rd"
          refine o_new (Nat.zero_le _) fun u2 nu2 => ?_
          have sB := sA.trans (up_keep nu2 (o := .lst []))
          refine o_eqOnes (up_keep nu2 _ _ eD1) upd_same ?_
          generalize upd HA u2 (.lst []) = HB at *
          rw [← hg]
          walk_at "rd"
          walk_at "if"
          · rename_i hgd
            have eqB := sB _ _ eq9
            walk_at "rd"
            refine ⟨ty_list (SqL.of eqB), ?_⟩
            walk_at "rd"
            refine m_app eqB (by rw [ts.length, sizeLine_eq]; omega) ?_
            refine ⟨_, _, _, vs ++ [.ref t], F8, rfl, upd_same, by rw [gOf_yes hgd]; exact ts8.app (.cons td .nil), fq8, fp8, (hp9.at (sB p)).upd nqp.symm, (gthn G9 sB).own fq8 nqH, (upd_ne nqw.symm).trans (sB _ _ eW9)⟩
          · rename_i hgd
            exact no _ sB (by rw [hgd]; exact Bool.false_ne_true)
      · rename_i hle
        exact no _ (Same.refl _) (fun h => by
          rw [goodB, Bool.and_eq_true, decide_eq_true_iff] at h
          exact hle h.1)
    · rintro σ' H6 ⟨y5, y6, y7, vs, F6, rfl, eq, ts, fq6, fp6, hp6, G6, eW6⟩
      walk_at "rd"
      rw [List.length_map]
      refine o_new (by walk_at "len") fun r nr => ?_
      have sr : Same H6 (upd H6 r (.lst [.int (w.length : Nat), .ref q0])) := up_keep nr
      rw [Int.toNat_natCast, hN, hm] at ts
      exact k r q0 vs w F6 _ l1 l2 upd_same (sr _ _ eq) nqp ts w0 odd fq6 (hp6.at (sr p)) (gthn G6 sr)

theorem row_some {n : Nat} : ∀ {ms : List Nat} {i : Nat}, (∀ m ∈ ms, n &&& m ≠ 0) → apartRow n ms i = none
  | [], _, _ => rfl
  | m :: r, i, h => by
    rw [apartRow, if_neg (h m (List.mem_cons_self ..))]
    exact row_some fun x hx => h x (List.mem_cons_of_mem _ hx)
theorem apart_of : ∀ {ns : List Nat} {i : Nat}, (ns.Pairwise fun n m => n &&& m ≠ 0) → apartOf ns i = none
  | [], _, _ => rfl
  | n :: r, i, h => by
    have h := List.pairwise_cons.mp h
    rw [apartOf, row_some h.1]
    exact apart_of h.2
theorem Meets.apart {m : Int} {dss : List (List Int)} (h : Meets dss) (hd : ∀ d ∈ dss, Well m d) : apartOf (dss.map bitsN) 0 = none := by
  refine apart_of (List.pairwise_map.mpr ?_)
  refine List.pairwise_iff_getElem.mpr fun i j hi hj _ e => ?_
  have h1 := List.getElem_mem hi
  have h2 := List.getElem_mem hj
  obtain ⟨x, a, b⟩ := h _ h1 _ h2
  exact (bitsN_apart (well_ge (hd _ h1)) (well_ge (hd _ h2))).mp e x a b
inductive q__law_has (K : PySem.W.Frag) (ad : Ad) : V → V → Hp → VK → Prop
  | mk {c q : Addr} {cs : List Int} {vs : List V} {dss : List (List Int)} {F H : Hp} {Q : VK} (hF : Same F H) (hc : SqL K H c (cs.map V.int) ∨ SqT K H c (cs.map V.int)) (hs : SqL K H q vs) (ts : TIs F vs dss) (dl : ∀ d ∈ dss, d.length ≤ 1000)
    (k : ∀ H', Same H H' → Q (.bl (hasP (fun x => decide (x ∈ cs)) dss)) H') : q__law_has K ad (.ref c) (.ref q) H Q
def sp__law_has (K : PySem.W.Frag) (ad : Ad) : Sp := fun vs H Q _ => match vs with | [x0, x1] => q__law_has K ad x0 x1 H Q | _ => False
theorem c__law_has {K : PySem.W.Frag} {ad : Ad} {x0 x1 : V} {H : Hp} {Q : VK} {E : XK} (h : q__law_has K ad x0 x1 H Q) : sp__law_has K ad ([x0, x1] ++ []) H Q E := h
theorem n__law_has {K : PySem.W.Frag} {ad : Ad} {vs : List V} {H : Hp} {Q : VK} {E : XK} (h : sp__law_has K ad vs H Q E) : ∃ x0 x1, vs = [x0, x1] ∧ q__law_has K ad x0 x1 H Q := match vs, h with | [x0, x1], h => ⟨x0, x1, rfl, h⟩
def t__law_has (K : PySem.W.Frag) (ad : Ad) : TS := (tSeq (tFor (iList K (tVar 1)) (gName 2)
    (tIfS (tTest (tOp (zEq K) (tLc (iTup K (tVar 2)) (gName 3) (tTest (tOp (zNotIn K) (tVar 3) (tVar 0))) (tC (.int 1)) [3]) (tLst tNil))) (tRet (tC (.bl true))) tNext))
    (tRet (tC (.bl false))))
theorem w__law_has {K : PySem.W.Frag} {ad : Ad} {x0 x1 : V} {H : Hp} {Q : VK} (h : q__law_has K ad x0 x1 H Q) : t__law_has K ad ⟨fun _ H' => Q .non H', Q, fun _ _ => False, fun _ _ => False⟩ [some x0, some x1, none, none] H := by
  cases h with
  | @mk c q cs vs dss F _ _ hF hc hs ts dl k =>
    unfold t__law_has
    walk_at "rd"
    refine lp_list hs (fun i σ' H' => Same H H' ∧ (∃ y2, σ' = [some (.ref c), some (.ref q), y2, none]) ∧ ∀ d ∈ dss.take i, d.all (fun x => decide (x ∈ cs)) = false) ⟨Same.refl _, ⟨_, rfl⟩, fun d hd => by cases hd⟩ (fun i σ' H' _ h => Same.seq h.1 hs) ?_ ?_
    · rintro i x σ' H1 hx ⟨s1, ⟨y2, rfl⟩, hno⟩
      obtain ⟨d, hd, t, rfl, et⟩ := ts.get hx
      have hdl := dl d (List.mem_of_getElem? hd)
      have et1 := s1 _ _ (hF _ _ et)
      have hc1 := hc.imp (Same.seq s1) (Same.seqT s1)
      walk_at "rd"
      refine lcT_onesG (fun j => !decide (d.getD j 0 ∈ cs)) (SqT.of et1) (by rw [List.length_map]; omega) (fun j x hx H2 QB s2 qb => ?_) (fun D n H2 nD s2 eD hn => ?_)
      · rw [List.getElem?_map] at hx
        obtain ⟨z, hz, rfl⟩ := Option.map_eq_some_iff.mp hx
        walk_at "rd"
        refine o_notInI (hc1.imp (Same.seq s2) (Same.seqT s2)) ?_
        walk_at "rd"
        rw [List.getD_eq_getElem?_getD, hz] at qb
        exact qb _ (Same.refl _)
      · rw [List.length_map] at hn
        have ha : d.all (fun x => decide (x ∈ cs)) = decide (n = 0) := by
          refine Bool.eq_iff_iff.mpr ?_
          rw [List.all_eq_true, decide_eq_true_iff, hn]
          constructor
          · intro h j hj
            have := h _ (List.getElem_mem hj)
            rw [List.getD_eq_getElem?_getD, List.getElem?_eq_getElem hj]
            simpa using this
          · intro h x hx
            obtain ⟨j, hj, rfl⟩ := List.getElem_of_mem hx
            have := h j hj
            rw [List.getD_eq_getElem?_getD, List.getElem?_eq_getElem hj] at this
            simpa using this
        walk_at "rd"
        refine o_new (Nat.zero_le _) fun u nu => ?_
        have s3 := s2.trans (up_keep nu (o := .lst []))
        refine o_eqOnes (up_keep nu _ _ eD) upd_same ?_
        generalize upd H2 u (.lst []) = H3 at *
        rw [← ha]
        walk_at "rd"
        walk_at "if"
        · rename_i hall
          walk_at "rd"
          have := k H3 (s1.trans s3)
          rwa [show hasP (fun x => decide (x ∈ cs)) dss = true from List.any_eq_true.mpr ⟨d, List.mem_of_getElem? hd, hall⟩] at this
        · rename_i hall
          refine ⟨s1.trans s3, ⟨_, rfl⟩, fun e he => ?_⟩
          rw [List.take_add_one, hd] at he
          rcases List.mem_append.mp he with he | he
          · exact hno e he
          · rw [List.mem_singleton.mp he]
            exact hall
    · rintro σ' H1 ⟨s1, ⟨y2, rfl⟩, hno⟩
      walk_at "rd"
      have := k H1 s1
      rwa [show hasP (fun x => decide (x ∈ cs)) dss = false from Bool.eq_false_iff.mpr fun h => by
        obtain ⟨d, hd, h⟩ := List.any_eq_true.mp h
        rw [ts.length, List.take_length] at hno
        rw [hno d hd] at h
        cases h] at this
inductive q__law_just_one (K : PySem.W.Frag) (ad : Ad) : V → V → V → V → Hp → VK → Prop
  | mk {a p q : Addr} {ns : List Int} {n : Int} {vs : List V} {dss : List (List Int)} {F H : Hp} {Q : VK} (hF : Same F H) (hS : SqL K F a (ns.map V.int)) (hp : Pot H p) (fp : F p = none) (h1 : 1 ≤ n) (h2 : n ≤ 60) (eq : H q = some (.lst vs)) (nqp : q ≠ p)
      (ts : TIs F vs dss) (hd : ∀ d ∈ dss, Well n d) (sd : SD dss) (k : ∀ H', Pot H' p → Gr (M1 p) F H F H' → Q (.bl true) H') : q__law_just_one K ad (.ref a) (.ref p) (.int n) (.ref q) H Q
def sp__law_just_one (K : PySem.W.Frag) (ad : Ad) : Sp := fun vs H Q _ => match vs with | [x0, x1, x2, x3] => q__law_just_one K ad x0 x1 x2 x3 H Q | _ => False
theorem c__law_just_one {K : PySem.W.Frag} {ad : Ad} {x0 x1 x2 x3 : V} {H : Hp} {Q : VK} {E : XK} (h : q__law_just_one K ad x0 x1 x2 x3 H Q) : sp__law_just_one K ad ([x0, x1, x2, x3] ++ []) H Q E := h
theorem n__law_just_one {K : PySem.W.Frag} {ad : Ad} {vs : List V} {H : Hp} {Q : VK} {E : XK} (h : sp__law_just_one K ad vs H Q E) : ∃ x0 x1 x2 x3, vs = [x0, x1, x2, x3] ∧ q__law_just_one K ad x0 x1 x2 x3 H Q := match vs, h with | [x0, x1, x2, x3], h => ⟨x0, x1, x2, x3, rfl, h⟩
def t__law_just_one (K : PySem.W.Frag) (ad : Ad) : TS := (tSeq (tAsg (tLc (iRng1 (tCons (tVar 2) tNil)) (gName 6) (tTest (tOp (zEq K) (tCall (sp__law_take K ad) [] E0 (tCons (tVar 0) (tCons (tVar 1) (tCons (tC (.int 2)) tNil)))) (tC (.int 1)))) (tVar 6) [6]) (gName 4))
    (tSeq (tAsg (tLc (iRng1 (tCons (tVar 2) tNil)) (gName 6) (tTest (tOp (zNotIn K) (tVar 6) (tVar 4))) (tVar 6) [6]) (gName 5))
    (tRet (tOp (zNe K) (tCall (sp__law_has K ad) [] E0 (tCons (tVar 4) (tCons (tVar 3) tNil))) (tCall (sp__law_has K ad) [] E0 (tCons (tVar 5) (tCons (tVar 3) tNil)))))))
theorem w__law_just_one {K : PySem.W.Frag} {ad : Ad} {x0 x1 x2 x3 : V} {H : Hp} {Q : VK} (h : q__law_just_one K ad x0 x1 x2 x3 H Q) : t__law_just_one K ad ⟨fun _ H' => Q .non H', Q, fun _ _ => False, fun _ _ => False⟩ [some x0, some x1, some x2, some x3, none, none, none] H := by
  cases h with
  | @mk a p q ns n vs dss F _ _ hF hS hp fp h1 h2 eq nqp ts hd sd k =>
    have dl : ∀ d ∈ dss, d.length ≤ 1000 := fun d h => by have := (hd d h).few; omega
    unfold t__law_just_one
    obtain ⟨_, ep⟩ := hp.is
    walk_at "rd"
    refine lc_R1 (by omega) (fun D i H' => ∃ acc : List Int, H' D = some (.lst (acc.map V.int)) ∧ acc.length ≤ i ∧ Pot H' p ∧ Gr (M1 p) F H F H' ∧ H' q = some (.lst vs)) ?_ ?_ ?_
    · intro D nD
      have s9 : Same H (upd H D (.lst [])) := up_keep nD
      exact ⟨[], upd_same, Nat.le_refl _, hp.upd (fresh_ne nD ep).symm, gthn (Gr.refl hF) s9, s9 _ _ eq⟩
    · rintro D j H9 nD hj ⟨acc, eD9, la, hp9, g9, eq9⟩
      have nDp := fresh_ne nD ep
      have nDq := fresh_ne nD eq
      walk_at "rd"
      apply c__law_take
      refine q__law_take.mk g9.fh hS hp9 fp (by omega) (by omega) fun d HA d0 d1 hpA gA => ?_
      obtain ⟨o9, ep9⟩ := hp9.is
      have GA := g9.tr1 gA ep9
      have eDA := gA.hh D _ nDp eD9
      have eqA := gA.hh q _ nqp eq9
      walk_at "rd"
      walk_at "if"
      · walk_at "rd"
        refine ⟨_, eDA, by walk_at "len", acc ++ [(j : Int)], ?_, by walk_at "len", hpA.upd nDp.symm, GA.own (fresh_F hF nD) nD, (upd_ne nDq.symm).trans eqA⟩
        rw [upd_same, List.map_append]
        rfl
      · exact ⟨acc, eDA, by omega, hpA, GA, eqA⟩
    rintro D H1 nD ⟨cs, eD, la, hp1, g1, eq1⟩
    have lc : cs.length ≤ 1000 := by omega
    walk_at "rd"
    refine lcR_grow (fun z : Nat => !decide ((z : Int) ∈ cs)) (fun z : Nat => V.int (z : Int)) ⟨by omega, by omega⟩ (fun i hi H2 QB SF qb => ?_) (fun i hi H2 Q3 SF hb qb => ?_) (fun E H2 nE s2 eE => ?_)
    · walk_at "rd"
      refine o_notInI (.inl (SqL.of (SF _ _ eD))) ?_
      walk_at "rd"
      exact qb _ (Same.refl _)
    · walk_at "rd"
      exact qb _ (Same.refl _)
    have eE : H2 E = some (.lst ((((List.range n.toNat).filter fun z : Nat => !decide ((z : Int) ∈ cs)).map fun z : Nat => (z : Int)).map V.int)) := by
      rw [eE, List.map_map]
      rfl
    have eD2 := s2 _ _ eD
    have eq2 := s2 _ _ eq1
    have g2 := gthn g1 s2
    have hp2 := hp1.at (s2 p)
    walk_at "rd"
    apply c__law_has
    refine q__law_has.mk g2.fh (.inl (SqL.of eD2)) (SqL.of eq2) ts dl fun H3 s3 => ?_
    walk_at "rd"
    apply c__law_has
    refine q__law_has.mk (g2.fh.trans s3) (.inl (SqL.of (s3 _ _ eE))) (SqL.of (s3 _ _ eq2)) ts dl fun H4 s4 => ?_
    have e : hasP (fun x => decide (x ∈ ((List.range n.toNat).filter fun z : Nat => !decide ((z : Int) ∈ cs)).map fun z : Nat => (z : Int))) dss = hasP (fun x => !decide (x ∈ cs)) dss := by
      rw [hasP, hasP]
      refine any_mem fun d hdm => ?_
      refine Bool.eq_iff_iff.mpr ?_
      rw [List.all_eq_true, List.all_eq_true]
      have wd := hd d hdm
      have one : ∀ x ∈ d, (decide (x ∈ ((List.range n.toNat).filter fun z : Nat => !decide ((z : Int) ∈ cs)).map fun z : Nat => (z : Int)) = true ↔ (!decide (x ∈ cs)) = true) := fun x hx => by
        have := wd.within x hx
        rw [decide_eq_true_iff, List.mem_map]
        constructor
        · rintro ⟨z, hz, rfl⟩
          exact (List.mem_filter.mp hz).2
        · intro h
          refine ⟨x.toNat, List.mem_filter.mpr ⟨List.mem_range.mpr (by omega), ?_⟩, by omega⟩
          rw [Int.toNat_of_nonneg this.1]
          exact h
      exact ⟨fun h x hx => (one x hx).mp (h x hx), fun h x hx => (one x hx).mpr (h x hx)⟩
    have t : ∀ b : Bool, (!decide ((!b) = b)) = true := by decide
    walk_at "rd"
    rw [e, sd, t]
    exact k H4 ((hp2.at (s3 p)).at (s4 p)) (gthn (gthn g2 s3) s4)
inductive q__law_meeting (K : PySem.W.Frag) (ad : Ad) : V → V → V → V → Hp → VK → Prop
  | mk {a p : Addr} {ns : List Int} {m most : Int} {F H : Hp} {Q : VK} (hF : Same F H) (hS : SqL K F a (ns.map V.int)) (hp : Pot H p) (fp : F p = none) (hm : 0 < m) (hM : m ≤ 60) (h0 : 0 ≤ most) (h1 : most ≤ 100)
    (k : ∀ q vs dss F' H', H' q = some (.lst vs) → q ≠ p → TIs F' vs dss → (∀ d ∈ dss, Well m d ∧ d.length ≤ 11) → dss.Nodup → (dss.length : Int) ≤ most → Meets dss → Pot H' p → Gr (M1 p) F H F' H' → Q (.ref q) H') :
    q__law_meeting K ad (.ref a) (.ref p) (.int m) (.int most) H Q
def sp__law_meeting (K : PySem.W.Frag) (ad : Ad) : Sp := fun vs H Q _ => match vs with | [x0, x1, x2, x3] => q__law_meeting K ad x0 x1 x2 x3 H Q | _ => False
theorem c__law_meeting {K : PySem.W.Frag} {ad : Ad} {x0 x1 x2 x3 : V} {H : Hp} {Q : VK} {E : XK} (h : q__law_meeting K ad x0 x1 x2 x3 H Q) : sp__law_meeting K ad ([x0, x1, x2, x3] ++ []) H Q E := h
theorem n__law_meeting {K : PySem.W.Frag} {ad : Ad} {vs : List V} {H : Hp} {Q : VK} {E : XK} (h : sp__law_meeting K ad vs H Q E) : ∃ x0 x1 x2 x3, vs = [x0, x1, x2, x3] ∧ q__law_meeting K ad x0 x1 x2 x3 H Q := match vs, h with | [x0, x1, x2, x3], h => ⟨x0, x1, x2, x3, rfl, h⟩
def t__law_meeting (K : PySem.W.Frag) (ad : Ad) : TS := (tSeq (tAsg (tLst tNil) (gName 4))
    (tSeq (tFor (iList K (tCall (sp__law_family K ad) [] E0 (tCons (tVar 0) (tCons (tVar 1) (tCons (tVar 2) (tCons (tVar 3) tNil)))))) (gName 5)
    (tIfS (tTest (tOp (zEq K) (tLc (iList K (tVar 4)) (gName 6) (tTest (tOp (zEq K) (tLc (iTup K (tVar 5)) (gName 7) (tTest (tOp (zIn K) (tVar 7) (tVar 6))) (tC (.int 2)) [7]) (tLst tNil))) (tC (.int 1)) [6]) (tLst tNil))) (tDrop (tBM K "list" rAppend (tVar 4) (tCons (tVar 5) tNil))) tNext))
    (tRet (tVar 4))))
theorem w__law_meeting {K : PySem.W.Frag} {ad : Ad} {x0 x1 x2 x3 : V} {H : Hp} {Q : VK} (h : q__law_meeting K ad x0 x1 x2 x3 H Q) : t__law_meeting K ad ⟨fun _ H' => Q .non H', Q, fun _ _ => False, fun _ _ => False⟩ [some x0, some x1, some x2, some x3, none, none, none, none] H := by
  cases h with
  | @mk a p ns m most F _ _ hF hS hp fp hm hM h0 h1 k =>
    unfold t__law_meeting
    obtain ⟨_, ep⟩ := hp.is
    walk_at "rd"
    refine o_new (Nat.zero_le _) fun q0 n0 => ?_
    have s0 : Same H (upd H q0 (.lst [])) := up_keep n0
    have nqp : q0 ≠ p := fresh_ne n0 ep
    have eq0 := upd_same (H := H) (a := q0) (o := .lst [])
    have hp0 := hp.at (s0 p)
    have G0 : Gr (M1 p) F H F (upd H q0 (.lst [])) := gthn (Gr.refl hF) s0
    have fq : F q0 = none := fresh_F hF n0
    generalize upd H q0 (.lst []) = H0 at *
    obtain ⟨_, ep0⟩ := hp0.is
    walk_at "rd"
    apply c__law_family
    refine q__law_family.mk G0.fh hS hp0 fp (by omega) (by omega) (by omega) (by omega) fun r vs dss F1 H1 nr er fr ts wl nd ln hp1 g1 => ?_
    have G1 := G0.tr1 g1 ep0
    have fp1 := g1.nw _ _ ep0 fp
    have fq1 := g1.nw _ _ eq0 fq
    have eq1 := g1.hh _ _ nqp eq0
    have nrq : r ≠ q0 := fresh_ne nr eq0
    walk_at "rd"
    refine lp_list (SqL.of er) (fun i σ' H' => ∃ y5 kv ks, σ' = [some (.ref a), some (.ref p), some (.int m), some (.int most), some (.ref q0), y5, none, none] ∧
      H' q0 = some (.lst kv) ∧ H' r = some (.lst vs) ∧ TIs F1 kv ks ∧ ks.Sublist (dss.take i) ∧ Meets ks ∧ Pot H' p ∧ Gr (M1 p) F H F1 H') ⟨_, [], [], rfl, eq1, er, .nil, List.nil_sublist _, fun d hd => (by cases hd), hp1, G1⟩ (fun i σ' H' _ ⟨_, _, _, _, _, e, _⟩ => SqL.of e) ?_ ?_
    · rintro i x σ' H2 hx ⟨y5, kv, ks, rfl, eq2, er2, tk, sub, mt, hp2, G2⟩
      obtain ⟨d, hd1, t, rfl, et⟩ := ts.get hx
      have wd := wl d (List.mem_of_getElem? hd1)
      have lks : ks.length ≤ 100 := by
        have := sub.length_le
        rw [List.length_take] at this
        omega
      have et2 := G2.fh _ _ et
      walk_at "rd"
      refine lcL_onesG (fun j => decide (¬ ∃ x ∈ d, x ∈ ks.getD j [])) (SqL.of eq2) (by rw [tk.length]; omega) (fun j x hx H3 QB s3 qb => ?_) (fun D c H3 nD s3 eD hc => ?_)
      · obtain ⟨e, he1, u, rfl, eu⟩ := tk.get hx
        have eu3 := s3 _ _ (G2.fh _ _ eu)
        walk_at "rd"
        refine lcT_ig (fun l => decide (d.getD l 0 ∈ e)) (fun _ => .int 2) (SqT.of (s3 _ _ et2)) (by rw [List.length_map]; omega) (fun l x hx H4 QB4 s4 q4 => ?_) (fun l x hx H4 Q4 s4 _ q4 => ?_) (fun E H4 nE s4 eE => ?_)
        · rw [List.getElem?_map] at hx
          obtain ⟨z, hz, rfl⟩ := Option.map_eq_some_iff.mp hx
          walk_at "rd"
          refine o_inI (.inr (SqT.of (s4 _ _ eu3))) ?_
          walk_at "rd"
          rw [List.getD_eq_getElem?_getD, hz] at q4
          exact q4 _ (Same.refl _)
        · walk_at "rd"
          exact q4 _ (Same.refl _)
        · walk_at "rd"
          refine o_new (Nat.zero_le _) fun w nw => ?_
          have s5 := s4.trans (up_keep nw (o := .lst []))
          refine o_eqIL (ns := ((List.range (d.map V.int).length).filter fun l => decide (d.getD l 0 ∈ e)).map fun _ => (2 : Int)) (ms := []) (SqL.of (by
            rw [up_keep nw _ _ eE, List.map_map]
            rfl)) (SqL.of upd_same) ?_
          have b : decide (((List.range (d.map V.int).length).filter fun l => decide (d.getD l 0 ∈ e)).map (fun _ => (2 : Int)) = []) = decide (¬ ∃ x ∈ d, x ∈ ks.getD j []) := by
            refine decide_eq_decide.mpr ?_
            rw [List.map_eq_nil_iff, List.filter_eq_nil_iff, List.getD_eq_getElem?_getD (l := ks), he1, List.length_map]
            constructor
            · rintro h ⟨x, hx, hxe⟩
              obtain ⟨l, hl, rfl⟩ := List.getElem_of_mem hx
              refine h l (List.mem_range.mpr hl) ?_
              rw [List.getD_eq_getElem?_getD, List.getElem?_eq_getElem hl]
              exact decide_eq_true hxe
            · intro h l hl hh
              have hl := List.mem_range.mp hl
              rw [List.getD_eq_getElem?_getD, List.getElem?_eq_getElem hl] at hh
              exact h ⟨_, List.getElem_mem hl, of_decide_eq_true hh⟩
          rw [b]
          walk_at "rd"
          exact qb _ s5
      · walk_at "rd"
        refine o_new (Nat.zero_le _) fun w nw => ?_
        have s4 := s3.trans (up_keep nw (o := .lst []))
        refine o_eqOnes (up_keep nw _ _ eD) upd_same ?_
        generalize upd H3 w (.lst []) = H4 at *
        have eq4 := s4 _ _ eq2
        have er4 := s4 _ _ er2
        have hp4 := hp2.at (s4 p)
        have G4 := gthn G2 s4
        have tkn : dss.take (i + 1) = dss.take i ++ [d] := by
          rw [List.take_add_one, hd1]
          rfl
        walk_at "rd"
        walk_at "if"
        · rename_i c0
          have hc := hc.mp c0
          have sh : ∀ e ∈ ks, ∃ x, x ∈ d ∧ x ∈ e := fun e he => by
            obtain ⟨j, hj, rfl⟩ := List.getElem_of_mem he
            have := hc j (by rw [tk.length]; exact hj)
            rw [List.getD_eq_getElem?_getD, List.getElem?_eq_getElem hj, decide_eq_false_iff_not, Classical.not_not] at this
            exact this
          walk_at "rd"
          refine ⟨ty_list (SqL.of eq4), ?_⟩
          walk_at "rd"
          refine m_app eq4 (by rw [tk.length, sizeLine_eq]; omega) ?_
          refine ⟨_, kv ++ [.ref t], ks ++ [d], rfl, upd_same, (upd_ne nrq).trans er4, tk.app (.cons ⟨t, rfl, et⟩ .nil), ?_, ?_, hp4.upd nqp.symm, G4.own fq1 n0⟩
          · rw [tkn]
            exact sub.append (List.Sublist.refl _)
          · intro x hx y hy
            rcases List.mem_append.mp hx with hx | hx <;> rcases List.mem_append.mp hy with hy | hy
            · exact mt x hx y hy
            · rw [List.mem_singleton.mp hy]
              obtain ⟨z, h1, h2⟩ := sh x hx
              exact ⟨z, h2, h1⟩
            · rw [List.mem_singleton.mp hx]
              exact sh y hy
            · rw [List.mem_singleton.mp hx, List.mem_singleton.mp hy]
              obtain ⟨z, hz⟩ := List.exists_mem_of_ne_nil d wd.1.ne
              exact ⟨z, hz, hz⟩
        · refine ⟨_, kv, ks, rfl, eq4, er4, tk, ?_, mt, hp4, G4⟩
          rw [tkn]
          exact sub.trans (List.sublist_append_left _ _)
    · rintro σ' H2 ⟨y5, kv, ks, rfl, eq2, er2, tk, sub, mt, hp2, G2⟩
      rw [ts.length, List.take_length] at sub
      walk_at "rd"
      exact k q0 kv ks F1 H2 eq2 nqp tk (fun d hd => wl d (sub.subset hd)) (nd.sublist sub) (by have := sub.length_le; omega) mt hp2 G2

inductive q__law_is_set (K : PySem.W.Frag) (ad : Ad) : V → Hp → VK → Prop
  | mk {a : Addr} {ns : List Int} {H : Hp} {Q : VK} (hs : SqT K H a (ns.map V.int)) (hl : ns.length ≤ 1000) (k : ∀ H', Same H H' → Q (.bl true) H') : q__law_is_set K ad (.ref a) H Q
def sp__law_is_set (K : PySem.W.Frag) (ad : Ad) : Sp := fun vs H Q _ => match vs with | [x0] => q__law_is_set K ad x0 H Q | _ => False
theorem c__law_is_set {K : PySem.W.Frag} {ad : Ad} {x0 : V} {H : Hp} {Q : VK} {E : XK} (h : q__law_is_set K ad x0 H Q) : sp__law_is_set K ad ([x0] ++ []) H Q E := h
theorem n__law_is_set {K : PySem.W.Frag} {ad : Ad} {vs : List V} {H : Hp} {Q : VK} {E : XK} (h : sp__law_is_set K ad vs H Q E) : ∃ x0, vs = [x0] ∧ q__law_is_set K ad x0 H Q := match vs, h with | [x0], h => ⟨x0, rfl, h⟩
def t__law_is_set (K : PySem.W.Frag) (ad : Ad) : TS := (tRet (tAndV (tCB (rIsi K) (tCons (tVar 0) (tCons (tC (.ty "tuple")) tNil))) (tOp (zEq K) (tLc (iTup K (tVar 0)) (gName 1) (tNot (zTru K (tCall (sp__law_whole K ad) [] E0 (tCons (tVar 1) tNil)))) (tC (.int 1)) [1]) (tLst tNil))))
theorem w__law_is_set {K : PySem.W.Frag} {ad : Ad} {x0 : V} {H : Hp} {Q : VK} (h : q__law_is_set K ad x0 H Q) : t__law_is_set K ad ⟨fun _ H' => Q .non H', Q, fun _ _ => False, fun _ _ => False⟩ [some x0, none] H := by
  cases h with
  | @mk a ns _ _ hs hl k =>
    unfold t__law_is_set
    walk_at "rd"
    refine lcT_ones (fun _ => false) hs (by rw [List.length_map]; omega) (fun i x H2 QB hx s2 q => ?_) (fun D c nD hc => ?_)
    · rw [List.getElem?_map] at hx
      obtain ⟨z, hz, rfl⟩ := Option.map_eq_some_iff.mp hx
      walk_at "rd"
      apply c__law_whole
      refine q__law_whole.int ?_
      walk_at "rd"
      exact q
    · have c0 : c = 0 := hc.mpr fun _ _ => rfl
      walk_at "rd"
      refine o_new (Nat.zero_le _) fun u nu => ?_
      refine o_eqOnes (up_keep nu _ _ upd_same) upd_same ?_
      rw [decide_eq_true c0]
      exact k _ (same_new (same_new (Same.refl _) nD) nu)

/-! ### the least bar, level by level -/
theorem nodup_len : ∀ {l m : List Int}, l.Nodup → (∀ x ∈ l, x ∈ m) → l.length ≤ m.length
  | [], _, _, _ => Nat.zero_le _
  | x :: l, m, nd, h => by
    have nd' := List.nodup_cons.mp nd
    have hx := h x List.mem_cons_self
    have ih := nodup_len (m := m.erase x) nd'.2 fun y hy => (List.mem_erase_of_ne (fun e => nd'.1 (by rw [← e]; exact hy))).mpr (h y (List.mem_cons_of_mem _ hy))
    rw [List.length_erase_of_mem hx] at ih
    have := List.length_pos_of_mem hx
    rw [List.length_cons]
    omega
theorem up_nodup {l : List Int} (h : l.Pairwise (· < ·)) : l.Nodup := h.imp fun h e => by omega
/-- how many seats a number writes -/
def pc (n : Nat) : Nat := (seatsN n).length
theorem seatsN_ge (n : Nat) : ∀ x ∈ seatsN n, 0 ≤ x := fun x hx => ((seatsN_mem n x).mp hx).1
theorem bits_seats (n : Nat) : bitsN (seatsN n) = n := Nat.eq_of_testBit_eq fun i => by
  rw [bitsN_test (seatsN_ge n)]
  by_cases h : n.testBit i = true
  · rw [h]
    exact decide_eq_true ((seatsN_mem n _).mpr ⟨by omega, by rw [Int.toNat_natCast]; exact h⟩)
  · rw [Bool.eq_false_iff.mpr h]
    exact decide_eq_false fun z => h (by have := ((seatsN_mem n _).mp z).2; rwa [Int.toNat_natCast] at this)
theorem seatsN_inj {a b : Nat} (h : seatsN a = seatsN b) : a = b := by rw [← bits_seats a, h, bits_seats]
theorem or_mem (d : Nat) (s : Int) (h : 0 ≤ s) (x : Int) : x ∈ seatsN (d ||| 2 ^ s.toNat) ↔ x ∈ seatsN d ∨ x = s := by
  rw [seatsN_mem, seatsN_mem, Nat.testBit_or, Nat.testBit_two_pow, Bool.or_eq_true, decide_eq_true_iff]
  constructor
  · rintro ⟨h0, h1 | h1⟩
    · exact .inl ⟨h0, h1⟩
    · exact .inr (by omega)
  · rintro (⟨h0, h1⟩ | rfl)
    · exact ⟨h0, .inl h1⟩
    · exact ⟨h, .inr rfl⟩
theorem pc_or {d : Nat} {s : Int} (h : 0 ≤ s) (hn : s ∉ seatsN d) : pc (d ||| 2 ^ s.toNat) = pc d + 1 := by
  have a : (seatsN (d ||| 2 ^ s.toNat)).length ≤ (s :: seatsN d).length := nodup_len (up_nodup (seatsN_up _)) fun x hx => by
    rcases (or_mem d s h x).mp hx with hx | hx
    · exact List.mem_cons_of_mem _ hx
    · rw [hx]
      exact List.mem_cons_self
  have b : (s :: seatsN d).length ≤ (seatsN (d ||| 2 ^ s.toNat)).length := nodup_len (List.nodup_cons.mpr ⟨hn, up_nodup (seatsN_up _)⟩) fun x hx => by
    rcases List.mem_cons.mp hx with hx | hx
    · exact (or_mem d s h x).mpr (.inr hx)
    · exact (or_mem d s h x).mpr (.inl hx)
  rw [List.length_cons] at a b
  unfold pc
  omega
theorem up_len {m : Int} (hm : 0 ≤ m) {ds : List Int} (up : ds.Pairwise (· < ·)) (h : ∀ x ∈ ds, 0 ≤ x ∧ x < m) : (ds.length : Int) ≤ m := by
  have := nodup_len (m := (List.range m.toNat).map fun i : Nat => (i : Int)) (up_nodup up) fun x hx => List.mem_map.mpr ⟨x.toNat, List.mem_range.mpr (by have := h x hx; omega), by have := h x hx; omega⟩
  rw [List.length_map, List.length_range] at this
  omega
theorem seats_in {m n : Nat} (h : n < 2 ^ m) : ∀ x ∈ seatsN n, 0 ≤ x ∧ x < (m : Int) := fun x hx => by
  obtain ⟨h0, h1⟩ := (seatsN_mem n x).mp hx
  have := Nat.ge_two_pow_of_testBit h1
  have : x.toNat < m := (Nat.pow_lt_pow_iff_right (a := 2) (by decide)).mp (Nat.lt_of_le_of_lt this h)
  omega
theorem pc_le {m n : Nat} (h : n < 2 ^ m) : pc n ≤ m := by
  have := up_len (m := (m : Int)) (by omega) (seatsN_up n) (seats_in h)
  unfold pc
  omega

/-! ### choices that a family lacks -/
def newN (rows : List Nat) (c : Nat) : Bool := rows.all fun r => decide (r &&& c ≠ 0) && decide (r &&& c ≠ r)
theorem sub_iff {n : Int} {d : List Int} (h : Well n d) (c : Nat) : bitsN d &&& c = bitsN d ↔ ∀ x ∈ d, c.testBit x.toNat = true := by
  constructor
  · intro e x hx
    have x0 := well_ge h x hx
    have q : (bitsN d &&& c).testBit x.toNat = (bitsN d).testBit x.toNat := by rw [e]
    rw [Nat.testBit_and, bitsN_test (well_ge h), Int.toNat_of_nonneg x0, decide_eq_true hx, Bool.true_and] at q
    exact q
  · intro hx
    refine Nat.eq_of_testBit_eq fun i => ?_
    rw [Nat.testBit_and, bitsN_test (well_ge h)]
    by_cases e : (i : Int) ∈ d
    · have := hx _ e
      rw [Int.toNat_natCast] at this
      rw [this, Bool.and_true]
    · rw [decide_eq_false e, Bool.false_and]
theorem apart_iff {n : Int} {d : List Int} (h : Well n d) (c : Nat) : bitsN d &&& c = 0 ↔ ∀ x ∈ d, c.testBit x.toNat = false := by
  constructor
  · intro e x hx
    have x0 := well_ge h x hx
    have q : (bitsN d &&& c).testBit x.toNat = false := by rw [e, Nat.zero_testBit]
    rw [Nat.testBit_and, bitsN_test (well_ge h), Int.toNat_of_nonneg x0, decide_eq_true hx, Bool.true_and] at q
    exact q
  · intro hx
    refine Nat.eq_of_testBit_eq fun i => ?_
    rw [Nat.testBit_and, bitsN_test (well_ge h), Nat.zero_testBit]
    by_cases e : (i : Int) ∈ d
    · have := hx _ e
      rw [Int.toNat_natCast] at this
      rw [this, Bool.and_false]
    · rw [decide_eq_false e, Bool.false_and]
theorem newN_iff {n : Int} {dss : List (List Int)} (hd : ∀ d ∈ dss, Well n d) (c : Nat) : newN (dss.map bitsN) c = true ↔ ∀ d ∈ dss, (∃ x ∈ d, c.testBit x.toNat = true) ∧ ∃ x ∈ d, c.testBit x.toNat = false := by
  rw [newN, List.all_map, List.all_eq_true]
  refine forall_congr' fun d => forall_congr' fun hdm => ?_
  have w := hd d hdm
  show (decide (bitsN d &&& c ≠ 0) && decide (bitsN d &&& c ≠ bitsN d)) = true ↔ _
  rw [Bool.and_eq_true, decide_eq_true_iff, decide_eq_true_iff, Ne, apart_iff w, Ne, sub_iff w]
  constructor
  · rintro ⟨h1, h2⟩
    refine ⟨Classical.byContradiction fun no => h1 fun x hx => ?_, Classical.byContradiction fun no => h2 fun x hx => ?_⟩
    · exact Bool.eq_false_iff.mpr fun t => no ⟨x, hx, t⟩
    · cases e : c.testBit x.toNat with
      | true => rfl
      | false => exact absurd ⟨x, hx, e⟩ no
  · rintro ⟨⟨x, hx, e⟩, y, hy, f⟩
    constructor
    · intro h
      rw [h x hx] at e
      cases e
    · intro h
      rw [h y hy] at f
      cases f
/-- whether it lacks none -/
def Full (n : Nat) (dss : List (List Int)) : Prop := ∀ c, 0 < c → c < 2 ^ n → newN (dss.map bitsN) c = false
theorem has_false {P : Int → Bool} {dss : List (List Int)} : hasP P dss = false ↔ ∀ d ∈ dss, ∃ x ∈ d, P x = false := by
  rw [Bool.eq_false_iff, Ne, hasP, List.any_eq_true]
  constructor
  · intro h d hd
    refine Classical.byContradiction fun no => h ⟨d, hd, List.all_eq_true.mpr fun x hx => ?_⟩
    cases e : P x with
    | true => rfl
    | false => exact absurd ⟨x, hx, e⟩ no
  · rintro h ⟨d, hd, ha⟩
    obtain ⟨x, hx, e⟩ := h d hd
    rw [List.all_eq_true.mp ha x hx] at e
    cases e
theorem Full.sd {n : Nat} {dss : List (List Int)} (n1 : 1 ≤ n) (hd : ∀ d ∈ dss, Well (n : Int) d) (mt : Meets dss) (f : Full n dss) : SD dss := fun P => by
  cases e1 : hasP P dss with
  | true =>
    cases e2 : hasP (fun x => !P x) dss with
    | false => rfl
    | true =>
      exfalso
      obtain ⟨d, hd1, h1⟩ := List.any_eq_true.mp e1
      obtain ⟨e, he1, h2⟩ := List.any_eq_true.mp e2
      obtain ⟨x, a, b⟩ := mt d hd1 e he1
      have p1 := List.all_eq_true.mp h1 x a
      have p2 := List.all_eq_true.mp h2 x b
      rw [p1] at p2
      cases p2
  | false =>
    cases e2 : hasP (fun x => !P x) dss with
    | true => rfl
    | false =>
      exfalso
      have f1 := has_false.mp e1
      have f2 := has_false.mp e2
      have ml : ∀ x : Int, x ∈ ((List.range n).filter fun s : Nat => P (s : Int)).map (fun s : Nat => (s : Int)) ↔ ∃ s : Nat, s < n ∧ P (s : Int) = true ∧ (s : Int) = x := fun x => by
        rw [List.mem_map]
        constructor
        · rintro ⟨s, hs, e⟩
          have := List.mem_filter.mp hs
          exact ⟨s, List.mem_range.mp this.1, this.2, e⟩
        · rintro ⟨s, h1, h2, e⟩
          exact ⟨s, List.mem_filter.mpr ⟨List.mem_range.mpr h1, h2⟩, e⟩
      have ge : ∀ d ∈ ((List.range n).filter fun s : Nat => P (s : Int)).map (fun s : Nat => (s : Int)), 0 ≤ d ∧ d < n := fun d hd => by
        obtain ⟨s, h1, _, rfl⟩ := (ml d).mp hd
        omega
      have tb : ∀ d ∈ dss, ∀ x ∈ d, (bitsN (((List.range n).filter fun s : Nat => P (s : Int)).map fun s : Nat => (s : Int))).testBit x.toNat = P x := fun d hdm x hx => by
        have := (hd d hdm).within x hx
        rw [bitsN_test fun d hd => (ge d hd).1, Int.toNat_of_nonneg this.1]
        refine Bool.eq_iff_iff.mpr ?_
        rw [decide_eq_true_iff, ml]
        constructor
        · rintro ⟨s, _, h, rfl⟩
          exact h
        · exact fun h => ⟨x.toNat, by omega, by rw [Int.toNat_of_nonneg this.1]; exact h, Int.toNat_of_nonneg this.1⟩
      have lt := bitsN_lt (m := n) ge
      generalize bitsN (((List.range n).filter fun s : Nat => P (s : Int)).map fun s : Nat => (s : Int)) = c at tb lt
      have nw : newN (dss.map bitsN) c = true := (newN_iff hd c).mpr fun d hdm => by
        obtain ⟨x, hx, e⟩ := f2 d hdm
        obtain ⟨y, hy, g⟩ := f1 d hdm
        refine ⟨⟨x, hx, ?_⟩, y, hy, ?_⟩
        · rw [tb d hdm x hx]
          cases q : P x with
          | true => rfl
          | false =>
            rw [q] at e
            cases e
        · rw [tb d hdm y hy]
          exact g
      cases dss with
      | nil =>
        have := f 1 (by decide) (Nat.one_lt_two_pow (by omega))
        cases this
      | cons d r =>
        have c0 : 0 < c := by
          refine Nat.pos_of_ne_zero fun z => ?_
          obtain ⟨x, hx, e⟩ := ((newN_iff hd c).mp nw d (List.mem_cons_self ..)).1
          rw [z, Nat.zero_testBit] at e
          cases e
        rw [f c c0 lt] at nw
        cases nw
theorem SD.full {n : Nat} {dss : List (List Int)} (hd : ∀ d ∈ dss, Well (n : Int) d) (sd : SD dss) : Full n dss := fun c _ _ => Bool.eq_false_iff.mpr fun nw => by
  have h := (newN_iff hd c).mp nw
  have := sd fun x => c.testBit x.toNat
  rw [has_false.mpr fun d hdm => (h d hdm).2, has_false.mpr fun d hdm => by
    obtain ⟨x, hx, e⟩ := (h d hdm).1
    exact ⟨x, hx, by rw [e]; rfl⟩] at this
  cases this
theorem good_anti {w : List Int} (hw : ∀ x ∈ w, 0 ≤ x) {d e : List Int} (hd : d ∈ goodS w) (he : e ∈ goodS w) (h : ∀ x ∈ d, x ∈ e) : d = e := by
  obtain ⟨b, hb, rfl⟩ := List.mem_map.mp hd
  obtain ⟨c, hc, rfl⟩ := List.mem_map.mp he
  have gb := (List.mem_filter.mp hb).2
  have gc := (List.mem_filter.mp hc).2
  rw [goodB, Bool.and_eq_true, decide_eq_true_iff, wsum_oneOf] at gb gc
  refine pw_ext ?_ ?_ fun x => ⟨h x, fun hx => Classical.byContradiction fun nx => ?_⟩
  · rw [oneOf, List.pairwise_map]
    exact (List.pairwise_lt_range.filter _).imp fun h => by omega
  · rw [oneOf, List.pairwise_map]
    exact (List.pairwise_lt_range.filter _).imp fun h => by omega
  · obtain ⟨s, rfl, hs, ht⟩ := mem_oneOf.mp hx
    have no := List.all_eq_true.mp gc.2 _ hx
    rw [getD_wAt] at no
    have no : ¬ (w.sum < 2 * (wOf w w.length c.testBit - w.getD s 0)) := by simpa using no
    have off := wOf_off (w := w) (P := c.testBit) (R := fun j => c.testBit j && decide (j ≠ s)) (fun _ => rfl) ht hs
    have le := wOf_le hw (k := w.length) (P := b.testBit) (R := fun j => c.testBit j && decide (j ≠ s)) fun j hj hbj => by
      obtain ⟨s', es, _, ht'⟩ := mem_oneOf.mp (h _ (mem_oneOf.mpr ⟨j, rfl, hj, hbj⟩))
      obtain rfl : j = s' := by omega
      rw [ht', Bool.true_and]
      exact decide_eq_true fun z => nx (mem_oneOf.mpr ⟨s, rfl, hs, by rw [← z]; exact hbj⟩)
    rw [off] at le
    omega
/-- one set less -/
theorem good_less {w : List Int} (hw : ∀ x ∈ w, 0 ≤ x) (odd : w.sum % 2 = 1) (hl : w.length ≤ 5) {i : Nat} (hi : i < (goodS w).length) : ¬ Full w.length ((goodS w).eraseIdx i) := fun f => by
  have hD := List.getElem_mem hi
  generalize eD : (goodS w)[i] = D at hD
  have wD := (good_well hw hl D hD).1
  have ne : ∀ d ∈ (goodS w).eraseIdx i, d ∈ goodS w ∧ d ≠ D := fun d hd => by
    obtain ⟨j, hj, e⟩ := List.mem_eraseIdx_iff_getElem.mp hd
    obtain ⟨hji, e⟩ := e
    refine ⟨by rw [← e]; exact List.getElem_mem _, fun z => hji ?_⟩
    have nd := good_nodup w
    have := (List.getElem_inj nd).mp ((e.trans z).trans eD.symm)
    exact this
  have c0 : 0 < bitsN D := by
    refine Nat.pos_of_ne_zero fun z => ?_
    obtain ⟨x, hx⟩ := List.exists_mem_of_ne_nil D wD.ne
    have := bitsN_test (well_ge wD) x.toNat
    rw [z, Nat.zero_testBit, Int.toNat_of_nonneg (well_ge wD x hx), decide_eq_true hx] at this
    cases this
  have lt : bitsN D < 2 ^ w.length := bitsN_lt fun d hd => wD.within d hd
  have tb : ∀ x : Int, 0 ≤ x → (bitsN D).testBit x.toNat = decide (x ∈ D) := fun x x0 => by rw [bitsN_test (well_ge wD), Int.toNat_of_nonneg x0]
  have nw : newN (((goodS w).eraseIdx i).map bitsN) (bitsN D) = true := (newN_iff (fun d hd => (good_well hw hl d (ne d hd).1).1) _).mpr fun d hd => by
    have wd := (good_well hw hl d (ne d hd).1).1
    obtain ⟨x, a, b⟩ := (good_SD hw odd).meets d (ne d hd).1 D hD
    refine ⟨⟨x, a, ?_⟩, Classical.byContradiction fun no => (ne d hd).2 (good_anti hw (ne d hd).1 hD fun y hy => ?_)⟩
    · rw [tb x (well_ge wd x a)]
      exact decide_eq_true b
    · refine Classical.byContradiction fun ny => no ⟨y, hy, ?_⟩
      rw [tb y (well_ge wd y hy)]
      exact decide_eq_false ny
  rw [f _ c0 lt] at nw
  cases nw

inductive q_rows_of (K : PySem.W.Frag) (ad : Ad) : V → V → Hp → VK → Prop
  | mk {n : Int} {a : Addr} {vs : List V} {dss : List (List Int)} {F H : Hp} {Q : VK} (h1 : 1 ≤ n) (h2 : n ≤ 9) (hF : Same F H) (hs : SqL K H a vs) (ts : TIs F vs dss) (hl : dss.length ≤ 200) (hd : ∀ d ∈ dss, Well n d) (nd : dss.Nodup) (mt : Meets dss)
    (k : ∀ D H', Same H H' → Fresh H D → H' D = some (.lst ((dss.map bitsN).map nV)) → Q (.ref D) H') : q_rows_of K ad (.int n) (.ref a) H Q
def sp_rows_of (K : PySem.W.Frag) (ad : Ad) : Sp := fun vs H Q _ => match vs with | [x0, x1] => q_rows_of K ad x0 x1 H Q | _ => False
theorem c_rows_of {K : PySem.W.Frag} {ad : Ad} {x0 x1 : V} {H : Hp} {Q : VK} {E : XK} (h : q_rows_of K ad x0 x1 H Q) : sp_rows_of K ad ([x0, x1] ++ []) H Q E := h
theorem n_rows_of {K : PySem.W.Frag} {ad : Ad} {vs : List V} {H : Hp} {Q : VK} {E : XK} (h : sp_rows_of K ad vs H Q E) : ∃ x0 x1, vs = [x0, x1] ∧ q_rows_of K ad x0 x1 H Q := match vs, h with | [x0, x1], h => ⟨x0, x1, rfl, h⟩
def t_rows_of (K : PySem.W.Frag) (ad : Ad) : TS := (tSeq (tDrop (tCall (sp_looked K ad) [] E0 (tCons (tVar 0) (tCons (tVar 1) tNil))))
    (tSeq (tIfS (tTest (tOp zGt (tVar 0) (tC (.int 9)))) tNever tNext)
    (tSeq (tAsg (tLc (iList K (tVar 1)) (gName 4) tYes (tCall (sp_bits_of K ad) [] E0 (tCons (tVar 4) tNil)) [4]) (gName 2))
    (tSeq (tAsg (tCall (sp_first_apart K ad) [] E0 (tCons (tVar 2) tNil)) (gName 3))
    (tSeq (tIfS (tTest (tOp zNotN (tVar 3) (tC .non))) tNever tNext)
    (tRet (tVar 2)))))))
theorem w_rows_of {K : PySem.W.Frag} {ad : Ad} {x0 x1 : V} {H : Hp} {Q : VK} (h : q_rows_of K ad x0 x1 H Q) : t_rows_of K ad ⟨fun _ H' => Q .non H', Q, fun _ _ => False, fun _ _ => False⟩ [some x0, some x1, none, none, none] H := by
  cases h with
  | @mk n a vs dss F _ _ h1 h2 hF hs ts hl hd nd mt k =>
    have lv : vs.length = dss.length := ts.length
    unfold t_rows_of
    walk_at "rd"
    apply c_looked
    refine q_looked.mk h1 (by omega) hF hs ts hl hd nd fun F1 H1 g1 => ?_
    have S1 := g1.same
    walk_at "rd"
    refine lcL_rel (fun i y _ => ∃ d, dss[i]? = some d ∧ y = nV (bitsN d)) stab_val (Same.seq S1 hs) (by omega) (fun i x hx H2 Q2 s2 q => ?_) (fun D1 H2 ys n1 s2 eD1 ly hy => ?_)
    · obtain ⟨d, hd1, t, rfl, et⟩ := ts.get hx
      have wd := hd d (List.mem_of_getElem? hd1)
      walk_at "rd"
      apply c_bits_of
      refine q_bits_of.mk (SqT.of (s2 _ _ (S1 _ _ (hF _ _ et)))) (fun z hz => by have := wd.within z hz; omega) ?_
      exact q _ _ (Same.refl _) (by intro b z; cases z) ⟨d, hd1, rfl⟩
    rw [rows_of (ly.trans lv) hy] at eD1
    have S2 := S1.trans s2
    walk_at "rd"
    apply c_first_apart
    refine q_first_apart.mk (SqL.of eD1) (by rw [List.length_map]; omega) (fun _ H3 s3 => ?_) (fun i j ea t H3 s3 et => ?_)
    · walk_at "rd"
      exact k D1 H3 (S2.trans s3) (fresh_back S1 n1) (s3 _ _ eD1)
    · rw [mt.apart hd] at ea
      cases ea
inductive q_is_new (K : PySem.W.Frag) (ad : Ad) : V → V → Hp → VK → Prop
  | mk {a : Addr} {ns : List Nat} {c : Nat} {H : Hp} {Q : VK} (hs : SqL K H a (ns.map nV)) (k : Q (.bl (newN ns c)) H) : q_is_new K ad (.ref a) (.int (c : Int)) H Q
def sp_is_new (K : PySem.W.Frag) (ad : Ad) : Sp := fun vs H Q _ => match vs with | [x0, x1] => q_is_new K ad x0 x1 H Q | _ => False
theorem c_is_new {K : PySem.W.Frag} {ad : Ad} {x0 x1 : V} {H : Hp} {Q : VK} {E : XK} (h : q_is_new K ad x0 x1 H Q) : sp_is_new K ad ([x0, x1] ++ []) H Q E := h
theorem n_is_new {K : PySem.W.Frag} {ad : Ad} {vs : List V} {H : Hp} {Q : VK} {E : XK} (h : sp_is_new K ad vs H Q E) : ∃ x0 x1, vs = [x0, x1] ∧ q_is_new K ad x0 x1 H Q := match vs, h with | [x0, x1], h => ⟨x0, x1, rfl, h⟩
def t_is_new (K : PySem.W.Frag) (ad : Ad) : TS := (tSeq (tFor (iList K (tVar 0)) (gName 2)
    (tIfS (tOr (tTest (tOp (zEq K) (tOp zAnd (tVar 2) (tVar 1)) (tC (.int 0)))) (tTest (tOp (zEq K) (tOp zAnd (tVar 2) (tVar 1)) (tVar 2)))) (tRet (tC (.bl false))) tNext))
    (tRet (tC (.bl true))))
theorem w_is_new {K : PySem.W.Frag} {ad : Ad} {x0 x1 : V} {H : Hp} {Q : VK} (h : q_is_new K ad x0 x1 H Q) : t_is_new K ad ⟨fun _ H' => Q .non H', Q, fun _ _ => False, fun _ _ => False⟩ [some x0, some x1, none] H := by
  cases h with
  | @mk a ns c _ _ hs k =>
    unfold t_is_new
    walk_at "rd"
    refine lp_list hs (fun i σ' H' => H' = H ∧ (∃ y2, σ' = [some (.ref a), some (.int (c : Int)), y2]) ∧ newN (ns.take i) c = true) ⟨rfl, ⟨_, rfl⟩, rfl⟩ (fun i σ' H' _ h => by rw [h.1]; exact hs) ?_ ?_
    · rintro i x σ' H' hx ⟨rfl, ⟨y2, rfl⟩, hn⟩
      rw [List.getElem?_map] at hx
      obtain ⟨r, hr, rfl⟩ := Option.map_eq_some_iff.mp hx
      have tk : ns.take (i + 1) = ns.take i ++ [r] := by
        rw [List.take_add_one, hr]
        rfl
      have bad : ¬ (r &&& c ≠ 0 ∧ r &&& c ≠ r) → Q (.bl false) H' := fun no => by
        have : newN ns c = false := Bool.eq_false_iff.mpr fun h => no (by
          have := List.all_eq_true.mp h r (List.mem_of_getElem? hr)
          rw [Bool.and_eq_true, decide_eq_true_iff, decide_eq_true_iff] at this
          exact this)
        rw [this] at k
        exact k
      walk_at "rd"
      walk_at "if"
      · rename_i h0
        walk_at "rd"
        exact bad fun h => h.1 (by omega)
      · rename_i h0
        walk_at "rd"
        walk_at "if"
        · rename_i h1
          walk_at "rd"
          exact bad fun h => h.2 (by omega)
        · rename_i h1
          refine ⟨rfl, ⟨_, rfl⟩, ?_⟩
          rw [tk, newN, List.all_append, Bool.and_eq_true]
          refine ⟨hn, ?_⟩
          rw [List.all_cons, List.all_nil, Bool.and_true, Bool.and_eq_true, decide_eq_true_iff, decide_eq_true_iff]
          exact ⟨by omega, by omega⟩
    · rintro σ' H' ⟨rfl, ⟨y2, rfl⟩, hn⟩
      rw [List.length_map, List.take_length] at hn
      rw [hn] at k
      walk_at "rd"
      exact k
inductive q_lacking (K : PySem.W.Frag) (ad : Ad) : V → V → Hp → VK → Prop
  | mk {n : Nat} {a : Addr} {vs : List V} {dss : List (List Int)} {F H : Hp} {Q : VK} (h1 : 1 ≤ n) (h2 : n ≤ 9) (hF : Same F H) (hs : SqL K H a vs) (ts : TIs F vs dss) (hl : dss.length ≤ 200) (hd : ∀ d ∈ dss, Well (n : Int) d) (nd : dss.Nodup) (mt : Meets dss)
    (k0 : Full n dss → ∀ H', Same H H' → Q .non H') (k1 : ∀ c t H', 0 < c → c < 2 ^ n → newN (dss.map bitsN) c = true → (∀ b, 0 < b → b < c → newN (dss.map bitsN) b = false) → Same H H' → H' t = some (.tup ((seatsN c).map V.int)) → Q (.ref t) H') : q_lacking K ad (.int (n : Int)) (.ref a) H Q
theorem oneOf_yes {i c : Nat} (h : c.testBit i = true) : oneOf (i + 1) c = oneOf i c ++ [(i : Int)] := by
  rw [oneOf, List.range_succ, List.filter_append, List.filter_cons_of_pos h, List.map_append]
  rfl
theorem oneOf_no {i c : Nat} (h : ¬ c.testBit i = true) : oneOf (i + 1) c = oneOf i c := by
  rw [oneOf, List.range_succ, List.filter_append, List.filter_cons_of_neg h, List.filter_nil, List.append_nil]
  rfl
inductive q__law_by_number (K : PySem.W.Frag) (ad : Ad) : V → V → Hp → VK → Prop
  | mk {c n : Nat} {H : Hp} {Q : VK} (h : n ≤ 60) (k : ∀ D H', Same H H' → Fresh H D → H' D = some (.lst ((oneOf n c).map V.int)) → Q (.ref D) H') : q__law_by_number K ad (.int (c : Int)) (.int (n : Int)) H Q
def sp__law_by_number (K : PySem.W.Frag) (ad : Ad) : Sp := fun vs H Q _ => match vs with | [x0, x1] => q__law_by_number K ad x0 x1 H Q | _ => False
theorem c__law_by_number {K : PySem.W.Frag} {ad : Ad} {x0 x1 : V} {H : Hp} {Q : VK} {E : XK} (h : q__law_by_number K ad x0 x1 H Q) : sp__law_by_number K ad ([x0, x1] ++ []) H Q E := h
theorem n__law_by_number {K : PySem.W.Frag} {ad : Ad} {vs : List V} {H : Hp} {Q : VK} {E : XK} (h : sp__law_by_number K ad vs H Q E) : ∃ x0 x1, vs = [x0, x1] ∧ q__law_by_number K ad x0 x1 H Q := match vs, h with | [x0, x1], h => ⟨x0, x1, rfl, h⟩
def t__law_by_number (K : PySem.W.Frag) (ad : Ad) : TS := (tSeq (tAsg (tLst tNil) (gName 2))
    (tSeq (tFor (iRng1 (tCons (tVar 1) tNil)) (gName 3)
    (tSeq (tIfS (tTest (tOp (zEq K) (tOp zMod (tVar 0) (tC (.int 2))) (tC (.int 1)))) (tDrop (tBM K "list" rAppend (tVar 2) (tCons (tVar 3) tNil))) tNext)
    (tAsg (tOp zDiv (tVar 0) (tC (.int 2))) (gName 0))))
    (tRet (tVar 2))))
theorem w__law_by_number {K : PySem.W.Frag} {ad : Ad} {x0 x1 : V} {H : Hp} {Q : VK} (h : q__law_by_number K ad x0 x1 H Q) : t__law_by_number K ad ⟨fun _ H' => Q .non H', Q, fun _ _ => False, fun _ _ => False⟩ [some x0, some x1, none, none] H := by
  cases h with
  | @mk c n _ _ hn k =>
    unfold t__law_by_number
    walk_at "rd"
    refine o_new (Nat.zero_le _) fun D nD => ?_
    have s0 : Same H (upd H D (.lst [])) := up_keep nD
    have eD := upd_same (H := H) (a := D) (o := .lst [])
    generalize upd H D (.lst []) = H0 at *
    walk_at "rd"
    refine lp_range1 (by omega) (fun i σ' H' => (∃ y3, σ' = [some (.int ((c / 2 ^ i : Nat) : Int)), some (.int (n : Int)), some (.ref D), y3]) ∧ Same H H' ∧ H' D = some (.lst ((oneOf i c).map V.int))) ⟨⟨none, by rw [Nat.pow_zero, Nat.div_one]; rfl⟩, s0, eD⟩ ?_ ?_
    · rintro i σ' H' hi ⟨⟨y3, rfl⟩, s1, e1⟩
      have dv : ((c / 2 ^ i : Nat) : Int) / 2 = ((c / 2 ^ (i + 1) : Nat) : Int) := by
        rw [Nat.pow_succ, ← Nat.div_div_eq_div_mul]
        omega
      have tb : decide (((c / 2 ^ i : Nat) : Int) % 2 = 1) = c.testBit i := by
        rw [Nat.testBit_eq_decide_div_mod_eq]
        exact decide_eq_decide.mpr (by omega)
      have lo : (oneOf i c).length ≤ i := by
        rw [oneOf, List.length_map]
        exact Nat.le_trans (List.length_filter_le _ _) (by rw [List.length_range]; exact Nat.le_refl _)
      walk_at "rd"
      walk_at "if"
      · rename_i hb
        have hb : c.testBit i = true := by
          rw [← tb]
          exact decide_eq_true hb
        walk_at "rd"
        refine ⟨ty_list (SqL.of e1), ?_⟩
        walk_at "rd"
        refine m_app e1 (by rw [List.length_map, sizeLine_eq]; omega) ?_
        walk_at "rd"
        rw [dv]
        refine ⟨⟨_, rfl⟩, fun b o e => (upd_ne (ne_of_none e nD)).trans (s1 _ _ e), ?_⟩
        rw [upd_same, oneOf_yes hb, List.map_append]
        rfl
      · rename_i hb
        have hb : ¬ c.testBit i = true := by
          rw [← tb]
          simpa using hb
        walk_at "rd"
        rw [dv]
        refine ⟨⟨_, rfl⟩, s1, ?_⟩
        rw [oneOf_no hb]
        exact e1
    · rintro σ' H' ⟨⟨y3, rfl⟩, s1, e1⟩
      walk_at "rd"
      rw [Int.toNat_natCast] at e1
      exact k D H' s1 nD e1

inductive q__law_full (K : PySem.W.Frag) (ad : Ad) : V → V → V → V → Hp → VK → Prop
  | mk {a p q : Addr} {ns : List Int} {n : Nat} {vs : List V} {dss : List (List Int)} {F H : Hp} {Q : VK} (hF : Same F H) (hS : SqL K F a (ns.map V.int)) (hp : Pot H p) (fp : F p = none) (h1 : 1 ≤ n) (h2 : n ≤ 60) (eq : H q = some (.lst vs)) (nqp : q ≠ p)
      (ts : TIs F vs dss) (hd : ∀ d ∈ dss, Well (n : Int) d) (sd : SD dss) (k : ∀ H', Pot H' p → Gr (M1 p) F H F H' → Q (.bl true) H') : q__law_full K ad (.ref a) (.ref p) (.int (n : Int)) (.ref q) H Q
theorem has_rest {n : Int} {dss : List (List Int)} (hd : ∀ d ∈ dss, Well n d) (cs : List Int) : hasP (fun x => decide (x ∈ ((List.range n.toNat).filter fun z : Nat => !decide ((z : Int) ∈ cs)).map fun z : Nat => (z : Int))) dss = hasP (fun x => !decide (x ∈ cs)) dss := by
  rw [hasP, hasP]
  refine any_mem fun d hdm => ?_
  refine Bool.eq_iff_iff.mpr ?_
  rw [List.all_eq_true, List.all_eq_true]
  have wd := hd d hdm
  have one : ∀ x ∈ d, (decide (x ∈ ((List.range n.toNat).filter fun z : Nat => !decide ((z : Int) ∈ cs)).map fun z : Nat => (z : Int)) = true ↔ (!decide (x ∈ cs)) = true) := fun x hx => by
    have := wd.within x hx
    rw [decide_eq_true_iff, List.mem_map]
    constructor
    · rintro ⟨z, hz, rfl⟩
      exact (List.mem_filter.mp hz).2
    · intro h
      refine ⟨x.toNat, List.mem_filter.mpr ⟨List.mem_range.mpr (by omega), ?_⟩, by omega⟩
      rw [Int.toNat_of_nonneg this.1]
      exact h
  exact ⟨fun h x hx => (one x hx).mp (h x hx), fun h x hx => (one x hx).mpr (h x hx)⟩
def sp__law_full (K : PySem.W.Frag) (ad : Ad) : Sp := fun vs H Q _ => match vs with | [x0, x1, x2, x3] => q__law_full K ad x0 x1 x2 x3 H Q | _ => False
theorem c__law_full {K : PySem.W.Frag} {ad : Ad} {x0 x1 x2 x3 : V} {H : Hp} {Q : VK} {E : XK} (h : q__law_full K ad x0 x1 x2 x3 H Q) : sp__law_full K ad ([x0, x1, x2, x3] ++ []) H Q E := h
theorem n__law_full {K : PySem.W.Frag} {ad : Ad} {vs : List V} {H : Hp} {Q : VK} {E : XK} (h : sp__law_full K ad vs H Q E) : ∃ x0 x1 x2 x3, vs = [x0, x1, x2, x3] ∧ q__law_full K ad x0 x1 x2 x3 H Q := match vs, h with | [x0, x1, x2, x3], h => ⟨x0, x1, x2, x3, rfl, h⟩
def t__law_full (K : PySem.W.Frag) (ad : Ad) : TS := (tSeq (tFor (iRng1 (tCons (tC (.int 12)) tNil)) (gName 4)
    (tIfS (tNot (zTru K (tCall (sp__law_just_one K ad) [] E0 (tCons (tVar 0) (tCons (tVar 1) (tCons (tVar 2) (tCons (tVar 3) tNil))))))) (tRet (tC (.bl false))) tNext))
    (tSeq (tIfS (tTest (tOp zGt (tVar 2) (tC (.int 6)))) (tRet (tC (.bl true))) tNext)
    (tSeq (tFor (iRng1 (tCons (tOp (rIx K) (tLst (tCons (tC (.int 1)) (tCons (tC (.int 2)) (tCons (tC (.int 4)) (tCons (tC (.int 8)) (tCons (tC (.int 16)) (tCons (tC (.int 32)) (tCons (tC (.int 64)) tNil)))))))) (tVar 2)) tNil)) (gName 5)
    (tSeq (tAsg (tCall (sp__law_by_number K ad) [] E0 (tCons (tVar 5) (tCons (tVar 2) tNil))) (gName 6))
    (tSeq (tAsg (tLc (iRng1 (tCons (tVar 2) tNil)) (gName 8) (tTest (tOp (zNotIn K) (tVar 8) (tVar 6))) (tVar 8) [8]) (gName 7))
    (tIfS (tTest (tOp (zEq K) (tCall (sp__law_has K ad) [] E0 (tCons (tVar 6) (tCons (tVar 3) tNil))) (tCall (sp__law_has K ad) [] E0 (tCons (tVar 7) (tCons (tVar 3) tNil))))) (tRet (tC (.bl false))) tNext))))
    (tRet (tC (.bl true))))))
theorem w__law_full {K : PySem.W.Frag} {ad : Ad} {x0 x1 x2 x3 : V} {H : Hp} {Q : VK} (h : q__law_full K ad x0 x1 x2 x3 H Q) : t__law_full K ad ⟨fun _ H' => Q .non H', Q, fun _ _ => False, fun _ _ => False⟩ [some x0, some x1, some x2, some x3, none, none, none, none, none] H := by
  cases h with
  | @mk a p q ns n vs dss F _ _ hF hS hp fp h1 h2 eq nqp ts hd sd k =>
    have dl : ∀ d ∈ dss, d.length ≤ 1000 := fun d h => by have := (hd d h).few; omega
    unfold t__law_full
    walk_at "rd"
    refine lp_range1 (by omega) (fun i σ' H' => (∃ y4, σ' = [some (.ref a), some (.ref p), some (.int (n : Int)), some (.ref q), y4, none, none, none, none]) ∧ H' q = some (.lst vs) ∧ Pot H' p ∧ Gr (M1 p) F H F H') ⟨⟨_, rfl⟩, eq, hp, Gr.refl hF⟩ ?_ ?_
    · rintro i σ' H1 hi ⟨⟨y4, rfl⟩, eq1, hp1, g1⟩
      obtain ⟨_, ep1⟩ := hp1.is
      walk_at "rd"
      apply c__law_just_one
      refine q__law_just_one.mk g1.fh hS hp1 fp (by omega) (by omega) eq1 nqp ts hd sd fun H2 hp2 g2 => ?_
      walk_at "rd"
      exact ⟨⟨_, rfl⟩, g2.hh _ _ nqp eq1, hp2, g1.tr1 g2 ep1⟩
    · rintro σ' H1 ⟨⟨y4, rfl⟩, eq1, hp1, g1⟩
      walk_at "rd"
      walk_at "if"
      · walk_at "rd"
        exact k H1 hp1 g1
      rename_i n6
      walk_at "rd"
      refine o_new (by walk_at "len") fun u nu => ?_
      have s2 : Same H1 (upd H1 u (.lst [.int 1, .int 2, .int 4, .int 8, .int 16, .int 32, .int 64])) := up_keep nu
      have eu := upd_same (H := H1) (a := u) (o := .lst [.int 1, .int 2, .int 4, .int 8, .int 16, .int 32, .int 64])
      have hp2 := hp1.at (s2 p)
      have g2 := gthn g1 s2
      have eq2 := s2 _ _ eq1
      generalize upd H1 u (.lst [.int 1, .int 2, .int 4, .int 8, .int 16, .int 32, .int 64]) = H2 at *
      obtain ⟨N, hN⟩ : ∃ N : Nat, N = 2 ^ n := ⟨_, rfl⟩
      have N9 : N ≤ 64 := by
        rw [hN]
        exact Nat.pow_le_pow_right (n := 2) (by decide) (by omega : n ≤ 6)
      walk_at "rd"
      refine o_ixL (SqL.of eu) (v := .int (N : Int)) (by
        have : n = 1 ∨ n = 2 ∨ n = 3 ∨ n = 4 ∨ n = 5 ∨ n = 6 := by omega
        rw [hN]
        rcases this with e | e | e | e | e | e <;> (rw [e]; rfl)) ?_
      walk_at "rd"
      refine lp_range1 (by omega) (fun i σ' H' => (∃ y4 y5 y6 y7, σ' = [some (.ref a), some (.ref p), some (.int (n : Int)), some (.ref q), y4, y5, y6, y7, none]) ∧ Same H2 H') ⟨⟨_, _, _, _, rfl⟩, Same.refl _⟩ ?_ ?_
      · rintro c σ' H3 hi ⟨⟨y4, y5, y6, y7, rfl⟩, s3⟩
        walk_at "rd"
        apply c__law_by_number
        refine q__law_by_number.mk h2 fun D H4 s4 nD eD => ?_
        walk_at "rd"
        refine lcR_grow (fun z : Nat => !decide ((z : Int) ∈ oneOf n c)) (fun z : Nat => V.int (z : Int)) ⟨by omega, by omega⟩ (fun i hi H5 QB SF qb => ?_) (fun i hi H5 Q3 SF hb qb => ?_) (fun E H5 nE s5 eE => ?_)
        · walk_at "rd"
          refine o_notInI (.inl (SqL.of (SF _ _ eD))) ?_
          walk_at "rd"
          exact qb _ (Same.refl _)
        · walk_at "rd"
          exact qb _ (Same.refl _)
        have eE : H5 E = some (.lst ((((List.range (n : Int).toNat).filter fun z : Nat => !decide ((z : Int) ∈ oneOf n c)).map fun z : Nat => (z : Int)).map V.int)) := by
          rw [eE, List.map_map]
          rfl
        have S5 := (s3.trans s4).trans s5
        have lo : (oneOf n c).length ≤ 1000 := by
          rw [oneOf, List.length_map]
          exact Nat.le_trans (List.length_filter_le _ _) (by rw [List.length_range]; omega)
        have eq5 := S5 _ _ eq2
        walk_at "rd"
        apply c__law_has
        refine q__law_has.mk (g2.fh.trans S5) (.inl (SqL.of (s5 _ _ eD))) (SqL.of eq5) ts dl fun H6 s6 => ?_
        walk_at "rd"
        apply c__law_has
        refine q__law_has.mk ((g2.fh.trans S5).trans s6) (.inl (SqL.of (s6 _ _ eE))) (SqL.of (s6 _ _ eq5)) ts dl fun H7 s7 => ?_
        have t : ∀ b : Bool, decide ((!b) = b) = false := by decide
        walk_at "rd"
        rw [has_rest hd, sd, t]
        walk_at "rd"
        exact ⟨⟨_, _, _, _, rfl⟩, (S5.trans s6).trans s7⟩
      · rintro σ' H3 ⟨⟨y4, y5, y6, y7, rfl⟩, s3⟩
        walk_at "rd"
        exact k H3 (hp2.at (s3 p)) (gthn g2 s3)

/-! ### bettered -/
def stepN (rows : List Nat) (c : Nat) : List Nat := if newN rows c = true then rows.filter (fun r => !decide (r &&& c = c)) ++ [c] else rows
def betN (rows : List Nat) : Nat → List Nat
  | 0 => rows
  | i + 1 => stepN (betN rows i) (1 + i)
theorem new_true {rows : List Nat} {c : Nat} (h : newN rows c = true) : ∀ r ∈ rows, r &&& c ≠ 0 ∧ r &&& c ≠ r := fun r hr => by
  have := List.all_eq_true.mp h r hr
  rw [Bool.and_eq_true, decide_eq_true_iff, decide_eq_true_iff] at this
  exact this
theorem new_false {rows : List Nat} {c : Nat} : newN rows c = false ↔ ∃ r ∈ rows, r &&& c = 0 ∨ r &&& c = r := by
  rw [newN, List.all_eq_false]
  refine exists_congr fun r => and_congr_right fun _ => ?_
  rw [Bool.and_eq_true, decide_eq_true_iff, decide_eq_true_iff]
  constructor
  · intro h
    refine Classical.byContradiction fun no => h ⟨fun e => no (.inl e), fun e => no (.inr e)⟩
  · rintro (e | e) ⟨h1, h2⟩
    · exact h1 e
    · exact h2 e
structure Bt (old rows : List Nat) (N : Nat) : Prop where
  int : ∀ r ∈ rows, ∀ s ∈ rows, r &&& s ≠ 0
  anti : rows.Pairwise fun r s => r &&& s ≠ s ∧ r &&& s ≠ r
  cov : ∀ d ∈ old, ∃ r ∈ rows, r &&& d = r
  done : ∀ c, 0 < c → c ≤ N → newN rows c = false
theorem Bt.step {old rows : List Nat} {i : Nat} (h : Bt old rows i) : Bt old (stepN rows (1 + i)) (i + 1) := by
  obtain ⟨c, hc⟩ : ∃ c, c = 1 + i := ⟨_, rfl⟩
  rw [← hc]
  unfold stepN
  by_cases nw : newN rows c = true
  · rw [if_pos nw]
    have nt := new_true nw
    have mf : ∀ r, r ∈ rows.filter (fun r => !decide (r &&& c = c)) ↔ r ∈ rows ∧ r &&& c ≠ c := fun r => by
      rw [List.mem_filter]
      simp
    have inn : ∀ r, r ∈ rows.filter (fun r => !decide (r &&& c = c)) ++ [c] ↔ (r ∈ rows ∧ r &&& c ≠ c) ∨ r = c := fun r => by
      rw [List.mem_append, mf, List.mem_singleton]
    refine ⟨fun r hr s hs => ?_, ?_, fun d hd => ?_, fun b b0 b1 => ?_⟩
    · rcases (inn r).mp hr with hr | rfl <;> rcases (inn s).mp hs with hs | rfl
      · exact h.int r hr.1 s hs.1
      · exact (nt r hr.1).1
      · rw [Nat.and_comm]
        exact (nt s hs.1).1
      · rw [Nat.and_self]
        omega
    · refine List.pairwise_append.mpr ⟨h.anti.filter _, List.pairwise_singleton .., fun r hr s hs => ?_⟩
      rw [List.mem_singleton.mp hs]
      obtain ⟨h1, h2⟩ := (mf r).mp hr
      exact ⟨h2, (nt r h1).2⟩
    · obtain ⟨r, hr, e⟩ := h.cov d hd
      by_cases q : r &&& c = c
      · refine ⟨c, (inn c).mpr (.inr rfl), ?_⟩
        rw [← q, Nat.and_comm r c, Nat.and_assoc, e]
      · exact ⟨r, (inn r).mpr (.inl ⟨hr, q⟩), e⟩
    · refine new_false.mpr ?_
      by_cases bc : b = c
      · exact ⟨c, (inn c).mpr (.inr rfl), .inr (by rw [bc, Nat.and_self])⟩
      · obtain ⟨r, hr, e⟩ := new_false.mp (h.done b b0 (by omega))
        by_cases q : r &&& c = c
        · refine ⟨c, (inn c).mpr (.inr rfl), ?_⟩
          have : c &&& b = c &&& (r &&& b) := by
            rw [← Nat.and_assoc, Nat.and_comm c r, q]
          rw [this]
          rcases e with e | e
          · rw [e]
            exact .inl (Nat.and_zero _)
          · rw [e, Nat.and_comm c r, q]
            exact .inr rfl
        · exact ⟨r, (inn r).mpr (.inl ⟨hr, q⟩), e⟩
  · rw [if_neg nw]
    refine ⟨h.int, h.anti, h.cov, fun b b0 b1 => ?_⟩
    by_cases bc : b = c
    · rw [bc]
      exact Bool.eq_false_iff.mpr nw
    · exact h.done b b0 (by omega)
theorem Bt.bet {old rows : List Nat} (h : Bt old rows 0) : ∀ i, Bt old (betN rows i) i
  | 0 => h
  | i + 1 => (Bt.bet h i).step
theorem least_iff {R : List Nat} {r : Nat} : leastN R r = true ↔ ∀ o ∈ R, o &&& r = o → o = r := by
  rw [leastN, Bool.not_eq_true', List.any_eq_false]
  refine forall_congr' fun o => forall_congr' fun _ => ?_
  rw [Bool.and_eq_true, decide_eq_true_iff, decide_eq_true_iff]
  constructor
  · intro h e
    exact Classical.byContradiction fun no => h ⟨no, e⟩
  · rintro h ⟨a, b⟩
    exact a (h b)
theorem least_cov {R : List Nat} : ∀ (n d : Nat), d < n → d ∈ R → ∃ r ∈ R.filter (leastN R), r &&& d = r
  | 0, d, h, _ => by omega
  | n + 1, d, h, hd => by
    by_cases l : leastN R d = true
    · exact ⟨d, List.mem_filter.mpr ⟨hd, l⟩, Nat.and_self d⟩
    · rw [least_iff] at l
      obtain ⟨o, no⟩ := Classical.not_forall.mp l
      obtain ⟨ho, no⟩ := Classical.not_imp.mp no
      obtain ⟨e, ne⟩ := Classical.not_imp.mp no
      have le : o ≤ d := by
        rw [← e]
        exact Nat.and_le_right
      obtain ⟨r, hr, er⟩ := least_cov n o (by omega) ho
      refine ⟨r, hr, ?_⟩
      rw [← er, Nat.and_assoc, e]
theorem Bt.start {R : List Nat} (nd : R.Nodup) (int : ∀ r ∈ R, ∀ s ∈ R, r &&& s ≠ 0) : Bt R (R.filter (leastN R)) 0 := by
  refine ⟨fun r hr s hs => int r (List.mem_filter.mp hr).1 s (List.mem_filter.mp hs).1, ?_, fun d hd => least_cov _ d (Nat.lt_succ_self d) hd, fun c a b => by omega⟩
  have : (R.filter (leastN R)).Pairwise fun r s => r ≠ s := nd.sublist List.filter_sublist
  refine (List.Pairwise.and_mem.mp this).imp ?_
  rintro r s ⟨hr, hs, ne⟩
  obtain ⟨r1, r2⟩ := List.mem_filter.mp hr
  obtain ⟨s1, s2⟩ := List.mem_filter.mp hs
  refine ⟨fun e => ne ?_, fun e => ne (least_iff.mp s2 r r1 e)⟩
  rw [Nat.and_comm] at e
  exact (least_iff.mp r2 s s1 e).symm
theorem bet_lt {rows : List Nat} {M : Nat} (h : ∀ r ∈ rows, r < M) : ∀ i, i < M → ∀ r ∈ betN rows i, r < M
  | 0, _, r, hr => h r hr
  | i + 1, hi, r, hr => by
    rw [betN, stepN] at hr
    split at hr
    · rcases List.mem_append.mp hr with hr | hr
      · exact bet_lt h i (by omega) r (List.mem_filter.mp hr).1
      · rw [List.mem_singleton.mp hr]
        omega
    · exact bet_lt h i (by omega) r hr
theorem bet_len {rows : List Nat} : ∀ i, (betN rows i).length ≤ rows.length + i
  | 0 => Nat.le_refl _
  | i + 1 => by
    have ih := bet_len (rows := rows) i
    rw [betN, stepN]
    split
    · rw [List.length_append, List.length_singleton]
      have := List.length_filter_le (fun r => !decide (r &&& (1 + i) = 1 + i)) (betN rows i)
      omega
    · omega
theorem bet_same {rows : List Nat} : ∀ i, (∀ c, 0 < c → c ≤ i → newN rows c = false) → betN rows i = rows
  | 0, _ => rfl
  | i + 1, h => by
    rw [betN, bet_same i fun c c0 c1 => h c c0 (by omega), stepN, if_neg]
    rw [h (1 + i) (by omega) (by omega)]
    exact Bool.false_ne_true
/-! ### as lists -/
def rowsS (dss : List (List Int)) : List Nat := (dss.map bitsN).filter (leastN (dss.map bitsN))
def outN (n : Nat) (dss : List (List Int)) : List Nat := betN (rowsS dss) (2 ^ n - 1)
def outS (n : Nat) (dss : List (List Int)) : List (List Int) := (outN n dss).map seatsN
theorem map_bits_nd {n : Int} {dss : List (List Int)} (hd : ∀ d ∈ dss, Well n d) (nd : dss.Nodup) : (dss.map bitsN).Nodup := by
  rw [List.Nodup, List.pairwise_map]
  refine (List.Pairwise.and_mem.mp nd).imp ?_
  rintro d e ⟨h1, h2, ne⟩ z
  exact ne ((bitsN_inj (hd d h1).up (hd e h2).up (well_ge (hd d h1)) (well_ge (hd e h2))).mp z)
theorem out_Bt {n : Nat} {dss : List (List Int)} (hd : ∀ d ∈ dss, Well (n : Int) d) (nd : dss.Nodup) (mt : Meets dss) : Bt (dss.map bitsN) (outN n dss) (2 ^ n - 1) := by
  refine Bt.bet (Bt.start (map_bits_nd hd nd) fun r hr s hs e => ?_) _
  obtain ⟨d, h1, rfl⟩ := List.mem_map.mp hr
  obtain ⟨d', h2, rfl⟩ := List.mem_map.mp hs
  obtain ⟨x, a, b⟩ := mt d h1 d' h2
  exact (bitsN_apart (well_ge (hd d h1)) (well_ge (hd d' h2))).mp e x a b
theorem out_lt {n : Nat} {dss : List (List Int)} (hd : ∀ d ∈ dss, Well (n : Int) d) : ∀ r ∈ outN n dss, r < 2 ^ n := by
  have := Nat.two_pow_pos n
  refine bet_lt (fun r hr => ?_) _ (by omega)
  obtain ⟨d, h1, rfl⟩ := List.mem_map.mp (List.mem_filter.mp hr).1
  exact bitsN_lt fun x hx => (hd d h1).within x hx
theorem seats_ne {r : Nat} (h : r ≠ 0) : seatsN r ≠ [] := fun e => by
  obtain ⟨i, hi⟩ := Nat.exists_testBit_of_ne_zero h
  have := (seatsN_mem r (i : Int)).mpr ⟨by omega, by rw [Int.toNat_natCast]; exact hi⟩
  rw [e] at this
  cases this
theorem seats_sub {r s : Nat} : (∀ x ∈ seatsN r, x ∈ seatsN s) ↔ r &&& s = r := by
  rw [← bitsN_sub (seatsN_ge r) (seatsN_ge s), bits_seats, bits_seats]
theorem well_seats {n r : Nat} (hn : n ≤ 33) (h0 : r ≠ 0) (h1 : r < 2 ^ n) : Well (n : Int) (seatsN r) := ⟨seats_ne h0, seatsN_up r, seats_in h1, by have := pc_le h1; unfold pc at this; omega⟩
theorem out_well {n : Nat} (hn : n ≤ 33) {dss : List (List Int)} (hd : ∀ d ∈ dss, Well (n : Int) d) (nd : dss.Nodup) (mt : Meets dss) : ∀ e ∈ outS n dss, Well (n : Int) e := fun e he => by
  obtain ⟨r, hr, rfl⟩ := List.mem_map.mp he
  refine well_seats hn (fun z => (out_Bt hd nd mt).int r hr r hr ?_) (out_lt hd r hr)
  rw [Nat.and_self]
  exact z
theorem bits_out {n : Nat} {dss : List (List Int)} : (outS n dss).map bitsN = outN n dss := by
  rw [outS, List.map_map]
  conv => rhs; rw [← List.map_id (outN n dss)]
  exact List.map_congr_left fun r _ => bits_seats r
theorem out_full {n : Nat} {dss : List (List Int)} (hd : ∀ d ∈ dss, Well (n : Int) d) (nd : dss.Nodup) (mt : Meets dss) : Full n (outS n dss) := fun c c0 c1 => by
  rw [bits_out]
  exact (out_Bt hd nd mt).done c c0 (by omega)
theorem out_meets {n : Nat} {dss : List (List Int)} (hd : ∀ d ∈ dss, Well (n : Int) d) (nd : dss.Nodup) (mt : Meets dss) : Meets (outS n dss) := fun d h1 e h2 => by
  obtain ⟨r, hr, rfl⟩ := List.mem_map.mp h1
  obtain ⟨s, hs, rfl⟩ := List.mem_map.mp h2
  refine Classical.byContradiction fun no => (out_Bt hd nd mt).int r hr s hs ?_
  have := (bitsN_apart (seatsN_ge r) (seatsN_ge s)).mpr fun x hx hy => no ⟨x, hx, hy⟩
  rw [bits_seats, bits_seats] at this
  exact this
theorem out_anti {n : Nat} {dss : List (List Int)} (hd : ∀ d ∈ dss, Well (n : Int) d) (nd : dss.Nodup) (mt : Meets dss) : (outS n dss).Pairwise fun d e => ¬ (∀ x ∈ d, x ∈ e) ∧ ¬ (∀ x ∈ e, x ∈ d) := by
  rw [outS, List.pairwise_map]
  refine (out_Bt hd nd mt).anti.imp ?_
  rintro r s ⟨h1, h2⟩
  refine ⟨fun h => h2 (seats_sub.mp h), fun h => h1 ?_⟩
  rw [Nat.and_comm]
  exact seats_sub.mp h
theorem out_nd {n : Nat} {dss : List (List Int)} (hd : ∀ d ∈ dss, Well (n : Int) d) (nd : dss.Nodup) (mt : Meets dss) : (outS n dss).Nodup := (out_anti hd nd mt).imp fun h e => h.1 (by rw [e]; exact fun _ h => h)
theorem out_cov {n : Nat} {dss : List (List Int)} (hd : ∀ d ∈ dss, Well (n : Int) d) (nd : dss.Nodup) (mt : Meets dss) : ∀ d ∈ dss, ∃ e ∈ outS n dss, ∀ x ∈ e, x ∈ d := fun d h => by
  obtain ⟨r, hr, e⟩ := (out_Bt hd nd mt).cov _ (List.mem_map_of_mem h)
  refine ⟨seatsN r, List.mem_map_of_mem hr, ?_⟩
  refine (bitsN_sub (seatsN_ge r) (well_ge (hd d h))).mp ?_
  rw [bits_seats]
  exact e
theorem out_le {n : Nat} {dss : List (List Int)} : (outS n dss).length ≤ dss.length + 2 ^ n := by
  rw [outS, List.length_map]
  have h1 := bet_len (rows := rowsS dss) (2 ^ n - 1)
  have h0 := Nat.two_pow_pos n
  have h2 := List.length_filter_le (leastN (dss.map bitsN)) (dss.map bitsN)
  rw [List.length_map] at h2
  unfold outN
  unfold rowsS at *
  omega
/-- a family whose least sets are full already: what comes out is just these -/
theorem out_least {n : Nat} {dss es : List (List Int)} (hd : ∀ d ∈ dss, Well (n : Int) d) (nd : dss.Nodup) (ne : es.Nodup) (sub : ∀ e ∈ es, e ∈ dss) (anti : ∀ d ∈ es, ∀ e ∈ es, (∀ x ∈ d, x ∈ e) → d = e)
    (more : ∀ d ∈ dss, d ∉ es → ∃ e ∈ es, e ≠ d ∧ ∀ x ∈ e, x ∈ d) (full : Full n es) : (outS n dss).Perm es ∧ ((∀ d ∈ dss, d ∈ es) → outS n dss = dss) := by
  have hr : rowsS dss = (dss.filter fun d => decide (d ∈ es)).map bitsN := by
    rw [rowsS, filter_bits hd dss fun d h => h]
    congr 1
    refine List.filter_congr fun d h => ?_
    rw [← leastN_S hd h]
    refine Bool.eq_iff_iff.mpr ?_
    rw [least_iff, decide_eq_true_iff]
    constructor
    · intro l
      refine Classical.byContradiction fun no => ?_
      obtain ⟨e, he, n1, sb⟩ := more d h no
      have q := l _ (List.mem_map_of_mem (sub e he)) ((bitsN_sub (well_ge (hd e (sub e he))) (well_ge (hd d h))).mpr sb)
      exact n1 ((bitsN_inj (hd e (sub e he)).up (hd d h).up (well_ge (hd e (sub e he))) (well_ge (hd d h))).mp q)
    · intro de o ho q
      obtain ⟨f, hf, rfl⟩ := List.mem_map.mp ho
      have sb := (bitsN_sub (well_ge (hd f hf)) (well_ge (hd d h))).mp q
      by_cases fe : f ∈ es
      · rw [anti f fe d de sb]
      · obtain ⟨e, he, n1, sb2⟩ := more f hf fe
        have := anti e he d de fun x hx => sb x (sb2 x hx)
        subst this
        have : f = e := by
          have a := (bitsN_sub (well_ge (hd e h)) (well_ge (hd f hf))).mpr sb2
          rw [Nat.and_comm] at a
          exact (bitsN_inj (hd f hf).up (hd e h).up (well_ge (hd f hf)) (well_ge (hd e h))).mp (q.symm.trans a)
        rw [this]
  have pm : (dss.filter fun d => decide (d ∈ es)).Perm es := (List.perm_ext_iff_of_nodup (nd.sublist List.filter_sublist) ne).mpr fun d => by
    rw [List.mem_filter, decide_eq_true_iff]
    exact ⟨fun h => h.2, fun h => ⟨sub d h, h⟩⟩
  have same : outN n dss = rowsS dss := bet_same _ fun c c0 c1 => by
    have := full c c0 (by have := Nat.two_pow_pos n; omega)
    obtain ⟨r, h1, h2⟩ := new_false.mp this
    refine new_false.mpr ⟨r, ?_, h2⟩
    rw [hr]
    exact (pm.map bitsN).mem_iff.mpr h1
  have back : ∀ l : List (List Int), (∀ d ∈ l, d ∈ dss) → (l.map bitsN).map seatsN = l := fun l h => by
    rw [List.map_map]
    conv => rhs; rw [← List.map_id l]
    exact List.map_congr_left fun d hd' => seats_bits (hd d (h d hd')).up (well_ge (hd d (h d hd')))
  have eo : outS n dss = dss.filter fun d => decide (d ∈ es) := by
    rw [outS, same, hr, back _ fun d h => (List.mem_filter.mp h).1]
  refine ⟨by rw [eo]; exact pm, fun all => ?_⟩
  rw [eo, List.filter_eq_self]
  exact fun d h => decide_eq_true (all d h)

/-! ### how many come out -/
theorem nodup_lenN {α : Type} [DecidableEq α] : ∀ {l m : List α}, l.Nodup → (∀ x ∈ l, x ∈ m) → l.length ≤ m.length
  | [], _, _, _ => Nat.zero_le _
  | x :: l, m, nd, h => by
    have nd' := List.nodup_cons.mp nd
    have hx := h x List.mem_cons_self
    have ih := nodup_lenN (m := m.erase x) nd'.2 fun y hy => (List.mem_erase_of_ne (fun e => nd'.1 (by rw [← e]; exact hy))).mpr (h y (List.mem_cons_of_mem _ hy))
    rw [List.length_erase_of_mem hx] at ih
    have := List.length_pos_of_mem hx
    rw [List.length_cons]
    omega
theorem pw_ne {α : Type} {R : α → α → Prop} (sy : ∀ a b, R a b → R b a) : ∀ {l : List α}, l.Pairwise R → ∀ a ∈ l, ∀ b ∈ l, a ≠ b → R a b
  | [], _, a, ha, _, _, _ => by cases ha
  | x :: l, h, a, ha, b, hb, ne => by
    have h := List.pairwise_cons.mp h
    rcases List.mem_cons.mp ha with e1 | ha2 <;> rcases List.mem_cons.mp hb with e2 | hb2
    · exact absurd (e1.trans e2.symm) ne
    · rw [e1]
      exact h.1 b hb2
    · rw [e2]
      exact sy _ _ (h.1 a ha2)
    · exact pw_ne sy h.2 a ha2 b hb2 ne
theorem Bt.ne {old rows : List Nat} {N : Nat} (h : Bt old rows N) {r s : Nat} (hr : r ∈ rows) (hs : s ∈ rows) (ne : r ≠ s) : r &&& s ≠ r :=
  (pw_ne (R := fun r s => r &&& s ≠ s ∧ r &&& s ≠ r) (fun a b h => ⟨by rw [Nat.and_comm]; exact h.2, by rw [Nat.and_comm]; exact h.1⟩) h.anti r hr s hs ne).2
theorem Bt.nd {old rows : List Nat} {N : Nat} (h : Bt old rows N) : rows.Nodup := h.anti.imp fun {r s} h e => h.1 (by rw [e, Nat.and_self])
theorem off_and {n r : Nat} : r &&& (2 ^ n - (r + 1)) = 0 ∨ ¬ r < 2 ^ n := by
  by_cases h : r < 2 ^ n
  · refine .inl (Nat.eq_of_testBit_eq fun i => ?_)
    rw [Nat.testBit_and, Nat.testBit_two_pow_sub_succ h, Nat.zero_testBit]
    cases r.testBit i <;> simp
  · exact .inr h
theorem out_half {n : Nat} {dss : List (List Int)} (hd : ∀ d ∈ dss, Well (n : Int) d) (nd : dss.Nodup) (mt : Meets dss) : 2 * (outS n dss).length ≤ 2 ^ n := by
  have bt := out_Bt (n := n) hd nd mt
  have lt := out_lt (n := n) hd
  rw [outS, List.length_map]
  generalize outN n dss = G at *
  have h := nodup_lenN (l := G ++ G.map fun r => 2 ^ n - (r + 1)) (m := List.range (2 ^ n)) (List.nodup_append.mpr ⟨bt.nd, ?_, fun r hr s hs e => ?_⟩) fun x hx => ?_
  · rw [List.length_append, List.length_map, List.length_range] at h
    omega
  · rw [List.Nodup, List.pairwise_map]
    refine (List.Pairwise.and_mem.mp bt.nd).imp ?_
    rintro r s ⟨hr, hs, ne⟩ e
    have := lt r hr
    have := lt s hs
    omega
  · obtain ⟨t, ht, rfl⟩ := List.mem_map.mp hs
    refine bt.int t ht r hr ?_
    rw [e]
    exact off_and.resolve_right fun no => no (lt t ht)
  · refine List.mem_range.mpr ?_
    rcases List.mem_append.mp hx with hx | hx
    · exact lt x hx
    · obtain ⟨t, ht, rfl⟩ := List.mem_map.mp hx
      have := lt t ht
      omega
theorem out_len8 {n : Nat} (hn : n ≤ 8) {dss : List (List Int)} (hd : ∀ d ∈ dss, Well (n : Int) d) (nd : dss.Nodup) (mt : Meets dss) : (outS n dss).length ≤ 128 := by
  have := out_half hd nd mt
  have := Nat.pow_le_pow_right (n := 2) (by decide) hn
  omega
def nineN : List Nat := (List.range 512).filter fun c => decide ((oneOf 9 c).length = 5)
def nineL : List Nat := [31, 47, 55, 59, 61, 62, 79, 87, 91, 93, 94, 103, 107, 109, 110, 115, 117, 118, 121, 122, 124, 143, 151, 155, 157, 158, 167, 171, 173, 174, 179, 181, 182, 185, 186, 188, 199, 203, 205, 206, 211, 213, 214, 217, 218, 220, 227, 229, 230, 233, 234, 236, 241, 242, 244, 248, 271, 279, 283, 285, 286, 295, 299, 301, 302, 307, 309, 310, 313, 314, 316, 327, 331, 333, 334, 339, 341, 342, 345, 346, 348, 355, 357, 358, 361, 362, 364, 369, 370, 372, 376, 391, 395, 397, 398, 403, 405, 406, 409, 410, 412, 419, 421, 422, 425, 426, 428, 433, 434, 436, 440, 451, 453, 454, 457, 458, 460, 465, 466, 468, 472, 481, 482, 484, 488, 496]
theorem nine_eq : nineN = nineL := by decide +kernel
theorem nine_off : ∀ c ∈ List.range 512, 6 ≤ (oneOf 9 c).length → (nineL.filter fun r => !decide (r &&& c = r)).length ≤ 120 := by decide +kernel
theorem nine_not : ∀ c ∈ List.range 512, (oneOf 9 (512 - (c + 1))).length = 9 - (oneOf 9 c).length := by decide +kernel
theorem nine_cov {l : List Nat} (sub : l.Sublist nineN) (len : 123 ≤ l.length) {c : Nat} (hc : c < 512) (six : 6 ≤ (oneOf 9 c).length) : ∃ r ∈ l, r &&& c = r := Classical.byContradiction fun no => by
  rw [nine_eq] at sub
  have h := (sub.filter fun r => !decide (r &&& c = r)).length_le
  rw [List.filter_eq_self.mpr fun r hr => by rw [decide_eq_false fun e => no ⟨r, hr, e⟩]; rfl] at h
  have := nine_off c (List.mem_range.mpr hc) six
  omega
theorem out_len9 {dss : List (List Int)} (hd : ∀ d ∈ dss, Well (9 : Int) d) (nd : dss.Nodup) (mt : Meets dss) {l : List Nat} (sub : l.Sublist nineN) (len : 123 ≤ l.length) (hl : ∀ r ∈ l, r ∈ dss.map bitsN) : (outS 9 dss).length ≤ 126 := by
  have bt := out_Bt (n := 9) hd nd mt
  have lt := out_lt (n := 9) hd
  rw [outS, List.length_map]
  generalize outN 9 dss = G at *
  have five : ∀ r ∈ l, (oneOf 9 r).length = 5 := fun r hr => of_decide_eq_true (List.mem_filter.mp (sub.subset hr)).2
  have sizes : ∀ g ∈ G, (oneOf 9 g).length = 4 ∨ (oneOf 9 g).length = 5 := fun g hg => by
    have g9 := lt g hg
    have up : ¬ 6 ≤ (oneOf 9 g).length := fun six => by
      obtain ⟨r, hr, e⟩ := nine_cov sub len g9 six
      obtain ⟨h, hh, e2⟩ := bt.cov r (hl r hr)
      have hg' : h &&& g = h := by
        rw [← e2, Nat.and_assoc, e]
      by_cases q : h = g
      · have : g = r := by
          rw [q] at e2
          rw [← e2, Nat.and_comm]
          exact e
        rw [this, five r hr] at six
        omega
      · exact bt.ne hh hg q hg'
    have dn : ¬ (oneOf 9 g).length ≤ 3 := fun three => by
      have := nine_not g (List.mem_range.mpr g9)
      obtain ⟨r, hr, e⟩ := nine_cov sub len (show 512 - (g + 1) < 512 by omega) (by omega)
      obtain ⟨h, hh, e2⟩ := bt.cov r (hl r hr)
      refine bt.int h hh g hg ?_
      rw [← e2, ← e, Nat.and_assoc, Nat.and_assoc, Nat.and_comm _ g, off_and (n := 9).resolve_right fun no => no g9, Nat.and_zero, Nat.and_zero]
    omega
  have h := nodup_lenN (l := G.map fun g => if (oneOf 9 g).length = 5 then g else 512 - (g + 1)) (m := nineN) ?_ fun x hx => ?_
  · rw [List.length_map, nine_eq] at h
    exact h
  · rw [List.Nodup, List.pairwise_map]
    refine (List.Pairwise.and_mem.mp bt.nd).imp ?_
    rintro g k ⟨hg, hk, ne⟩ e
    have g9 := lt g hg
    have k9 := lt k hk
    have og := off_and (n := 9) (r := g)
    have ok := off_and (n := 9) (r := k)
    split at e <;> split at e
    · exact ne e
    · refine bt.int k hk g hg ?_
      rw [e]
      exact ok.resolve_right fun no => no k9
    · refine bt.int g hg k hk ?_
      rw [← e]
      exact og.resolve_right fun no => no g9
    · omega
  · obtain ⟨g, hg, rfl⟩ := List.mem_map.mp hx
    have g9 := lt g hg
    refine List.mem_filter.mpr ?_
    split
    · rename_i h5
      exact ⟨List.mem_range.mpr g9, decide_eq_true h5⟩
    · rename_i h5
      have := nine_not g (List.mem_range.mpr g9)
      have := sizes g hg
      exact ⟨List.mem_range.mpr (by omega), decide_eq_true (by omega)⟩

inductive q_bettered (K : PySem.W.Frag) (ad : Ad) : V → V → Hp → VK → Prop
  | mk {n : Nat} {a : Addr} {vs : List V} {dss : List (List Int)} {F H : Hp} {Q : VK} (h1 : 1 ≤ n) (h2 : n ≤ 9) (hF : Same F H) (hs : SqL K H a vs) (ts : TIs F vs dss) (hl : dss.length ≤ 200) (hd : ∀ d ∈ dss, Well (n : Int) d) (nd : dss.Nodup) (mt : Meets dss)
    (k : ∀ D ys F' H', Fresh H D → H' D = some (.lst ys) → TIs F' ys (outS n dss) → F' D = none → Same H H' → Gr M0 F H F' H' → Q (.ref D) H') : q_bettered K ad (.int (n : Int)) (.ref a) H Q
def sp_bettered (K : PySem.W.Frag) (ad : Ad) : Sp := fun vs H Q _ => match vs with | [x0, x1] => q_bettered K ad x0 x1 H Q | _ => False
theorem c_bettered {K : PySem.W.Frag} {ad : Ad} {x0 x1 : V} {H : Hp} {Q : VK} {E : XK} (h : q_bettered K ad x0 x1 H Q) : sp_bettered K ad ([x0, x1] ++ []) H Q E := h
theorem n_bettered {K : PySem.W.Frag} {ad : Ad} {vs : List V} {H : Hp} {Q : VK} {E : XK} (h : sp_bettered K ad vs H Q E) : ∃ x0 x1, vs = [x0, x1] ∧ q_bettered K ad x0 x1 H Q := match vs, h with | [x0, x1], h => ⟨x0, x1, rfl, h⟩
def t_bettered (K : PySem.W.Frag) (ad : Ad) : TS := (tSeq (tAsg (tCall (sp_least_of K ad) [] E0 (tCons (tCall (sp_rows_of K ad) [] E0 (tCons (tVar 0) (tCons (tVar 1) tNil))) tNil)) (gName 2))
    (tSeq (tFor (iRng2 (tCons (tC (.int 1)) (tCons (tOp zShl (tC (.int 1)) (tVar 0)) tNil))) (gName 3)
    (tIfS (zTru K (tCall (sp_is_new K ad) [] E0 (tCons (tVar 2) (tCons (tVar 3) tNil)))) (tSeq (tAsg (tLc (iList K (tVar 2)) (gName 4) (tTest (tOp (zNe K) (tOp zAnd (tVar 4) (tVar 3)) (tVar 3))) (tVar 4) [4]) (gName 2))
    (tDrop (tBM K "list" rAppend (tVar 2) (tCons (tVar 3) tNil)))) tNext))
    (tRet (tLc (iList K (tVar 2)) (gName 4) tYes (tCall (sp_seats_in K ad) [] E0 (tCons (tVar 4) tNil)) [4]))))
theorem w_bettered {K : PySem.W.Frag} {ad : Ad} {x0 x1 : V} {H : Hp} {Q : VK} (h : q_bettered K ad x0 x1 H Q) : t_bettered K ad ⟨fun _ H' => Q .non H', Q, fun _ _ => False, fun _ _ => False⟩ [some x0, some x1, none, none, none] H := by
  cases h with
  | @mk n a vs dss F _ _ h1 h2 hF hs ts hl hd nd mt k =>
    have ol := out_le (n := n) (dss := dss)
    unfold t_bettered
    walk_at "rd"
    apply c_rows_of
    refine q_rows_of.mk (by omega) (by omega) hF hs ts hl hd nd mt fun D1 H1 s1 n1 e1 => ?_
    walk_at "rd"
    apply c_least_of
    refine q_least_of.mk (SqL.of e1) (by rw [List.length_map]; omega) fun D2 H2 s2 n2 e2 => ?_
    have S2 := s1.trans s2
    have e2 : H2 D2 = some (.lst ((rowsS dss).map nV)) := e2
    have rl : (rowsS dss).length ≤ 200 := Nat.le_trans (List.length_filter_le _ _) (by rw [List.length_map]; exact hl)
    walk_at "rd"
    refine o_shl1 (by omega) ?_
    obtain ⟨N, hN⟩ : ∃ N : Nat, N = 2 ^ n := ⟨_, rfl⟩
    have N9 : N ≤ 512 := by
      rw [hN]
      exact Nat.pow_le_pow_right (n := 2) (by decide) h2
    have N1 : 2 ≤ N := by
      rw [hN]
      exact Nat.pow_le_pow_right (n := 2) (by decide) h1
    rw [← hN]
    rw [← hN] at ol
    walk_at "rd"
    refine lp_range2 (by omega) (fun i σ' H' => ∃ (T : Addr) (y3 : Option V), σ' = [some (.int (n : Int)), some (.ref a), some (.ref T), y3, none] ∧ Same H H' ∧ H' T = some (.lst ((betN (rowsS dss) i).map nV))) ⟨_, _, rfl, S2, e2⟩ ?_ ?_
    · rintro i σ' H3 hi ⟨T, y3, rfl, s3, e3⟩
      have bl := bet_len (rows := rowsS dss) i
      walk_at "rd"
      rw [show (1 : Int) + (i : Int) = ((1 + i : Nat) : Int) by omega]
      apply c_is_new
      refine q_is_new.mk (SqL.of e3) ?_
      walk_at "rd"
      cases hv : newN (betN (rowsS dss) i) (1 + i) with
      | true =>
        have st : betN (rowsS dss) (i + 1) = (betN (rowsS dss) i).filter (fun r => !decide (r &&& (1 + i) = 1 + i)) ++ [1 + i] := if_pos hv
        rw [st]
        generalize betN (rowsS dss) i = rows at *
        rw [← nV_map] at e3
        walk_at "rd"
        refine lcL_igrow (fun z => !decide (z.toNat &&& (1 + i) = 1 + i)) V.int (SqL.of e3) (by rw [List.length_map]; omega) (fun x hx H4 QB s4 q => ?_) (fun x hx H4 Q4 s4 hp q => ?_) (fun D H4 nD s4 eD => ?_)
        · obtain ⟨r, hr, rfl⟩ := List.mem_map.mp hx
          rw [Int.toNat_natCast] at q
          walk_at "rd"
          have b : decide (((r &&& (1 + i) : Nat) : Int) = ((1 + i : Nat) : Int)) = decide (r &&& (1 + i) = 1 + i) := decide_eq_decide.mpr (by omega)
          rw [b]
          exact q _ (Same.refl _)
        · walk_at "rd"
          exact q _ (Same.refl _)
        · rw [fil_nat _ (fun r => !decide (r &&& (1 + i) = 1 + i)) rows fun r _ => by rw [Int.toNat_natCast]] at eD
          have fl := List.length_filter_le (fun r => !decide (r &&& (1 + i) = 1 + i)) rows
          walk_at "rd"
          refine ⟨ty_list (SqL.of eD), ?_⟩
          walk_at "rd"
          refine m_app eD (by rw [List.length_map, sizeLine_eq]; omega) ?_
          refine ⟨D, _, rfl, fun b o e => ?_, ?_⟩
          · rw [upd_ne (ne_of_none e (fresh_back s3 nD))]
            exact (s3.trans s4) _ _ e
          · rw [upd_same, List.map_append]
            rfl
      | false =>
        have st : betN (rowsS dss) (i + 1) = betN (rowsS dss) i := if_neg (by rw [hv]; exact Bool.false_ne_true)
        walk_at "rd"
        exact ⟨T, _, rfl, s3, by rw [st]; exact e3⟩
    · rintro σ' H3 ⟨T, y3, rfl, s3, e3⟩
      have e3 : H3 T = some (.lst ((outN n dss).map nV)) := by
        rw [e3, outN, ← hN]
        congr 4
        omega
      have lt := out_lt (n := n) hd
      rw [outS, List.length_map] at ol
      unfold outS at k
      generalize outN n dss = G at *
      walk_at "rd"
      refine lcL_rel (fun i y H' => ∃ ns, (G[i]?.map seatsN) = some ns ∧ TF H H' y ns) stab_TF (SqL.of e3) (by rw [List.length_map]; omega) (fun i x hx H4 Q4 s4 q => ?_) (fun D H4 ys nD s4 eD ly hy => ?_)
      · rw [List.getElem?_map] at hx
        obtain ⟨r, hr, rfl⟩ := Option.map_eq_some_iff.mp hx
        have r9 := lt r (List.mem_of_getElem? hr)
        walk_at "rd"
        apply c_seats_in
        refine q_seats_in.mk (Nat.lt_of_lt_of_le r9 (Nat.pow_le_pow_right (by decide) (by omega))) fun t H5 s5 nt et => ?_
        exact q _ _ s5 (fun b z => by cases z; exact .inl nt) ⟨seatsN r, by rw [hr]; rfl, t, rfl, fresh_back (s3.trans s4) nt, et⟩
      · have ty : TFs H H4 ys (G.map seatsN) := paired_of (by rw [ly, List.length_map, List.length_map]) fun i y e => by
          obtain ⟨ns, h, t⟩ := hy i y e
          exact ⟨ns, by rw [List.getElem?_map]; exact h, t⟩
        have nDH := fresh_back s3 nD
        obtain ⟨F', g, fD, ft⟩ := gr_of_same hF (s3.trans s4) nDH
        walk_at "rd"
        refine k D ys F' H4 nDH eD (Paired.mono (fun v d ⟨t, e, nt, et⟩ => ⟨t, e, ft t _ nt (fun z => ?_) et⟩) ty) fD (s3.trans s4) g
        rw [z, eD] at et
        cases et
inductive q__law_is_well (K : PySem.W.Frag) (ad : Ad) : V → V → Hp → VK → Prop
  | mk {n : Nat} {t : Addr} {d : List Int} {H : Hp} {Q : VK} (wd : Well (n : Int) d) (et : SqT K H t (d.map V.int)) (k : ∀ H', Same H H' → Q (.bl true) H') : q__law_is_well K ad (.int (n : Int)) (.ref t) H Q
def sp__law_is_well (K : PySem.W.Frag) (ad : Ad) : Sp := fun vs H Q _ => match vs with | [x0, x1] => q__law_is_well K ad x0 x1 H Q | _ => False
theorem c__law_is_well {K : PySem.W.Frag} {ad : Ad} {x0 x1 : V} {H : Hp} {Q : VK} {E : XK} (h : q__law_is_well K ad x0 x1 H Q) : sp__law_is_well K ad ([x0, x1] ++ []) H Q E := h
theorem n__law_is_well {K : PySem.W.Frag} {ad : Ad} {vs : List V} {H : Hp} {Q : VK} {E : XK} (h : sp__law_is_well K ad vs H Q E) : ∃ x0 x1, vs = [x0, x1] ∧ q__law_is_well K ad x0 x1 H Q := match vs, h with | [x0, x1], h => ⟨x0, x1, rfl, h⟩
def t__law_is_well (K : PySem.W.Frag) (ad : Ad) : TS := (tSeq (tIfS (tOr (tNot (zTru K (tCall (sp__law_is_set K ad) [] E0 (tCons (tVar 1) tNil)))) (tOr (tTest (tOp (zEq K) (tVar 1) (tTup tNil))) (tOr (tTest (tOp (zLt K) (tOp (rIx K) (tVar 1) (tC (.int 0))) (tC (.int 0)))) (tTest (tOp zGe (tOp (rIx K) (tVar 1) (tOp zSub (tCB (zLen K) (tCons (tVar 1) tNil)) (tC (.int 1)))) (tVar 0)))))) (tRet (tC (.bl false))) tNext)
    (tRet (tOp (zEq K) (tLc (iRng1 (tCons (tOp zSub (tCB (zLen K) (tCons (tVar 1) tNil)) (tC (.int 1))) tNil)) (gName 2) (tTest (tOp zGe (tOp (rIx K) (tVar 1) (tVar 2)) (tOp (rIx K) (tVar 1) (tOp (zAdd K) (tVar 2) (tC (.int 1)))))) (tC (.int 1)) [2]) (tLst tNil))))
theorem w__law_is_well {K : PySem.W.Frag} {ad : Ad} {x0 x1 : V} {H : Hp} {Q : VK} (h : q__law_is_well K ad x0 x1 H Q) : t__law_is_well K ad ⟨fun _ H' => Q .non H', Q, fun _ _ => False, fun _ _ => False⟩ [some x0, some x1, none] H := by
  cases h with
  | @mk n t fs _ _ wd et k =>
    have lf : 0 < fs.length := List.length_pos_iff.mpr wd.ne
    have few := wd.few
    unfold t__law_is_well
    walk_at "rd"
    apply c__law_is_set
    refine q__law_is_set.mk et (by omega) fun H1 s1 => ?_
    have et1 := Same.seqT s1 et
    walk_at "rd"
    refine o_new (Nat.zero_le _) fun z nz => ?_
    have s2 : Same H1 (upd H1 z (.tup [])) := up_keep nz
    have ez := upd_same (H := H1) (a := z) (o := .tup [])
    have et2 := Same.seqT s2 et1
    generalize upd H1 z (.tup []) = H2 at *
    have S2 := s1.trans s2
    refine o_eqIT (ms := []) et2 (SqT.of ez) ?_
    rw [decide_eq_false wd.ne]
    obtain ⟨f0, hf0⟩ : ∃ x, fs[0]? = some x := ⟨_, List.getElem?_eq_getElem lf⟩
    obtain ⟨f1, hf1⟩ : ∃ x, fs[fs.length - 1]? = some x := ⟨_, List.getElem?_eq_getElem (by omega)⟩
    have b0 := wd.within f0 (List.mem_of_getElem? hf0)
    have b1 := wd.within f1 (List.mem_of_getElem? hf1)
    walk_at "rd"
    refine o_ixT et2 (atI_ints (j := 0) hf0) ?_
    walk_at "rd"
    rw [List.length_map, show (fs.length : Int) - 1 = ((fs.length - 1 : Nat) : Int) by omega]
    refine o_ixT et2 (atI_ints hf1) ?_
    walk_at "rd"
    rw [List.length_map]
    refine lcR_ones (fun _ => false) ⟨by omega, by omega⟩ (fun i H6 QB hi s6 qb => ?_) (fun D n6 nD hn => ?_)
    · obtain ⟨x, hx⟩ : ∃ x, fs[i]? = some x := ⟨_, List.getElem?_eq_getElem (by omega)⟩
      obtain ⟨y, hy⟩ : ∃ x, fs[i + 1]? = some x := ⟨_, List.getElem?_eq_getElem (by omega)⟩
      have lt : x < y := by
        obtain ⟨hi1, e1⟩ := List.getElem?_eq_some_iff.mp hx
        obtain ⟨hi2, e2⟩ := List.getElem?_eq_some_iff.mp hy
        rw [← e1, ← e2]
        exact List.pairwise_iff_getElem.mp wd.up i (i + 1) hi1 hi2 (by omega)
      have et6 := Same.seqT s6 et2
      walk_at "rd"
      refine o_ixT et6 (atI_ints hx) ?_
      walk_at "rd"
      rw [show (i : Int) + 1 = ((i + 1 : Nat) : Int) by omega]
      refine o_ixT et6 (atI_ints hy) ?_
      walk_at "rd"
      rw [decide_eq_false (by omega : ¬ (y ≤ x))]
      exact qb
    · have n0 : n6 = 0 := hn.mpr fun _ _ => rfl
      have s6 : Same H2 (upd H2 D (ones n6)) := up_keep nD
      have eD6 := upd_same (H := H2) (a := D) (o := ones n6)
      generalize upd H2 D (ones n6) = H6 at *
      walk_at "rd"
      refine o_new (Nat.zero_le _) fun u nu => ?_
      have s7 := s6.trans (up_keep nu (o := .lst []))
      refine o_eqOnes (up_keep nu _ _ eD6) upd_same ?_
      rw [decide_eq_true n0]
      exact k _ (S2.trans s7)
inductive q__law_holds (K : PySem.W.Frag) (ad : Ad) : V → V → Hp → VK → Prop
  | mk {t u : Addr} {d e : List Int} {H : Hp} {Q : VK} (et : SqT K H t (d.map V.int)) (eu : SqT K H u (e.map V.int)) (hl : e.length ≤ 1000) (k : ∀ b H', (b = true ↔ ∀ x ∈ e, x ∈ d) → Same H H' → Q (.bl b) H') : q__law_holds K ad (.ref t) (.ref u) H Q
def sp__law_holds (K : PySem.W.Frag) (ad : Ad) : Sp := fun vs H Q _ => match vs with | [x0, x1] => q__law_holds K ad x0 x1 H Q | _ => False
theorem c__law_holds {K : PySem.W.Frag} {ad : Ad} {x0 x1 : V} {H : Hp} {Q : VK} {E : XK} (h : q__law_holds K ad x0 x1 H Q) : sp__law_holds K ad ([x0, x1] ++ []) H Q E := h
theorem n__law_holds {K : PySem.W.Frag} {ad : Ad} {vs : List V} {H : Hp} {Q : VK} {E : XK} (h : sp__law_holds K ad vs H Q E) : ∃ x0 x1, vs = [x0, x1] ∧ q__law_holds K ad x0 x1 H Q := match vs, h with | [x0, x1], h => ⟨x0, x1, rfl, h⟩
def t__law_holds (K : PySem.W.Frag) (ad : Ad) : TS := (tRet (tOp (zEq K) (tLc (iTup K (tVar 1)) (gName 2) (tTest (tOp (zNotIn K) (tVar 2) (tVar 0))) (tC (.int 1)) [2]) (tLst tNil)))
theorem w__law_holds {K : PySem.W.Frag} {ad : Ad} {x0 x1 : V} {H : Hp} {Q : VK} (h : q__law_holds K ad x0 x1 H Q) : t__law_holds K ad ⟨fun _ H' => Q .non H', Q, fun _ _ => False, fun _ _ => False⟩ [some x0, some x1, none] H := by
  cases h with
  | @mk t u d e _ _ et eu hl k =>
    unfold t__law_holds
    walk_at "rd"
    refine lcT_onesG (fun j => !decide (e.getD j 0 ∈ d)) eu (by rw [List.length_map]; omega) (fun j x hx H2 QB s2 qb => ?_) (fun D n H2 nD s2 eD hn => ?_)
    · rw [List.getElem?_map] at hx
      obtain ⟨z, hz, rfl⟩ := Option.map_eq_some_iff.mp hx
      walk_at "rd"
      refine o_notInI (.inr (Same.seqT s2 et)) ?_
      walk_at "rd"
      rw [List.getD_eq_getElem?_getD, hz] at qb
      exact qb _ (Same.refl _)
    · rw [List.length_map] at hn
      walk_at "rd"
      refine o_new (Nat.zero_le _) fun v nv => ?_
      have s3 := s2.trans (up_keep nv (o := .lst []))
      refine o_eqOnes (up_keep nv _ _ eD) upd_same ?_
      refine k _ _ ?_ s3
      rw [decide_eq_true_iff, hn]
      constructor
      · intro h x hx
        obtain ⟨j, hj, rfl⟩ := List.getElem_of_mem hx
        have := h j hj
        rw [List.getD_eq_getElem?_getD, List.getElem?_eq_getElem hj] at this
        simpa using this
      · intro h j hj
        have := h _ (List.getElem_mem hj)
        rw [List.getD_eq_getElem?_getD, List.getElem?_eq_getElem hj]
        simpa using this

theorem pr_take {α β : Type} {R : α → β → Prop} : ∀ {a : List α} {b : List β} (i : Nat), Paired R a b → Paired R (a.take i) (b.take i)
  | _, _, 0, _ => .nil
  | _, _, _ + 1, .nil => .nil
  | _, _, i + 1, .cons h t => .cons h (pr_take i t)
theorem pr_drop {α β : Type} {R : α → β → Prop} : ∀ {a : List α} {b : List β} (i : Nat), Paired R a b → Paired R (a.drop i) (b.drop i)
  | _, _, 0, h => h
  | _, _, _ + 1, .nil => .nil
  | _, _, i + 1, .cons h t => pr_drop i t
theorem pr_erase {α β : Type} {R : α → β → Prop} : ∀ {a : List α} {b : List β} (i : Nat), Paired R a b → Paired R (a.eraseIdx i) (b.eraseIdx i)
  | _, _, _, .nil => .nil
  | _, _, 0, .cons _ t => t
  | _, _, i + 1, .cons h t => .cons h (pr_erase i t)
theorem pr_get {α β : Type} {R : α → β → Prop} {a : List α} {b : List β} {i : Nat} {x : α} (h : Paired R a b) (e : a[i]? = some x) : ∃ y, b[i]? = some y ∧ R x y := L2.paired_get h e
theorem ins_perm {α : Type} (l : List α) (k : Nat) (x : α) : (l.take k ++ [x] ++ l.drop k).Perm (x :: l) := by
  rw [List.append_assoc]
  have := List.perm_middle (a := x) (l₁ := l.take k) (l₂ := l.drop k)
  rw [List.take_append_drop] at this
  exact this
/-- what a wider family is -/
structure Wid (n : Nat) (dss ess : List (List Int)) : Prop where
  well : ∀ d ∈ ess, Well (n : Int) d
  nd : ess.Nodup
  sub : ∀ d ∈ dss, d ∈ ess
  more : ∀ d ∈ ess, d ∉ dss → ∃ e ∈ dss, e ≠ d ∧ ∀ x ∈ e, x ∈ d
theorem Wid.meets {n : Nat} {dss ess : List (List Int)} (h : Wid n dss ess) (mt : Meets dss) : Meets ess := fun d hd e he => by
  have low : ∀ d ∈ ess, ∃ f ∈ dss, ∀ x ∈ f, x ∈ d := fun d hd => by
    by_cases q : d ∈ dss
    · exact ⟨d, q, fun _ h => h⟩
    · obtain ⟨f, h1, _, h2⟩ := h.more d hd q
      exact ⟨f, h1, h2⟩
  obtain ⟨f, h1, h2⟩ := low d hd
  obtain ⟨g, h3, h4⟩ := low e he
  obtain ⟨x, h5, h6⟩ := mt f h1 g h3
  exact ⟨x, h2 x h5, h4 x h6⟩
theorem Wid.add {n : Nat} {dss ess fss : List (List Int)} {d e : List Int} (h : Wid n dss ess) (wd : Well (n : Int) d) (nw : d ∉ ess) (he : e ∈ ess) (sb : ∀ x ∈ e, x ∈ d) (p : fss.Perm (d :: ess)) : Wid n dss fss := by
  have mem : ∀ f, f ∈ fss ↔ f = d ∨ f ∈ ess := fun f => by rw [p.mem_iff, List.mem_cons]
  refine ⟨fun f hf => ?_, p.nodup_iff.mpr (List.nodup_cons.mpr ⟨nw, h.nd⟩), fun f hf => (mem f).mpr (.inr (h.sub f hf)), fun f hf nf => ?_⟩
  · rcases (mem f).mp hf with rfl | hf
    · exact wd
    · exact h.well f hf
  · rcases (mem f).mp hf with rfl | hf
    · have ne : ∀ g ∈ dss, g ≠ f := fun g hg z => nf (by rw [← z]; exact hg)
      by_cases q : e ∈ dss
      · exact ⟨e, q, ne e q, sb⟩
      · obtain ⟨g, h1, h2, h3⟩ := h.more e he q
        exact ⟨g, h1, ne g h1, fun x hx => sb x (h3 x hx)⟩
    · exact h.more f hf nf
inductive q__law_wider (K : PySem.W.Frag) (ad : Ad) : V → V → V → V → Hp → VK → Prop
  | mk {a p q : Addr} {ns : List Int} {n : Nat} {vs : List V} {dss : List (List Int)} {F H : Hp} {Q : VK} (hF : Same F H) (hS : SqL K F a (ns.map V.int)) (hp : Pot H p) (fp : F p = none) (h1 : 1 ≤ n) (h2 : n ≤ 9) (eq : H q = some (.lst vs)) (nqp : q ≠ p)
      (ts : TIs F vs dss) (hl : dss.length ≤ 190) (hd : ∀ d ∈ dss, Well (n : Int) d) (nd : dss.Nodup)
      (k : ∀ r ws ess F' H', H' r = some (.lst ws) → r ≠ p → F' r = none → TIs F' ws ess → Wid n dss ess → ess.length ≤ dss.length + 2 → Pot H' p → Gr (M1 p) F H F' H' → Q (.ref r) H') : q__law_wider K ad (.ref a) (.ref p) (.int (n : Int)) (.ref q) H Q
def sp__law_wider (K : PySem.W.Frag) (ad : Ad) : Sp := fun vs H Q _ => match vs with | [x0, x1, x2, x3] => q__law_wider K ad x0 x1 x2 x3 H Q | _ => False
theorem c__law_wider {K : PySem.W.Frag} {ad : Ad} {x0 x1 x2 x3 : V} {H : Hp} {Q : VK} {E : XK} (h : q__law_wider K ad x0 x1 x2 x3 H Q) : sp__law_wider K ad ([x0, x1, x2, x3] ++ []) H Q E := h
theorem n__law_wider {K : PySem.W.Frag} {ad : Ad} {vs : List V} {H : Hp} {Q : VK} {E : XK} (h : sp__law_wider K ad vs H Q E) : ∃ x0 x1 x2 x3, vs = [x0, x1, x2, x3] ∧ q__law_wider K ad x0 x1 x2 x3 H Q := match vs, h with | [x0, x1, x2, x3], h => ⟨x0, x1, x2, x3, rfl, h⟩
def t__law_wider (K : PySem.W.Frag) (ad : Ad) : TS := (tSeq (tAsg (tCB (zList K) (tCons (tVar 3) tNil)) (gName 4))
    (tSeq (tFor (iRng1 (tCons (tCall (sp__law_take K ad) [] E0 (tCons (tVar 0) (tCons (tVar 1) (tCons (tC (.int 3)) tNil)))) tNil)) (gName 5)
    (tIfS (tTest (tOp (zNe K) (tVar 4) (tLst tNil))) (tSeq (tAsg (tCB (zTuple K) (tCons (tCB (zSorted K ad.w) (tCons (tCB (zSet K ad.w) (tCons (tOp (zAdd K) (tOp (rIx K) (tVar 4) (tCall (sp__law_take K ad) [] E0 (tCons (tVar 0) (tCons (tVar 1) (tCons (tCB (zLen K) (tCons (tVar 4) tNil)) tNil))))) (tCall (sp__law_set K ad) [] E0 (tCons (tVar 0) (tCons (tVar 1) (tCons (tVar 2) tNil))))) tNil)) tNil)) tNil)) (gName 6))
    (tIfS (tTest (tOp (zNotIn K) (tVar 6) (tVar 4))) (tDrop (tBM K "list" rInsert (tVar 4) (tCons (tCall (sp__law_take K ad) [] E0 (tCons (tVar 0) (tCons (tVar 1) (tCons (tOp (zAdd K) (tCB (zLen K) (tCons (tVar 4) tNil)) (tC (.int 1))) tNil)))) (tCons (tVar 6) tNil)))) tNext)) tNext))
    (tRet (tVar 4))))
theorem w__law_wider {K : PySem.W.Frag} {ad : Ad} {x0 x1 x2 x3 : V} {H : Hp} {Q : VK} (h : q__law_wider K ad x0 x1 x2 x3 H Q) : t__law_wider K ad ⟨fun _ H' => Q .non H', Q, fun _ _ => False, fun _ _ => False⟩ [some x0, some x1, some x2, some x3, none, none, none] H := by
  cases h with
  | @mk a p q ns n vs dss F _ _ hF hS hp fp h1 h2 eq nqp ts hl hd nd k =>
    unfold t__law_wider
    obtain ⟨_, ep⟩ := hp.is
    walk_at "rd"
    refine o_listL (SqL.of eq) fun r n0 => ?_
    have s0 : Same H (upd H r (.lst vs)) := up_keep n0
    have nrp : r ≠ p := fresh_ne n0 ep
    have er0 := upd_same (H := H) (a := r) (o := .lst vs)
    have hp0 := hp.at (s0 p)
    have G0 : Gr (M1 p) F H F (upd H r (.lst vs)) := gthn (Gr.refl hF) s0
    have fr : F r = none := fresh_F hF n0
    generalize upd H r (.lst vs) = H0 at *
    obtain ⟨_, ep0⟩ := hp0.is
    walk_at "rd"
    apply c__law_take
    refine q__law_take.mk G0.fh hS hp0 fp (by omega) (by omega) fun c H1 c0 c1 hp1 g1 => ?_
    have G1 := G0.tr1 g1 ep0
    walk_at "rd"
    refine lp_range1 (by omega) (fun i σ' H' => ∃ (y5 y6 : Option V) (ws : List V) (ess : List (List Int)) (F' : Hp), σ' = [some (.ref a), some (.ref p), some (.int (n : Int)), some (.ref q), some (.ref r), y5, y6] ∧
      H' r = some (.lst ws) ∧ TIs F' ws ess ∧ Wid n dss ess ∧ ess.length ≤ dss.length + i ∧ F' r = none ∧ F' p = none ∧ Pot H' p ∧ Gr (M1 p) F H F' H') ?_ ?_ ?_
    · exact ⟨_, _, vs, dss, F, rfl, g1.hh _ _ nrp er0, ts, ⟨hd, nd, fun _ h => h, fun d h n => absurd h n⟩, Nat.le_refl _, fr, fp, hp1, G1⟩
    · rintro i σ' H2 hi ⟨y5, y6, ws, ess, F2, rfl, er, te, wi, le, fr2, fp2, hp2, G2⟩
      have lw := te.length
      walk_at "rd"
      refine o_new (Nat.zero_le _) fun u nu => ?_
      have s3 : Same H2 (upd H2 u (.lst [])) := up_keep nu
      have eu := upd_same (H := H2) (a := u) (o := .lst [])
      have G3 := gthn G2 s3
      have er3 := s3 _ _ er
      have hp3 := hp2.at (s3 p)
      generalize upd H2 u (.lst []) = H3 at *
      refine o_neLI (bs := []) (SqL.of er3) (SqL.of eu) (te.mono G3.fh) .nil ?_
      obtain ⟨_, ep3⟩ := hp3.is
      walk_at "rd"
      walk_at "if"
      · rename_i hne
        have lp : 0 < ess.length := List.length_pos_iff.mpr hne
        walk_at "rd"
        apply c__law_take
        refine q__law_take.mk G3.fh (G3.ff.seq hS) hp3 fp2 (by omega) (by omega) fun x H4 x0 x1 hp4 g4 => ?_
        obtain ⟨_, ep4⟩ := hp4.is
        have G4 := G3.tr1 g4 ep3
        have er4 := g4.hh _ _ nrp er3
        obtain ⟨x, rfl⟩ : ∃ k : Nat, x = (k : Int) := ⟨x.toNat, by omega⟩
        obtain ⟨y, hy⟩ : ∃ y, ws[x]? = some y := ⟨_, List.getElem?_eq_getElem (by omega)⟩
        obtain ⟨e, he1, t, rfl, et⟩ := te.get hy
        have hem := List.mem_of_getElem? he1
        have we := wi.well e hem
        walk_at "rd"
        refine o_ixL (SqL.of er4) (atI_nat hy) ?_
        walk_at "rd"
        apply c__law_set
        refine q__law_set.mk G4.fh (G4.ff.seq hS) hp4 fp2 (by omega) (by omega) fun ds t2 F5 H5 wds dl et2 hp5 g5 => ?_
        have G5 := G4.tr1 g5 ep4
        have fp5 := g5.nw _ _ ep4 fp2
        have fr5 := g5.nw _ _ er4 fr2
        have er5 := g5.hh _ _ nrp er4
        have et5 := G5.fh _ _ (g5.ff _ _ et)
        have et25 := G5.fh _ _ et2
        have few := we.few
        obtain ⟨_, ep5⟩ := hp5.is
        walk_at "rd"
        refine o_addT (SqT.of et5) (SqT.of et25) (by rw [List.length_map, List.length_map, sizeLine_eq]; omega) (fun z => absurd (List.map_eq_nil_iff.mp z) we.ne) (fun _ z => absurd (List.map_eq_nil_iff.mp z) wds.ne) fun _ _ b nb => ?_
        rw [← List.map_append]
        have s6 : Same H5 (upd H5 b (.tup ((e ++ ds).map V.int))) := up_keep nb
        have eb := upd_same (H := H5) (a := b) (o := .tup ((e ++ ds).map V.int))
        have G6 := gthn G5 s6
        have er6 := s6 _ _ er5
        have hp6 := hp5.at (s6 p)
        generalize upd H5 b (.tup ((e ++ ds).map V.int)) = H6 at *
        walk_at "rd"
        refine o_setT' (SqT.of eb) (by rw [List.length_append]; omega) fun q3 c hc n3 => ?_
        rw [List.length_append] at hc
        have s6 : Same H6 (upd H6 q3 (SetO ad.w q3 (fun j => decide (j ∈ e ++ ds)) c)) := up_keep n3
        walk_at "rd"
        refine o_sortSet upd_same (by omega) fun es q4 up hmem hlen n4 => ?_
        have s7 := s6.trans (up_keep n4 (o := .lst (es.map V.int)))
        have e7 := upd_same (H := upd H6 q3 (SetO ad.w q3 (fun j => decide (j ∈ e ++ ds)) c)) (a := q4) (o := .lst (es.map V.int))
        have G7 := gthn G6 s7
        have er7 := s7 _ _ er6
        have hp7 := hp6.at (s7 p)
        generalize upd (upd H6 q3 (SetO ad.w q3 (fun j => decide (j ∈ e ++ ds)) c)) q4 (.lst (es.map V.int)) = H7 at *
        obtain ⟨_, ep7⟩ := hp7.is
        walk_at "rd"
        refine o_tupleL (SqL.of e7) fun v nv => ?_
        have s8 : Same H7 (upd H7 v (.tup (es.map V.int))) := up_keep nv
        have G8 := G7.addF nv (o := .tup (es.map V.int)) (fresh_ne nv ep7)
        have er8 := s8 _ _ er7
        have hp8 := hp7.at (s8 p)
        have ef8 := upd_same (H := F5) (a := v) (o := .tup (es.map V.int))
        have fr8 : (upd F5 v (.tup (es.map V.int))) r = none := (upd_ne (fresh_ne nv er7).symm).trans fr5
        have fp8 : (upd F5 v (.tup (es.map V.int))) p = none := (upd_ne (fresh_ne nv ep7).symm).trans fp5
        have ff8 : Same F5 (upd F5 v (.tup (es.map V.int))) := up_keep (fresh_F G7.fh nv)
        generalize upd H7 v (.tup (es.map V.int)) = H8 at *
        generalize upd F5 v (.tup (es.map V.int)) = F8 at *
        have te8 : TIs F8 ws ess := (te.mono g5.ff).mono ff8
        have td : TI F8 (.ref v) es := ⟨v, rfl, ef8⟩
        have inn : ∀ z, z ∈ es ↔ z ∈ e ∨ z ∈ ds := fun z => (hmem z).trans (decide_eq_true_iff.trans List.mem_append)
        have wes : Well (n : Int) es := by
          have wi : ∀ z ∈ es, 0 ≤ z ∧ z < (n : Int) := fun z hz => by
            rcases (inn z).mp hz with h | h
            · exact we.within z h
            · exact wds.within z h
          have ul := up_len (m := (n : Int)) (by omega) up wi
          refine ⟨fun z => ?_, up, wi, by omega⟩
          obtain ⟨y, r, he⟩ := List.exists_cons_of_ne_nil we.ne
          have := (inn y).mpr (.inl (by rw [he]; exact List.mem_cons_self))
          rw [z] at this
          cases this
        walk_at "rd"
        refine o_notInD (td.mono G8.fh).dp (.lst (SqL.of er8) (te8.mono G8.fh).dp) (pl_dI.shaped (by decide)) (pl_dLI.shaped (by decide)) ?_
        rw [any_dI]
        obtain ⟨_, ep8⟩ := hp8.is
        walk_at "rd"
        walk_at "if"
        · rename_i hn
          walk_at "rd"
          refine ⟨ty_list (SqL.of er8), ?_⟩
          walk_at "rd"
          apply c__law_take
          refine q__law_take.mk G8.fh (G8.ff.seq hS) hp8 fp8 (by omega) (by omega) fun at' H9 a0 a1 hp9 g9 => ?_
          have G9 := G8.tr1 g9 ep8
          have er9 := g9.hh _ _ nrp er8
          obtain ⟨at', rfl⟩ : ∃ k : Nat, at' = (k : Int) := ⟨at'.toNat, by omega⟩
          walk_at "rd"
          refine m_ins er9 (by rw [sizeLine_eq]; omega) (by omega) ?_
          refine ⟨_, _, _, ess.take at' ++ [es] ++ ess.drop at', F8, rfl, upd_same, pr_app (pr_app (pr_take at' te8) (.cons td .nil)) (pr_drop at' te8), wi.add wes hn hem (fun z hz => (inn z).mpr (.inl hz)) (ins_perm _ _ _), ?_, fr8, fp8, hp9.upd nrp.symm, G9.own fr8 n0⟩
          rw [(ins_perm _ _ _).length_eq, List.length_cons]
          omega
        · walk_at "rd"
          exact ⟨_, _, ws, ess, F8, rfl, er8, te8, wi, by omega, fr8, fp8, hp8, G8⟩
      · walk_at "rd"
        exact ⟨_, _, ws, ess, F2, rfl, er3, te, wi, by omega, fr2, fp2, hp3, G3⟩
    · rintro σ' H2 ⟨y5, y6, ws, ess, F2, rfl, er, te, wi, le, fr2, fp2, hp2, G2⟩
      walk_at "rd"
      exact k r ws ess F2 H2 er nrp fr2 te wi (by omega) hp2 G2
def nines : List (List Int) := nineN.map (oneOf 9)
inductive q__law_nine (K : PySem.W.Frag) (ad : Ad) : V → V → Hp → VK → Prop
  | mk {a p : Addr} {ns : List Int} {F H : Hp} {Q : VK} (hF : Same F H) (hS : SqL K F a (ns.map V.int)) (hp : Pot H p) (fp : F p = none)
      (k : ∀ r ws ess D F' H', H' r = some (.lst ws) → r ≠ p → F' r = none → TIs F' ws ess → D.Sublist nines → 123 ≤ D.length → ess.Perm D → Pot H' p → Gr (M1 p) F H F' H' → Q (.ref r) H') : q__law_nine K ad (.ref a) (.ref p) H Q
def sp__law_nine (K : PySem.W.Frag) (ad : Ad) : Sp := fun vs H Q _ => match vs with | [x0, x1] => q__law_nine K ad x0 x1 H Q | _ => False
theorem c__law_nine {K : PySem.W.Frag} {ad : Ad} {x0 x1 : V} {H : Hp} {Q : VK} {E : XK} (h : q__law_nine K ad x0 x1 H Q) : sp__law_nine K ad ([x0, x1] ++ []) H Q E := h
theorem n__law_nine {K : PySem.W.Frag} {ad : Ad} {vs : List V} {H : Hp} {Q : VK} {E : XK} (h : sp__law_nine K ad vs H Q E) : ∃ x0 x1, vs = [x0, x1] ∧ q__law_nine K ad x0 x1 H Q := match vs, h with | [x0, x1], h => ⟨x0, x1, rfl, h⟩
def t__law_nine (K : PySem.W.Frag) (ad : Ad) : TS := (tSeq (tAsg (tLst tNil) (gName 2))
    (tSeq (tFor (iRng1 (tCons (tC (.int 512)) tNil)) (gName 3)
    (tSeq (tAsg (tCall (sp__law_by_number K ad) [] E0 (tCons (tVar 3) (tCons (tC (.int 9)) tNil))) (gName 4))
    (tIfS (tTest (tOp (zEq K) (tCB (zLen K) (tCons (tVar 4) tNil)) (tC (.int 5)))) (tDrop (tBM K "list" rAppend (tVar 2) (tCons (tCB (zTuple K) (tCons (tVar 4) tNil)) tNil))) tNext)))
    (tSeq (tFor (iRng1 (tCons (tCall (sp__law_take K ad) [] E0 (tCons (tVar 0) (tCons (tVar 1) (tCons (tC (.int 4)) tNil)))) tNil)) (gName 5)
    (tDrop (tBM K "list" rPopAt (tVar 2) (tCons (tCall (sp__law_take K ad) [] E0 (tCons (tVar 0) (tCons (tVar 1) (tCons (tCB (zLen K) (tCons (tVar 2) tNil)) tNil)))) tNil))))
    (tSeq (tAsg (tCall (sp__law_take K ad) [] E0 (tCons (tVar 0) (tCons (tVar 1) (tCons (tCB (zLen K) (tCons (tVar 2) tNil)) tNil)))) (gName 6))
    (tRet (tOp (zAdd K) (tSl (zSl K) (tVar 2) (tPart (tVar 6)) tNoPart) (tSl (zSl K) (tVar 2) tNoPart (tPart (tVar 6)))))))))
theorem w__law_nine {K : PySem.W.Frag} {ad : Ad} {x0 x1 : V} {H : Hp} {Q : VK} (h : q__law_nine K ad x0 x1 H Q) : t__law_nine K ad ⟨fun _ H' => Q .non H', Q, fun _ _ => False, fun _ _ => False⟩ [some x0, some x1, none, none, none, none, none] H := by
  cases h with
  | @mk a p ns F _ _ hF hS hp fp k =>
    unfold t__law_nine
    obtain ⟨_, ep⟩ := hp.is
    walk_at "rd"
    refine o_new (Nat.zero_le _) fun r n0 => ?_
    have s0 : Same H (upd H r (.lst [])) := up_keep n0
    have nrp : r ≠ p := fresh_ne n0 ep
    have er0 := upd_same (H := H) (a := r) (o := .lst [])
    have hp0 := hp.at (s0 p)
    have G0 : Gr (M1 p) F H F (upd H r (.lst [])) := gthn (Gr.refl hF) s0
    have fr : F r = none := fresh_F hF n0
    generalize upd H r (.lst []) = H0 at *
    walk_at "rd"
    refine lp_range1 (by omega) (fun i σ' H' => ∃ (y3 y4 : Option V) (ws : List V) (F' : Hp), σ' = [some (.ref a), some (.ref p), some (.ref r), y3, y4, none, none] ∧
      H' r = some (.lst ws) ∧ TIs F' ws (((List.range i).filter fun c => decide ((oneOf 9 c).length = 5)).map (oneOf 9)) ∧ F' r = none ∧ F' p = none ∧ Pot H' p ∧ Gr (M1 p) F H F' H') ?_ ?_ ?_
    · exact ⟨_, _, [], F, rfl, er0, .nil, fr, fp, hp0, G0⟩
    · rintro i σ' H1 hi ⟨y3, y4, ws, F1, rfl, er1, tw, fr1, fp1, hp1, G1⟩
      have lw := tw.length
      rw [List.length_map] at lw
      have li := List.length_filter_le (fun c => decide ((oneOf 9 c).length = 5)) (List.range i)
      rw [List.length_range] at li
      walk_at "rd"
      apply c__law_by_number
      refine q__law_by_number.mk (n := 9) (by omega) fun D H2 s2 nD eD => ?_
      have er2 := s2 _ _ er1
      have hp2 := hp1.at (s2 p)
      have G2 := gthn G1 s2
      obtain ⟨_, ep2⟩ := hp2.is
      walk_at "rd"
      rw [List.length_map]
      walk_at "rd"
      walk_at "if"
      · rename_i h5
        have h5 : (oneOf 9 i).length = 5 := by omega
        walk_at "rd"
        refine ⟨ty_list (SqL.of er2), ?_⟩
        walk_at "rd"
        refine o_tupleL (SqL.of eD) fun v nv => ?_
        have s3 : Same H2 (upd H2 v (.tup ((oneOf 9 i).map V.int))) := up_keep nv
        have G3 := G2.addF nv (o := .tup ((oneOf 9 i).map V.int)) (fresh_ne nv ep2)
        have er3 := s3 _ _ er2
        have hp3 := hp2.at (s3 p)
        have ef3 := upd_same (H := F1) (a := v) (o := .tup ((oneOf 9 i).map V.int))
        have fr3 : (upd F1 v (.tup ((oneOf 9 i).map V.int))) r = none := (upd_ne (fresh_ne nv er2).symm).trans fr1
        have fp3 : (upd F1 v (.tup ((oneOf 9 i).map V.int))) p = none := (upd_ne (fresh_ne nv ep2).symm).trans fp1
        have ff3 : Same F1 (upd F1 v (.tup ((oneOf 9 i).map V.int))) := up_keep (fresh_F G2.fh nv)
        generalize upd H2 v (.tup ((oneOf 9 i).map V.int)) = H3 at *
        generalize upd F1 v (.tup ((oneOf 9 i).map V.int)) = F3 at *
        walk_at "rd"
        refine m_app er3 (by rw [lw, sizeLine_eq]; omega) ?_
        refine ⟨_, _, _, F3, rfl, upd_same, ?_, fr3, fp3, hp3.upd nrp.symm, G3.own fr3 n0⟩
        rw [List.range_succ, List.filter_append, List.filter_cons_of_pos (p := fun c => decide ((oneOf 9 c).length = 5)) (decide_eq_true h5), List.filter_nil, List.map_append]
        exact (tw.mono ff3).app (.cons ⟨v, rfl, ef3⟩ .nil)
      · rename_i h5
        have h5 : ¬ (oneOf 9 i).length = 5 := by omega
        walk_at "rd"
        refine ⟨_, _, ws, F1, rfl, er2, ?_, fr1, fp1, hp2, G2⟩
        rw [List.range_succ, List.filter_append, List.filter_cons_of_neg (p := fun c => decide ((oneOf 9 c).length = 5)) (by rw [decide_eq_false h5]; exact Bool.false_ne_true), List.filter_nil, List.append_nil]
        exact tw
    · rintro σ' H1 ⟨y3, y4, ws, F1, rfl, er1, tw, fr1, fp1, hp1, G1⟩
      have tw : TIs F1 ws nines := tw
      have l126 : nines.length = 126 := by
        rw [nines, List.length_map, nine_eq]
        rfl
      obtain ⟨_, ep1⟩ := hp1.is
      walk_at "rd"
      apply c__law_take
      refine q__law_take.mk G1.fh (G1.ff.seq hS) hp1 fp1 (by omega) (by omega) fun c H2 c0 c1 hp2 g2 => ?_
      have G2 := G1.tr1 g2 ep1
      have er2 := g2.hh _ _ nrp er1
      walk_at "rd"
      refine lp_range1 (by omega) (fun i σ' H' => ∃ (y5 : Option V) (ws : List V) (D : List (List Int)), σ' = [some (.ref a), some (.ref p), some (.ref r), y3, y4, y5, none] ∧
        H' r = some (.lst ws) ∧ TIs F1 ws D ∧ D.Sublist nines ∧ D.length + i = 126 ∧ Pot H' p ∧ Gr (M1 p) F H F1 H') ?_ ?_ ?_
      · exact ⟨_, ws, nines, rfl, er2, tw, List.Sublist.refl _, l126, hp2, G2⟩
      · rintro i σ' H3 hi ⟨y5, ws, D, rfl, er3, tw, sb, ld, hp3, G3⟩
        have lw := tw.length
        obtain ⟨_, ep3⟩ := hp3.is
        walk_at "rd"
        refine ⟨ty_list (SqL.of er3), ?_⟩
        walk_at "rd"
        apply c__law_take
        refine q__law_take.mk G3.fh (G3.ff.seq hS) hp3 fp1 (by omega) (by omega) fun x H4 x0 x1 hp4 g4 => ?_
        have G4 := G3.tr1 g4 ep3
        have er4 := g4.hh _ _ nrp er3
        obtain ⟨x, rfl⟩ : ∃ k : Nat, x = (k : Int) := ⟨x.toNat, by omega⟩
        obtain ⟨y, hy⟩ : ∃ y, ws[x]? = some y := ⟨_, List.getElem?_eq_getElem (by omega)⟩
        walk_at "rd"
        refine m_popN er4 hy (by rw [sizeLine_eq]; omega) ?_
        refine ⟨_, _, D.eraseIdx x, rfl, upd_same, pr_erase x tw, (List.eraseIdx_sublist D x).trans sb, ?_, hp4.upd nrp.symm, G4.own fr1 n0⟩
        rw [List.length_eraseIdx_of_lt (by omega)]
        omega
      · rintro σ' H3 ⟨y5, ws, D, rfl, er3, tw, sb, ld, hp3, G3⟩
        have lw := tw.length
        obtain ⟨_, ep3⟩ := hp3.is
        walk_at "rd"
        apply c__law_take
        refine q__law_take.mk G3.fh (G3.ff.seq hS) hp3 fp1 (by omega) (by omega) fun x H4 x0 x1 hp4 g4 => ?_
        have G4 := G3.tr1 g4 ep3
        have er4 := g4.hh _ _ nrp er3
        have nF : ∀ {H' : Hp} {b : Addr}, Gr (M1 p) F H F1 H' → Fresh H' b → F1 b = none := fun g n => fresh_F g.fh n
        obtain ⟨x, rfl⟩ : ∃ k : Nat, x = (k : Int) := ⟨x.toNat, by omega⟩
        obtain ⟨_, ep4⟩ := hp4.is
        walk_at "rd"
        refine sl_L (SqL.of er4) fun b nb => ?_
        rw [cut_hi]
        have s5 : Same H4 (upd H4 b (.lst (ws.drop x))) := up_keep nb
        have eb := upd_same (H := H4) (a := b) (o := .lst (ws.drop x))
        have er5 := s5 _ _ er4
        generalize upd H4 b (.lst (ws.drop x)) = H5 at *
        walk_at "rd"
        refine sl_L (SqL.of er5) fun d nd => ?_
        rw [cut_lo]
        have s6 : Same H5 (upd H5 d (.lst (ws.take x))) := up_keep nd
        have ed := upd_same (H := H5) (a := d) (o := .lst (ws.take x))
        have eb6 := s6 _ _ eb
        generalize upd H5 d (.lst (ws.take x)) = H6 at *
        have S6 := s5.trans s6
        have lt1 := List.length_take_le x ws
        have lt2 := List.length_drop (i := x) (l := ws)
        walk_at "rd"
        refine o_addL eb6 ed (by rw [sizeLine_eq]; omega) fun e ne => ?_
        have s7 := S6.trans (up_keep ne (o := .lst (ws.drop x ++ ws.take x)))
        have G7 := gthn G4 s7
        walk_at "rd"
        refine k e _ (D.drop x ++ D.take x) D F1 _ upd_same (fresh_ne ne (S6 _ _ ep4)) (nF (gthn G4 S6) ne) (pr_app (pr_drop x tw) (pr_take x tw)) sb (by omega) ?_ (hp4.at (s7 p)) G7
        have := (List.perm_append_comm (l₁ := D.drop x) (l₂ := D.take x))
        rw [List.take_append_drop] at this
        exact this

theorem nine_meets : ∀ r ∈ nineL, ∀ s ∈ nineL, r &&& s ≠ 0 := by decide +kernel
theorem nines_bits : nines.map bitsN = nineN := by
  rw [nines, List.map_map]
  conv => rhs; rw [← List.map_id nineN]
  refine List.map_congr_left fun c hc => ?_
  have h9 := List.mem_range.mp (List.mem_filter.mp hc).1
  refine Nat.eq_of_testBit_eq fun i => ?_
  show (bitsN (oneOf 9 c)).testBit i = c.testBit i
  rw [bitsN_test fun x hx => by obtain ⟨s, rfl, _⟩ := mem_oneOf.mp hx; omega]
  by_cases t : c.testBit i = true
  · rw [t]
    refine decide_eq_true (mem_oneOf.mpr ⟨i, rfl, ?_, t⟩)
    have := Nat.ge_two_pow_of_testBit t
    exact (Nat.pow_lt_pow_iff_right (a := 2) (by decide)).mp (Nat.lt_of_le_of_lt this (show c < 2 ^ 9 by omega))
  · rw [Bool.eq_false_iff.mpr t]
    refine decide_eq_false fun h => t ?_
    obtain ⟨s, e, _, h⟩ := mem_oneOf.mp h
    rwa [show i = s by omega]
theorem nines_well : ∀ d ∈ nines, Well (9 : Int) d := by
  have h : ∀ d ∈ nineN.map (oneOf 9), d ≠ [] ∧ d.Pairwise (· < ·) ∧ (∀ z ∈ d, 0 ≤ z ∧ z < 9) ∧ d.length ≤ 33 := by
    rw [nine_eq]
    decide +kernel
  exact fun d hd => ⟨(h d hd).1, (h d hd).2.1, (h d hd).2.2.1, (h d hd).2.2.2⟩
theorem nines_nd : nines.Nodup := by
  have h : nineN.Nodup := List.nodup_range.sublist List.filter_sublist
  rw [← nines_bits, List.Nodup, List.pairwise_map] at h
  exact h.imp fun h e => h (by rw [e])
theorem nines_meets : Meets nines := fun d hd e he => Classical.byContradiction fun no => by
  have a : bitsN d ∈ nineL := by
    rw [← nine_eq, ← nines_bits]
    exact List.mem_map_of_mem hd
  have b : bitsN e ∈ nineL := by
    rw [← nine_eq, ← nines_bits]
    exact List.mem_map_of_mem he
  exact nine_meets _ a _ b ((bitsN_apart (well_ge (nines_well d hd)) (well_ge (nines_well e he))).mpr fun x hx hy => no ⟨x, hx, hy⟩)
inductive q__law_right (K : PySem.W.Frag) (ad : Ad) : V → V → V → V → Hp → VK → Prop
  | mk {a p q : Addr} {ns : List Int} {n : Nat} {vs : List V} {dss : List (List Int)} {F H : Hp} {Q : VK} (hF : Same F H) (hS : SqL K F a (ns.map V.int)) (hp : Pot H p) (fp : F p = none) (h1 : 1 ≤ n) (h2 : n ≤ 9) (eq : H q = some (.lst vs)) (nqp : q ≠ p)
      (ts : TIs F vs dss) (hl : dss.length ≤ 200) (hd : ∀ d ∈ dss, Well (n : Int) d) (nd : dss.Nodup) (mt : Meets dss)
      (k : ∀ r ys F' H', H' r = some (.lst ys) → r ≠ p → TIs F' ys (outS n dss) → Pot H' p → Gr (M1 p) F H F' H' → Q (.ref r) H') : q__law_right K ad (.ref a) (.ref p) (.int (n : Int)) (.ref q) H Q
def sp__law_right (K : PySem.W.Frag) (ad : Ad) : Sp := fun vs H Q _ => match vs with | [x0, x1, x2, x3] => q__law_right K ad x0 x1 x2 x3 H Q | _ => False
theorem c__law_right {K : PySem.W.Frag} {ad : Ad} {x0 x1 x2 x3 : V} {H : Hp} {Q : VK} {E : XK} (h : q__law_right K ad x0 x1 x2 x3 H Q) : sp__law_right K ad ([x0, x1, x2, x3] ++ []) H Q E := h
theorem n__law_right {K : PySem.W.Frag} {ad : Ad} {vs : List V} {H : Hp} {Q : VK} {E : XK} (h : sp__law_right K ad vs H Q E) : ∃ x0 x1 x2 x3, vs = [x0, x1, x2, x3] ∧ q__law_right K ad x0 x1 x2 x3 H Q := match vs, h with | [x0, x1, x2, x3], h => ⟨x0, x1, x2, x3, rfl, h⟩
def t__law_right (K : PySem.W.Frag) (ad : Ad) : TS := (tSeq (tAsg (tCB (zList K) (tCons (tVar 3) tNil)) (gName 4))
    (tSeq (tAsg (tCall (sp_bettered K ad) [] E0 (tCons (tVar 2) (tCons (tVar 4) tNil))) (gName 5))
    (tSeq (tIfS (tOr (tTest (tOp (zNe K) (tVar 4) (tVar 3))) (tOr (tNot (zTru K (tCB (rIsi K) (tCons (tVar 5) (tCons (tC (.ty "list")) tNil))))) (tTest (tOp (zNe K) (tLc (iList K (tVar 5)) (gName 6) (tNot (zTru K (tCall (sp__law_is_well K ad) [] E0 (tCons (tVar 2) (tCons (tVar 6) tNil))))) (tC (.int 1)) [6]) (tLst tNil))))) (tRet (tC .non)) tNext)
    (tSeq (tFor (iRng1 (tCons (tCB (zLen K) (tCons (tVar 5) tNil)) tNil)) (gName 7)
    (tFor (iList K (tSl (zSl K) (tVar 5) tNoPart (tPart (tVar 7)))) (gName 6)
    (tSeq (tIfS (tOr (zTru K (tCall (sp__law_holds K ad) [] E0 (tCons (tVar 6) (tCons (tOp (rIx K) (tVar 5) (tVar 7)) tNil)))) (zTru K (tCall (sp__law_holds K ad) [] E0 (tCons (tOp (rIx K) (tVar 5) (tVar 7)) (tCons (tVar 6) tNil))))) (tRet (tC .non)) tNext)
    (tIfS (tTest (tOp (zEq K) (tLc (iTup K (tVar 6)) (gName 9) (tTest (tOp (zIn K) (tVar 9) (tOp (rIx K) (tVar 5) (tVar 7)))) (tC (.int 1)) [9]) (tLst tNil))) (tRet (tC .non)) tNext))))
    (tSeq (tIfS (tOr (tTest (tOp (zNe K) (tLc (iList K (tVar 3)) (gName 6) (tNot (zTru K (tCall (sp__law_has K ad) [] E0 (tCons (tVar 6) (tCons (tVar 5) tNil))))) (tC (.int 1)) [6]) (tLst tNil))) (tNot (zTru K (tCall (sp__law_full K ad) [] E0 (tCons (tVar 0) (tCons (tVar 1) (tCons (tVar 2) (tCons (tVar 5) tNil)))))))) (tRet (tC .non)) tNext)
    (tSeq (tIfS (tTest (tOp (zNe K) (tCall (sp_bettered K ad) [] E0 (tCons (tVar 2) (tCons (tVar 4) tNil))) (tVar 5))) (tRet (tC .non)) tNext)
    (tSeq (tAsg (tCB (zList K) (tCons (tVar 5) tNil)) (gName 8))
    (tSeq (tDrop (tBM K "list" rAppend (tVar 5) (tCons (tTup tNil) tNil)))
    (tSeq (tIfS (tTest (tOp (zNe K) (tVar 4) (tVar 3))) (tRet (tC .non)) tNext)
    (tRet (tVar 8)))))))))))
theorem w__law_right {K : PySem.W.Frag} {ad : Ad} {x0 x1 x2 x3 : V} {H : Hp} {Q : VK} (h : q__law_right K ad x0 x1 x2 x3 H Q) : t__law_right K ad ⟨fun _ H' => Q .non H', Q, fun _ _ => False, fun _ _ => False⟩ [some x0, some x1, some x2, some x3, none, none, none, none, none, none] H := by
  cases h with
  | @mk a p q ns n vs dss F _ _ hF hS hp fp h1 h2 eq nqp ts hl hd nd mt k =>
    have dl : ∀ d ∈ dss, d.length ≤ 1000 := fun d h => by have := (hd d h).few; omega
    have wl := out_well (n := n) (by omega) hd nd mt
    have an := out_anti (n := n) hd nd mt
    have cv := out_cov (n := n) hd nd mt
    have me := out_meets (n := n) hd nd mt
    have sd := (out_full (n := n) hd nd mt).sd h1 wl me
    have ol := out_le (n := n) (dss := dss)
    have p9 := Nat.pow_le_pow_right (n := 2) (by decide) h2
    obtain ⟨_, ep⟩ := hp.is
    unfold t__law_right
    walk_at "rd"
    refine o_listL (SqL.of eq) fun hh nh => ?_
    have s1 : Same H (upd H hh (.lst vs)) := up_keep nh
    have e1 := upd_same (H := H) (a := hh) (o := .lst vs)
    have nhp : hh ≠ p := fresh_ne nh ep
    have G1 : Gr (M1 p) F H F (upd H hh (.lst vs)) := gthn (Gr.refl hF) s1
    have hp1 := hp.at (s1 p)
    generalize upd H hh (.lst vs) = H1 at *
    obtain ⟨o1, ep1⟩ := hp1.is
    walk_at "rd"
    apply c_bettered
    refine q_bettered.mk h1 h2 G1.fh (SqL.of e1) ts hl hd nd mt fun D ys F2 H2 nD1 eD tD fD s2 g2 => ?_
    have G2 := G1.tr0 g2 fun b hb => ⟨o1, by rw [show b = p from hb]; exact ep1⟩
    have hp2 := hp1.at (s2 p)
    have fp2 := g2.nw _ _ ep1 fp
    have S2 := s1.trans s2
    have nDp : D ≠ p := fresh_ne nD1 ep1
    have nD : Fresh H D := fresh_back s1 nD1
    have nhD : hh ≠ D := (fresh_ne nD1 e1).symm
    have e2 := s2 _ _ e1
    have eq2 := S2 _ _ eq
    have ts2 := ts.mono G2.ff
    have ly := tD.length
    generalize hG : outS n dss = G at *
    clear g2 s2 G1 hp1 e1 ep1 s1 nh S2
    walk_at "rd"
    refine o_neLI (SqL.of e2) (SqL.of eq2) (ts2.mono G2.fh) (ts2.mono G2.fh) ?_
    walk_at "rd"
    refine lcL_onesG (fun _ => false) (SqL.of eD) (by omega) (fun i x hx H3 QB s3 qb => ?_) (fun D3 c3 H3 nD3 s3 eD3 hc3 => ?_)
    · obtain ⟨d, hd1, t, rfl, et⟩ := tD.get hx
      walk_at "rd"
      apply c__law_is_well
      refine q__law_is_well.mk (wl d (List.mem_of_getElem? hd1)) (SqT.of (s3 _ _ (G2.fh _ _ et))) fun H4 s4 => ?_
      walk_at "rd"
      exact qb _ s4
    have z3 : c3 = 0 := hc3.mpr fun _ _ => rfl
    walk_at "rd"
    refine o_new (Nat.zero_le _) fun u nu => ?_
    have s4 := s3.trans (up_keep nu (o := .lst []))
    refine o_neOnes (up_keep nu _ _ eD3) upd_same ?_
    rw [decide_eq_true z3]
    generalize upd H3 u (.lst []) = H4 at *
    clear eD3 nD3 nu s3
    have eD4 := s4 _ _ eD
    walk_at "rd"
    clear eD4
    refine lp_range1 (by omega) (fun i σ' H' => (∃ y6 y7, σ' = [some (.ref a), some (.ref p), some (.int (n : Int)), some (.ref q), some (.ref hh), some (.ref D), y6, y7, none, none]) ∧ Same H2 H') ⟨⟨_, _, rfl⟩, s4⟩ ?_ ?_
    · rintro i σ' H5 hi ⟨⟨y6, y7, rfl⟩, s5⟩
      have il : i < ys.length := by omega
      obtain ⟨y, hy⟩ : ∃ y, ys[i]? = some y := ⟨_, List.getElem?_eq_getElem il⟩
      obtain ⟨g, hg, t, rfl, et⟩ := tD.get hy
      have wg := wl g (List.mem_of_getElem? hg)
      have few := wg.few
      walk_at "rd"
      refine sl_L (SqL.of (s5 _ _ eD)) fun P nP => ?_
      rw [cut_lo]
      have s6 : Same H5 (upd H5 P (.lst (ys.take i))) := up_keep nP
      have eP := upd_same (H := H5) (a := P) (o := .lst (ys.take i))
      generalize upd H5 P (.lst (ys.take i)) = H6 at *
      have S6 := s5.trans s6
      walk_at "rd"
      refine lp_list (SqL.of eP) (fun j σ' H' => (∃ y6, σ' = [some (.ref a), some (.ref p), some (.int (n : Int)), some (.ref q), some (.ref hh), some (.ref D), y6, some (.int (i : Int)), none, none]) ∧ Same H6 H') ⟨⟨_, rfl⟩, Same.refl _⟩ (fun j σ' H' _ h => SqL.of (h.2 _ _ eP)) ?_ ?_
      · rintro j x σ' H7 hx ⟨⟨y6, rfl⟩, s7⟩
        have jl := (List.getElem?_eq_some_iff.mp hx).1
        rw [List.length_take] at jl
        have hx' : ys[j]? = some x := by
          rw [List.getElem?_take] at hx
          split at hx
          · exact hx
          · cases hx
        obtain ⟨f, hf, t', rfl, et'⟩ := tD.get hx'
        have wf := wl f (List.mem_of_getElem? hf)
        have few' := wf.few
        have pw : ¬ (∀ x ∈ f, x ∈ g) ∧ ¬ (∀ x ∈ g, x ∈ f) := by
          obtain ⟨h1', e1'⟩ := List.getElem?_eq_some_iff.mp hf
          obtain ⟨h2', e2'⟩ := List.getElem?_eq_some_iff.mp hg
          rw [← e1', ← e2']
          exact List.pairwise_iff_getElem.mp an j i h1' h2' (by omega)
        have S7 := S6.trans s7
        have eD7 := S7 _ _ eD
        have et7 := S7 _ _ (G2.fh _ _ et)
        have et7' := S7 _ _ (G2.fh _ _ et')
        walk_at "rd"
        refine o_ixL (SqL.of eD7) (atI_nat hy) ?_
        walk_at "rd"
        apply c__law_holds
        refine q__law_holds.mk (SqT.of et7') (SqT.of et7) (by omega) fun b H8 hb s8 => ?_
        obtain rfl : b = false := Bool.eq_false_iff.mpr fun h => pw.2 (hb.mp h)
        walk_at "rd"
        refine o_ixL (SqL.of (s8 _ _ eD7)) (atI_nat hy) ?_
        walk_at "rd"
        apply c__law_holds
        refine q__law_holds.mk (SqT.of (s8 _ _ et7)) (SqT.of (s8 _ _ et7')) (by omega) fun b H9 hb s9 => ?_
        obtain rfl : b = false := Bool.eq_false_iff.mpr fun h => pw.1 (hb.mp h)
        have S9 := s8.trans s9
        walk_at "rd"
        refine lcT_onesG (fun l => decide (f.getD l 0 ∈ g)) (SqT.of (S9 _ _ et7')) (by rw [List.length_map]; omega) (fun l x hx H2' QB sA qb => ?_) (fun E c H2' nE sA eE hc => ?_)
        · rw [List.getElem?_map] at hx
          obtain ⟨z, hz, rfl⟩ := Option.map_eq_some_iff.mp hx
          walk_at "rd"
          refine o_ixL (SqL.of (sA _ _ (S9 _ _ eD7))) (atI_nat hy) ?_
          walk_at "rd"
          refine o_inI (.inr (SqT.of (sA _ _ (S9 _ _ et7)))) ?_
          walk_at "rd"
          rw [List.getD_eq_getElem?_getD, hz] at qb
          exact qb _ (Same.refl _)
        · have c0 : c ≠ 0 := fun c0 => by
            obtain ⟨z, z1, z2⟩ := me f (List.mem_of_getElem? hf) g (List.mem_of_getElem? hg)
            obtain ⟨l, hl', rfl⟩ := List.getElem_of_mem z1
            have := hc.mp c0 l (by rw [List.length_map]; exact hl')
            rw [List.getD_eq_getElem?_getD, List.getElem?_eq_getElem hl'] at this
            exact of_decide_eq_false this z2
          walk_at "rd"
          refine o_new (Nat.zero_le _) fun w nw => ?_
          have sB := sA.trans (up_keep nw (o := .lst []))
          refine o_eqOnes (up_keep nw _ _ eE) upd_same ?_
          rw [decide_eq_false c0]
          walk_at "rd"
          exact ⟨⟨_, rfl⟩, (s7.trans S9).trans sB⟩
      · rintro σ' H7 ⟨⟨y6, rfl⟩, s7⟩
        walk_at "rd"
        exact ⟨⟨_, _, rfl⟩, S6.trans s7⟩
    · rintro σ' H5 ⟨⟨y6, y7, rfl⟩, s5⟩
      clear s4
      have G5 := gthn G2 s5
      have hp5 := hp2.at (s5 p)
      have eq5 := s5 _ _ eq2
      have eD5 := s5 _ _ eD
      have lv := ts2.length
      obtain ⟨_, ep5⟩ := hp5.is
      have wlen : ∀ d ∈ G, d.length ≤ 1000 := fun d h => by have := (wl d h).few; omega
      walk_at "rd"
      refine lcL_onesG (fun _ => false) (SqL.of eq5) (by omega) (fun i x hx H3 QB s6 qb => ?_) (fun D3 c3 H3 nD3 s6 eD3 hc3 => ?_)
      · obtain ⟨d, hd1, t, rfl, et⟩ := ts2.get hx
        walk_at "rd"
        apply c__law_has
        refine q__law_has.mk (F := F2) (G5.fh.trans s6) (.inr (SqT.of (s6 _ _ (G5.fh _ _ et)))) (SqL.of (s6 _ _ eD5)) tD wlen fun H8 s8 => ?_
        obtain ⟨e, he, sb⟩ := cv d (List.mem_of_getElem? hd1)
        rw [show hasP (fun x => decide (x ∈ d)) G = true from List.any_eq_true.mpr ⟨e, he, List.all_eq_true.mpr fun x hx => decide_eq_true (sb x hx)⟩]
        walk_at "rd"
        exact qb _ s8
      have z3 : c3 = 0 := hc3.mpr fun _ _ => rfl
      walk_at "rd"
      refine o_new (Nat.zero_le _) fun u nu => ?_
      have s7 := s6.trans (up_keep nu (o := .lst []))
      refine o_neOnes (up_keep nu _ _ eD3) upd_same ?_
      rw [decide_eq_true z3]
      generalize upd H3 u (.lst []) = H7 at *
      clear eD3 nD3 nu s6
      have G7 := gthn G5 s7
      have hp7 := hp5.at (s7 p)
      have eD7 := s7 _ _ eD5
      obtain ⟨_, ep7⟩ := hp7.is
      walk_at "rd"
      apply c__law_full
      refine q__law_full.mk G7.fh (G7.ff.seq hS) hp7 fp2 h1 (by omega) eD7 nDp tD wl sd fun H8 hp8 g8 => ?_
      have G8 := G7.tr1 g8 ep7
      have eD8 := g8.hh _ _ nDp eD7
      have e8 := g8.hh _ _ nhp (s7 _ _ (s5 _ _ e2))
      have eq8 := g8.hh _ _ nqp (s7 _ _ eq5)
      obtain ⟨o8, ep8⟩ := hp8.is
      walk_at "rd"
      apply c_bettered
      refine q_bettered.mk h1 h2 G8.fh (SqL.of e8) ts2 hl hd nd mt fun D' ys' F9 H9 nD' eD' tD' fD' s9 g9 => ?_
      rw [hG] at tD'
      have G9 := G8.tr0 g9 fun b hb => ⟨o8, by rw [show b = p from hb]; exact ep8⟩
      have hp9 := hp8.at (s9 p)
      have fp9 := g9.nw _ _ ep8 fp2
      have fD9 := g9.nw _ _ eD8 fD
      have eD9 := s9 _ _ eD8
      have e9 := s9 _ _ e8
      have eq9 := s9 _ _ eq8
      have tD9 := tD.mono g9.ff
      obtain ⟨_, ep9⟩ := hp9.is
      walk_at "rd"
      refine o_neLI (SqL.of eD') (SqL.of eD9) (tD'.mono G9.fh) (tD9.mono G9.fh) ?_
      walk_at "rd"
      refine o_listL (SqL.of eD9) fun r nr => ?_
      have s10 : Same H9 (upd H9 r (.lst ys)) := up_keep nr
      have er := upd_same (H := H9) (a := r) (o := .lst ys)
      have nrp : r ≠ p := fresh_ne nr ep9
      have nrD : r ≠ D := fresh_ne nr eD9
      have G10 := gthn G9 s10
      have hp10 := hp9.at (s10 p)
      have eD10 := s10 _ _ eD9
      have e10 := s10 _ _ e9
      have eq10 := s10 _ _ eq9
      generalize upd H9 r (.lst ys) = H10 at *
      walk_at "rd"
      refine ⟨ty_list (SqL.of eD10), ?_⟩
      walk_at "rd"
      refine o_new (Nat.zero_le _) fun z nz => ?_
      have s11 : Same H10 (upd H10 z (.tup [])) := up_keep nz
      have G11 := gthn G10 s11
      have hp11 := hp10.at (s11 p)
      have eD11 := s11 _ _ eD10
      have e11 := s11 _ _ e10
      have eq11 := s11 _ _ eq10
      have er11 := s11 _ _ er
      generalize upd H10 z (.tup []) = H11 at *
      walk_at "rd"
      refine m_app eD11 (by rw [sizeLine_eq]; omega) ?_
      have G12 : Gr (M1 p) F H F9 (upd H11 D (.lst (ys ++ [.ref z]))) := G11.own fD9 nD
      have hp12 : Pot (upd H11 D (.lst (ys ++ [.ref z]))) p := hp11.upd nDp.symm
      have nqD : q ≠ D := fun e => by
        rw [e] at eq
        rw [Fresh, eq] at nD
        cases nD
      have e12 := (upd_ne nhD (o := .lst (ys ++ [.ref z]))).trans e11
      have eq12 := (upd_ne nqD (o := .lst (ys ++ [.ref z]))).trans eq11
      have er12 := (upd_ne nrD (o := .lst (ys ++ [.ref z]))).trans er11
      generalize upd H11 D (.lst (ys ++ [.ref z])) = H12 at *
      have ts12 := (ts2.mono g9.ff).mono G12.fh
      walk_at "rd"
      refine o_neLI (SqL.of e12) (SqL.of eq12) ts12 ts12 ?_
      walk_at "rd"
      exact k r ys F9 H12 er12 nrp tD9 hp12 G12

theorem full_perm {n : Nat} {a b : List (List Int)} (p : a.Perm b) (f : Full n a) : Full n b := fun c c0 c1 => by
  obtain ⟨r, h1, h2⟩ := new_false.mp (f c c0 c1)
  exact new_false.mpr ⟨r, (p.map bitsN).mem_iff.mp h1, h2⟩
theorem out_again {n : Nat} {dss ess : List (List Int)} (hn : n ≤ 33) (hd : ∀ d ∈ dss, Well (n : Int) d) (nd : dss.Nodup) (mt : Meets dss) (p : ess.Perm (outS n dss)) : outS n ess = ess ∧ (∀ d ∈ ess, Well (n : Int) d) ∧ ess.Nodup ∧ Meets ess := by
  have wl : ∀ d ∈ ess, Well (n : Int) d := fun d h => out_well hn hd nd mt d (p.mem_iff.mp h)
  have n1 : ess.Nodup := p.nodup_iff.mpr (out_nd hd nd mt)
  have m1 : Meets ess := fun d h e h' => out_meets hd nd mt d (p.mem_iff.mp h) e (p.mem_iff.mp h')
  refine ⟨(out_least wl n1 n1 (fun _ h => h) (fun d h e h' sb => Classical.byContradiction fun ne => ?_) (fun d h h' => absurd h h') (full_perm p.symm (out_full hd nd mt))).2 fun _ h => h, wl, n1, m1⟩
  exact (pw_ne (R := fun d e => ¬ (∀ x ∈ d, x ∈ e) ∧ ¬ (∀ x ∈ e, x ∈ d)) (fun a b h => ⟨h.2, h.1⟩) (out_anti hd nd mt) d (p.mem_iff.mp h) e (p.mem_iff.mp h') ne).1 sb
inductive q_law (K : PySem.W.Frag) (ad : Ad) : V → Hp → VK → Prop
  | mk {a : Addr} {ns : List Int} {H : Hp} {Q : VK} (hl : ns.length ≤ 63) (hS : SqL K H a (ns.map V.int)) (k : ∀ H', Q (.bl true) H') : q_law K ad (.ref a) H Q

def sp_law (K : PySem.W.Frag) (ad : Ad) : Sp := fun vs H Q _ => match vs with | [x0] => q_law K ad x0 H Q | _ => False
theorem c_law {K : PySem.W.Frag} {ad : Ad} {x0 : V} {H : Hp} {Q : VK} {E : XK} (h : q_law K ad x0 H Q) : sp_law K ad ([x0] ++ []) H Q E := h
theorem n_law {K : PySem.W.Frag} {ad : Ad} {vs : List V} {H : Hp} {Q : VK} {E : XK} (h : sp_law K ad vs H Q E) : ∃ x0, vs = [x0] ∧ q_law K ad x0 H Q := match vs, h with | [x0], h => ⟨x0, rfl, h⟩
theorem spLaw_to {K : PySem.W.Frag} (ad : Ad) {vs : List V} {H : Hp} {Q : VK} {E : XK} (h : spLaw K vs H Q E) : sp_law K ad vs H Q E := by
  obtain ⟨a, ns, rfl, hl, hS, k⟩ := h
  exact q_law.mk hl hS k
def t_law (K : PySem.W.Frag) (ad : Ad) : TS := (tSeq (tAsg (tLst (tCons (tC (.int 0)) (tCons (tC (.int 0)) tNil))) (gName 1))
    (tSeq (tFor (iRng1 (tCons (tC (.int 12)) tNil)) (gName 2)
    (tSeq (tAsg (tOp (zAdd K) (tC (.int 1)) (tCall (sp__law_take K ad) [] E0 (tCons (tVar 0) (tCons (tVar 1) (tCons (tC (.int 7)) tNil))))) (gName 3))
    (tSeq (tAsg (tC (.int 9)) (gName 4))
    (Evl.tCut (tIfS (tTest (tOp (zEq K) (tVar 2) (tC (.int 0)))) (tAsg (tCall (sp__law_take K ad) [] E0 (tCons (tVar 0) (tCons (tVar 1) (tCons (tC (.int 8)) tNil)))) (gName 4)) tNext)
    (Evl.tCut (tIfS (tTest (tOp (zEq K) (tVar 4) (tC (.int 0)))) (tAsg (tC (.int 8)) (gName 3)) tNext)
    (tSeq (tAsg (tCall (sp__law_wider K ad) [] E0 (tCons (tVar 0) (tCons (tVar 1) (tCons (tVar 3) (tCons (tCall (sp__law_meeting K ad) [] E0 (tCons (tVar 0) (tCons (tVar 1) (tCons (tVar 3) (tCons (tC (.int 10)) tNil))))) tNil))))) (gName 5))
    (Evl.tCut (tIfS (tTest (tOp (zEq K) (tVar 4) (tC (.int 1)))) (tSeq (tAsg (tC (.int 9)) (gName 3))
    (tAsg (tCall (sp__law_nine K ad) [] E0 (tCons (tVar 0) (tCons (tVar 1) tNil))) (gName 5))) tNext)
    (tSeq (tAsg (tCall (sp__law_right K ad) [] E0 (tCons (tVar 0) (tCons (tVar 1) (tCons (tVar 3) (tCons (tVar 5) tNil))))) (gName 6))
    (tSeq (tIfS (tTest (tOp zIsN (tVar 6) (tC .non))) (tRet (tC (.bl false))) tNext)
    (tSeq (tAsg (tCall (sp__law_take K ad) [] E0 (tCons (tVar 0) (tCons (tVar 1) (tCons (tOp (zAdd K) (tCB (zLen K) (tCons (tVar 6) tNil)) (tC (.int 1))) tNil)))) (gName 7))
    (tSeq (tIfS (tTest (tOp (zNe K) (tCB (rSortedTI K) (tCons (tCall (sp_bettered K ad) [] E0 (tCons (tVar 3) (tCons (tOp (zAdd K) (tSl (zSl K) (tVar 6) (tPart (tVar 7)) tNoPart) (tSl (zSl K) (tVar 6) tNoPart (tPart (tVar 7)))) tNil))) tNil)) (tCB (rSortedTI K) (tCons (tVar 6) tNil)))) (tRet (tC (.bl false))) tNext)
    (tSeq (tAsg (tCall (sp__law_good K ad) [] E0 (tCons (tVar 0) (tCons (tVar 1) (tCons (tC (.int 5)) tNil)))) (gLst K 2 (gCons (gName 3) (gCons (gName 5) gNil))))
    (tSeq (tAsg (tCall (sp__law_right K ad) [] E0 (tCons (tVar 0) (tCons (tVar 1) (tCons (tVar 3) (tCons (tCall (sp__law_wider K ad) [] E0 (tCons (tVar 0) (tCons (tVar 1) (tCons (tVar 3) (tCons (tVar 5) tNil))))) tNil))))) (gName 6))
    (tSeq (tIfS (tOr (tTest (tOp zIsN (tVar 6) (tC .non))) (tTest (tOp (zNe K) (tCB (rSortedTI K) (tCons (tVar 6) tNil)) (tCB (rSortedTI K) (tCons (tVar 5) tNil))))) (tRet (tC (.bl false))) tNext)
    (tIfS (tTest (tOp zGe (tOp (rIx K) (tVar 1) (tC (.int 0))) (tCB (zLen K) (tCons (tVar 0) tNil)))) (tRet (tC (.bl true))) tNext)))))))))))))))
    (tRet (tC (.bl true)))))
theorem w_law {K : PySem.W.Frag} {ad : Ad} {x0 : V} {H : Hp} {Q : VK} (h : q_law K ad x0 H Q) : t_law K ad ⟨fun _ H' => Q .non H', Q, fun _ _ => False, fun _ _ => False⟩ [some x0, none, none, none, none, none, none, none] H := by
  cases h with
  | @mk a ns _ _ hl hS k =>
    unfold t_law
    walk_at "rd"
    refine o_new (by walk_at "len") fun p np => ?_
    have G0 : Gr (M1 p) H H H (upd H p (.lst [.int 0, .int 0])) := (Gr.refl (Same.refl H)).add np
    have hp0 : Pot (upd H p (.lst [.int 0, .int 0])) p := ⟨0, 0, by omega, by omega, upd_same⟩
    have fp0 : H p = none := np
    generalize upd H p (.lst [.int 0, .int 0]) = H0 at *
    walk_at "rd"
    refine lp_range1 (by omega) (fun i σ' H' => ∃ y2 y3 y4 y5 y6 y7 F', σ' = [some (.ref a), some (.ref p), y2, y3, y4, y5, y6, y7] ∧ Pot H' p ∧ F' p = none ∧ Gr (M1 p) H H F' H') ⟨_, _, _, _, _, _, H, rfl, hp0, fp0, G0⟩ ?_ ?_
    · clear G0 hp0
      rintro i0 σ' H1 hi ⟨y2, y3, y4, y5, y6, y7, F1, rfl, hp1, fp1, G1⟩
      obtain ⟨_, ep1⟩ := hp1.is
      walk_at "rd"
      apply c__law_take
      refine q__law_take.mk G1.fh (G1.ff.seq hS) hp1 fp1 (by omega) (by omega) fun n H2 n0 n1 hp2 g2 => ?_
      have G2 := G1.tr1 g2 ep1
      obtain ⟨_, ep2⟩ := hp2.is
      obtain ⟨N, hN⟩ : ∃ N : Nat, 1 + n = (N : Int) := ⟨(1 + n).toNat, by omega⟩
      have N8 : 1 ≤ N ∧ N ≤ 7 := by omega
      walk_at "rd"
      rw [hN]
      clear hN n0 n1
      walk_at "rd"
      refine s_cut (fun σ' H' => ∃ w : Int, σ' = [some (.ref a), some (.ref p), some (.int (i0 : Int)), some (.int (N : Int)), some (.int w), y5, y6, y7] ∧ Pot H' p ∧ Gr (M1 p) H H F1 H') ?_ ?_
      · walk_at "rd"
        walk_at "if"
        · walk_at "rd"
          apply c__law_take
          refine q__law_take.mk G2.fh (G2.ff.seq hS) hp2 fp1 (by omega) (by omega) fun w H3 w0 w1 hp3 g3 => ?_
          walk_at "rd"
          exact ⟨w, rfl, hp3, G2.tr1 g3 ep2⟩
        · walk_at "rd"
          exact ⟨9, rfl, hp2, G2⟩
      clear hp1 G1 ep1 g2 hp2 G2 ep2
      rintro σ' H1 ⟨w, rfl, hp1, G1⟩
      walk_at "rd"
      refine s_cut (fun σ' H' => ∃ N : Nat, 1 ≤ N ∧ N ≤ 8 ∧ σ' = [some (.ref a), some (.ref p), some (.int (i0 : Int)), some (.int (N : Int)), some (.int w), y5, y6, y7] ∧ H' = H1) ?_ ?_
      · walk_at "rd"
        walk_at "if"
        · walk_at "rd"
          exact ⟨8, by omega, by omega, rfl, rfl⟩
        · walk_at "rd"
          exact ⟨N, by omega, by omega, rfl, rfl⟩
      clear N8 N
      rintro σ' _ ⟨N, n1, n8, rfl, rfl⟩
      obtain ⟨_, ep1⟩ := hp1.is
      walk_at "rd"
      apply c__law_meeting
      refine q__law_meeting.mk G1.fh (G1.ff.seq hS) hp1 fp1 (by omega) (by omega) (by omega) (by omega) fun q vs dss F2 H2 eq nqp ts wl nd ln mt hp2 g2 => ?_
      have G2 := G1.tr1 g2 ep1
      have fp2 := g2.nw _ _ ep1 fp1
      obtain ⟨_, ep2⟩ := hp2.is
      walk_at "rd"
      apply c__law_wider
      refine q__law_wider.mk G2.fh (G2.ff.seq hS) hp2 fp2 (by omega) (by omega) eq nqp ts (by omega) (fun d hd => (wl d hd).1) nd fun r ws ess F3 H3 er nrp fr tw wi le hp3 g3 => ?_
      have G3 := G2.tr1 g3 ep2
      have fp3 := g3.nw _ _ ep2 fp2
      obtain ⟨_, ep3⟩ := hp3.is
      have wm := wi.meets mt
      have w8 := out_len8 n8 wi.well wi.nd wm
      walk_at "rd"
      refine s_cut (fun σ' H' => ∃ (N : Nat) (q : Addr) (vs : List V) (dss : List (List Int)) (F' : Hp), 1 ≤ N ∧ N ≤ 9 ∧ σ' = [some (.ref a), some (.ref p), some (.int (i0 : Int)), some (.int (N : Int)), some (.int w), some (.ref q), y6, y7] ∧
        H' q = some (.lst vs) ∧ q ≠ p ∧ TIs F' vs dss ∧ dss.length ≤ 200 ∧ (∀ d ∈ dss, Well (N : Int) d) ∧ dss.Nodup ∧ Meets dss ∧ (outS N dss).length ≤ 200 ∧ F' p = none ∧ Pot H' p ∧ Gr (M1 p) H H F' H') ?_ ?_
      · walk_at "rd"
        walk_at "if"
        · walk_at "rd"
          apply c__law_nine
          refine q__law_nine.mk G3.fh (G3.ff.seq hS) hp3 fp3 fun r ws ess D F4 H4 er nrp fr tw sb l123 pm hp4 g4 => ?_
          have G4 := G3.tr1 g4 ep3
          have fp4 := g4.nw _ _ ep3 fp3
          have inn : ∀ d ∈ ess, d ∈ nines := fun d h => sb.subset (pm.mem_iff.mp h)
          have wl9 : ∀ d ∈ ess, Well (9 : Int) d := fun d h => nines_well d (inn d h)
          have nd9 : ess.Nodup := pm.nodup_iff.mpr (nines_nd.sublist sb)
          have mt9 : Meets ess := fun d h e h' => nines_meets d (inn d h) e (inn e h')
          have l126 : nines.length = 126 := by
            rw [nines, List.length_map, nine_eq]
            rfl
          have sl := sb.length_le
          have pl := pm.length_eq
          have o9 := out_len9 (l := D.map bitsN) wl9 nd9 mt9 (by rw [← nines_bits]; exact sb.map bitsN) (by rw [List.length_map]; exact l123) fun r hr => by
            obtain ⟨d, h, rfl⟩ := List.mem_map.mp hr
            exact List.mem_map_of_mem (pm.mem_iff.mpr h)
          walk_at "rd"
          exact ⟨9, r, ws, ess, F4, by omega, by omega, rfl, er, nrp, tw, by omega, wl9, nd9, mt9, by omega, fp4, hp4, G4⟩
        · walk_at "rd"
          exact ⟨N, r, ws, ess, F3, n1, by omega, rfl, er, nrp, tw, by omega, wi.well, wi.nd, wm, by omega, fp3, hp3, G3⟩
      clear w8 wm wi tw er nrp le fr hp3 g3 G3 fp3 ep3 hp2 g2 G2 fp2 ep2 ts wl nd ln mt eq nqp hp1 G1 ep1 n1 n8 N fp1
      rintro σ' H1 ⟨N, q, vs, dss, F1, n1, n9, rfl, eq, nqp, ts, dl, wl, nd, mt, ol, fp1, hp1, G1⟩
      obtain ⟨_, ep1⟩ := hp1.is
      walk_at "rd"
      apply c__law_right
      refine q__law_right.mk G1.fh (G1.ff.seq hS) hp1 fp1 n1 n9 eq nqp ts dl wl nd mt fun r ys F2 H2 er nrp ty hp2 g2 => ?_
      have G2 := G1.tr1 g2 ep1
      have fp2 := g2.nw _ _ ep1 fp1
      obtain ⟨_, ep2⟩ := hp2.is
      have ly := ty.length
      have again := fun ess h => out_again (n := N) (ess := ess) (by omega) wl nd mt h
      generalize outS N dss = G at *
      clear g2 hp1 ep1 ts eq nqp
      walk_at "rd"
      apply c__law_take
      refine q__law_take.mk G2.fh (G2.ff.seq hS) hp2 fp2 (by omega) (by omega) fun x H3 x0 x1 hp3 g3 => ?_
      have G3 := G2.tr1 g3 ep2
      have er3 := g3.hh _ _ nrp er
      obtain ⟨x, rfl⟩ : ∃ k : Nat, x = (k : Int) := ⟨x.toNat, by omega⟩
      walk_at "rd"
      refine sl_L (SqL.of er3) fun b nb => ?_
      rw [cut_hi]
      have s4 : Same H3 (upd H3 b (.lst (ys.drop x))) := up_keep nb
      have eb := upd_same (H := H3) (a := b) (o := .lst (ys.drop x))
      have er4 := s4 _ _ er3
      generalize upd H3 b (.lst (ys.drop x)) = H4 at *
      walk_at "rd"
      refine sl_L (SqL.of er4) fun d nd' => ?_
      rw [cut_lo]
      have s5 : Same H4 (upd H4 d (.lst (ys.take x))) := up_keep nd'
      have ed := upd_same (H := H4) (a := d) (o := .lst (ys.take x))
      have eb5 := s5 _ _ eb
      generalize upd H4 d (.lst (ys.take x)) = H5 at *
      have lt1 := List.length_take_le x ys
      have lt2 := List.length_drop (i := x) (l := ys)
      walk_at "rd"
      refine o_addL eb5 ed (by rw [sizeLine_eq]; omega) fun e ne => ?_
      have s6 := (s4.trans s5).trans (up_keep ne (o := .lst (ys.drop x ++ ys.take x)))
      have ee := upd_same (H := H5) (a := e) (o := .lst (ys.drop x ++ ys.take x))
      have G6 := gthn G3 s6
      have hp6 := hp3.at (s6 p)
      have er6 := s6 _ _ er3
      generalize upd H5 e (.lst (ys.drop x ++ ys.take x)) = H6 at *
      have pm : (G.drop x ++ G.take x).Perm G := by
        have := (List.perm_append_comm (l₁ := G.drop x) (l₂ := G.take x))
        rw [List.take_append_drop] at this
        exact this
      have tr : TIs F2 (ys.drop x ++ ys.take x) (G.drop x ++ G.take x) := pr_app (pr_drop x ty) (pr_take x ty)
      obtain ⟨ag, wl2, nd2, mt2⟩ := again _ pm
      have pl := pm.length_eq
      obtain ⟨o6, ep6⟩ := hp6.is
      walk_at "rd"
      apply c_bettered
      refine q_bettered.mk n1 n9 G6.fh (SqL.of ee) tr (by omega) wl2 nd2 mt2 fun D zs F7 H7 nD eD tD fD s7 g7 => ?_
      rw [ag] at tD
      generalize G.drop x ++ G.take x = G' at *
      have G7 := G6.tr0 g7 fun b hb => ⟨o6, by rw [show b = p from hb]; exact ep6⟩
      have hp7 := hp6.at (s7 p)
      have fp7 := g7.nw _ _ ep6 fp2
      have er7 := s7 _ _ er6
      have ty7 := ty.mono g7.ff
      have wlG : ∀ d ∈ G, d ≠ [] := fun d h => (wl2 d (pm.mem_iff.mpr h)).ne
      walk_at "rd"
      refine o_sortTI (SqL.of eD) (tD.mono G7.fh) (fun d h => (wl2 d h).ne) fun ys1 ess1 p1 t1 _ pm1 so1 n1' => ?_
      have s8 : Same H7 (upd H7 p1 (.lst ys1)) := up_keep n1'
      have e8 := upd_same (H := H7) (a := p1) (o := .lst ys1)
      generalize upd H7 p1 (.lst ys1) = H8 at *
      walk_at "rd"
      refine o_sortTI (SqL.of (s8 _ _ er7)) ((ty7.mono G7.fh).mono s8) wlG fun ys2 ess2 p2 t2 _ pm2 so2 n2' => ?_
      have s9 : Same H8 (upd H8 p2 (.lst ys2)) := up_keep n2'
      have e9 := upd_same (H := H8) (a := p2) (o := .lst ys2)
      have e89 := s9 _ _ e8
      generalize upd H8 p2 (.lst ys2) = H9 at *
      have S9 := s8.trans s9
      have one : ess1 = ess2 := sorted_one so1 so2 ((pm1.trans pm).trans pm2.symm)
      walk_at "rd"
      refine o_neLI (SqL.of e89) (SqL.of e9) (t1.mono S9) (t2.mono s9) ?_
      rw [decide_eq_true one]
      have G9 := gthn G7 S9
      have hp9 := hp7.at (S9 p)
      obtain ⟨_, ep9⟩ := hp9.is
      clear one pm1 pm2 so1 so2 t1 t2 e89 e9 e8 s8 s9 S9 G7 hp7 er7 ty7 wlG tD eD fD s7 g7 nD ag wl2 nd2 mt2 again tr pm pl ee er6 G6 hp6 ep6 s6 eb5 ed s5 er4 eb s4 G3 er3 hp3 g3 ty er nrp G2 hp2 ep2 wl nd mt dl ol ly n1 n9 G1
      walk_at "rd"
      apply c__law_good
      refine q__law_good.mk G9.fh (G9.ff.seq hS) hp9 fp7 (by omega) (by omega) fun r1 q1 vs1 w1 F10 H10 l1 l2 er1 eq1 nqp1 ts w0 odd fq hp10 g10 => ?_
      have fp10 := g10.nw _ _ ep9 fp7
      have G10 := G9.tr1 g10 ep9
      have hl5 : w1.length ≤ 5 := by omega
      have sd := good_SD w0 odd
      have wl : ∀ d ∈ goodS w1, Well (w1.length : Int) d := fun d hd => (good_well w0 hl5 d hd).1
      have gl := good_len hl5
      obtain ⟨_, ep10⟩ := hp10.is
      walk_at "rd"
      apply c__law_wider
      refine q__law_wider.mk G10.fh (G10.ff.seq hS) hp10 fp10 l1 (by omega) eq1 nqp1 ts (by omega) wl (good_nodup w1) fun r3 ws ess F11 H11 er3 nrp3 fr3 tw wi le hp11 g11 => ?_
      have G11 := G10.tr1 g11 ep10
      have fp11 := g11.nw _ _ ep10 fp10
      have eq11 := g11.hh _ _ nqp1 eq1
      obtain ⟨_, ep11⟩ := hp11.is
      have po := (out_least wi.well wi.nd (good_nodup w1) wi.sub (fun d h e h' sb => good_anti w0 h h' sb) wi.more (sd.full wl)).1
      have wlo := out_well (by omega) wi.well wi.nd (wi.meets sd.meets)
      walk_at "rd"
      apply c__law_right
      refine q__law_right.mk G11.fh (G11.ff.seq hS) hp11 fp11 l1 (by omega) er3 nrp3 tw (by omega) wi.well wi.nd (wi.meets sd.meets) fun r4 zs F12 H12 er4 nrp4 tz hp12 g12 => ?_
      have G12 := G11.tr1 g12 ep11
      have fp12 := g12.nw _ _ ep11 fp11
      have eq12 := g12.hh _ _ nqp1 eq11
      have ts12 := (ts.mono g11.ff).mono g12.ff
      walk_at "rd"
      refine o_sortTI (SqL.of er4) (tz.mono G12.fh) (fun d h => (wlo d h).ne) fun ys1 ess1 p1 t1 _ pm1 so1 n1' => ?_
      have s8 : Same H12 (upd H12 p1 (.lst ys1)) := up_keep n1'
      have e8 := upd_same (H := H12) (a := p1) (o := .lst ys1)
      generalize upd H12 p1 (.lst ys1) = H13 at *
      walk_at "rd"
      refine o_sortTI (SqL.of (s8 _ _ eq12)) ((ts12.mono G12.fh).mono s8) (fun d h => (wl d h).ne) fun ys2 ess2 p2 t2 _ pm2 so2 n2' => ?_
      have s9 : Same H13 (upd H13 p2 (.lst ys2)) := up_keep n2'
      have e9 := upd_same (H := H13) (a := p2) (o := .lst ys2)
      have e89 := s9 _ _ e8
      generalize upd H13 p2 (.lst ys2) = H14 at *
      have S9 := s8.trans s9
      have one : ess1 = ess2 := sorted_one so1 so2 ((pm1.trans po).trans pm2.symm)
      walk_at "rd"
      refine o_neLI (SqL.of e89) (SqL.of e9) (t1.mono S9) (t2.mono s9) ?_
      rw [decide_eq_true one]
      have G14 := gthn G12 S9
      have hp14 := hp12.at (S9 p)
      obtain ⟨pi, pr, _, _, ep14⟩ := id hp14
      have hS14 := Same.seq G14.fh (G14.ff.seq hS)
      walk_at "rd"
      walk_at "if"
      · walk_at "rd"
        exact k _
      · walk_at "rd"
        exact ⟨_, _, _, _, _, _, F12, rfl, hp14, fp12, G14⟩
    · rintro σ' H6 ⟨y2, y3, y4, y5, y6, y7, F6, rfl, hp6, fp6, G6⟩
      walk_at "rd"
      exact k _

def topS (i : Nat) : Stmt := PySem.Challenge.pw_soleseat_k59_whole_bettered.main.body.getD i (.Pass ⟨0, 0, 0, 0⟩)
abbrev s_word_of : Stmt := topS 10
abbrev N_word_of : List Str := ["seats", "one", "seat", "k"]
theorem sc_word_of : FnScope N_word_of ["seats", "one"] (defScope s_word_of) := ⟨rfl, rfl, rfl, by decide +kernel, rfl, by decide +kernel, by decide +kernel⟩
abbrev s_fault : Stmt := topS 11
abbrev N_fault : List Str := ["seats", "sets", "known", "at", "one", "word"]
theorem sc_fault : FnScope N_fault ["seats", "sets"] (defScope s_fault) := ⟨rfl, rfl, rfl, by decide +kernel, rfl, by decide +kernel, by decide +kernel⟩
abbrev s_looked : Stmt := topS 12
abbrev N_looked : List Str := ["seats", "sets", "wrong"]
theorem sc_looked : FnScope N_looked ["seats", "sets"] (defScope s_looked) := ⟨rfl, rfl, rfl, by decide +kernel, rfl, by decide +kernel, by decide +kernel⟩
abbrev s_bits_of : Stmt := topS 13
abbrev N_bits_of : List Str := ["one", "bits", "seat"]
theorem sc_bits_of : FnScope N_bits_of ["one"] (defScope s_bits_of) := ⟨rfl, rfl, rfl, by decide +kernel, rfl, by decide +kernel, by decide +kernel⟩
abbrev s_seats_in : Stmt := topS 14
abbrev N_seats_in : List Str := ["bits", "seat"]
theorem sc_seats_in : FnScope N_seats_in ["bits"] (defScope s_seats_in) := ⟨rfl, rfl, rfl, by decide +kernel, rfl, by decide +kernel, by decide +kernel⟩
abbrev s_least_of : Stmt := topS 15
abbrev N_least_of : List Str := ["rows", "one", "other"]
theorem sc_least_of : FnScope N_least_of ["rows"] (defScope s_least_of) := ⟨rfl, rfl, rfl, by decide +kernel, rfl, by decide +kernel, by decide +kernel⟩
abbrev s_first_apart : Stmt := topS 17
abbrev N_first_apart : List Str := ["rows", "low", "one", "high"]
theorem sc_first_apart : FnScope N_first_apart ["rows"] (defScope s_first_apart) := ⟨rfl, rfl, rfl, by decide +kernel, rfl, by decide +kernel, by decide +kernel⟩
abbrev s_rows_of : Stmt := topS 19
abbrev N_rows_of : List Str := ["seats", "sets", "rows", "pair", "one"]
theorem sc_rows_of : FnScope N_rows_of ["seats", "sets"] (defScope s_rows_of) := ⟨rfl, rfl, rfl, by decide +kernel, rfl, by decide +kernel, by decide +kernel⟩
abbrev s_is_new : Stmt := topS 20
abbrev N_is_new : List Str := ["rows", "choice", "one"]
theorem sc_is_new : FnScope N_is_new ["rows", "choice"] (defScope s_is_new) := ⟨rfl, rfl, rfl, by decide +kernel, rfl, by decide +kernel, by decide +kernel⟩
abbrev s_bettered : Stmt := topS 21
abbrev N_bettered : List Str := ["seats", "sets", "rows", "choice", "one"]
theorem sc_bettered : FnScope N_bettered ["seats", "sets"] (defScope s_bettered) := ⟨rfl, rfl, rfl, by decide +kernel, rfl, by decide +kernel, by decide +kernel⟩
abbrev s__law_wide : Stmt := topS 23
abbrev N__law_wide : List Str := ["cell", "one", "other", "third"]
theorem sc__law_wide : FnScope N__law_wide ["cell"] (defScope s__law_wide) := ⟨rfl, rfl, rfl, by decide +kernel, rfl, by decide +kernel, by decide +kernel⟩
abbrev s__law_take : Stmt := topS 24
abbrev N__law_take : List Str := ["script", "pot", "many", "cell", "found"]
theorem sc__law_take : FnScope N__law_take ["script", "pot", "many"] (defScope s__law_take) := ⟨rfl, rfl, rfl, by decide +kernel, rfl, by decide +kernel, by decide +kernel⟩
abbrev s__law_set : Stmt := topS 25
abbrev N__law_set : List Str := ["script", "pot", "seats", "found", "seat", "k"]
theorem sc__law_set : FnScope N__law_set ["script", "pot", "seats"] (defScope s__law_set) := ⟨rfl, rfl, rfl, by decide +kernel, rfl, by decide +kernel, by decide +kernel⟩
abbrev s__law_family : Stmt := topS 27
abbrev N__law_family : List Str := ["script", "pot", "seats", "most", "found", "k", "one"]
theorem sc__law_family : FnScope N__law_family ["script", "pot", "seats", "most"] (defScope s__law_family) := ⟨rfl, rfl, rfl, by decide +kernel, rfl, by decide +kernel, by decide +kernel⟩
abbrev s__law_whole : Stmt := topS 28
abbrev N__law_whole : List Str := ["thing"]
theorem sc__law_whole : FnScope N__law_whole ["thing"] (defScope s__law_whole) := ⟨rfl, rfl, rfl, by decide +kernel, rfl, by decide +kernel, by decide +kernel⟩
abbrev s__law_is_set : Stmt := topS 29
abbrev N__law_is_set : List Str := ["thing", "one"]
theorem sc__law_is_set : FnScope N__law_is_set ["thing"] (defScope s__law_is_set) := ⟨rfl, rfl, rfl, by decide +kernel, rfl, by decide +kernel, by decide +kernel⟩
abbrev s__law_good : Stmt := topS 30
abbrev N__law_good : List Str := ["script", "pot", "most", "weights", "found", "bits", "one", "weight", "k", "seat"]
theorem sc__law_good : FnScope N__law_good ["script", "pot", "most"] (defScope s__law_good) := ⟨rfl, rfl, rfl, by decide +kernel, rfl, by decide +kernel, by decide +kernel⟩
abbrev s__law_has : Stmt := topS 31
abbrev N__law_has : List Str := ["choice", "sets", "one", "seat"]
theorem sc__law_has : FnScope N__law_has ["choice", "sets"] (defScope s__law_has) := ⟨rfl, rfl, rfl, by decide +kernel, rfl, by decide +kernel, by decide +kernel⟩
abbrev s__law_just_one : Stmt := topS 32
abbrev N__law_just_one : List Str := ["script", "pot", "seats", "sets", "choice", "rest", "seat"]
theorem sc__law_just_one : FnScope N__law_just_one ["script", "pot", "seats", "sets"] (defScope s__law_just_one) := ⟨rfl, rfl, rfl, by decide +kernel, rfl, by decide +kernel, by decide +kernel⟩
abbrev s__law_meeting : Stmt := topS 33
abbrev N__law_meeting : List Str := ["script", "pot", "seats", "most", "kept", "one", "other", "seat"]
theorem sc__law_meeting : FnScope N__law_meeting ["script", "pot", "seats", "most"] (defScope s__law_meeting) := ⟨rfl, rfl, rfl, by decide +kernel, rfl, by decide +kernel, by decide +kernel⟩
abbrev s__law_by_number : Stmt := topS 34
abbrev N__law_by_number : List Str := ["number", "seats", "found", "seat"]
theorem sc__law_by_number : FnScope N__law_by_number ["number", "seats"] (defScope s__law_by_number) := ⟨rfl, rfl, rfl, by decide +kernel, rfl, by decide +kernel, by decide +kernel⟩
abbrev s__law_full : Stmt := topS 35
abbrev N__law_full : List Str := ["script", "pot", "seats", "sets", "turn", "number", "choice", "rest", "seat"]
theorem sc__law_full : FnScope N__law_full ["script", "pot", "seats", "sets"] (defScope s__law_full) := ⟨rfl, rfl, rfl, by decide +kernel, rfl, by decide +kernel, by decide +kernel⟩
abbrev s__law_is_well : Stmt := topS 36
abbrev N__law_is_well : List Str := ["seats", "one", "k"]
theorem sc__law_is_well : FnScope N__law_is_well ["seats", "one"] (defScope s__law_is_well) := ⟨rfl, rfl, rfl, by decide +kernel, rfl, by decide +kernel, by decide +kernel⟩
abbrev s__law_holds : Stmt := topS 37
abbrev N__law_holds : List Str := ["one", "other", "seat"]
theorem sc__law_holds : FnScope N__law_holds ["one", "other"] (defScope s__law_holds) := ⟨rfl, rfl, rfl, by decide +kernel, rfl, by decide +kernel, by decide +kernel⟩
abbrev s__law_right : Stmt := topS 38
abbrev N__law_right : List Str := ["script", "pot", "seats", "sets", "handed", "found", "one", "at", "told", "seat"]
theorem sc__law_right : FnScope N__law_right ["script", "pot", "seats", "sets"] (defScope s__law_right) := ⟨rfl, rfl, rfl, by decide +kernel, rfl, by decide +kernel, by decide +kernel⟩
abbrev s__law_wider : Stmt := topS 39
abbrev N__law_wider : List Str := ["script", "pot", "seats", "sets", "found", "k", "one"]
theorem sc__law_wider : FnScope N__law_wider ["script", "pot", "seats", "sets"] (defScope s__law_wider) := ⟨rfl, rfl, rfl, by decide +kernel, rfl, by decide +kernel, by decide +kernel⟩
abbrev s__law_nine : Stmt := topS 40
abbrev N__law_nine : List Str := ["script", "pot", "found", "number", "one", "k", "at"]
theorem sc__law_nine : FnScope N__law_nine ["script", "pot"] (defScope s__law_nine) := ⟨rfl, rfl, rfl, by decide +kernel, rfl, by decide +kernel, by decide +kernel⟩
abbrev s_law : Stmt := topS 41
abbrev N_law : List Str := ["script", "pot", "turn", "seats", "way", "sets", "found", "at"]
theorem sc_law : FnScope N_law ["script"] (defScope s_law) := ⟨rfl, rfl, rfl, by decide +kernel, rfl, by decide +kernel, by decide +kernel⟩
structure Txt (K : PySem.W.Frag) (mg : Str → Option Value) (ad : Ad) where
  f_word_of : Addr
  d_word_of : FuncData
  F_word_of : Fun K "word_of" "word_of" s_word_of f_word_of d_word_of
  b_word_of : Binds K d_word_of ["seats", "one"] []
  g_word_of : mg "word_of" = some (.ref f_word_of)
  f_fault : Addr
  d_fault : FuncData
  F_fault : Fun K "fault" "fault" s_fault f_fault d_fault
  b_fault : Binds K d_fault ["seats", "sets"] []
  g_fault : mg "fault" = some (.ref f_fault)
  f_looked : Addr
  d_looked : FuncData
  F_looked : Fun K "looked" "looked" s_looked f_looked d_looked
  b_looked : Binds K d_looked ["seats", "sets"] []
  g_looked : mg "looked" = some (.ref f_looked)
  f_bits_of : Addr
  d_bits_of : FuncData
  F_bits_of : Fun K "bits_of" "bits_of" s_bits_of f_bits_of d_bits_of
  b_bits_of : Binds K d_bits_of ["one"] []
  g_bits_of : mg "bits_of" = some (.ref f_bits_of)
  f_seats_in : Addr
  d_seats_in : FuncData
  F_seats_in : Fun K "seats_in" "seats_in" s_seats_in f_seats_in d_seats_in
  b_seats_in : Binds K d_seats_in ["bits"] []
  g_seats_in : mg "seats_in" = some (.ref f_seats_in)
  f_least_of : Addr
  d_least_of : FuncData
  F_least_of : Fun K "least_of" "least_of" s_least_of f_least_of d_least_of
  b_least_of : Binds K d_least_of ["rows"] []
  g_least_of : mg "least_of" = some (.ref f_least_of)
  f_first_apart : Addr
  d_first_apart : FuncData
  F_first_apart : Fun K "first_apart" "first_apart" s_first_apart f_first_apart d_first_apart
  b_first_apart : Binds K d_first_apart ["rows"] []
  g_first_apart : mg "first_apart" = some (.ref f_first_apart)
  f_rows_of : Addr
  d_rows_of : FuncData
  F_rows_of : Fun K "rows_of" "rows_of" s_rows_of f_rows_of d_rows_of
  b_rows_of : Binds K d_rows_of ["seats", "sets"] []
  g_rows_of : mg "rows_of" = some (.ref f_rows_of)
  f_is_new : Addr
  d_is_new : FuncData
  F_is_new : Fun K "is_new" "is_new" s_is_new f_is_new d_is_new
  b_is_new : Binds K d_is_new ["rows", "choice"] []
  g_is_new : mg "is_new" = some (.ref f_is_new)
  f_bettered : Addr
  d_bettered : FuncData
  F_bettered : Fun K "bettered" "bettered" s_bettered f_bettered d_bettered
  b_bettered : Binds K d_bettered ["seats", "sets"] []
  g_bettered : mg "bettered" = some (.ref f_bettered)
  f__law_wide : Addr
  d__law_wide : FuncData
  F__law_wide : Fun K "_law_wide" "_law_wide" s__law_wide f__law_wide d__law_wide
  b__law_wide : Binds K d__law_wide ["cell"] []
  g__law_wide : mg "_law_wide" = some (.ref f__law_wide)
  f__law_take : Addr
  d__law_take : FuncData
  F__law_take : Fun K "_law_take" "_law_take" s__law_take f__law_take d__law_take
  b__law_take : Binds K d__law_take ["script", "pot", "many"] []
  g__law_take : mg "_law_take" = some (.ref f__law_take)
  f__law_set : Addr
  d__law_set : FuncData
  F__law_set : Fun K "_law_set" "_law_set" s__law_set f__law_set d__law_set
  b__law_set : Binds K d__law_set ["script", "pot", "seats"] []
  g__law_set : mg "_law_set" = some (.ref f__law_set)
  f__law_family : Addr
  d__law_family : FuncData
  F__law_family : Fun K "_law_family" "_law_family" s__law_family f__law_family d__law_family
  b__law_family : Binds K d__law_family ["script", "pot", "seats", "most"] []
  g__law_family : mg "_law_family" = some (.ref f__law_family)
  f__law_whole : Addr
  d__law_whole : FuncData
  F__law_whole : Fun K "_law_whole" "_law_whole" s__law_whole f__law_whole d__law_whole
  b__law_whole : Binds K d__law_whole ["thing"] []
  g__law_whole : mg "_law_whole" = some (.ref f__law_whole)
  f__law_is_set : Addr
  d__law_is_set : FuncData
  F__law_is_set : Fun K "_law_is_set" "_law_is_set" s__law_is_set f__law_is_set d__law_is_set
  b__law_is_set : Binds K d__law_is_set ["thing"] []
  g__law_is_set : mg "_law_is_set" = some (.ref f__law_is_set)
  f__law_good : Addr
  d__law_good : FuncData
  F__law_good : Fun K "_law_good" "_law_good" s__law_good f__law_good d__law_good
  b__law_good : Binds K d__law_good ["script", "pot", "most"] []
  g__law_good : mg "_law_good" = some (.ref f__law_good)
  f__law_has : Addr
  d__law_has : FuncData
  F__law_has : Fun K "_law_has" "_law_has" s__law_has f__law_has d__law_has
  b__law_has : Binds K d__law_has ["choice", "sets"] []
  g__law_has : mg "_law_has" = some (.ref f__law_has)
  f__law_just_one : Addr
  d__law_just_one : FuncData
  F__law_just_one : Fun K "_law_just_one" "_law_just_one" s__law_just_one f__law_just_one d__law_just_one
  b__law_just_one : Binds K d__law_just_one ["script", "pot", "seats", "sets"] []
  g__law_just_one : mg "_law_just_one" = some (.ref f__law_just_one)
  f__law_meeting : Addr
  d__law_meeting : FuncData
  F__law_meeting : Fun K "_law_meeting" "_law_meeting" s__law_meeting f__law_meeting d__law_meeting
  b__law_meeting : Binds K d__law_meeting ["script", "pot", "seats", "most"] []
  g__law_meeting : mg "_law_meeting" = some (.ref f__law_meeting)
  f__law_by_number : Addr
  d__law_by_number : FuncData
  F__law_by_number : Fun K "_law_by_number" "_law_by_number" s__law_by_number f__law_by_number d__law_by_number
  b__law_by_number : Binds K d__law_by_number ["number", "seats"] []
  g__law_by_number : mg "_law_by_number" = some (.ref f__law_by_number)
  f__law_full : Addr
  d__law_full : FuncData
  F__law_full : Fun K "_law_full" "_law_full" s__law_full f__law_full d__law_full
  b__law_full : Binds K d__law_full ["script", "pot", "seats", "sets"] []
  g__law_full : mg "_law_full" = some (.ref f__law_full)
  f__law_is_well : Addr
  d__law_is_well : FuncData
  F__law_is_well : Fun K "_law_is_well" "_law_is_well" s__law_is_well f__law_is_well d__law_is_well
  b__law_is_well : Binds K d__law_is_well ["seats", "one"] []
  g__law_is_well : mg "_law_is_well" = some (.ref f__law_is_well)
  f__law_holds : Addr
  d__law_holds : FuncData
  F__law_holds : Fun K "_law_holds" "_law_holds" s__law_holds f__law_holds d__law_holds
  b__law_holds : Binds K d__law_holds ["one", "other"] []
  g__law_holds : mg "_law_holds" = some (.ref f__law_holds)
  f__law_right : Addr
  d__law_right : FuncData
  F__law_right : Fun K "_law_right" "_law_right" s__law_right f__law_right d__law_right
  b__law_right : Binds K d__law_right ["script", "pot", "seats", "sets"] []
  g__law_right : mg "_law_right" = some (.ref f__law_right)
  f__law_wider : Addr
  d__law_wider : FuncData
  F__law_wider : Fun K "_law_wider" "_law_wider" s__law_wider f__law_wider d__law_wider
  b__law_wider : Binds K d__law_wider ["script", "pot", "seats", "sets"] []
  g__law_wider : mg "_law_wider" = some (.ref f__law_wider)
  f__law_nine : Addr
  d__law_nine : FuncData
  F__law_nine : Fun K "_law_nine" "_law_nine" s__law_nine f__law_nine d__law_nine
  b__law_nine : Binds K d__law_nine ["script", "pot"] []
  g__law_nine : mg "_law_nine" = some (.ref f__law_nine)
  f_law : Addr
  d_law : FuncData
  F_law : Fun K "law" "law" s_law f_law d_law
  b_law : Binds K d_law ["script"] []
  g_law : mg "law" = some (.ref f_law)
  u_SEATS : Value
  g_SEATS : mg "SEATS" = some u_SEATS
  r_SEATS : RelV (.int 60) u_SEATS
  u_SETS : Value
  g_SETS : mg "SETS" = some u_SETS
  r_SETS : RelV (.int 200) u_SETS
  u_FEW : Value
  g_FEW : mg "FEW" = some u_FEW
  r_FEW : RelV (.int 9) u_FEW
  m_any : mg "any" = none
  m_bool : mg "bool" = none
  m_enumerate : mg "enumerate" = none
  m_int : mg "int" = none
  m_isinstance : mg "isinstance" = none
  m_len : mg "len" = none
  m_list : mg "list" = none
  m_range : mg "range" = none
  m_set : mg "set" = none
  m_sorted : mg "sorted" = none
  m_sum : mg "sum" = none
  m_tuple : mg "tuple" = none
theorem ok_word_of {K : PySem.W.Frag} {mg : Str → Option Value} {base : Heap} {ad : Ad} (T : Txt K mg ad) : FnOk ad.P ad.w K mg base CX0 1 T.f_word_of T.d_word_of ["seats", "one"] (sp_word_of K ad) := by
  refine T.F_word_of.ok sc_word_of (fun vs H Q E h => ?_) (fun cdv A outer s H vs Q E hr h => ⟨t_word_of K ad, ?_, ?_⟩)
  · obtain ⟨x0, x1, rfl, _⟩ := n_word_of h
    rfl
  · exact (pss_cons (ps_if (pt_cmpR (op_zEq hr.units) (pe_callB cr_zLen (by rfl) T.m_len (by decide +kernel) (pa_cons (pv 1) pa_nil)) pe_int (nomark _)) (pss_one (ps_ret pe_str)) pss_nil)
    (pss_cons (ps_for PassesOwn.never rfl (pi_tup (pv 1)) (pg_name (i := 2) sc_word_of.nd rfl (Or.inl rfl))
    (pss_one (ps_if (PW.pt (pw_or (pt_cmpR (op_zLt hr.units0) (pv 2) pe_int (nomark _)) (pw_or1 (pt_cmpR op_zGe (pv 2) (pv 0) (nomark _))))) (pss_one (ps_ret pe_str)) pss_nil)))
    (pss_cons (ps_for PassesOwn.never rfl (pi_range2 (by rfl) T.m_range (pa_cons pe_int (pa_cons (pe_callB cr_zLen (by rfl) T.m_len (by decide +kernel) (pa_cons (pv 1) pa_nil)) pa_nil))) (pg_name (i := 3) sc_word_of.nd rfl (Or.inl rfl))
    (pss_one (ps_if (pt_cmpR op_zGe (pe_ix ix_seq (pv 1) (pe_op op_zSub (pv 3) pe_int) (fun _ _ => rfl)) (pe_ix ix_seq (pv 1) (pv 3) (fun _ _ => rfl)) (nomark _)) (pss_one (ps_ret pe_str)) pss_nil)))
    (pss_one (ps_ret pe_non)))))
  · obtain ⟨x0, x1, rfl, h⟩ := n_word_of h
    exact w_word_of h
theorem ok_bits_of {K : PySem.W.Frag} {mg : Str → Option Value} {base : Heap} {ad : Ad} (T : Txt K mg ad) : FnOk ad.P ad.w K mg base CX0 1 T.f_bits_of T.d_bits_of ["one"] (sp_bits_of K ad) := by
  refine T.F_bits_of.ok sc_bits_of (fun vs H Q E h => ?_) (fun cdv A outer s H vs Q E hr h => ⟨t_bits_of K ad, ?_, ?_⟩)
  · obtain ⟨x0, rfl, _⟩ := n_bits_of h
    rfl
  · exact (pss_cons (ps_set (i := 1) sc_bits_of.nd rfl (Or.inl rfl) pe_int)
    (pss_cons (ps_for PassesOwn.never rfl (pi_tup (pv 0)) (pg_name (i := 2) sc_bits_of.nd rfl (Or.inl rfl))
    (pss_one (ps_aug (i := 1) sc_bits_of.nd rfl (Or.inl rfl) (pe_op op_zShl pe_int (pv 2)) ip_or)))
    (pss_one (ps_ret (pv 1)))))
  · obtain ⟨x0, rfl, h⟩ := n_bits_of h
    exact w_bits_of h
theorem ok_seats_in {K : PySem.W.Frag} {mg : Str → Option Value} {base : Heap} {ad : Ad} (T : Txt K mg ad) : FnOk ad.P ad.w K mg base CX0 1 T.f_seats_in T.d_seats_in ["bits"] (sp_seats_in K ad) := by
  refine T.F_seats_in.ok sc_seats_in (fun vs H Q E h => ?_) (fun cdv A outer s H vs Q E hr h => ⟨t_seats_in K ad, ?_, ?_⟩)
  · obtain ⟨x0, rfl, _⟩ := n_seats_in h
    rfl
  · exact (pss_one (ps_ret (pe_callTy cr_zTuple (by rfl) T.m_tuple (by decide +kernel) (pa_cons (pe_lc (own := [("seat", 1)]) rfl sc_seats_in.nd (pi_range1 (by rfl) T.m_range (pa_cons (pe_bits (pv 0)) pa_nil)) (blkOk_by (own := [("seat", 1)]) (N := N_seats_in) (sc := defScope s_seats_in) (by decide +kernel)) (fun _ _ _ _ _ => (pg_name (i := 1) sc_seats_in.nd rfl (Or.inl rfl))) (fun _ _ _ _ _ => (pts_one (pt_truth (pe_op op_zAnd (pe_op op_zShr (pv 0) (pv 1)) pe_int) (by intro _; rfl)))) (fun _ _ _ _ _ => (pv 1))) pa_nil))))
  · obtain ⟨x0, rfl, h⟩ := n_seats_in h
    exact w_seats_in h
theorem ok_least_of {K : PySem.W.Frag} {mg : Str → Option Value} {base : Heap} {ad : Ad} (T : Txt K mg ad) : FnOk ad.P ad.w K mg base CX0 1 T.f_least_of T.d_least_of ["rows"] (sp_least_of K ad) := by
  refine T.F_least_of.ok sc_least_of (fun vs H Q E h => ?_) (fun cdv A outer s H vs Q E hr h => ⟨t_least_of K ad, ?_, ?_⟩)
  · obtain ⟨x0, rfl, _⟩ := n_least_of h
    rfl
  · exact (pss_one (ps_ret (pe_lc (own := [("one", 1)]) rfl sc_least_of.nd (pi_list (pv 0)) (blkOk_by (own := [("one", 1)]) (N := N_least_of) (sc := defScope s_least_of) (by decide +kernel)) (fun _ _ _ _ _ => (pg_name (i := 1) sc_least_of.nd rfl (Or.inr rfl))) (fun _ _ _ _ _ => (pts_one (pt_not (pt_truth (pe_callB (cr_any rfl) (by rfl) T.m_any (by decide +kernel) (pa_cons (pe_lc (own := [("other", 2)]) rfl sc_least_of.nd (pi_list (pv 0)) (blkOk_by (own := [("other", 2)]) (N := N_least_of) (sc := ({ kind := .function, names := [(".0", .local), ("one", .cell), ("any", .globalImplicit), ("rows", .cell)], isGenerator := false, isCoroutine := false, more := [] } : Scope)) (by decide +kernel)) (fun _ _ _ _ _ => (pg_name (i := 2) sc_least_of.nd rfl (Or.inl rfl))) (fun _ _ _ _ _ => pts_nil) (fun _ _ _ _ _ => (pe_and (pe_cmpR (op_zNe hr.units) (pv 2) (pv 1) (nomark _)) (pe_one (pe_cmpR (op_zEq hr.units) (pe_op op_zAnd (pv 2) (pv 1)) (pv 2) (nomark _)))))) pa_nil)) (by intro _; rfl))))) (fun _ _ _ _ _ => (pv 1)))))
  · obtain ⟨x0, rfl, h⟩ := n_least_of h
    exact w_least_of h
theorem ok_first_apart {K : PySem.W.Frag} {mg : Str → Option Value} {base : Heap} {ad : Ad} (T : Txt K mg ad) : FnOk ad.P ad.w K mg base CX0 1 T.f_first_apart T.d_first_apart ["rows"] (sp_first_apart K ad) := by
  refine T.F_first_apart.ok sc_first_apart (fun vs H Q E h => ?_) (fun cdv A outer s H vs Q E hr h => ⟨t_first_apart K ad, ?_, ?_⟩)
  · obtain ⟨x0, rfl, _⟩ := n_first_apart h
    rfl
  · exact (pss_cons (ps_for PassesOwn.never rfl (pi_enum (by rfl) T.m_enumerate (pa_cons (pv 0) pa_nil)) (pg_tup rfl (pgs_cons (pg_name (i := 1) sc_first_apart.nd rfl (Or.inl rfl)) (pgs_cons (pg_name (i := 2) sc_first_apart.nd rfl (Or.inl rfl)) pgs_nil)))
    (pss_one (ps_for PassesOwn.never rfl (pi_range2 (by rfl) T.m_range (pa_cons (pe_op op_zAdd (pv 1) pe_int) (pa_cons (pe_callB cr_zLen (by rfl) T.m_len (by decide +kernel) (pa_cons (pv 0) pa_nil)) pa_nil))) (pg_name (i := 3) sc_first_apart.nd rfl (Or.inl rfl))
    (pss_one (ps_if (pt_cmpR (op_zEq hr.units) (pe_op op_zAnd (pv 2) (pe_ix ix_seq (pv 0) (pv 3) (fun _ _ => rfl))) pe_int (nomark _)) (pss_one (ps_ret (pe_tup (pa_cons (pv 1) (pa_cons (pv 3) pa_nil))))) pss_nil)))))
    (pss_one (ps_ret pe_non)))
  · obtain ⟨x0, rfl, h⟩ := n_first_apart h
    exact w_first_apart h
theorem ok_is_new {K : PySem.W.Frag} {mg : Str → Option Value} {base : Heap} {ad : Ad} (T : Txt K mg ad) : FnOk ad.P ad.w K mg base CX0 1 T.f_is_new T.d_is_new ["rows", "choice"] (sp_is_new K ad) := by
  refine T.F_is_new.ok sc_is_new (fun vs H Q E h => ?_) (fun cdv A outer s H vs Q E hr h => ⟨t_is_new K ad, ?_, ?_⟩)
  · obtain ⟨x0, x1, rfl, _⟩ := n_is_new h
    rfl
  · exact (pss_cons (ps_for PassesOwn.never rfl (pi_list (pv 0)) (pg_name (i := 2) sc_is_new.nd rfl (Or.inl rfl))
    (pss_one (ps_if (PW.pt (pw_or (pt_cmpR (op_zEq hr.units) (pe_op op_zAnd (pv 2) (pv 1)) pe_int (nomark _)) (pw_or1 (pt_cmpR (op_zEq hr.units) (pe_op op_zAnd (pv 2) (pv 1)) (pv 2) (nomark _))))) (pss_one (ps_ret pe_bl)) pss_nil)))
    (pss_one (ps_ret pe_bl)))
  · obtain ⟨x0, x1, rfl, h⟩ := n_is_new h
    exact w_is_new h
theorem ok__law_wide {K : PySem.W.Frag} {mg : Str → Option Value} {base : Heap} {ad : Ad} (T : Txt K mg ad) : FnOk ad.P ad.w K mg base CX0 1 T.f__law_wide T.d__law_wide ["cell"] (sp__law_wide K ad) := by
  refine T.F__law_wide.ok sc__law_wide (fun vs H Q E h => ?_) (fun cdv A outer s H vs Q E hr h => ⟨t__law_wide K ad, ?_, ?_⟩)
  · obtain ⟨x0, rfl, _⟩ := n__law_wide h
    rfl
  · exact (pss_cons (ps_if (pt_cmpR op_zGe (pv 0) (pe_op op_zPow pe_int pe_int) (nomark _)) (pss_one (ps_ret (pv 0))) pss_nil)
    (pss_cons (ps_set (i := 1) sc__law_wide.nd rfl (Or.inl rfl) (pe_op op_zMod (pe_op op_zAdd (pe_op op_zMul (pv 0) pe_int) pe_int) pe_int))
    (pss_cons (ps_set (i := 2) sc__law_wide.nd rfl (Or.inl rfl) (pe_op op_zMod (pe_op op_zAdd (pe_op op_zAdd (pe_op op_zMul (pv 1) (pv 1)) (pe_op op_zMul (pv 0) pe_int)) pe_int) pe_int))
    (pss_cons (ps_set (i := 3) sc__law_wide.nd rfl (Or.inl rfl) (pe_op op_zMod (pe_op op_zAdd (pe_op op_zMul (pv 2) (pv 2)) (pv 1)) pe_int))
    (pss_one (ps_ret (pe_op op_zAdd (pe_op op_zDiv (pv 1) pe_int) (pe_op op_zMul pe_int (pe_op op_zAdd (pe_op op_zDiv (pv 2) pe_int) (pe_op op_zMul pe_int (pe_op op_zDiv (pv 3) pe_int)))))))))))
  · obtain ⟨x0, rfl, h⟩ := n__law_wide h
    exact w__law_wide h
theorem ok__law_whole {K : PySem.W.Frag} {mg : Str → Option Value} {base : Heap} {ad : Ad} (T : Txt K mg ad) : FnOk ad.P ad.w K mg base CX0 1 T.f__law_whole T.d__law_whole ["thing"] (sp__law_whole K ad) := by
  refine T.F__law_whole.ok sc__law_whole (fun vs H Q E h => ?_) (fun cdv A outer s H vs Q E hr h => ⟨t__law_whole K ad, ?_, ?_⟩)
  · obtain ⟨x0, rfl, _⟩ := n__law_whole h
    rfl
  · exact (pss_one (ps_ret (pe_and (pe_callB call_isi (by rfl) T.m_isinstance (by decide +kernel) (pa_cons (pv 0) (pa_cons (pe_bltn (by rfl) T.m_int (by decide +kernel) rfl) pa_nil))) (pe_one (pe_notT (pe_callB call_isi (by rfl) T.m_isinstance (by decide +kernel) (pa_cons (pv 0) (pa_cons (pe_bltn (by rfl) T.m_bool (by decide +kernel) rfl) pa_nil))))))))
  · obtain ⟨x0, rfl, h⟩ := n__law_whole h
    exact w__law_whole h
theorem ok__law_has {K : PySem.W.Frag} {mg : Str → Option Value} {base : Heap} {ad : Ad} (T : Txt K mg ad) : FnOk ad.P ad.w K mg base CX0 1 T.f__law_has T.d__law_has ["choice", "sets"] (sp__law_has K ad) := by
  refine T.F__law_has.ok sc__law_has (fun vs H Q E h => ?_) (fun cdv A outer s H vs Q E hr h => ⟨t__law_has K ad, ?_, ?_⟩)
  · obtain ⟨x0, x1, rfl, _⟩ := n__law_has h
    rfl
  · exact (pss_cons (ps_for PassesOwn.never rfl (pi_list (pv 1)) (pg_name (i := 2) sc__law_has.nd rfl (Or.inl rfl))
    (pss_one (ps_if (pt_cmpR (op_zEq hr.units) (pe_lc (own := [("seat", 3)]) rfl sc__law_has.nd (pi_tup (pv 2)) (blkOk_by (own := [("seat", 3)]) (N := N__law_has) (sc := defScope s__law_has) (by decide +kernel)) (fun _ _ _ _ _ => (pg_name (i := 3) sc__law_has.nd rfl (Or.inl rfl))) (fun _ _ _ _ _ => (pts_one (pt_cmpR (op_zNotIn hr.units65) (pv 3) (pv 0) (by rfl)))) (fun _ _ _ _ _ => pe_int)) (pe_lst pa_nil) (nomark _)) (pss_one (ps_ret pe_bl)) pss_nil)))
    (pss_one (ps_ret pe_bl)))
  · obtain ⟨x0, x1, rfl, h⟩ := n__law_has h
    exact w__law_has h
theorem ok__law_by_number {K : PySem.W.Frag} {mg : Str → Option Value} {base : Heap} {ad : Ad} (T : Txt K mg ad) : FnOk ad.P ad.w K mg base CX0 1 T.f__law_by_number T.d__law_by_number ["number", "seats"] (sp__law_by_number K ad) := by
  refine T.F__law_by_number.ok sc__law_by_number (fun vs H Q E h => ?_) (fun cdv A outer s H vs Q E hr h => ⟨t__law_by_number K ad, ?_, ?_⟩)
  · obtain ⟨x0, x1, rfl, _⟩ := n__law_by_number h
    rfl
  · exact (pss_cons (ps_set (i := 2) sc__law_by_number.nd rfl (Or.inl rfl) (pe_lst pa_nil))
    (pss_cons (ps_for PassesOwn.never rfl (pi_range1 (by rfl) T.m_range (pa_cons (pv 1) pa_nil)) (pg_name (i := 3) sc__law_by_number.nd rfl (Or.inl rfl))
    (pss_cons (ps_if (pt_cmpR (op_zEq hr.units) (pe_op op_zMod (pv 0) pe_int) pe_int (nomark _)) (pss_one (ps_expr (pe_bm PySem.F.plainAttrs_list PySem.F.slot_list_append PySem.F.type_list_append mt_append (pv 2) (pa_cons (pv 3) pa_nil)))) pss_nil)
    (pss_one (ps_set (i := 0) sc__law_by_number.nd rfl (Or.inl rfl) (pe_op op_zDiv (pv 0) pe_int)))))
    (pss_one (ps_ret (pv 2)))))
  · obtain ⟨x0, x1, rfl, h⟩ := n__law_by_number h
    exact w__law_by_number h
theorem ok__law_holds {K : PySem.W.Frag} {mg : Str → Option Value} {base : Heap} {ad : Ad} (T : Txt K mg ad) : FnOk ad.P ad.w K mg base CX0 1 T.f__law_holds T.d__law_holds ["one", "other"] (sp__law_holds K ad) := by
  refine T.F__law_holds.ok sc__law_holds (fun vs H Q E h => ?_) (fun cdv A outer s H vs Q E hr h => ⟨t__law_holds K ad, ?_, ?_⟩)
  · obtain ⟨x0, x1, rfl, _⟩ := n__law_holds h
    rfl
  · exact (pss_one (ps_ret (pe_cmpR (op_zEq hr.units) (pe_lc (own := [("seat", 2)]) rfl sc__law_holds.nd (pi_tup (pv 1)) (blkOk_by (own := [("seat", 2)]) (N := N__law_holds) (sc := defScope s__law_holds) (by decide +kernel)) (fun _ _ _ _ _ => (pg_name (i := 2) sc__law_holds.nd rfl (Or.inl rfl))) (fun _ _ _ _ _ => (pts_one (pt_cmpR (op_zNotIn hr.units65) (pv 2) (pv 0) (by rfl)))) (fun _ _ _ _ _ => pe_int)) (pe_lst pa_nil) (nomark _))))
  · obtain ⟨x0, x1, rfl, h⟩ := n__law_holds h
    exact w__law_holds h
theorem ok_fault {K : PySem.W.Frag} {mg : Str → Option Value} {base : Heap} {ad : Ad} (T : Txt K mg ad) : FnOk ad.P ad.w K mg base CX0 2 T.f_fault T.d_fault ["seats", "sets"] (sp_fault K ad) := by
  refine T.F_fault.ok sc_fault (fun vs H Q E h => ?_) (fun cdv A outer s H vs Q E hr h => ⟨t_fault K ad, ?_, ?_⟩)
  · obtain ⟨x0, x1, rfl, _⟩ := n_fault h
    rfl
  · exact (pss_cons (ps_set (i := 2) sc_fault.nd rfl (Or.inl rfl) pe_dnewT)
    (pss_cons (ps_for PassesOwn.never rfl (pi_enum (by rfl) T.m_enumerate (pa_cons (pv 1) pa_nil)) (pg_tup rfl (pgs_cons (pg_name (i := 3) sc_fault.nd rfl (Or.inl rfl)) (pgs_cons (pg_name (i := 4) sc_fault.nd rfl (Or.inl rfl)) pgs_nil)))
    (pss_cons (ps_set (i := 5) sc_fault.nd rfl (Or.inl rfl) (pe_call (ok_word_of T) hr (by rfl) T.g_word_of T.F_word_of.kp T.b_word_of .nil pass0 (pa_cons (pv 0) (pa_cons (pv 4) pa_nil))))
    (pss_cons (ps_if (PW.pt (pw_and (pt_cmpR op_zIsN (pv 5) pe_non (nomark _)) (pw_and1 (pt_cmp (pc_din (hu_of hr) (pv 4) (pv 2)))))) (pss_one (ps_set (i := 5) sc_fault.nd rfl (Or.inl rfl) pe_str)) pss_nil)
    (pss_cons (ps_if (pt_cmpR op_zNotN (pv 5) pe_non (nomark _)) (pss_one (ps_ret (pe_tup (pa_cons (pv 3) (pa_cons (pv 5) pa_nil))))) pss_nil)
    (pss_one (ps_dput (hu_of hr) (pv 2) (pv 4) pe_bl rfl))))))
    (pss_one (ps_ret pe_non))))
  · obtain ⟨x0, x1, rfl, h⟩ := n_fault h
    exact w_fault h
theorem ok__law_take {K : PySem.W.Frag} {mg : Str → Option Value} {base : Heap} {ad : Ad} (T : Txt K mg ad) : FnOk ad.P ad.w K mg base CX0 2 T.f__law_take T.d__law_take ["script", "pot", "many"] (sp__law_take K ad) := by
  refine T.F__law_take.ok sc__law_take (fun vs H Q E h => ?_) (fun cdv A outer s H vs Q E hr h => ⟨t__law_take K ad, ?_, ?_⟩)
  · obtain ⟨x0, x1, x2, rfl, _⟩ := n__law_take h
    rfl
  · exact (Evl.pss_cut (ps_if (pt_cmpR (op_zEq hr.units) (pe_ix ix_seq (pv 1) pe_int (fun _ _ => rfl)) pe_int (nomark _)) (pss_cons (ps_set (i := 3) sc__law_take.nd rfl (Or.inl rfl) (pe_op op_zMul (pe_op op_zAdd (pe_op op_zMod (pe_callB (cr_sum rfl) (by rfl) T.m_sum (by decide +kernel) (pa_cons (pv 0) pa_nil)) pe_int) pe_int) (pe_op op_zAdd (pe_ix ix_seq (pv 1) pe_int (fun _ _ => rfl)) pe_int)))
    (pss_cons (ps_if (pt_cmpR (op_zLt hr.units0) (pe_ix ix_seq (pv 1) pe_int (fun _ _ => rfl)) (pe_callB cr_zLen (by rfl) T.m_len (by decide +kernel) (pa_cons (pv 0) pa_nil)) (nomark _)) (pss_one (ps_set (i := 3) sc__law_take.nd rfl (Or.inl rfl) (pe_ix ix_seq (pv 0) (pe_ix ix_seq (pv 1) pe_int (fun _ _ => rfl)) (fun _ _ => rfl)))) pss_nil)
    (pss_cons (ps_asg (pe_op op_zAdd (pe_ix ix_seq (pv 1) pe_int (fun _ _ => rfl)) pe_int) (pg_sub (pv 1) pe_int set_list))
    (pss_one (ps_asg (pe_call (ok__law_wide T) hr (by rfl) T.g__law_wide T.F__law_wide.kp T.b__law_wide .nil pass0 (pa_cons (pv 3) pa_nil)) (pg_sub (pv 1) pe_int set_list)))))) pss_nil)
    (pss_cons (ps_set (i := 4) sc__law_take.nd rfl (Or.inl rfl) (pe_op op_zMod (pe_ix ix_seq (pv 1) pe_int (fun _ _ => rfl)) (pv 2)))
    (pss_cons (ps_asg (pe_op op_zDiv (pe_ix ix_seq (pv 1) pe_int (fun _ _ => rfl)) (pv 2)) (pg_sub (pv 1) pe_int set_list))
    (pss_one (ps_ret (pv 4))))))
  · obtain ⟨x0, x1, x2, rfl, h⟩ := n__law_take h
    exact w__law_take h
theorem ok__law_is_set {K : PySem.W.Frag} {mg : Str → Option Value} {base : Heap} {ad : Ad} (T : Txt K mg ad) : FnOk ad.P ad.w K mg base CX0 2 T.f__law_is_set T.d__law_is_set ["thing"] (sp__law_is_set K ad) := by
  refine T.F__law_is_set.ok sc__law_is_set (fun vs H Q E h => ?_) (fun cdv A outer s H vs Q E hr h => ⟨t__law_is_set K ad, ?_, ?_⟩)
  · obtain ⟨x0, rfl, _⟩ := n__law_is_set h
    rfl
  · exact (pss_one (ps_ret (pe_and (pe_callB call_isi (by rfl) T.m_isinstance (by decide +kernel) (pa_cons (pv 0) (pa_cons (pe_bltn (by rfl) T.m_tuple (by decide +kernel) rfl) pa_nil))) (pe_one (pe_cmpR (op_zEq hr.units) (pe_lc (own := [("one", 1)]) rfl sc__law_is_set.nd (pi_tup (pv 0)) (blkOk_by (own := [("one", 1)]) (N := N__law_is_set) (sc := defScope s__law_is_set) (by decide +kernel)) (fun _ _ _ _ _ => (pg_name (i := 1) sc__law_is_set.nd rfl (Or.inl rfl))) (fun _ _ _ _ _ => (pts_one (pt_not (pt_truth (pe_call (ok__law_whole T) hr (by rfl) T.g__law_whole T.F__law_whole.kp T.b__law_whole .nil pass0 (pa_cons (pv 1) pa_nil)) (by intro _; rfl))))) (fun _ _ _ _ _ => pe_int)) (pe_lst pa_nil) (nomark _))))))
  · obtain ⟨x0, rfl, h⟩ := n__law_is_set h
    exact w__law_is_set h
theorem ok_looked {K : PySem.W.Frag} {mg : Str → Option Value} {base : Heap} {ad : Ad} (T : Txt K mg ad) : FnOk ad.P ad.w K mg base CX0 3 T.f_looked T.d_looked ["seats", "sets"] (sp_looked K ad) := by
  refine T.F_looked.ok sc_looked (fun vs H Q E h => ?_) (fun cdv A outer s H vs Q E hr h => ⟨t_looked K ad, ?_, ?_⟩)
  · obtain ⟨x0, x1, rfl, _⟩ := n_looked h
    rfl
  · exact (pss_cons (ps_if (PW.pt (pw_or (pt_cmpR (op_zLt hr.units0) (pv 0) pe_int (nomark _)) (pw_or1 (pt_cmpR op_zGt (pv 0) (pe_glob (by rfl) T.g_SEATS T.r_SEATS) (nomark _))))) (pss_one ps_never) pss_nil)
    (pss_cons (ps_if (pt_cmpR op_zGt (pe_callB cr_zLen (by rfl) T.m_len (by decide +kernel) (pa_cons (pv 1) pa_nil)) (pe_glob (by rfl) T.g_SETS T.r_SETS) (nomark _)) (pss_one ps_never) pss_nil)
    (pss_cons (ps_set (i := 2) sc_looked.nd rfl (Or.inl rfl) (pe_call (ok_fault T) hr (by rfl) T.g_fault T.F_fault.kp T.b_fault .nil pass0 (pa_cons (pv 0) (pa_cons (pv 1) pa_nil))))
    (pss_one (ps_if (pt_cmpR op_zNotN (pv 2) pe_non (nomark _)) (pss_one ps_never) pss_nil)))))
  · obtain ⟨x0, x1, rfl, h⟩ := n_looked h
    exact w_looked h
theorem ok__law_set {K : PySem.W.Frag} {mg : Str → Option Value} {base : Heap} {ad : Ad} (T : Txt K mg ad) : FnOk ad.P ad.w K mg base CX0 3 T.f__law_set T.d__law_set ["script", "pot", "seats"] (sp__law_set K ad) := by
  refine T.F__law_set.ok sc__law_set (fun vs H Q E h => ?_) (fun cdv A outer s H vs Q E hr h => ⟨t__law_set K ad, ?_, ?_⟩)
  · obtain ⟨x0, x1, x2, rfl, _⟩ := n__law_set h
    rfl
  · exact (pss_cons (ps_set (i := 3) sc__law_set.nd rfl (Or.inl rfl) (pe_lst pa_nil))
    (Evl.pss_cut (ps_if (PW.pt (pw_and (pt_cmpR (op_zLt hr.units0) (pv 2) pe_int (nomark _)) (pw_and1 (pt_cmpR (op_zLt hr.units0) (pe_call (ok__law_take T) hr (by rfl) T.g__law_take T.F__law_take.kp T.b__law_take .nil pass0 (pa_cons (pv 0) (pa_cons (pv 1) (pa_cons pe_int pa_nil)))) pe_int (nomark _))))) (pss_one (ps_setLc (i := 3) (own := [("seat", 4)]) rfl sc__law_set.nd rfl rfl (sw_true rfl rfl rfl (by decide +kernel)) (pi_range1 (by rfl) T.m_range (pa_cons (pv 2) pa_nil)) (blkOk_by (own := [("seat", 4)]) (N := N__law_set) (sc := defScope s__law_set) (by decide +kernel)) (fun _ _ _ _ _ => (pg_name (i := 4) sc__law_set.nd rfl (Or.inl rfl))) (fun _ _ _ _ _ => (pts_one (pt_cmpR (op_zEq hr.units) (pe_call (ok__law_take T) hr (by rfl) T.g__law_take T.F__law_take.kp T.b__law_take .nil pass0 (pa_cons (pv 0) (pa_cons (pv 1) (pa_cons pe_int pa_nil)))) pe_int (nomark _)))) (fun _ _ _ _ _ => (pv 4)))) (pss_one (ps_setLc (i := 3) (own := [("k", 5)]) rfl sc__law_set.nd rfl rfl (sw_true rfl rfl rfl (by decide +kernel)) (pi_range1 (by rfl) T.m_range (pa_cons (pe_call (ok__law_take T) hr (by rfl) T.g__law_take T.F__law_take.kp T.b__law_take .nil pass0 (pa_cons (pv 0) (pa_cons (pv 1) (pa_cons pe_int pa_nil)))) pa_nil)) (blkOk_by (own := [("k", 5)]) (N := N__law_set) (sc := defScope s__law_set) (by decide +kernel)) (fun _ _ _ _ _ => (pg_name (i := 5) sc__law_set.nd rfl (Or.inl rfl))) (fun _ _ _ _ _ => pts_nil) (fun _ _ _ _ _ => (pe_call (ok__law_take T) hr (by rfl) T.g__law_take T.F__law_take.kp T.b__law_take .nil pass0 (pa_cons (pv 0) (pa_cons (pv 1) (pa_cons (pv 2) pa_nil))))))))
    (pss_cons (ps_expr (pe_bm PySem.F.plainAttrs_list PySem.F.slot_list_append PySem.F.type_list_append mt_append (pv 3) (pa_cons (pe_call (ok__law_take T) hr (by rfl) T.g__law_take T.F__law_take.kp T.b__law_take .nil pass0 (pa_cons (pv 0) (pa_cons (pv 1) (pa_cons (pv 2) pa_nil)))) pa_nil)))
    (pss_one (ps_ret (pe_callTy cr_zTuple (by rfl) T.m_tuple (by decide +kernel) (pa_cons (pe_callB (cr_zSorted rfl) (by rfl) T.m_sorted (by decide +kernel) (pa_cons (pe_callTy (cr_zSet rfl) (by rfl) T.m_set (by decide +kernel) (pa_cons (pv 3) pa_nil)) pa_nil)) pa_nil)))))))
  · obtain ⟨x0, x1, x2, rfl, h⟩ := n__law_set h
    exact w__law_set h
theorem ok__law_good {K : PySem.W.Frag} {mg : Str → Option Value} {base : Heap} {ad : Ad} (T : Txt K mg ad) : FnOk ad.P ad.w K mg base CX0 3 T.f__law_good T.d__law_good ["script", "pot", "most"] (sp__law_good K ad) := by
  refine T.F__law_good.ok sc__law_good (fun vs H Q E h => ?_) (fun cdv A outer s H vs Q E hr h => ⟨t__law_good K ad, ?_, ?_⟩)
  · obtain ⟨x0, x1, x2, rfl, _⟩ := n__law_good h
    rfl
  · exact (pss_cons (ps_set (i := 3) sc__law_good.nd rfl (Or.inr rfl) (pe_lc (own := [("k", 8)]) rfl sc__law_good.nd (pi_range1 (by rfl) T.m_range (pa_cons (pe_op op_zAdd pe_int (pe_call (ok__law_take T) hr (by rfl) T.g__law_take T.F__law_take.kp T.b__law_take .nil pass0 (pa_cons (pv 0) (pa_cons (pv 1) (pa_cons (pv 2) pa_nil))))) pa_nil)) (blkOk_by (own := [("k", 8)]) (N := N__law_good) (sc := defScope s__law_good) (by decide +kernel)) (fun _ _ _ _ _ => (pg_name (i := 8) sc__law_good.nd rfl (Or.inl rfl))) (fun _ _ _ _ _ => pts_nil) (fun _ _ _ _ _ => (pe_call (ok__law_take T) hr (by rfl) T.g__law_take T.F__law_take.kp T.b__law_take .nil pass0 (pa_cons (pv 0) (pa_cons (pv 1) (pa_cons pe_int pa_nil)))))))
    (Evl.pss_cut (ps_if (pt_cmpR (op_zEq hr.units) (pe_op op_zMod (pe_callB (cr_sum rfl) (by rfl) T.m_sum (by decide +kernel) (pa_cons (pv 3) pa_nil)) pe_int) pe_int (nomark _)) (pss_one (ps_asg (pe_op op_zAdd (pe_ix ix_seq (pv 3) pe_int (fun _ _ => rfl)) pe_int) (pg_sub (pv 3) pe_int set_list))) pss_nil)
    (pss_cons (ps_set (i := 4) sc__law_good.nd rfl (Or.inl rfl) (pe_lst pa_nil))
    (pss_cons (ps_for PassesOwn.never rfl (pi_range1 (by rfl) T.m_range (pa_cons (pe_ix ix_seq (pe_lst (pa_cons pe_int (pa_cons pe_int (pa_cons pe_int (pa_cons pe_int (pa_cons pe_int (pa_cons pe_int pa_nil))))))) (pe_callB cr_zLen (by rfl) T.m_len (by decide +kernel) (pa_cons (pv 3) pa_nil)) (fun _ _ => rfl)) pa_nil)) (pg_name (i := 5) sc__law_good.nd rfl (Or.inr rfl))
    (pss_cons (ps_set (i := 6) sc__law_good.nd rfl (Or.inl rfl) (pe_callTy cr_zTuple (by rfl) T.m_tuple (by decide +kernel) (pa_cons (pe_lc (own := [("seat", 9)]) rfl sc__law_good.nd (pi_range1 (by rfl) T.m_range (pa_cons (pe_callB cr_zLen (by rfl) T.m_len (by decide +kernel) (pa_cons (pv 3) pa_nil)) pa_nil)) (blkOk_by (own := [("seat", 9)]) (N := N__law_good) (sc := defScope s__law_good) (by decide +kernel)) (fun _ _ _ _ _ => (pg_name (i := 9) sc__law_good.nd rfl (Or.inl rfl))) (fun _ _ _ _ _ => (pts_one (pt_cmpR (op_zEq hr.units) (pe_op op_zMod (pe_op op_zDiv (pv 5) (pe_ix ix_seq (pe_lst (pa_cons pe_int (pa_cons pe_int (pa_cons pe_int (pa_cons pe_int (pa_cons pe_int pa_nil)))))) (pv 9) (fun _ _ => rfl))) pe_int) pe_int (nomark _)))) (fun _ _ _ _ _ => (pv 9))) pa_nil)))
    (pss_cons (ps_set (i := 7) sc__law_good.nd rfl (Or.inr rfl) (pe_callB (cr_sum rfl) (by rfl) T.m_sum (by decide +kernel) (pa_cons (pe_lc (own := [("seat", 9)]) rfl sc__law_good.nd (pi_tup (pv 6)) (blkOk_by (own := [("seat", 9)]) (N := N__law_good) (sc := defScope s__law_good) (by decide +kernel)) (fun _ _ _ _ _ => (pg_name (i := 9) sc__law_good.nd rfl (Or.inl rfl))) (fun _ _ _ _ _ => pts_nil) (fun _ _ _ _ _ => (pe_ix ix_seq (pv 3) (pv 9) (fun _ _ => rfl)))) pa_nil)))
    (pss_one (ps_if (pt_cmpR op_zGt (pe_op op_zMul pe_int (pv 7)) (pe_callB (cr_sum rfl) (by rfl) T.m_sum (by decide +kernel) (pa_cons (pv 3) pa_nil)) (nomark _)) (pss_one (ps_if (pt_cmpR (op_zEq hr.units) (pe_lc (own := [("seat", 9)]) rfl sc__law_good.nd (pi_tup (pv 6)) (blkOk_by (own := [("seat", 9)]) (N := N__law_good) (sc := defScope s__law_good) (by decide +kernel)) (fun _ _ _ _ _ => (pg_name (i := 9) sc__law_good.nd rfl (Or.inl rfl))) (fun _ _ _ _ _ => (pts_one (pt_cmpR op_zGt (pe_op op_zMul pe_int (pe_op op_zSub (pv 7) (pe_ix ix_seq (pv 3) (pv 9) (fun _ _ => rfl)))) (pe_callB (cr_sum rfl) (by rfl) T.m_sum (by decide +kernel) (pa_cons (pv 3) pa_nil)) (nomark _)))) (fun _ _ _ _ _ => pe_int)) (pe_lst pa_nil) (nomark _)) (pss_one (ps_expr (pe_bm PySem.F.plainAttrs_list PySem.F.slot_list_append PySem.F.type_list_append mt_append (pv 4) (pa_cons (pv 6) pa_nil)))) pss_nil)) pss_nil)))))
    (pss_one (ps_ret (pe_lst (pa_cons (pe_callB cr_zLen (by rfl) T.m_len (by decide +kernel) (pa_cons (pv 3) pa_nil)) (pa_cons (pv 4) pa_nil)))))))))
  · obtain ⟨x0, x1, x2, rfl, h⟩ := n__law_good h
    exact w__law_good h
theorem ok__law_just_one {K : PySem.W.Frag} {mg : Str → Option Value} {base : Heap} {ad : Ad} (T : Txt K mg ad) : FnOk ad.P ad.w K mg base CX0 3 T.f__law_just_one T.d__law_just_one ["script", "pot", "seats", "sets"] (sp__law_just_one K ad) := by
  refine T.F__law_just_one.ok sc__law_just_one (fun vs H Q E h => ?_) (fun cdv A outer s H vs Q E hr h => ⟨t__law_just_one K ad, ?_, ?_⟩)
  · obtain ⟨x0, x1, x2, x3, rfl, _⟩ := n__law_just_one h
    rfl
  · exact (pss_cons (ps_set (i := 4) sc__law_just_one.nd rfl (Or.inr rfl) (pe_lc (own := [("seat", 6)]) rfl sc__law_just_one.nd (pi_range1 (by rfl) T.m_range (pa_cons (pv 2) pa_nil)) (blkOk_by (own := [("seat", 6)]) (N := N__law_just_one) (sc := defScope s__law_just_one) (by decide +kernel)) (fun _ _ _ _ _ => (pg_name (i := 6) sc__law_just_one.nd rfl (Or.inl rfl))) (fun _ _ _ _ _ => (pts_one (pt_cmpR (op_zEq hr.units) (pe_call (ok__law_take T) hr (by rfl) T.g__law_take T.F__law_take.kp T.b__law_take .nil pass0 (pa_cons (pv 0) (pa_cons (pv 1) (pa_cons pe_int pa_nil)))) pe_int (nomark _)))) (fun _ _ _ _ _ => (pv 6))))
    (pss_cons (ps_setLc (i := 5) (own := [("seat", 6)]) rfl sc__law_just_one.nd rfl rfl (sw_true rfl rfl rfl (by decide +kernel)) (pi_range1 (by rfl) T.m_range (pa_cons (pv 2) pa_nil)) (blkOk_by (own := [("seat", 6)]) (N := N__law_just_one) (sc := defScope s__law_just_one) (by decide +kernel)) (fun _ _ _ _ _ => (pg_name (i := 6) sc__law_just_one.nd rfl (Or.inl rfl))) (fun _ _ _ _ _ => (pts_one (pt_cmpR (op_zNotIn hr.units65) (pv 6) (pv 4) (by rfl)))) (fun _ _ _ _ _ => (pv 6)))
    (pss_one (ps_ret (pe_cmpR (op_zNe hr.units) (pe_call (ok__law_has T) (hr.mono (by decide)) (by rfl) T.g__law_has T.F__law_has.kp T.b__law_has .nil pass0 (pa_cons (pv 4) (pa_cons (pv 3) pa_nil))) (pe_call (ok__law_has T) (hr.mono (by decide)) (by rfl) T.g__law_has T.F__law_has.kp T.b__law_has .nil pass0 (pa_cons (pv 5) (pa_cons (pv 3) pa_nil))) (nomark _))))))
  · obtain ⟨x0, x1, x2, x3, rfl, h⟩ := n__law_just_one h
    exact w__law_just_one h
theorem ok__law_is_well {K : PySem.W.Frag} {mg : Str → Option Value} {base : Heap} {ad : Ad} (T : Txt K mg ad) : FnOk ad.P ad.w K mg base CX0 3 T.f__law_is_well T.d__law_is_well ["seats", "one"] (sp__law_is_well K ad) := by
  refine T.F__law_is_well.ok sc__law_is_well (fun vs H Q E h => ?_) (fun cdv A outer s H vs Q E hr h => ⟨t__law_is_well K ad, ?_, ?_⟩)
  · obtain ⟨x0, x1, rfl, _⟩ := n__law_is_well h
    rfl
  · exact (pss_cons (ps_if (PW.pt (pw_or (pt_not (pt_truth (pe_call (ok__law_is_set T) hr (by rfl) T.g__law_is_set T.F__law_is_set.kp T.b__law_is_set .nil pass0 (pa_cons (pv 1) pa_nil)) (by intro _; rfl))) (pw_or (pt_cmpR (op_zEq hr.units) (pv 1) (pe_tup pa_nil) (nomark _)) (pw_or (pt_cmpR (op_zLt hr.units0) (pe_ix ix_seq (pv 1) pe_int (fun _ _ => rfl)) pe_int (nomark _)) (pw_or1 (pt_cmpR op_zGe (pe_ix ix_seq (pv 1) (pe_op op_zSub (pe_callB cr_zLen (by rfl) T.m_len (by decide +kernel) (pa_cons (pv 1) pa_nil)) pe_int) (fun _ _ => rfl)) (pv 0) (nomark _))))))) (pss_one (ps_ret pe_bl)) pss_nil)
    (pss_one (ps_ret (pe_cmpR (op_zEq hr.units) (pe_lc (own := [("k", 2)]) rfl sc__law_is_well.nd (pi_range1 (by rfl) T.m_range (pa_cons (pe_op op_zSub (pe_callB cr_zLen (by rfl) T.m_len (by decide +kernel) (pa_cons (pv 1) pa_nil)) pe_int) pa_nil)) (blkOk_by (own := [("k", 2)]) (N := N__law_is_well) (sc := defScope s__law_is_well) (by decide +kernel)) (fun _ _ _ _ _ => (pg_name (i := 2) sc__law_is_well.nd rfl (Or.inl rfl))) (fun _ _ _ _ _ => (pts_one (pt_cmpR op_zGe (pe_ix ix_seq (pv 1) (pv 2) (fun _ _ => rfl)) (pe_ix ix_seq (pv 1) (pe_op op_zAdd (pv 2) pe_int) (fun _ _ => rfl)) (nomark _)))) (fun _ _ _ _ _ => pe_int)) (pe_lst pa_nil) (nomark _)))))
  · obtain ⟨x0, x1, rfl, h⟩ := n__law_is_well h
    exact w__law_is_well h
theorem ok__law_nine {K : PySem.W.Frag} {mg : Str → Option Value} {base : Heap} {ad : Ad} (T : Txt K mg ad) : FnOk ad.P ad.w K mg base CX0 3 T.f__law_nine T.d__law_nine ["script", "pot"] (sp__law_nine K ad) := by
  refine T.F__law_nine.ok sc__law_nine (fun vs H Q E h => ?_) (fun cdv A outer s H vs Q E hr h => ⟨t__law_nine K ad, ?_, ?_⟩)
  · obtain ⟨x0, x1, rfl, _⟩ := n__law_nine h
    rfl
  · exact (pss_cons (ps_set (i := 2) sc__law_nine.nd rfl (Or.inl rfl) (pe_lst pa_nil))
    (pss_cons (ps_for PassesOwn.never rfl (pi_range1 (by rfl) T.m_range (pa_cons pe_int pa_nil)) (pg_name (i := 3) sc__law_nine.nd rfl (Or.inl rfl))
    (pss_cons (ps_set (i := 4) sc__law_nine.nd rfl (Or.inl rfl) (pe_call (ok__law_by_number T) (hr.mono (by decide)) (by rfl) T.g__law_by_number T.F__law_by_number.kp T.b__law_by_number .nil pass0 (pa_cons (pv 3) (pa_cons pe_int pa_nil))))
    (pss_one (ps_if (pt_cmpR (op_zEq hr.units) (pe_callB cr_zLen (by rfl) T.m_len (by decide +kernel) (pa_cons (pv 4) pa_nil)) pe_int (nomark _)) (pss_one (ps_expr (pe_bm PySem.F.plainAttrs_list PySem.F.slot_list_append PySem.F.type_list_append mt_append (pv 2) (pa_cons (pe_callTy cr_zTuple (by rfl) T.m_tuple (by decide +kernel) (pa_cons (pv 4) pa_nil)) pa_nil)))) pss_nil))))
    (pss_cons (ps_for PassesOwn.never rfl (pi_range1 (by rfl) T.m_range (pa_cons (pe_call (ok__law_take T) hr (by rfl) T.g__law_take T.F__law_take.kp T.b__law_take .nil pass0 (pa_cons (pv 0) (pa_cons (pv 1) (pa_cons pe_int pa_nil)))) pa_nil)) (pg_name (i := 5) sc__law_nine.nd rfl (Or.inl rfl))
    (pss_one (ps_expr (pe_bm PySem.F.plainAttrs_list PySem.F.slot_list_pop PySem.F.type_list_pop mt_popAt (pv 2) (pa_cons (pe_call (ok__law_take T) hr (by rfl) T.g__law_take T.F__law_take.kp T.b__law_take .nil pass0 (pa_cons (pv 0) (pa_cons (pv 1) (pa_cons (pe_callB cr_zLen (by rfl) T.m_len (by decide +kernel) (pa_cons (pv 2) pa_nil)) pa_nil)))) pa_nil)))))
    (pss_cons (ps_set (i := 6) sc__law_nine.nd rfl (Or.inl rfl) (pe_call (ok__law_take T) hr (by rfl) T.g__law_take T.F__law_take.kp T.b__law_take .nil pass0 (pa_cons (pv 0) (pa_cons (pv 1) (pa_cons (pe_callB cr_zLen (by rfl) T.m_len (by decide +kernel) (pa_cons (pv 2) pa_nil)) pa_nil)))))
    (pss_one (ps_ret (pe_op op_zAdd (pe_slice sl_z (pv 2) (po_some (pv 6)) po_none) (pe_slice sl_z (pv 2) po_none (po_some (pv 6))))))))))
  · obtain ⟨x0, x1, rfl, h⟩ := n__law_nine h
    exact w__law_nine h
theorem ok_rows_of {K : PySem.W.Frag} {mg : Str → Option Value} {base : Heap} {ad : Ad} (T : Txt K mg ad) : FnOk ad.P ad.w K mg base CX0 4 T.f_rows_of T.d_rows_of ["seats", "sets"] (sp_rows_of K ad) := by
  refine T.F_rows_of.ok sc_rows_of (fun vs H Q E h => ?_) (fun cdv A outer s H vs Q E hr h => ⟨t_rows_of K ad, ?_, ?_⟩)
  · obtain ⟨x0, x1, rfl, _⟩ := n_rows_of h
    rfl
  · exact (pss_cons (ps_expr (pe_call (ok_looked T) hr (by rfl) T.g_looked T.F_looked.kp T.b_looked .nil pass0 (pa_cons (pv 0) (pa_cons (pv 1) pa_nil))))
    (pss_cons (ps_if (pt_cmpR op_zGt (pv 0) (pe_glob (by rfl) T.g_FEW T.r_FEW) (nomark _)) (pss_one ps_never) pss_nil)
    (pss_cons (ps_setLc (i := 2) (own := [("one", 4)]) rfl sc_rows_of.nd rfl rfl (sw_true rfl rfl rfl (by decide +kernel)) (pi_list (pv 1)) (blkOk_by (own := [("one", 4)]) (N := N_rows_of) (sc := defScope s_rows_of) (by decide +kernel)) (fun _ _ _ _ _ => (pg_name (i := 4) sc_rows_of.nd rfl (Or.inl rfl))) (fun _ _ _ _ _ => pts_nil) (fun _ _ _ _ _ => (pe_call (ok_bits_of T) (hr.mono (by decide)) (by rfl) T.g_bits_of T.F_bits_of.kp T.b_bits_of .nil pass0 (pa_cons (pv 4) pa_nil))))
    (pss_cons (ps_set (i := 3) sc_rows_of.nd rfl (Or.inl rfl) (pe_call (ok_first_apart T) (hr.mono (by decide)) (by rfl) T.g_first_apart T.F_first_apart.kp T.b_first_apart .nil pass0 (pa_cons (pv 2) pa_nil)))
    (pss_cons (ps_if (pt_cmpR op_zNotN (pv 3) pe_non (nomark _)) (pss_one ps_never) pss_nil)
    (pss_one (ps_ret (pv 2))))))))
  · obtain ⟨x0, x1, rfl, h⟩ := n_rows_of h
    exact w_rows_of h
theorem ok__law_family {K : PySem.W.Frag} {mg : Str → Option Value} {base : Heap} {ad : Ad} (T : Txt K mg ad) : FnOk ad.P ad.w K mg base CX0 4 T.f__law_family T.d__law_family ["script", "pot", "seats", "most"] (sp__law_family K ad) := by
  refine T.F__law_family.ok sc__law_family (fun vs H Q E h => ?_) (fun cdv A outer s H vs Q E hr h => ⟨t__law_family K ad, ?_, ?_⟩)
  · obtain ⟨x0, x1, x2, x3, rfl, _⟩ := n__law_family h
    rfl
  · exact (pss_cons (ps_set (i := 4) sc__law_family.nd rfl (Or.inl rfl) (pe_lst pa_nil))
    (pss_cons (ps_for PassesOwn.never rfl (pi_range1 (by rfl) T.m_range (pa_cons (pe_call (ok__law_take T) (hr.mono (by decide)) (by rfl) T.g__law_take T.F__law_take.kp T.b__law_take .nil pass0 (pa_cons (pv 0) (pa_cons (pv 1) (pa_cons (pe_op op_zAdd (pv 3) pe_int) pa_nil)))) pa_nil)) (pg_name (i := 5) sc__law_family.nd rfl (Or.inl rfl))
    (pss_cons (ps_set (i := 6) sc__law_family.nd rfl (Or.inl rfl) (pe_call (ok__law_set T) hr (by rfl) T.g__law_set T.F__law_set.kp T.b__law_set .nil pass0 (pa_cons (pv 0) (pa_cons (pv 1) (pa_cons (pv 2) pa_nil)))))
    (pss_one (ps_if (pt_cmpR (op_zNotIn hr.units65) (pv 6) (pv 4) (by rfl)) (pss_one (ps_expr (pe_bm PySem.F.plainAttrs_list PySem.F.slot_list_append PySem.F.type_list_append mt_append (pv 4) (pa_cons (pv 6) pa_nil)))) pss_nil))))
    (pss_one (ps_ret (pv 4)))))
  · obtain ⟨x0, x1, x2, x3, rfl, h⟩ := n__law_family h
    exact w__law_family h
theorem ok__law_full {K : PySem.W.Frag} {mg : Str → Option Value} {base : Heap} {ad : Ad} (T : Txt K mg ad) : FnOk ad.P ad.w K mg base CX0 4 T.f__law_full T.d__law_full ["script", "pot", "seats", "sets"] (sp__law_full K ad) := by
  refine T.F__law_full.ok sc__law_full (fun vs H Q E h => ?_) (fun cdv A outer s H vs Q E hr h => ⟨t__law_full K ad, ?_, ?_⟩)
  · obtain ⟨x0, x1, x2, x3, rfl, _⟩ := n__law_full h
    rfl
  · exact (pss_cons (ps_for PassesOwn.never rfl (pi_range1 (by rfl) T.m_range (pa_cons pe_int pa_nil)) (pg_name (i := 4) sc__law_full.nd rfl (Or.inl rfl))
    (pss_one (ps_if (pt_not (pt_truth (pe_call (ok__law_just_one T) hr (by rfl) T.g__law_just_one T.F__law_just_one.kp T.b__law_just_one .nil pass0 (pa_cons (pv 0) (pa_cons (pv 1) (pa_cons (pv 2) (pa_cons (pv 3) pa_nil))))) (by intro _; rfl))) (pss_one (ps_ret pe_bl)) pss_nil)))
    (pss_cons (ps_if (pt_cmpR op_zGt (pv 2) pe_int (nomark _)) (pss_one (ps_ret pe_bl)) pss_nil)
    (pss_cons (ps_for PassesOwn.never rfl (pi_range1 (by rfl) T.m_range (pa_cons (pe_ix ix_seq (pe_lst (pa_cons pe_int (pa_cons pe_int (pa_cons pe_int (pa_cons pe_int (pa_cons pe_int (pa_cons pe_int (pa_cons pe_int pa_nil)))))))) (pv 2) (fun _ _ => rfl)) pa_nil)) (pg_name (i := 5) sc__law_full.nd rfl (Or.inl rfl))
    (pss_cons (ps_set (i := 6) sc__law_full.nd rfl (Or.inr rfl) (pe_call (ok__law_by_number T) (hr.mono (by decide)) (by rfl) T.g__law_by_number T.F__law_by_number.kp T.b__law_by_number .nil pass0 (pa_cons (pv 5) (pa_cons (pv 2) pa_nil))))
    (pss_cons (ps_setLc (i := 7) (own := [("seat", 8)]) rfl sc__law_full.nd rfl rfl (sw_true rfl rfl rfl (by decide +kernel)) (pi_range1 (by rfl) T.m_range (pa_cons (pv 2) pa_nil)) (blkOk_by (own := [("seat", 8)]) (N := N__law_full) (sc := defScope s__law_full) (by decide +kernel)) (fun _ _ _ _ _ => (pg_name (i := 8) sc__law_full.nd rfl (Or.inl rfl))) (fun _ _ _ _ _ => (pts_one (pt_cmpR (op_zNotIn hr.units65) (pv 8) (pv 6) (by rfl)))) (fun _ _ _ _ _ => (pv 8)))
    (pss_one (ps_if (pt_cmpR (op_zEq hr.units) (pe_call (ok__law_has T) (hr.mono (by decide)) (by rfl) T.g__law_has T.F__law_has.kp T.b__law_has .nil pass0 (pa_cons (pv 6) (pa_cons (pv 3) pa_nil))) (pe_call (ok__law_has T) (hr.mono (by decide)) (by rfl) T.g__law_has T.F__law_has.kp T.b__law_has .nil pass0 (pa_cons (pv 7) (pa_cons (pv 3) pa_nil))) (nomark _)) (pss_one (ps_ret pe_bl)) pss_nil)))))
    (pss_one (ps_ret pe_bl)))))
  · obtain ⟨x0, x1, x2, x3, rfl, h⟩ := n__law_full h
    exact w__law_full h
theorem ok__law_wider {K : PySem.W.Frag} {mg : Str → Option Value} {base : Heap} {ad : Ad} (T : Txt K mg ad) : FnOk ad.P ad.w K mg base CX0 4 T.f__law_wider T.d__law_wider ["script", "pot", "seats", "sets"] (sp__law_wider K ad) := by
  refine T.F__law_wider.ok sc__law_wider (fun vs H Q E h => ?_) (fun cdv A outer s H vs Q E hr h => ⟨t__law_wider K ad, ?_, ?_⟩)
  · obtain ⟨x0, x1, x2, x3, rfl, _⟩ := n__law_wider h
    rfl
  · exact (pss_cons (ps_set (i := 4) sc__law_wider.nd rfl (Or.inl rfl) (pe_callTy cr_zList (by rfl) T.m_list (by decide +kernel) (pa_cons (pv 3) pa_nil)))
    (pss_cons (ps_for PassesOwn.never rfl (pi_range1 (by rfl) T.m_range (pa_cons (pe_call (ok__law_take T) (hr.mono (by decide)) (by rfl) T.g__law_take T.F__law_take.kp T.b__law_take .nil pass0 (pa_cons (pv 0) (pa_cons (pv 1) (pa_cons pe_int pa_nil)))) pa_nil)) (pg_name (i := 5) sc__law_wider.nd rfl (Or.inl rfl))
    (pss_one (ps_if (pt_cmpR (op_zNe hr.units) (pv 4) (pe_lst pa_nil) (nomark _)) (pss_cons (ps_set (i := 6) sc__law_wider.nd rfl (Or.inl rfl) (pe_callTy cr_zTuple (by rfl) T.m_tuple (by decide +kernel) (pa_cons (pe_callB (cr_zSorted rfl) (by rfl) T.m_sorted (by decide +kernel) (pa_cons (pe_callTy (cr_zSet rfl) (by rfl) T.m_set (by decide +kernel) (pa_cons (pe_op op_zAdd (pe_ix ix_seq (pv 4) (pe_call (ok__law_take T) (hr.mono (by decide)) (by rfl) T.g__law_take T.F__law_take.kp T.b__law_take .nil pass0 (pa_cons (pv 0) (pa_cons (pv 1) (pa_cons (pe_callB cr_zLen (by rfl) T.m_len (by decide +kernel) (pa_cons (pv 4) pa_nil)) pa_nil)))) (fun _ _ => rfl)) (pe_call (ok__law_set T) hr (by rfl) T.g__law_set T.F__law_set.kp T.b__law_set .nil pass0 (pa_cons (pv 0) (pa_cons (pv 1) (pa_cons (pv 2) pa_nil))))) pa_nil)) pa_nil)) pa_nil)))
    (pss_one (ps_if (pt_cmpR (op_zNotIn hr.units65) (pv 6) (pv 4) (by rfl)) (pss_one (ps_expr (pe_bm PySem.F.plainAttrs_list PySem.F.slot_list_insert PySem.F.type_list_insert mt_zInsert (pv 4) (pa_cons (pe_call (ok__law_take T) (hr.mono (by decide)) (by rfl) T.g__law_take T.F__law_take.kp T.b__law_take .nil pass0 (pa_cons (pv 0) (pa_cons (pv 1) (pa_cons (pe_op op_zAdd (pe_callB cr_zLen (by rfl) T.m_len (by decide +kernel) (pa_cons (pv 4) pa_nil)) pe_int) pa_nil)))) (pa_cons (pv 6) pa_nil))))) pss_nil))) pss_nil)))
    (pss_one (ps_ret (pv 4)))))
  · obtain ⟨x0, x1, x2, x3, rfl, h⟩ := n__law_wider h
    exact w__law_wider h
theorem ok_bettered {K : PySem.W.Frag} {mg : Str → Option Value} {base : Heap} {ad : Ad} (T : Txt K mg ad) : FnOk ad.P ad.w K mg base CX0 5 T.f_bettered T.d_bettered ["seats", "sets"] (sp_bettered K ad) := by
  refine T.F_bettered.ok sc_bettered (fun vs H Q E h => ?_) (fun cdv A outer s H vs Q E hr h => ⟨t_bettered K ad, ?_, ?_⟩)
  · obtain ⟨x0, x1, rfl, _⟩ := n_bettered h
    rfl
  · exact (pss_cons (ps_set (i := 2) sc_bettered.nd rfl (Or.inl rfl) (pe_call (ok_least_of T) (hr.mono (by decide)) (by rfl) T.g_least_of T.F_least_of.kp T.b_least_of .nil pass0 (pa_cons (pe_call (ok_rows_of T) hr (by rfl) T.g_rows_of T.F_rows_of.kp T.b_rows_of .nil pass0 (pa_cons (pv 0) (pa_cons (pv 1) pa_nil))) pa_nil)))
    (pss_cons (ps_for PassesOwn.never rfl (pi_range2 (by rfl) T.m_range (pa_cons pe_int (pa_cons (pe_op op_zShl pe_int (pv 0)) pa_nil))) (pg_name (i := 3) sc_bettered.nd rfl (Or.inr rfl))
    (pss_one (ps_if (pt_truth (pe_call (ok_is_new T) (hr.mono (by decide)) (by rfl) T.g_is_new T.F_is_new.kp T.b_is_new .nil pass0 (pa_cons (pv 2) (pa_cons (pv 3) pa_nil))) (by intro _; rfl)) (pss_cons (ps_setLc (i := 2) (own := [("one", 4)]) rfl sc_bettered.nd rfl rfl (sw_true rfl rfl rfl (by decide +kernel)) (pi_list (pv 2)) (blkOk_by (own := [("one", 4)]) (N := N_bettered) (sc := defScope s_bettered) (by decide +kernel)) (fun _ _ _ _ _ => (pg_name (i := 4) sc_bettered.nd rfl (Or.inl rfl))) (fun _ _ _ _ _ => (pts_one (pt_cmpR (op_zNe hr.units) (pe_op op_zAnd (pv 4) (pv 3)) (pv 3) (nomark _)))) (fun _ _ _ _ _ => (pv 4)))
    (pss_one (ps_expr (pe_bm PySem.F.plainAttrs_list PySem.F.slot_list_append PySem.F.type_list_append mt_append (pv 2) (pa_cons (pv 3) pa_nil))))) pss_nil)))
    (pss_one (ps_ret (pe_lc (own := [("one", 4)]) rfl sc_bettered.nd (pi_list (pv 2)) (blkOk_by (own := [("one", 4)]) (N := N_bettered) (sc := defScope s_bettered) (by decide +kernel)) (fun _ _ _ _ _ => (pg_name (i := 4) sc_bettered.nd rfl (Or.inl rfl))) (fun _ _ _ _ _ => pts_nil) (fun _ _ _ _ _ => (pe_call (ok_seats_in T) (hr.mono (by decide)) (by rfl) T.g_seats_in T.F_seats_in.kp T.b_seats_in .nil pass0 (pa_cons (pv 4) pa_nil))))))))
  · obtain ⟨x0, x1, rfl, h⟩ := n_bettered h
    exact w_bettered h
theorem ok__law_meeting {K : PySem.W.Frag} {mg : Str → Option Value} {base : Heap} {ad : Ad} (T : Txt K mg ad) : FnOk ad.P ad.w K mg base CX0 5 T.f__law_meeting T.d__law_meeting ["script", "pot", "seats", "most"] (sp__law_meeting K ad) := by
  refine T.F__law_meeting.ok sc__law_meeting (fun vs H Q E h => ?_) (fun cdv A outer s H vs Q E hr h => ⟨t__law_meeting K ad, ?_, ?_⟩)
  · obtain ⟨x0, x1, x2, x3, rfl, _⟩ := n__law_meeting h
    rfl
  · exact (pss_cons (ps_set (i := 4) sc__law_meeting.nd rfl (Or.inl rfl) (pe_lst pa_nil))
    (pss_cons (ps_for PassesOwn.never rfl (pi_list (pe_call (ok__law_family T) hr (by rfl) T.g__law_family T.F__law_family.kp T.b__law_family .nil pass0 (pa_cons (pv 0) (pa_cons (pv 1) (pa_cons (pv 2) (pa_cons (pv 3) pa_nil)))))) (pg_name (i := 5) sc__law_meeting.nd rfl (Or.inr rfl))
    (pss_one (ps_if (pt_cmpR (op_zEq hr.units) (pe_lc (own := [("other", 6)]) rfl sc__law_meeting.nd (pi_list (pv 4)) (blkOk_by (own := [("other", 6)]) (N := N__law_meeting) (sc := defScope s__law_meeting) (by decide +kernel)) (fun _ _ _ _ _ => (pg_name (i := 6) sc__law_meeting.nd rfl (Or.inr rfl))) (fun _ _ _ _ _ => (pts_one (pt_cmpR (op_zEq hr.units) (pe_lc (own := [("seat", 7)]) rfl sc__law_meeting.nd (pi_tup (pv 5)) (blkOk_by (own := [("seat", 7)]) (N := N__law_meeting) (sc := ({ kind := .function, names := [(".0", .local), ("other", .cell), ("one", .cell)], isGenerator := false, isCoroutine := false, more := [] } : Scope)) (by decide +kernel)) (fun _ _ _ _ _ => (pg_name (i := 7) sc__law_meeting.nd rfl (Or.inl rfl))) (fun _ _ _ _ _ => (pts_one (pt_cmpR (op_zIn hr.units65) (pv 7) (pv 6) (by rfl)))) (fun _ _ _ _ _ => pe_int)) (pe_lst pa_nil) (nomark _)))) (fun _ _ _ _ _ => pe_int)) (pe_lst pa_nil) (nomark _)) (pss_one (ps_expr (pe_bm PySem.F.plainAttrs_list PySem.F.slot_list_append PySem.F.type_list_append mt_append (pv 4) (pa_cons (pv 5) pa_nil)))) pss_nil)))
    (pss_one (ps_ret (pv 4)))))
  · obtain ⟨x0, x1, x2, x3, rfl, h⟩ := n__law_meeting h
    exact w__law_meeting h
theorem ok__law_right {K : PySem.W.Frag} {mg : Str → Option Value} {base : Heap} {ad : Ad} (T : Txt K mg ad) : FnOk ad.P ad.w K mg base CX0 6 T.f__law_right T.d__law_right ["script", "pot", "seats", "sets"] (sp__law_right K ad) := by
  refine T.F__law_right.ok sc__law_right (fun vs H Q E h => ?_) (fun cdv A outer s H vs Q E hr h => ⟨t__law_right K ad, ?_, ?_⟩)
  · obtain ⟨x0, x1, x2, x3, rfl, _⟩ := n__law_right h
    rfl
  · exact (pss_cons (ps_set (i := 4) sc__law_right.nd rfl (Or.inl rfl) (pe_callTy cr_zList (by rfl) T.m_list (by decide +kernel) (pa_cons (pv 3) pa_nil)))
    (pss_cons (ps_set (i := 5) sc__law_right.nd rfl (Or.inr rfl) (pe_call (ok_bettered T) hr (by rfl) T.g_bettered T.F_bettered.kp T.b_bettered .nil pass0 (pa_cons (pv 2) (pa_cons (pv 4) pa_nil))))
    (pss_cons (ps_if (PW.pt (pw_or (pt_cmpR (op_zNe hr.units) (pv 4) (pv 3) (nomark _)) (pw_or (pt_not (pt_truth (pe_callB call_isi (by rfl) T.m_isinstance (by decide +kernel) (pa_cons (pv 5) (pa_cons (pe_bltn (by rfl) T.m_list (by decide +kernel) rfl) pa_nil))) (by intro _; rfl))) (pw_or1 (pt_cmpR (op_zNe hr.units) (pe_lc (own := [("one", 6)]) rfl sc__law_right.nd (pi_list (pv 5)) (blkOk_by (own := [("one", 6)]) (N := N__law_right) (sc := defScope s__law_right) (by decide +kernel)) (fun _ _ _ _ _ => (pg_name (i := 6) sc__law_right.nd rfl (Or.inl rfl))) (fun _ _ _ _ _ => (pts_one (pt_not (pt_truth (pe_call (ok__law_is_well T) (hr.mono (by decide)) (by rfl) T.g__law_is_well T.F__law_is_well.kp T.b__law_is_well .nil pass0 (pa_cons (pv 2) (pa_cons (pv 6) pa_nil))) (by intro _; rfl))))) (fun _ _ _ _ _ => pe_int)) (pe_lst pa_nil) (nomark _)))))) (pss_one (ps_ret pe_non)) pss_nil)
    (pss_cons (ps_for PassesOwn.never rfl (pi_range1 (by rfl) T.m_range (pa_cons (pe_callB cr_zLen (by rfl) T.m_len (by decide +kernel) (pa_cons (pv 5) pa_nil)) pa_nil)) (pg_name (i := 7) sc__law_right.nd rfl (Or.inr rfl))
    (pss_one (ps_for PassesOwn.never rfl (pi_list (pe_slice sl_z (pv 5) po_none (po_some (pv 7)))) (pg_name (i := 6) sc__law_right.nd rfl (Or.inl rfl))
    (pss_cons (ps_if (PW.pt (pw_or (pt_truth (pe_call (ok__law_holds T) (hr.mono (by decide)) (by rfl) T.g__law_holds T.F__law_holds.kp T.b__law_holds .nil pass0 (pa_cons (pv 6) (pa_cons (pe_ix ix_seq (pv 5) (pv 7) (fun _ _ => rfl)) pa_nil))) (by intro _; rfl)) (pw_or1 (pt_truth (pe_call (ok__law_holds T) (hr.mono (by decide)) (by rfl) T.g__law_holds T.F__law_holds.kp T.b__law_holds .nil pass0 (pa_cons (pe_ix ix_seq (pv 5) (pv 7) (fun _ _ => rfl)) (pa_cons (pv 6) pa_nil))) (by intro _; rfl))))) (pss_one (ps_ret pe_non)) pss_nil)
    (pss_one (ps_if (pt_cmpR (op_zEq hr.units) (pe_lc (own := [("seat", 9)]) rfl sc__law_right.nd (pi_tup (pv 6)) (blkOk_by (own := [("seat", 9)]) (N := N__law_right) (sc := defScope s__law_right) (by decide +kernel)) (fun _ _ _ _ _ => (pg_name (i := 9) sc__law_right.nd rfl (Or.inl rfl))) (fun _ _ _ _ _ => (pts_one (pt_cmpR (op_zIn hr.units65) (pv 9) (pe_ix ix_seq (pv 5) (pv 7) (fun _ _ => rfl)) (by rfl)))) (fun _ _ _ _ _ => pe_int)) (pe_lst pa_nil) (nomark _)) (pss_one (ps_ret pe_non)) pss_nil))))))
    (pss_cons (ps_if (PW.pt (pw_or (pt_cmpR (op_zNe hr.units) (pe_lc (own := [("one", 6)]) rfl sc__law_right.nd (pi_list (pv 3)) (blkOk_by (own := [("one", 6)]) (N := N__law_right) (sc := defScope s__law_right) (by decide +kernel)) (fun _ _ _ _ _ => (pg_name (i := 6) sc__law_right.nd rfl (Or.inl rfl))) (fun _ _ _ _ _ => (pts_one (pt_not (pt_truth (pe_call (ok__law_has T) (hr.mono (by decide)) (by rfl) T.g__law_has T.F__law_has.kp T.b__law_has .nil pass0 (pa_cons (pv 6) (pa_cons (pv 5) pa_nil))) (by intro _; rfl))))) (fun _ _ _ _ _ => pe_int)) (pe_lst pa_nil) (nomark _)) (pw_or1 (pt_not (pt_truth (pe_call (ok__law_full T) (hr.mono (by decide)) (by rfl) T.g__law_full T.F__law_full.kp T.b__law_full .nil pass0 (pa_cons (pv 0) (pa_cons (pv 1) (pa_cons (pv 2) (pa_cons (pv 5) pa_nil))))) (by intro _; rfl)))))) (pss_one (ps_ret pe_non)) pss_nil)
    (pss_cons (ps_if (pt_cmpR (op_zNe hr.units) (pe_call (ok_bettered T) hr (by rfl) T.g_bettered T.F_bettered.kp T.b_bettered .nil pass0 (pa_cons (pv 2) (pa_cons (pv 4) pa_nil))) (pv 5) (nomark _)) (pss_one (ps_ret pe_non)) pss_nil)
    (pss_cons (ps_set (i := 8) sc__law_right.nd rfl (Or.inl rfl) (pe_callTy cr_zList (by rfl) T.m_list (by decide +kernel) (pa_cons (pv 5) pa_nil)))
    (pss_cons (ps_expr (pe_bm PySem.F.plainAttrs_list PySem.F.slot_list_append PySem.F.type_list_append mt_append (pv 5) (pa_cons (pe_tup pa_nil) pa_nil)))
    (pss_cons (ps_if (pt_cmpR (op_zNe hr.units) (pv 4) (pv 3) (nomark _)) (pss_one (ps_ret pe_non)) pss_nil)
    (pss_one (ps_ret (pv 8))))))))))))
  · obtain ⟨x0, x1, x2, x3, rfl, h⟩ := n__law_right h
    exact w__law_right h
theorem ok_law {K : PySem.W.Frag} {mg : Str → Option Value} {base : Heap} {ad : Ad} (T : Txt K mg ad) : FnOk ad.P ad.w K mg base CX0 7 T.f_law T.d_law ["script"] (sp_law K ad) := by
  refine T.F_law.ok sc_law (fun vs H Q E h => ?_) (fun cdv A outer s H vs Q E hr h => ⟨t_law K ad, ?_, ?_⟩)
  · obtain ⟨x0, rfl, _⟩ := n_law h
    rfl
  · exact (pss_cons (ps_set (i := 1) sc_law.nd rfl (Or.inl rfl) (pe_lst (pa_cons pe_int (pa_cons pe_int pa_nil))))
    (pss_cons (ps_for PassesOwn.never rfl (pi_range1 (by rfl) T.m_range (pa_cons pe_int pa_nil)) (pg_name (i := 2) sc_law.nd rfl (Or.inl rfl))
    (pss_cons (ps_set (i := 3) sc_law.nd rfl (Or.inl rfl) (pe_op op_zAdd pe_int (pe_call (ok__law_take T) (hr.mono (by decide)) (by rfl) T.g__law_take T.F__law_take.kp T.b__law_take .nil pass0 (pa_cons (pv 0) (pa_cons (pv 1) (pa_cons pe_int pa_nil))))))
    (pss_cons (ps_set (i := 4) sc_law.nd rfl (Or.inl rfl) pe_int)
    (Evl.pss_cut (ps_if (pt_cmpR (op_zEq hr.units) (pv 2) pe_int (nomark _)) (pss_one (ps_set (i := 4) sc_law.nd rfl (Or.inl rfl) (pe_call (ok__law_take T) (hr.mono (by decide)) (by rfl) T.g__law_take T.F__law_take.kp T.b__law_take .nil pass0 (pa_cons (pv 0) (pa_cons (pv 1) (pa_cons pe_int pa_nil)))))) pss_nil)
    (Evl.pss_cut (ps_if (pt_cmpR (op_zEq hr.units) (pv 4) pe_int (nomark _)) (pss_one (ps_set (i := 3) sc_law.nd rfl (Or.inl rfl) pe_int)) pss_nil)
    (pss_cons (ps_set (i := 5) sc_law.nd rfl (Or.inl rfl) (pe_call (ok__law_wider T) (hr.mono (by decide)) (by rfl) T.g__law_wider T.F__law_wider.kp T.b__law_wider .nil pass0 (pa_cons (pv 0) (pa_cons (pv 1) (pa_cons (pv 3) (pa_cons (pe_call (ok__law_meeting T) (hr.mono (by decide)) (by rfl) T.g__law_meeting T.F__law_meeting.kp T.b__law_meeting .nil pass0 (pa_cons (pv 0) (pa_cons (pv 1) (pa_cons (pv 3) (pa_cons pe_int pa_nil))))) pa_nil))))))
    (Evl.pss_cut (ps_if (pt_cmpR (op_zEq hr.units) (pv 4) pe_int (nomark _)) (pss_cons (ps_set (i := 3) sc_law.nd rfl (Or.inl rfl) pe_int)
    (pss_one (ps_set (i := 5) sc_law.nd rfl (Or.inl rfl) (pe_call (ok__law_nine T) (hr.mono (by decide)) (by rfl) T.g__law_nine T.F__law_nine.kp T.b__law_nine .nil pass0 (pa_cons (pv 0) (pa_cons (pv 1) pa_nil)))))) pss_nil)
    (pss_cons (ps_set (i := 6) sc_law.nd rfl (Or.inl rfl) (pe_call (ok__law_right T) hr (by rfl) T.g__law_right T.F__law_right.kp T.b__law_right .nil pass0 (pa_cons (pv 0) (pa_cons (pv 1) (pa_cons (pv 3) (pa_cons (pv 5) pa_nil))))))
    (pss_cons (ps_if (pt_cmpR op_zIsN (pv 6) pe_non (nomark _)) (pss_one (ps_ret pe_bl)) pss_nil)
    (pss_cons (ps_set (i := 7) sc_law.nd rfl (Or.inl rfl) (pe_call (ok__law_take T) (hr.mono (by decide)) (by rfl) T.g__law_take T.F__law_take.kp T.b__law_take .nil pass0 (pa_cons (pv 0) (pa_cons (pv 1) (pa_cons (pe_op op_zAdd (pe_callB cr_zLen (by rfl) T.m_len (by decide +kernel) (pa_cons (pv 6) pa_nil)) pe_int) pa_nil)))))
    (pss_cons (ps_if (pt_cmpR (op_zNe hr.units) (pe_callB cr_sortedTI (by rfl) T.m_sorted (by decide +kernel) (pa_cons (pe_call (ok_bettered T) (hr.mono (by decide)) (by rfl) T.g_bettered T.F_bettered.kp T.b_bettered .nil pass0 (pa_cons (pv 3) (pa_cons (pe_op op_zAdd (pe_slice sl_z (pv 6) (po_some (pv 7)) po_none) (pe_slice sl_z (pv 6) po_none (po_some (pv 7)))) pa_nil))) pa_nil)) (pe_callB cr_sortedTI (by rfl) T.m_sorted (by decide +kernel) (pa_cons (pv 6) pa_nil)) (nomark _)) (pss_one (ps_ret pe_bl)) pss_nil)
    (pss_cons (ps_asg (pe_call (ok__law_good T) (hr.mono (by decide)) (by rfl) T.g__law_good T.F__law_good.kp T.b__law_good .nil pass0 (pa_cons (pv 0) (pa_cons (pv 1) (pa_cons pe_int pa_nil)))) (pg_lst rfl (pgs_cons (pg_name (i := 3) sc_law.nd rfl (Or.inl rfl)) (pgs_cons (pg_name (i := 5) sc_law.nd rfl (Or.inl rfl)) pgs_nil))))
    (pss_cons (ps_set (i := 6) sc_law.nd rfl (Or.inl rfl) (pe_call (ok__law_right T) hr (by rfl) T.g__law_right T.F__law_right.kp T.b__law_right .nil pass0 (pa_cons (pv 0) (pa_cons (pv 1) (pa_cons (pv 3) (pa_cons (pe_call (ok__law_wider T) (hr.mono (by decide)) (by rfl) T.g__law_wider T.F__law_wider.kp T.b__law_wider .nil pass0 (pa_cons (pv 0) (pa_cons (pv 1) (pa_cons (pv 3) (pa_cons (pv 5) pa_nil))))) pa_nil))))))
    (pss_cons (ps_if (PW.pt (pw_or (pt_cmpR op_zIsN (pv 6) pe_non (nomark _)) (pw_or1 (pt_cmpR (op_zNe hr.units) (pe_callB cr_sortedTI (by rfl) T.m_sorted (by decide +kernel) (pa_cons (pv 6) pa_nil)) (pe_callB cr_sortedTI (by rfl) T.m_sorted (by decide +kernel) (pa_cons (pv 5) pa_nil)) (nomark _))))) (pss_one (ps_ret pe_bl)) pss_nil)
    (pss_one (ps_if (pt_cmpR op_zGe (pe_ix ix_seq (pv 1) pe_int (fun _ _ => rfl)) (pe_callB cr_zLen (by rfl) T.m_len (by decide +kernel) (pa_cons (pv 0) pa_nil)) (nomark _)) (pss_one (ps_ret pe_bl)) pss_nil))))))))))))))))
    (pss_one (ps_ret pe_bl))))
  · obtain ⟨x0, rfl, h⟩ := n_law h
    exact w_law h
theorem all_mk {l : PySem.W.OpenLaw} {w : World} {K : PySem.W.Frag} {h : Heap} {mg : Str → Option Value} {fa : Addr} (X : K.In h) (G : h.Ns mainGlobals mg) (hfa : mg "law" = some (.ref fa))
    {f_word_of : Addr} {oc_word_of kV_word_of dc_word_of pm_word_of cd_word_of ct_word_of : Value} {od_word_of an_word_of : Option Addr} {sl_word_of : Array (Option Value)}
    (a_word_of : PySem.W.nsIn K mainGlobals "word_of" = some (some (.ref f_word_of)))
    (l_word_of : K.lookup f_word_of = some ⟨oc_word_of, od_word_of, .func (PySem.W.fnOf "word_of" "word_of" (defArgs s_word_of) (defBody s_word_of) (defScope s_word_of) .none kV_word_of dc_word_of pm_word_of an_word_of cd_word_of ct_word_of), sl_word_of⟩) (c_word_of : PySem.W.codeIn K cd_word_of "word_of" = true) (k_word_of : PySem.W.keepIn K (.ref f_word_of) = true)
    {f_fault : Addr} {oc_fault kV_fault dc_fault pm_fault cd_fault ct_fault : Value} {od_fault an_fault : Option Addr} {sl_fault : Array (Option Value)}
    (a_fault : PySem.W.nsIn K mainGlobals "fault" = some (some (.ref f_fault)))
    (l_fault : K.lookup f_fault = some ⟨oc_fault, od_fault, .func (PySem.W.fnOf "fault" "fault" (defArgs s_fault) (defBody s_fault) (defScope s_fault) .none kV_fault dc_fault pm_fault an_fault cd_fault ct_fault), sl_fault⟩) (c_fault : PySem.W.codeIn K cd_fault "fault" = true) (k_fault : PySem.W.keepIn K (.ref f_fault) = true)
    {f_looked : Addr} {oc_looked kV_looked dc_looked pm_looked cd_looked ct_looked : Value} {od_looked an_looked : Option Addr} {sl_looked : Array (Option Value)}
    (a_looked : PySem.W.nsIn K mainGlobals "looked" = some (some (.ref f_looked)))
    (l_looked : K.lookup f_looked = some ⟨oc_looked, od_looked, .func (PySem.W.fnOf "looked" "looked" (defArgs s_looked) (defBody s_looked) (defScope s_looked) .none kV_looked dc_looked pm_looked an_looked cd_looked ct_looked), sl_looked⟩) (c_looked : PySem.W.codeIn K cd_looked "looked" = true) (k_looked : PySem.W.keepIn K (.ref f_looked) = true)
    {f_bits_of : Addr} {oc_bits_of kV_bits_of dc_bits_of pm_bits_of cd_bits_of ct_bits_of : Value} {od_bits_of an_bits_of : Option Addr} {sl_bits_of : Array (Option Value)}
    (a_bits_of : PySem.W.nsIn K mainGlobals "bits_of" = some (some (.ref f_bits_of)))
    (l_bits_of : K.lookup f_bits_of = some ⟨oc_bits_of, od_bits_of, .func (PySem.W.fnOf "bits_of" "bits_of" (defArgs s_bits_of) (defBody s_bits_of) (defScope s_bits_of) .none kV_bits_of dc_bits_of pm_bits_of an_bits_of cd_bits_of ct_bits_of), sl_bits_of⟩) (c_bits_of : PySem.W.codeIn K cd_bits_of "bits_of" = true) (k_bits_of : PySem.W.keepIn K (.ref f_bits_of) = true)
    {f_seats_in : Addr} {oc_seats_in kV_seats_in dc_seats_in pm_seats_in cd_seats_in ct_seats_in : Value} {od_seats_in an_seats_in : Option Addr} {sl_seats_in : Array (Option Value)}
    (a_seats_in : PySem.W.nsIn K mainGlobals "seats_in" = some (some (.ref f_seats_in)))
    (l_seats_in : K.lookup f_seats_in = some ⟨oc_seats_in, od_seats_in, .func (PySem.W.fnOf "seats_in" "seats_in" (defArgs s_seats_in) (defBody s_seats_in) (defScope s_seats_in) .none kV_seats_in dc_seats_in pm_seats_in an_seats_in cd_seats_in ct_seats_in), sl_seats_in⟩) (c_seats_in : PySem.W.codeIn K cd_seats_in "seats_in" = true) (k_seats_in : PySem.W.keepIn K (.ref f_seats_in) = true)
    {f_least_of : Addr} {oc_least_of kV_least_of dc_least_of pm_least_of cd_least_of ct_least_of : Value} {od_least_of an_least_of : Option Addr} {sl_least_of : Array (Option Value)}
    (a_least_of : PySem.W.nsIn K mainGlobals "least_of" = some (some (.ref f_least_of)))
    (l_least_of : K.lookup f_least_of = some ⟨oc_least_of, od_least_of, .func (PySem.W.fnOf "least_of" "least_of" (defArgs s_least_of) (defBody s_least_of) (defScope s_least_of) .none kV_least_of dc_least_of pm_least_of an_least_of cd_least_of ct_least_of), sl_least_of⟩) (c_least_of : PySem.W.codeIn K cd_least_of "least_of" = true) (k_least_of : PySem.W.keepIn K (.ref f_least_of) = true)
    {f_first_apart : Addr} {oc_first_apart kV_first_apart dc_first_apart pm_first_apart cd_first_apart ct_first_apart : Value} {od_first_apart an_first_apart : Option Addr} {sl_first_apart : Array (Option Value)}
    (a_first_apart : PySem.W.nsIn K mainGlobals "first_apart" = some (some (.ref f_first_apart)))
    (l_first_apart : K.lookup f_first_apart = some ⟨oc_first_apart, od_first_apart, .func (PySem.W.fnOf "first_apart" "first_apart" (defArgs s_first_apart) (defBody s_first_apart) (defScope s_first_apart) .none kV_first_apart dc_first_apart pm_first_apart an_first_apart cd_first_apart ct_first_apart), sl_first_apart⟩) (c_first_apart : PySem.W.codeIn K cd_first_apart "first_apart" = true) (k_first_apart : PySem.W.keepIn K (.ref f_first_apart) = true)
    {f_rows_of : Addr} {oc_rows_of kV_rows_of dc_rows_of pm_rows_of cd_rows_of ct_rows_of : Value} {od_rows_of an_rows_of : Option Addr} {sl_rows_of : Array (Option Value)}
    (a_rows_of : PySem.W.nsIn K mainGlobals "rows_of" = some (some (.ref f_rows_of)))
    (l_rows_of : K.lookup f_rows_of = some ⟨oc_rows_of, od_rows_of, .func (PySem.W.fnOf "rows_of" "rows_of" (defArgs s_rows_of) (defBody s_rows_of) (defScope s_rows_of) .none kV_rows_of dc_rows_of pm_rows_of an_rows_of cd_rows_of ct_rows_of), sl_rows_of⟩) (c_rows_of : PySem.W.codeIn K cd_rows_of "rows_of" = true) (k_rows_of : PySem.W.keepIn K (.ref f_rows_of) = true)
    {f_is_new : Addr} {oc_is_new kV_is_new dc_is_new pm_is_new cd_is_new ct_is_new : Value} {od_is_new an_is_new : Option Addr} {sl_is_new : Array (Option Value)}
    (a_is_new : PySem.W.nsIn K mainGlobals "is_new" = some (some (.ref f_is_new)))
    (l_is_new : K.lookup f_is_new = some ⟨oc_is_new, od_is_new, .func (PySem.W.fnOf "is_new" "is_new" (defArgs s_is_new) (defBody s_is_new) (defScope s_is_new) .none kV_is_new dc_is_new pm_is_new an_is_new cd_is_new ct_is_new), sl_is_new⟩) (c_is_new : PySem.W.codeIn K cd_is_new "is_new" = true) (k_is_new : PySem.W.keepIn K (.ref f_is_new) = true)
    {f_bettered : Addr} {oc_bettered kV_bettered dc_bettered pm_bettered cd_bettered ct_bettered : Value} {od_bettered an_bettered : Option Addr} {sl_bettered : Array (Option Value)}
    (a_bettered : PySem.W.nsIn K mainGlobals "bettered" = some (some (.ref f_bettered)))
    (l_bettered : K.lookup f_bettered = some ⟨oc_bettered, od_bettered, .func (PySem.W.fnOf "bettered" "bettered" (defArgs s_bettered) (defBody s_bettered) (defScope s_bettered) .none kV_bettered dc_bettered pm_bettered an_bettered cd_bettered ct_bettered), sl_bettered⟩) (c_bettered : PySem.W.codeIn K cd_bettered "bettered" = true) (k_bettered : PySem.W.keepIn K (.ref f_bettered) = true)
    {f__law_wide : Addr} {oc__law_wide kV__law_wide dc__law_wide pm__law_wide cd__law_wide ct__law_wide : Value} {od__law_wide an__law_wide : Option Addr} {sl__law_wide : Array (Option Value)}
    (a__law_wide : PySem.W.nsIn K mainGlobals "_law_wide" = some (some (.ref f__law_wide)))
    (l__law_wide : K.lookup f__law_wide = some ⟨oc__law_wide, od__law_wide, .func (PySem.W.fnOf "_law_wide" "_law_wide" (defArgs s__law_wide) (defBody s__law_wide) (defScope s__law_wide) .none kV__law_wide dc__law_wide pm__law_wide an__law_wide cd__law_wide ct__law_wide), sl__law_wide⟩) (c__law_wide : PySem.W.codeIn K cd__law_wide "_law_wide" = true) (k__law_wide : PySem.W.keepIn K (.ref f__law_wide) = true)
    {f__law_take : Addr} {oc__law_take kV__law_take dc__law_take pm__law_take cd__law_take ct__law_take : Value} {od__law_take an__law_take : Option Addr} {sl__law_take : Array (Option Value)}
    (a__law_take : PySem.W.nsIn K mainGlobals "_law_take" = some (some (.ref f__law_take)))
    (l__law_take : K.lookup f__law_take = some ⟨oc__law_take, od__law_take, .func (PySem.W.fnOf "_law_take" "_law_take" (defArgs s__law_take) (defBody s__law_take) (defScope s__law_take) .none kV__law_take dc__law_take pm__law_take an__law_take cd__law_take ct__law_take), sl__law_take⟩) (c__law_take : PySem.W.codeIn K cd__law_take "_law_take" = true) (k__law_take : PySem.W.keepIn K (.ref f__law_take) = true)
    {f__law_set : Addr} {oc__law_set kV__law_set dc__law_set pm__law_set cd__law_set ct__law_set : Value} {od__law_set an__law_set : Option Addr} {sl__law_set : Array (Option Value)}
    (a__law_set : PySem.W.nsIn K mainGlobals "_law_set" = some (some (.ref f__law_set)))
    (l__law_set : K.lookup f__law_set = some ⟨oc__law_set, od__law_set, .func (PySem.W.fnOf "_law_set" "_law_set" (defArgs s__law_set) (defBody s__law_set) (defScope s__law_set) .none kV__law_set dc__law_set pm__law_set an__law_set cd__law_set ct__law_set), sl__law_set⟩) (c__law_set : PySem.W.codeIn K cd__law_set "_law_set" = true) (k__law_set : PySem.W.keepIn K (.ref f__law_set) = true)
    {f__law_family : Addr} {oc__law_family kV__law_family dc__law_family pm__law_family cd__law_family ct__law_family : Value} {od__law_family an__law_family : Option Addr} {sl__law_family : Array (Option Value)}
    (a__law_family : PySem.W.nsIn K mainGlobals "_law_family" = some (some (.ref f__law_family)))
    (l__law_family : K.lookup f__law_family = some ⟨oc__law_family, od__law_family, .func (PySem.W.fnOf "_law_family" "_law_family" (defArgs s__law_family) (defBody s__law_family) (defScope s__law_family) .none kV__law_family dc__law_family pm__law_family an__law_family cd__law_family ct__law_family), sl__law_family⟩) (c__law_family : PySem.W.codeIn K cd__law_family "_law_family" = true) (k__law_family : PySem.W.keepIn K (.ref f__law_family) = true)
    {f__law_whole : Addr} {oc__law_whole kV__law_whole dc__law_whole pm__law_whole cd__law_whole ct__law_whole : Value} {od__law_whole an__law_whole : Option Addr} {sl__law_whole : Array (Option Value)}
    (a__law_whole : PySem.W.nsIn K mainGlobals "_law_whole" = some (some (.ref f__law_whole)))
    (l__law_whole : K.lookup f__law_whole = some ⟨oc__law_whole, od__law_whole, .func (PySem.W.fnOf "_law_whole" "_law_whole" (defArgs s__law_whole) (defBody s__law_whole) (defScope s__law_whole) .none kV__law_whole dc__law_whole pm__law_whole an__law_whole cd__law_whole ct__law_whole), sl__law_whole⟩) (c__law_whole : PySem.W.codeIn K cd__law_whole "_law_whole" = true) (k__law_whole : PySem.W.keepIn K (.ref f__law_whole) = true)
    {f__law_is_set : Addr} {oc__law_is_set kV__law_is_set dc__law_is_set pm__law_is_set cd__law_is_set ct__law_is_set : Value} {od__law_is_set an__law_is_set : Option Addr} {sl__law_is_set : Array (Option Value)}
    (a__law_is_set : PySem.W.nsIn K mainGlobals "_law_is_set" = some (some (.ref f__law_is_set)))
    (l__law_is_set : K.lookup f__law_is_set = some ⟨oc__law_is_set, od__law_is_set, .func (PySem.W.fnOf "_law_is_set" "_law_is_set" (defArgs s__law_is_set) (defBody s__law_is_set) (defScope s__law_is_set) .none kV__law_is_set dc__law_is_set pm__law_is_set an__law_is_set cd__law_is_set ct__law_is_set), sl__law_is_set⟩) (c__law_is_set : PySem.W.codeIn K cd__law_is_set "_law_is_set" = true) (k__law_is_set : PySem.W.keepIn K (.ref f__law_is_set) = true)
    {f__law_good : Addr} {oc__law_good kV__law_good dc__law_good pm__law_good cd__law_good ct__law_good : Value} {od__law_good an__law_good : Option Addr} {sl__law_good : Array (Option Value)}
    (a__law_good : PySem.W.nsIn K mainGlobals "_law_good" = some (some (.ref f__law_good)))
    (l__law_good : K.lookup f__law_good = some ⟨oc__law_good, od__law_good, .func (PySem.W.fnOf "_law_good" "_law_good" (defArgs s__law_good) (defBody s__law_good) (defScope s__law_good) .none kV__law_good dc__law_good pm__law_good an__law_good cd__law_good ct__law_good), sl__law_good⟩) (c__law_good : PySem.W.codeIn K cd__law_good "_law_good" = true) (k__law_good : PySem.W.keepIn K (.ref f__law_good) = true)
    {f__law_has : Addr} {oc__law_has kV__law_has dc__law_has pm__law_has cd__law_has ct__law_has : Value} {od__law_has an__law_has : Option Addr} {sl__law_has : Array (Option Value)}
    (a__law_has : PySem.W.nsIn K mainGlobals "_law_has" = some (some (.ref f__law_has)))
    (l__law_has : K.lookup f__law_has = some ⟨oc__law_has, od__law_has, .func (PySem.W.fnOf "_law_has" "_law_has" (defArgs s__law_has) (defBody s__law_has) (defScope s__law_has) .none kV__law_has dc__law_has pm__law_has an__law_has cd__law_has ct__law_has), sl__law_has⟩) (c__law_has : PySem.W.codeIn K cd__law_has "_law_has" = true) (k__law_has : PySem.W.keepIn K (.ref f__law_has) = true)
    {f__law_just_one : Addr} {oc__law_just_one kV__law_just_one dc__law_just_one pm__law_just_one cd__law_just_one ct__law_just_one : Value} {od__law_just_one an__law_just_one : Option Addr} {sl__law_just_one : Array (Option Value)}
    (a__law_just_one : PySem.W.nsIn K mainGlobals "_law_just_one" = some (some (.ref f__law_just_one)))
    (l__law_just_one : K.lookup f__law_just_one = some ⟨oc__law_just_one, od__law_just_one, .func (PySem.W.fnOf "_law_just_one" "_law_just_one" (defArgs s__law_just_one) (defBody s__law_just_one) (defScope s__law_just_one) .none kV__law_just_one dc__law_just_one pm__law_just_one an__law_just_one cd__law_just_one ct__law_just_one), sl__law_just_one⟩) (c__law_just_one : PySem.W.codeIn K cd__law_just_one "_law_just_one" = true) (k__law_just_one : PySem.W.keepIn K (.ref f__law_just_one) = true)
    {f__law_meeting : Addr} {oc__law_meeting kV__law_meeting dc__law_meeting pm__law_meeting cd__law_meeting ct__law_meeting : Value} {od__law_meeting an__law_meeting : Option Addr} {sl__law_meeting : Array (Option Value)}
    (a__law_meeting : PySem.W.nsIn K mainGlobals "_law_meeting" = some (some (.ref f__law_meeting)))
    (l__law_meeting : K.lookup f__law_meeting = some ⟨oc__law_meeting, od__law_meeting, .func (PySem.W.fnOf "_law_meeting" "_law_meeting" (defArgs s__law_meeting) (defBody s__law_meeting) (defScope s__law_meeting) .none kV__law_meeting dc__law_meeting pm__law_meeting an__law_meeting cd__law_meeting ct__law_meeting), sl__law_meeting⟩) (c__law_meeting : PySem.W.codeIn K cd__law_meeting "_law_meeting" = true) (k__law_meeting : PySem.W.keepIn K (.ref f__law_meeting) = true)
    {f__law_by_number : Addr} {oc__law_by_number kV__law_by_number dc__law_by_number pm__law_by_number cd__law_by_number ct__law_by_number : Value} {od__law_by_number an__law_by_number : Option Addr} {sl__law_by_number : Array (Option Value)}
    (a__law_by_number : PySem.W.nsIn K mainGlobals "_law_by_number" = some (some (.ref f__law_by_number)))
    (l__law_by_number : K.lookup f__law_by_number = some ⟨oc__law_by_number, od__law_by_number, .func (PySem.W.fnOf "_law_by_number" "_law_by_number" (defArgs s__law_by_number) (defBody s__law_by_number) (defScope s__law_by_number) .none kV__law_by_number dc__law_by_number pm__law_by_number an__law_by_number cd__law_by_number ct__law_by_number), sl__law_by_number⟩) (c__law_by_number : PySem.W.codeIn K cd__law_by_number "_law_by_number" = true) (k__law_by_number : PySem.W.keepIn K (.ref f__law_by_number) = true)
    {f__law_full : Addr} {oc__law_full kV__law_full dc__law_full pm__law_full cd__law_full ct__law_full : Value} {od__law_full an__law_full : Option Addr} {sl__law_full : Array (Option Value)}
    (a__law_full : PySem.W.nsIn K mainGlobals "_law_full" = some (some (.ref f__law_full)))
    (l__law_full : K.lookup f__law_full = some ⟨oc__law_full, od__law_full, .func (PySem.W.fnOf "_law_full" "_law_full" (defArgs s__law_full) (defBody s__law_full) (defScope s__law_full) .none kV__law_full dc__law_full pm__law_full an__law_full cd__law_full ct__law_full), sl__law_full⟩) (c__law_full : PySem.W.codeIn K cd__law_full "_law_full" = true) (k__law_full : PySem.W.keepIn K (.ref f__law_full) = true)
    {f__law_is_well : Addr} {oc__law_is_well kV__law_is_well dc__law_is_well pm__law_is_well cd__law_is_well ct__law_is_well : Value} {od__law_is_well an__law_is_well : Option Addr} {sl__law_is_well : Array (Option Value)}
    (a__law_is_well : PySem.W.nsIn K mainGlobals "_law_is_well" = some (some (.ref f__law_is_well)))
    (l__law_is_well : K.lookup f__law_is_well = some ⟨oc__law_is_well, od__law_is_well, .func (PySem.W.fnOf "_law_is_well" "_law_is_well" (defArgs s__law_is_well) (defBody s__law_is_well) (defScope s__law_is_well) .none kV__law_is_well dc__law_is_well pm__law_is_well an__law_is_well cd__law_is_well ct__law_is_well), sl__law_is_well⟩) (c__law_is_well : PySem.W.codeIn K cd__law_is_well "_law_is_well" = true) (k__law_is_well : PySem.W.keepIn K (.ref f__law_is_well) = true)
    {f__law_holds : Addr} {oc__law_holds kV__law_holds dc__law_holds pm__law_holds cd__law_holds ct__law_holds : Value} {od__law_holds an__law_holds : Option Addr} {sl__law_holds : Array (Option Value)}
    (a__law_holds : PySem.W.nsIn K mainGlobals "_law_holds" = some (some (.ref f__law_holds)))
    (l__law_holds : K.lookup f__law_holds = some ⟨oc__law_holds, od__law_holds, .func (PySem.W.fnOf "_law_holds" "_law_holds" (defArgs s__law_holds) (defBody s__law_holds) (defScope s__law_holds) .none kV__law_holds dc__law_holds pm__law_holds an__law_holds cd__law_holds ct__law_holds), sl__law_holds⟩) (c__law_holds : PySem.W.codeIn K cd__law_holds "_law_holds" = true) (k__law_holds : PySem.W.keepIn K (.ref f__law_holds) = true)
    {f__law_right : Addr} {oc__law_right kV__law_right dc__law_right pm__law_right cd__law_right ct__law_right : Value} {od__law_right an__law_right : Option Addr} {sl__law_right : Array (Option Value)}
    (a__law_right : PySem.W.nsIn K mainGlobals "_law_right" = some (some (.ref f__law_right)))
    (l__law_right : K.lookup f__law_right = some ⟨oc__law_right, od__law_right, .func (PySem.W.fnOf "_law_right" "_law_right" (defArgs s__law_right) (defBody s__law_right) (defScope s__law_right) .none kV__law_right dc__law_right pm__law_right an__law_right cd__law_right ct__law_right), sl__law_right⟩) (c__law_right : PySem.W.codeIn K cd__law_right "_law_right" = true) (k__law_right : PySem.W.keepIn K (.ref f__law_right) = true)
    {f__law_wider : Addr} {oc__law_wider kV__law_wider dc__law_wider pm__law_wider cd__law_wider ct__law_wider : Value} {od__law_wider an__law_wider : Option Addr} {sl__law_wider : Array (Option Value)}
    (a__law_wider : PySem.W.nsIn K mainGlobals "_law_wider" = some (some (.ref f__law_wider)))
    (l__law_wider : K.lookup f__law_wider = some ⟨oc__law_wider, od__law_wider, .func (PySem.W.fnOf "_law_wider" "_law_wider" (defArgs s__law_wider) (defBody s__law_wider) (defScope s__law_wider) .none kV__law_wider dc__law_wider pm__law_wider an__law_wider cd__law_wider ct__law_wider), sl__law_wider⟩) (c__law_wider : PySem.W.codeIn K cd__law_wider "_law_wider" = true) (k__law_wider : PySem.W.keepIn K (.ref f__law_wider) = true)
    {f__law_nine : Addr} {oc__law_nine kV__law_nine dc__law_nine pm__law_nine cd__law_nine ct__law_nine : Value} {od__law_nine an__law_nine : Option Addr} {sl__law_nine : Array (Option Value)}
    (a__law_nine : PySem.W.nsIn K mainGlobals "_law_nine" = some (some (.ref f__law_nine)))
    (l__law_nine : K.lookup f__law_nine = some ⟨oc__law_nine, od__law_nine, .func (PySem.W.fnOf "_law_nine" "_law_nine" (defArgs s__law_nine) (defBody s__law_nine) (defScope s__law_nine) .none kV__law_nine dc__law_nine pm__law_nine an__law_nine cd__law_nine ct__law_nine), sl__law_nine⟩) (c__law_nine : PySem.W.codeIn K cd__law_nine "_law_nine" = true) (k__law_nine : PySem.W.keepIn K (.ref f__law_nine) = true)
    {f_law : Addr} {oc_law kV_law dc_law pm_law cd_law ct_law : Value} {od_law an_law : Option Addr} {sl_law : Array (Option Value)}
    (a_law : PySem.W.nsIn K mainGlobals "law" = some (some (.ref f_law)))
    (l_law : K.lookup f_law = some ⟨oc_law, od_law, .func (PySem.W.fnOf "law" "law" (defArgs s_law) (defBody s_law) (defScope s_law) .none kV_law dc_law pm_law an_law cd_law ct_law), sl_law⟩) (c_law : PySem.W.codeIn K cd_law "law" = true) (k_law : PySem.W.keepIn K (.ref f_law) = true)
    {t_SEATS : Tok} (a_SEATS : PySem.W.nsIn K mainGlobals "SEATS" = some (some (.int 60 t_SEATS)))
    {t_SETS : Tok} (a_SETS : PySem.W.nsIn K mainGlobals "SETS" = some (some (.int 200 t_SETS)))
    {t_FEW : Tok} (a_FEW : PySem.W.nsIn K mainGlobals "FEW" = some (some (.int 9 t_FEW)))
    (z_any : PySem.W.nsIn K mainGlobals "any" = some none)
    (z_bool : PySem.W.nsIn K mainGlobals "bool" = some none)
    (z_enumerate : PySem.W.nsIn K mainGlobals "enumerate" = some none)
    (z_int : PySem.W.nsIn K mainGlobals "int" = some none)
    (z_isinstance : PySem.W.nsIn K mainGlobals "isinstance" = some none)
    (z_len : PySem.W.nsIn K mainGlobals "len" = some none)
    (z_list : PySem.W.nsIn K mainGlobals "list" = some none)
    (z_range : PySem.W.nsIn K mainGlobals "range" = some none)
    (z_set : PySem.W.nsIn K mainGlobals "set" = some none)
    (z_sorted : PySem.W.nsIn K mainGlobals "sorted" = some none)
    (z_sum : PySem.W.nsIn K mainGlobals "sum" = some none)
    (z_tuple : PySem.W.nsIn K mainGlobals "tuple" = some none) :
    ∃ fd : FuncData, (∀ (s : Shared) (v : Value), BindsTo s fd ⟨[v], []⟩ [("script", v)]) ∧ ∀ base : Heap, K.In base → base.Ns mainGlobals mg → FnOk l.prog w K mg base CX0 7 fa fd ["script"] (spLaw K) := by
  have e := hfa.symm.trans (PySem.W.mg_of X G a_law)
  cases e
  let ad : Ad := { P := l.prog, w := w }
  let T : Txt K mg ad := {
    f_word_of := f_word_of,
    d_word_of := _,
    F_word_of := fun_mk (st := s_word_of) l_word_of c_word_of k_word_of,
    b_word_of := (fun_mk (st := s_word_of) l_word_of c_word_of k_word_of).binds (ps := ["seats", "one"]) fun _ _ _ _ _ _ us hl => match us, hl with | [_, _], _ => rfl,
    g_word_of := PySem.W.mg_of X G a_word_of,
    f_fault := f_fault,
    d_fault := _,
    F_fault := fun_mk (st := s_fault) l_fault c_fault k_fault,
    b_fault := (fun_mk (st := s_fault) l_fault c_fault k_fault).binds (ps := ["seats", "sets"]) fun _ _ _ _ _ _ us hl => match us, hl with | [_, _], _ => rfl,
    g_fault := PySem.W.mg_of X G a_fault,
    f_looked := f_looked,
    d_looked := _,
    F_looked := fun_mk (st := s_looked) l_looked c_looked k_looked,
    b_looked := (fun_mk (st := s_looked) l_looked c_looked k_looked).binds (ps := ["seats", "sets"]) fun _ _ _ _ _ _ us hl => match us, hl with | [_, _], _ => rfl,
    g_looked := PySem.W.mg_of X G a_looked,
    f_bits_of := f_bits_of,
    d_bits_of := _,
    F_bits_of := fun_mk (st := s_bits_of) l_bits_of c_bits_of k_bits_of,
    b_bits_of := (fun_mk (st := s_bits_of) l_bits_of c_bits_of k_bits_of).binds (ps := ["one"]) fun _ _ _ _ _ _ us hl => match us, hl with | [_], _ => rfl,
    g_bits_of := PySem.W.mg_of X G a_bits_of,
    f_seats_in := f_seats_in,
    d_seats_in := _,
    F_seats_in := fun_mk (st := s_seats_in) l_seats_in c_seats_in k_seats_in,
    b_seats_in := (fun_mk (st := s_seats_in) l_seats_in c_seats_in k_seats_in).binds (ps := ["bits"]) fun _ _ _ _ _ _ us hl => match us, hl with | [_], _ => rfl,
    g_seats_in := PySem.W.mg_of X G a_seats_in,
    f_least_of := f_least_of,
    d_least_of := _,
    F_least_of := fun_mk (st := s_least_of) l_least_of c_least_of k_least_of,
    b_least_of := (fun_mk (st := s_least_of) l_least_of c_least_of k_least_of).binds (ps := ["rows"]) fun _ _ _ _ _ _ us hl => match us, hl with | [_], _ => rfl,
    g_least_of := PySem.W.mg_of X G a_least_of,
    f_first_apart := f_first_apart,
    d_first_apart := _,
    F_first_apart := fun_mk (st := s_first_apart) l_first_apart c_first_apart k_first_apart,
    b_first_apart := (fun_mk (st := s_first_apart) l_first_apart c_first_apart k_first_apart).binds (ps := ["rows"]) fun _ _ _ _ _ _ us hl => match us, hl with | [_], _ => rfl,
    g_first_apart := PySem.W.mg_of X G a_first_apart,
    f_rows_of := f_rows_of,
    d_rows_of := _,
    F_rows_of := fun_mk (st := s_rows_of) l_rows_of c_rows_of k_rows_of,
    b_rows_of := (fun_mk (st := s_rows_of) l_rows_of c_rows_of k_rows_of).binds (ps := ["seats", "sets"]) fun _ _ _ _ _ _ us hl => match us, hl with | [_, _], _ => rfl,
    g_rows_of := PySem.W.mg_of X G a_rows_of,
    f_is_new := f_is_new,
    d_is_new := _,
    F_is_new := fun_mk (st := s_is_new) l_is_new c_is_new k_is_new,
    b_is_new := (fun_mk (st := s_is_new) l_is_new c_is_new k_is_new).binds (ps := ["rows", "choice"]) fun _ _ _ _ _ _ us hl => match us, hl with | [_, _], _ => rfl,
    g_is_new := PySem.W.mg_of X G a_is_new,
    f_bettered := f_bettered,
    d_bettered := _,
    F_bettered := fun_mk (st := s_bettered) l_bettered c_bettered k_bettered,
    b_bettered := (fun_mk (st := s_bettered) l_bettered c_bettered k_bettered).binds (ps := ["seats", "sets"]) fun _ _ _ _ _ _ us hl => match us, hl with | [_, _], _ => rfl,
    g_bettered := PySem.W.mg_of X G a_bettered,
    f__law_wide := f__law_wide,
    d__law_wide := _,
    F__law_wide := fun_mk (st := s__law_wide) l__law_wide c__law_wide k__law_wide,
    b__law_wide := (fun_mk (st := s__law_wide) l__law_wide c__law_wide k__law_wide).binds (ps := ["cell"]) fun _ _ _ _ _ _ us hl => match us, hl with | [_], _ => rfl,
    g__law_wide := PySem.W.mg_of X G a__law_wide,
    f__law_take := f__law_take,
    d__law_take := _,
    F__law_take := fun_mk (st := s__law_take) l__law_take c__law_take k__law_take,
    b__law_take := (fun_mk (st := s__law_take) l__law_take c__law_take k__law_take).binds (ps := ["script", "pot", "many"]) fun _ _ _ _ _ _ us hl => match us, hl with | [_, _, _], _ => rfl,
    g__law_take := PySem.W.mg_of X G a__law_take,
    f__law_set := f__law_set,
    d__law_set := _,
    F__law_set := fun_mk (st := s__law_set) l__law_set c__law_set k__law_set,
    b__law_set := (fun_mk (st := s__law_set) l__law_set c__law_set k__law_set).binds (ps := ["script", "pot", "seats"]) fun _ _ _ _ _ _ us hl => match us, hl with | [_, _, _], _ => rfl,
    g__law_set := PySem.W.mg_of X G a__law_set,
    f__law_family := f__law_family,
    d__law_family := _,
    F__law_family := fun_mk (st := s__law_family) l__law_family c__law_family k__law_family,
    b__law_family := (fun_mk (st := s__law_family) l__law_family c__law_family k__law_family).binds (ps := ["script", "pot", "seats", "most"]) fun _ _ _ _ _ _ us hl => match us, hl with | [_, _, _, _], _ => rfl,
    g__law_family := PySem.W.mg_of X G a__law_family,
    f__law_whole := f__law_whole,
    d__law_whole := _,
    F__law_whole := fun_mk (st := s__law_whole) l__law_whole c__law_whole k__law_whole,
    b__law_whole := (fun_mk (st := s__law_whole) l__law_whole c__law_whole k__law_whole).binds (ps := ["thing"]) fun _ _ _ _ _ _ us hl => match us, hl with | [_], _ => rfl,
    g__law_whole := PySem.W.mg_of X G a__law_whole,
    f__law_is_set := f__law_is_set,
    d__law_is_set := _,
    F__law_is_set := fun_mk (st := s__law_is_set) l__law_is_set c__law_is_set k__law_is_set,
    b__law_is_set := (fun_mk (st := s__law_is_set) l__law_is_set c__law_is_set k__law_is_set).binds (ps := ["thing"]) fun _ _ _ _ _ _ us hl => match us, hl with | [_], _ => rfl,
    g__law_is_set := PySem.W.mg_of X G a__law_is_set,
    f__law_good := f__law_good,
    d__law_good := _,
    F__law_good := fun_mk (st := s__law_good) l__law_good c__law_good k__law_good,
    b__law_good := (fun_mk (st := s__law_good) l__law_good c__law_good k__law_good).binds (ps := ["script", "pot", "most"]) fun _ _ _ _ _ _ us hl => match us, hl with | [_, _, _], _ => rfl,
    g__law_good := PySem.W.mg_of X G a__law_good,
    f__law_has := f__law_has,
    d__law_has := _,
    F__law_has := fun_mk (st := s__law_has) l__law_has c__law_has k__law_has,
    b__law_has := (fun_mk (st := s__law_has) l__law_has c__law_has k__law_has).binds (ps := ["choice", "sets"]) fun _ _ _ _ _ _ us hl => match us, hl with | [_, _], _ => rfl,
    g__law_has := PySem.W.mg_of X G a__law_has,
    f__law_just_one := f__law_just_one,
    d__law_just_one := _,
    F__law_just_one := fun_mk (st := s__law_just_one) l__law_just_one c__law_just_one k__law_just_one,
    b__law_just_one := (fun_mk (st := s__law_just_one) l__law_just_one c__law_just_one k__law_just_one).binds (ps := ["script", "pot", "seats", "sets"]) fun _ _ _ _ _ _ us hl => match us, hl with | [_, _, _, _], _ => rfl,
    g__law_just_one := PySem.W.mg_of X G a__law_just_one,
    f__law_meeting := f__law_meeting,
    d__law_meeting := _,
    F__law_meeting := fun_mk (st := s__law_meeting) l__law_meeting c__law_meeting k__law_meeting,
    b__law_meeting := (fun_mk (st := s__law_meeting) l__law_meeting c__law_meeting k__law_meeting).binds (ps := ["script", "pot", "seats", "most"]) fun _ _ _ _ _ _ us hl => match us, hl with | [_, _, _, _], _ => rfl,
    g__law_meeting := PySem.W.mg_of X G a__law_meeting,
    f__law_by_number := f__law_by_number,
    d__law_by_number := _,
    F__law_by_number := fun_mk (st := s__law_by_number) l__law_by_number c__law_by_number k__law_by_number,
    b__law_by_number := (fun_mk (st := s__law_by_number) l__law_by_number c__law_by_number k__law_by_number).binds (ps := ["number", "seats"]) fun _ _ _ _ _ _ us hl => match us, hl with | [_, _], _ => rfl,
    g__law_by_number := PySem.W.mg_of X G a__law_by_number,
    f__law_full := f__law_full,
    d__law_full := _,
    F__law_full := fun_mk (st := s__law_full) l__law_full c__law_full k__law_full,
    b__law_full := (fun_mk (st := s__law_full) l__law_full c__law_full k__law_full).binds (ps := ["script", "pot", "seats", "sets"]) fun _ _ _ _ _ _ us hl => match us, hl with | [_, _, _, _], _ => rfl,
    g__law_full := PySem.W.mg_of X G a__law_full,
    f__law_is_well := f__law_is_well,
    d__law_is_well := _,
    F__law_is_well := fun_mk (st := s__law_is_well) l__law_is_well c__law_is_well k__law_is_well,
    b__law_is_well := (fun_mk (st := s__law_is_well) l__law_is_well c__law_is_well k__law_is_well).binds (ps := ["seats", "one"]) fun _ _ _ _ _ _ us hl => match us, hl with | [_, _], _ => rfl,
    g__law_is_well := PySem.W.mg_of X G a__law_is_well,
    f__law_holds := f__law_holds,
    d__law_holds := _,
    F__law_holds := fun_mk (st := s__law_holds) l__law_holds c__law_holds k__law_holds,
    b__law_holds := (fun_mk (st := s__law_holds) l__law_holds c__law_holds k__law_holds).binds (ps := ["one", "other"]) fun _ _ _ _ _ _ us hl => match us, hl with | [_, _], _ => rfl,
    g__law_holds := PySem.W.mg_of X G a__law_holds,
    f__law_right := f__law_right,
    d__law_right := _,
    F__law_right := fun_mk (st := s__law_right) l__law_right c__law_right k__law_right,
    b__law_right := (fun_mk (st := s__law_right) l__law_right c__law_right k__law_right).binds (ps := ["script", "pot", "seats", "sets"]) fun _ _ _ _ _ _ us hl => match us, hl with | [_, _, _, _], _ => rfl,
    g__law_right := PySem.W.mg_of X G a__law_right,
    f__law_wider := f__law_wider,
    d__law_wider := _,
    F__law_wider := fun_mk (st := s__law_wider) l__law_wider c__law_wider k__law_wider,
    b__law_wider := (fun_mk (st := s__law_wider) l__law_wider c__law_wider k__law_wider).binds (ps := ["script", "pot", "seats", "sets"]) fun _ _ _ _ _ _ us hl => match us, hl with | [_, _, _, _], _ => rfl,
    g__law_wider := PySem.W.mg_of X G a__law_wider,
    f__law_nine := f__law_nine,
    d__law_nine := _,
    F__law_nine := fun_mk (st := s__law_nine) l__law_nine c__law_nine k__law_nine,
    b__law_nine := (fun_mk (st := s__law_nine) l__law_nine c__law_nine k__law_nine).binds (ps := ["script", "pot"]) fun _ _ _ _ _ _ us hl => match us, hl with | [_, _], _ => rfl,
    g__law_nine := PySem.W.mg_of X G a__law_nine,
    f_law := fa,
    d_law := _,
    F_law := fun_mk (st := s_law) l_law c_law k_law,
    b_law := (fun_mk (st := s_law) l_law c_law k_law).binds (ps := ["script"]) fun _ _ _ _ _ _ us hl => match us, hl with | [_], _ => rfl,
    g_law := PySem.W.mg_of X G a_law,
    u_SEATS := _,
    g_SEATS := PySem.W.mg_of X G a_SEATS,
    r_SEATS := ⟨_, rfl⟩,
    u_SETS := _,
    g_SETS := PySem.W.mg_of X G a_SETS,
    r_SETS := ⟨_, rfl⟩,
    u_FEW := _,
    g_FEW := PySem.W.mg_of X G a_FEW,
    r_FEW := ⟨_, rfl⟩,
    m_any := PySem.W.mg_none_of X G z_any,
    m_bool := PySem.W.mg_none_of X G z_bool,
    m_enumerate := PySem.W.mg_none_of X G z_enumerate,
    m_int := PySem.W.mg_none_of X G z_int,
    m_isinstance := PySem.W.mg_none_of X G z_isinstance,
    m_len := PySem.W.mg_none_of X G z_len,
    m_list := PySem.W.mg_none_of X G z_list,
    m_range := PySem.W.mg_none_of X G z_range,
    m_set := PySem.W.mg_none_of X G z_set,
    m_sorted := PySem.W.mg_none_of X G z_sorted,
    m_sum := PySem.W.mg_none_of X G z_sum,
    m_tuple := PySem.W.mg_none_of X G z_tuple }
  exact ⟨PySem.W.fnOf "law" "law" (defArgs s_law) (defBody s_law) (defScope s_law) .none kV_law dc_law pm_law an_law cd_law ct_law, fun s v => .of_eq rfl, fun base _ _ => (ok_law (ad := ad) T).imp fun vs H Q E h => spLaw_to ad h⟩
end Y
open PySem PySem.W PyProof.Rows
set_option maxRecDepth 100000 in
set_option maxHeartbeats 0 in
theorem PySem.Challenge.cw_soleseat_k59_whole_bettered_holds : PySem.Challenge.rw_soleseat_k59_whole_bettered.Holds := by
  w_on; o_law; k_head; (case hw => w_witness2)
  k_fill
  refine L2.walk_of (l := PySem.Challenge.rw_soleseat_k59_whole_bettered) (n := 63) (k := 7) (x := "script") (CX := fun _ => L2.CX0) (sp := fun w => Z.spLaw _) rfl (by decide) rfl ⟨rfl, by decide, by decide⟩ (fun w h Y => PySem.W.kIn_of Y) ?F (fun _ _ a ns hl _ hS => Z.spLaw_in hl hS) (fun _ _ _ _ _ h => h)
  case F =>
    intro w mg fa h KX G hmg
    refine' Y.all_mk KX G hmg ?a_word_of ?l_word_of ?c_word_of ?k_word_of ?a_fault ?l_fault ?c_fault ?k_fault ?a_looked ?l_looked ?c_looked ?k_looked ?a_bits_of ?l_bits_of ?c_bits_of ?k_bits_of ?a_seats_in ?l_seats_in ?c_seats_in ?k_seats_in ?a_least_of ?l_least_of ?c_least_of ?k_least_of ?a_first_apart ?l_first_apart ?c_first_apart ?k_first_apart ?a_rows_of ?l_rows_of ?c_rows_of ?k_rows_of ?a_is_new ?l_is_new ?c_is_new ?k_is_new ?a_bettered ?l_bettered ?c_bettered ?k_bettered ?a__law_wide ?l__law_wide ?c__law_wide ?k__law_wide ?a__law_take ?l__law_take ?c__law_take ?k__law_take ?a__law_set ?l__law_set ?c__law_set ?k__law_set ?a__law_family ?l__law_family ?c__law_family ?k__law_family ?a__law_whole ?l__law_whole ?c__law_whole ?k__law_whole ?a__law_is_set ?l__law_is_set ?c__law_is_set ?k__law_is_set ?a__law_good ?l__law_good ?c__law_good ?k__law_good ?a__law_has ?l__law_has ?c__law_has ?k__law_has ?a__law_just_one ?l__law_just_one ?c__law_just_one ?k__law_just_one ?a__law_meeting ?l__law_meeting ?c__law_meeting ?k__law_meeting ?a__law_by_number ?l__law_by_number ?c__law_by_number ?k__law_by_number ?a__law_full ?l__law_full ?c__law_full ?k__law_full ?a__law_is_well ?l__law_is_well ?c__law_is_well ?k__law_is_well ?a__law_holds ?l__law_holds ?c__law_holds ?k__law_holds ?a__law_right ?l__law_right ?c__law_right ?k__law_right ?a__law_wider ?l__law_wider ?c__law_wider ?k__law_wider ?a__law_nine ?l__law_nine ?c__law_nine ?k__law_nine ?a_law ?l_law ?c_law ?k_law ?a_SEATS ?a_SETS ?a_FEW ?z_any ?z_bool ?z_enumerate ?z_int ?z_isinstance ?z_len ?z_list ?z_range ?z_set ?z_sorted ?z_sum ?z_tuple
    (case a_word_of => k_is)
    (case l_word_of => k_is)
    (case c_word_of => k_is)
    (case k_word_of => k_is)
    (case a_fault => k_is)
    (case l_fault => k_is)
    (case c_fault => k_is)
    (case k_fault => k_is)
    (case a_looked => k_is)
    (case l_looked => k_is)
    (case c_looked => k_is)
    (case k_looked => k_is)
    (case a_bits_of => k_is)
    (case l_bits_of => k_is)
    (case c_bits_of => k_is)
    (case k_bits_of => k_is)
    (case a_seats_in => k_is)
    (case l_seats_in => k_is)
    (case c_seats_in => k_is)
    (case k_seats_in => k_is)
    (case a_least_of => k_is)
    (case l_least_of => k_is)
    (case c_least_of => k_is)
    (case k_least_of => k_is)
    (case a_first_apart => k_is)
    (case l_first_apart => k_is)
    (case c_first_apart => k_is)
    (case k_first_apart => k_is)
    (case a_rows_of => k_is)
    (case l_rows_of => k_is)
    (case c_rows_of => k_is)
    (case k_rows_of => k_is)
    (case a_is_new => k_is)
    (case l_is_new => k_is)
    (case c_is_new => k_is)
    (case k_is_new => k_is)
    (case a_bettered => k_is)
    (case l_bettered => k_is)
    (case c_bettered => k_is)
    (case k_bettered => k_is)
    (case a__law_wide => k_is)
    (case l__law_wide => k_is)
    (case c__law_wide => k_is)
    (case k__law_wide => k_is)
    (case a__law_take => k_is)
    (case l__law_take => k_is)
    (case c__law_take => k_is)
    (case k__law_take => k_is)
    (case a__law_set => k_is)
    (case l__law_set => k_is)
    (case c__law_set => k_is)
    (case k__law_set => k_is)
    (case a__law_family => k_is)
    (case l__law_family => k_is)
    (case c__law_family => k_is)
    (case k__law_family => k_is)
    (case a__law_whole => k_is)
    (case l__law_whole => k_is)
    (case c__law_whole => k_is)
    (case k__law_whole => k_is)
    (case a__law_is_set => k_is)
    (case l__law_is_set => k_is)
    (case c__law_is_set => k_is)
    (case k__law_is_set => k_is)
    (case a__law_good => k_is)
    (case l__law_good => k_is)
    (case c__law_good => k_is)
    (case k__law_good => k_is)
    (case a__law_has => k_is)
    (case l__law_has => k_is)
    (case c__law_has => k_is)
    (case k__law_has => k_is)
    (case a__law_just_one => k_is)
    (case l__law_just_one => k_is)
    (case c__law_just_one => k_is)
    (case k__law_just_one => k_is)
    (case a__law_meeting => k_is)
    (case l__law_meeting => k_is)
    (case c__law_meeting => k_is)
    (case k__law_meeting => k_is)
    (case a__law_by_number => k_is)
    (case l__law_by_number => k_is)
    (case c__law_by_number => k_is)
    (case k__law_by_number => k_is)
    (case a__law_full => k_is)
    (case l__law_full => k_is)
    (case c__law_full => k_is)
    (case k__law_full => k_is)
    (case a__law_is_well => k_is)
    (case l__law_is_well => k_is)
    (case c__law_is_well => k_is)
    (case k__law_is_well => k_is)
    (case a__law_holds => k_is)
    (case l__law_holds => k_is)
    (case c__law_holds => k_is)
    (case k__law_holds => k_is)
    (case a__law_right => k_is)
    (case l__law_right => k_is)
    (case c__law_right => k_is)
    (case k__law_right => k_is)
    (case a__law_wider => k_is)
    (case l__law_wider => k_is)
    (case c__law_wider => k_is)
    (case k__law_wider => k_is)
    (case a__law_nine => k_is)
    (case l__law_nine => k_is)
    (case c__law_nine => k_is)
    (case k__law_nine => k_is)
    (case a_law => k_is)
    (case l_law => k_is)
    (case c_law => k_is)
    (case k_law => k_is)
    (case a_SEATS => k_is)
    (case a_SETS => k_is)
    (case a_FEW => k_is)
    (case z_any => k_is)
    (case z_bool => k_is)
    (case z_enumerate => k_is)
    (case z_int => k_is)
    (case z_isinstance => k_is)
    (case z_len => k_is)
    (case z_list => k_is)
    (case z_range => k_is)
    (case z_set => k_is)
    (case z_sorted => k_is)
    (case z_sum => k_is)
    (case z_tuple => k_is)

