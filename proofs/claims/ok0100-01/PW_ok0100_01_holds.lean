import PyProof.Rows.All
import Wide.All
import OpenK.AllK
import Wide.FinOn
import PyProof.ExcInit
import PyProof.ExcClass2
import PyProof.ZipIter
import PyProof.Rows.LoopPair
import PyProof.ExcAttrAll.Exception
import Lean
import PySem.Challenge.RW_ok0100_01
section
open PySem PySem.W PyProof.Rows PySem.Calls
set_option maxRecDepth 100000
set_option maxHeartbeats 0
set_option linter.unusedVariables false
set_option Elab.async false
set_option compiler.extract_closed false
set_option compiler.reuse false
namespace Mine
section
open PySem.Challenge
noncomputable abbrev lawP : Program := (Fast.tw2368527892694137696 rw_ok0100_01).prog
noncomputable abbrev lookB (b : List Str) : Look := { strict := !R.allR (Fast.tw5923862056798008813 lawP.main.body) (Fast.tw3471404346716756564 Fast.tw17691160309236699985), foot := none, bare := b }
theorem filter3 {α : Type} {f : α → Bool} {a b c : α} (ha : f a = false) (hb : f b = false) (hc : f c = false) : R.filterR f [a, b, c] = [] := by
  simp [R.filterR, ha, hb, hc]
theorem bv : Fast.tw13343964577679436407 lawP lawP.main.body ⟨⟨[118, 97, 114, 115]⟩⟩ = false := by kernel_rfl
theorem bd : Fast.tw13343964577679436407 lawP lawP.main.body ⟨⟨[100, 105, 114]⟩⟩ = false := by kernel_rfl
theorem bl : Fast.tw13343964577679436407 lawP lawP.main.body ⟨⟨[108, 111, 99, 97, 108, 115]⟩⟩ = false := by kernel_rfl
theorem sa1 : Fast.tw11788848310118352699 lawP.main = true := by kernel_rfl
theorem sa2 : Fast.tw8326940854005059898 (lookB []) lawP.main.body = true := by kernel_rfl
theorem sa3 : (Fast.tw17119622794617984870 lawP lawP.main.body fun x n => Fast.tw17868728402115742887 n) = true := by kernel_rfl
theorem sa4 : Fast.tw8377067652309620493 lawP = true := by kernel_rfl
theorem sa5 : (R.allR (Fast.tw18344453789297297638 lawP) fun n => !Fast.tw3471404346716756564 Fast.tw14412699480532031325 n) = true := by kernel_rfl
theorem sa6 : ((Fast.tw9807087744658564304 lawP.main.body).isEmpty || Fast.tw12862048085361865435 (Fast.tw9807087744658564304 lawP.main.body) lawP.main.body) = true := by kernel_rfl
theorem sa : Fast.tw12908688711261696721 lawP = true :=
  look_both (look_both (look_both (look_both (look_both sa1 sa6) sa4) sa5) ((congrArg (fun b => Fast.tw8326940854005059898 (lookB b) lawP.main.body) (filter3 bv bd bl)).trans sa2)) sa3
theorem sb : Fast.tw17960256430627541270 (Fast.tw2368527892694137696 rw_ok0100_01) = true := by
  delta Fast.tw17960256430627541270 Fast.tw2436336058641802641
  repeat' (with_reducible refine look_both ?_ ?_)
  all_goals first | with_reducible exact sa | kernel_rfl
theorem said : rw_ok0100_01.wellSaid = true := by
  rw [show @OpenLaw.wellSaid = _ from Fast.te9446332074065402090]
  delta Fast.tw9446332074065402090
  repeat' (with_reducible refine look_both ?_ ?_)
  all_goals first | with_reducible exact sb | kernel_rfl
theorem lawSaid (h : rw_ok0100_01.row.wellSaid = true → rw_ok0100_01.row.Holds) : rw_ok0100_01.Holds := holds_law said h
end
end Mine
end
section
open PySem PySem.W PyProof.Rows PySem.Calls
namespace Mine
/-! a machine over a heap of which a part is known: an object that is freed stands for one that is not known -/
noncomputable def junk : Obj := { cls := .none, data := .freed }
noncomputable def full : Nat → BT
  | 0 => .nil
  | n + 1 => .node junk (full n) (full n)

noncomputable def onAlive {α : Type} (b : Bool) (x : Option Obj) (F : Obj → α) : Option α := match b with
  | true => match x with
    | some o => match alive o with
      | some o' => some (F o')
      | none => none
    | none => none
  | false => none
noncomputable def stepS (stp : Shared → Thread → Step) : SharedT → Thread → Option (SharedT × Thread)
  | ⟨T, n, life, gens, drawn, toks, os⟩, ⟨cur, code, pos, stack⟩ => match cur with
    | .load a _ k => onAlive (Nat.blt a n) (T.get a) fun o' => (⟨T, n, life, gens, drawn, toks, os⟩, ⟨k o', code, pos, stack⟩)
    | .update a _ f k => onAlive (Nat.blt a n) (T.get a) fun _ => (⟨T.set a f, n, life, gens, drawn, toks, os⟩, ⟨k (), code, pos, stack⟩)
    | .alloc o k => match ((T.ins n o).get n).isSome with
      | true => some (⟨T.ins n o, n + 1, life, gens, drawn, toks, os⟩, ⟨k n, code, pos, stack⟩)
      | false => none
    | .loadIfAlive a k => onAlive (Nat.blt a n) (T.get a) fun o' => (⟨T, n, life, gens, drawn, toks, os⟩, ⟨k (some o'), code, pos, stack⟩)
    | c => match stp ⟨{}, gens, drawn, toks, os⟩ ⟨c, code, pos, stack⟩ with
      | .go s' t' => some (⟨T, n, life, s'.gens, s'.drawn, s'.toks, s'.os⟩, t')
      | .halt _ _ => none

noncomputable def segS (stp : Shared → Thread → Step) (ok : Thread → Bool) : Nat → SharedT → Thread → Option (Flow × SharedT × Code × Pos)
  | 0, _, _ => none
  | n + 1, s, t => match endAt 1 t with
    | some f => some (f, s, t.code, t.pos)
    | none => match ok t with
      | false => none
      | true => match stepS stp s t with
        | some (s', t') => segS stp ok n s' t'
        | none => none

/-- what the tree says of the heap -/
structure RelT (T : BT) (n : Nat) (H : Heap) : Prop where
  size : H.objs.size = n
  at_ : ∀ i o, i < n → T.get i = some o → alive o = some o → H.get? i = some o
/-- what is not known stays as it was -/
structure Stay (T : BT) (n : Nat) (H : Heap) (T' : BT) (n' : Nat) (H' : Heap) : Prop where
  le : n ≤ n'
  life : H'.life = H.life
  stay : ∀ b, b < n → (∀ o, T.get b = some o → alive o = none) → (∀ o, T'.get b = some o → alive o = none) ∧ H'.get? b = H.get? b
theorem Stay.refl {T : BT} {n : Nat} {H : Heap} : Stay T n H T n H := ⟨Nat.le_refl _, rfl, fun _ _ h => ⟨h, rfl⟩⟩
theorem Stay.trans {T T₁ T₂ : BT} {n n₁ n₂ : Nat} {H H₁ H₂ : Heap} (x : Stay T n H T₁ n₁ H₁) (y : Stay T₁ n₁ H₁ T₂ n₂ H₂) : Stay T n H T₂ n₂ H₂ :=
  ⟨Nat.le_trans x.le y.le, y.life.trans x.life, fun b hb hj => by
    obtain ⟨j1, e1⟩ := x.stay b hb hj
    obtain ⟨j2, e2⟩ := y.stay b (Nat.lt_of_lt_of_le hb x.le) j1
    exact ⟨j2, e2.trans e1⟩⟩
theorem alive_some {o o' : Obj} (h : alive o = some o') : o' = o ∧ o.isFreed = false := by
  obtain ⟨c, d, dt, sl⟩ := o
  cases dt <;> first | (cases h; exact ⟨rfl, rfl⟩) | cases h
theorem alive_of {o : Obj} (h : o.isFreed = false) : alive o = some o := by
  obtain ⟨c, d, dt, sl⟩ := o
  cases dt <;> first | rfl | cases h
theorem alive_none {o : Obj} (h : alive o = none) : o.isFreed = true := by
  obtain ⟨c, d, dt, sl⟩ := o
  cases dt <;> first | rfl | cases h
theorem onAlive_some {α : Type} {b : Bool} {x : Option Obj} {F : Obj → α} {r : α} (h : onAlive b x F = some r) : b = true ∧ ∃ o, x = some o ∧ o.isFreed = false ∧ F o = r := by
  refine ?mG; exact ((by exact ?mB) : (let_mvar% ?mB := (by (
  cases b with
  | false => cases h
  | true =>
    cases x with
    | none => cases h
    | some o =>
      have h2 : (match alive o with | some o' => some (F o') | none => none) = some r := h
      clear h
      cases al : alive o with
      | none => rw [al] at h2; cases h2
      | some o' =>
        rw [al] at h2
        obtain ⟨rfl, hf⟩ := alive_some al
        exact ⟨rfl, o', rfl, hf, Option.some.inj h2⟩
  ) : type_of% ?mG); have _ : True := trivial; type_of% ?mG))
theorem allocS_some {α : Type} {b : Bool} {y r : α} (h : (match b with | true => some y | false => none) = some r) : b = true ∧ y = r := by
  cases b with
  | false => cases h
  | true => exact ⟨rfl, Option.some.inj h⟩
section
variable {den : Code → Sem Fin} {p : Program} {w : World}
noncomputable def Snd (den : Code → Sem Fin) (p : Program) (w : World) (T : BT) (n : Nat) (H : Heap) (s₀ : Shared) (t : Thread) (a : SharedT) (b : Thread) : Prop :=
  ∃ H', step den p w s₀ t = .go ⟨H', a.gens, a.drawn, a.toks, a.os⟩ b ∧ RelT a.tree a.n H' ∧ Stay T n H a.tree a.n H'
theorem Snd.of {T : BT} {n : Nat} {H : Heap} {s₀ : Shared} {t : Thread} {a s' : SharedT} {b t' : Thread} (h : some (a, b) = some (s', t'))
    (z : ∃ H', step den p w s₀ t = .go ⟨H', a.gens, a.drawn, a.toks, a.os⟩ b ∧ RelT a.tree a.n H' ∧ Stay T n H a.tree a.n H') : Snd den p w T n H s₀ t s' t' := by cases h; exact z
theorem stepS_sound {s s' : SharedT} {t t' : Thread} {H : Heap} (h : stepS (step den p w) s t = some (s', t')) (R : RelT s.tree s.n H) :
    ∃ H', step den p w ⟨H, s.gens, s.drawn, s.toks, s.os⟩ t = .go ⟨H', s'.gens, s'.drawn, s'.toks, s'.os⟩ t' ∧ RelT s'.tree s'.n H' ∧ Stay s.tree s.n H s'.tree s'.n H' := by
  refine ?mG; exact ((by exact ?mB) : (let_mvar% ?mB := (by (
  obtain ⟨T, n, life, gens, drawn, toks, os⟩ := s
  obtain ⟨cur, code, pos, stack⟩ := t
  show Snd den p w T n H ⟨H, gens, drawn, toks, os⟩ ⟨cur, code, pos, stack⟩ s' t'
  have other : (∀ a q k, cur ≠ .load a q k) → (∀ a q f k, cur ≠ .update a q f k) → (∀ o k, cur ≠ .alloc o k) → (∀ a k, cur ≠ .loadIfAlive a k) →
      (match step den p w ⟨{}, gens, drawn, toks, os⟩ ⟨cur, code, pos, stack⟩ with
        | .go s' t' => some ((⟨T, n, life, s'.gens, s'.drawn, s'.toks, s'.os⟩ : SharedT), t')
        | .halt _ _ => none) = some (s', t') →
      Snd den p w T n H ⟨H, gens, drawn, toks, os⟩ ⟨cur, code, pos, stack⟩ s' t' := by
    intro h1 h2 h3 h4 h
    cases q : step den p w ⟨{}, gens, drawn, toks, os⟩ ⟨cur, code, pos, stack⟩ with
    | halt o s => rw [q] at h; cases h
    | go s₀ t₀ =>
      rw [q] at h
      exact Snd.of h ⟨H, step_heap h1 h2 h3 h4 q, R, .refl⟩
  cases cur with
  | load a q k =>
    obtain ⟨e, o, g, hf, z⟩ := onAlive_some (show onAlive (Nat.blt a n) (T.get a) (fun o' => ((⟨T, n, life, gens, drawn, toks, os⟩ : SharedT), (⟨k o', code, pos, stack⟩ : Thread))) = some (s', t') from h)
    refine Snd.of (congrArg some z) ⟨H, ?_, R, .refl⟩
    simp only [step, R.at_ a _ (Nat.le_of_ble_eq_true e) g (alive_of hf)]
  | loadIfAlive a k =>
    obtain ⟨e, o, g, hf, z⟩ := onAlive_some (show onAlive (Nat.blt a n) (T.get a) (fun o' => ((⟨T, n, life, gens, drawn, toks, os⟩ : SharedT), (⟨k (some o'), code, pos, stack⟩ : Thread))) = some (s', t') from h)
    refine Snd.of (congrArg some z) ⟨H, ?_, R, .refl⟩
    simp only [step, R.at_ a _ (Nat.le_of_ble_eq_true e) g (alive_of hf)]
  | update a q f k =>
          obtain ⟨e, o, g, hf, z⟩ := onAlive_some (show onAlive (Nat.blt a n) (T.get a) (fun _ => ((⟨T.set a f, n, life, gens, drawn, toks, os⟩ : SharedT), (⟨k (), code, pos, stack⟩ : Thread))) = some (s', t') from h)
          have al := alive_of hf
          have lt : a < n := Nat.le_of_ble_eq_true e
          refine Snd.of (congrArg some z) ?_
          have hH := R.at_ a _ lt g (alive_of hf)
          have hs : Heap.SameBut a H (H.update a f) := Heap.SameBut.update ..
          refine ⟨H.update a f, ?_, ⟨hs.1.trans R.size, fun i o hi hg ha => ?_⟩, Nat.le_refl _, ?_, fun b hb hj => ?_⟩
          · simp only [step, hH, Option.isSome_some, if_true]
          · show (H.update a f).get? i = some o
            have hg : (T.set a f).get i = some o := hg
            rw [BT.get_set] at hg
            by_cases hia : i = a
            · subst hia
              rw [if_pos rfl, g] at hg
              cases hg
              obtain ⟨_, hff⟩ := alive_some ha
              first | exact Heap.get?_update_self f hH hff | exact Heap.get?_update_self _ hH hff
            · rw [if_neg hia] at hg
              exact (hs.2 i hia).trans (R.at_ i o hi hg ha)
          · obtain ⟨objs, l⟩ := H; rfl
          · have hba : b ≠ a := fun q => by
              subst q
              have := hj _ g
              rw [al] at this; cases this
            refine ⟨fun o ho => ?_, hs.2 b hba⟩
            have ho : (T.set a f).get b = some o := ho
            rw [BT.get_set, if_neg hba] at ho
            exact hj o ho
  | alloc o k =>
      obtain ⟨e, z⟩ := allocS_some (show (match ((T.ins n o).get n).isSome with | true => some ((⟨T.ins n o, n + 1, life, gens, drawn, toks, os⟩ : SharedT), (⟨k n, code, pos, stack⟩ : Thread)) | false => none) = some (s', t') from h)
      refine Snd.of (congrArg some z) ?_
      have ha : H.objs.size = n := R.size
      refine ⟨H.push o, ?_, ⟨?_, fun i o' hi hg ha' => ?_⟩, Nat.le_succ _, ?_, fun b hb hj => ?_⟩
      · simp only [step, ha]
      · show (H.push o).objs.size = n + 1
        rw [Heap.size_push, ha]
      · show (H.push o).get? i = some o'
        have hg : (T.ins n o).get i = some o' := hg
        rw [BT.get_ins o T n e] at hg
        by_cases hin : i = n
        · subst hin
          rw [if_pos rfl] at hg
          cases hg
          obtain ⟨_, hff⟩ := alive_some ha'
          rw [← ha]; exact Heap.get?_push_size _ hff
        · rw [if_neg hin] at hg
          have hi' : i < n + 1 := hi
          exact Heap.get?_push_of_some _ (R.at_ i o' (Nat.lt_of_le_of_ne (Nat.le_of_lt_succ hi') hin) hg ha')
      · obtain ⟨objs, l⟩ := H; rfl
      · have hbn : b ≠ n := Nat.ne_of_lt hb
        refine ⟨fun o' ho => ?_, ?_⟩
        · have ho : (T.ins n o).get b = some o' := ho
          rw [BT.get_ins o T n e, if_neg hbn] at ho
          exact hj o' ho
        · have hb' : b < H.objs.size := by rw [ha]; exact hb
          unfold Heap.get?
          obtain ⟨objs, l⟩ := H
          show (match (objs.push o)[b]? with | some ⟨_, _, .freed, _⟩ => none | o => o) = (match objs[b]? with | some ⟨_, _, .freed, _⟩ => none | o => o)
          rw [Array.getElem?_push_lt hb']
          rw [Array.getElem?_eq_getElem hb']
  | pure => exact other (by intros; nofun) (by intros; nofun) (by intros; nofun) (by intros; nofun) h
  | raise => exact other (by intros; nofun) (by intros; nofun) (by intros; nofun) (by intros; nofun) h
  | unsupported => exact other (by intros; nofun) (by intros; nofun) (by intros; nofun) (by intros; nofun) h
  | finish => exact other (by intros; nofun) (by intros; nofun) (by intros; nofun) (by intros; nofun) h
  | rule => exact other (by intros; nofun) (by intros; nofun) (by intros; nofun) (by intros; nofun) h
  | «at» => exact other (by intros; nofun) (by intros; nofun) (by intros; nofun) (by intros; nofun) h
  | point => exact other (by intros; nofun) (by intros; nofun) (by intros; nofun) (by intros; nofun) h
  | register => exact other (by intros; nofun) (by intros; nofun) (by intros; nofun) (by intros; nofun) h
  | fresh => exact other (by intros; nofun) (by intros; nofun) (by intros; nofun) (by intros; nofun) h
  | ask => exact other (by intros; nofun) (by intros; nofun) (by intros; nofun) (by intros; nofun) h
  | choose => exact other (by intros; nofun) (by intros; nofun) (by intros; nofun) (by intros; nofun) h
  | os => exact other (by intros; nofun) (by intros; nofun) (by intros; nofun) (by intros; nofun) h
  | call => exact other (by intros; nofun) (by intros; nofun) (by intros; nofun) (by intros; nofun) h
  | handled => exact other (by intros; nofun) (by intros; nofun) (by intros; nofun) (by intros; nofun) h
  | newGen => exact other (by intros; nofun) (by intros; nofun) (by intros; nofun) (by intros; nofun) h
  | genState => exact other (by intros; nofun) (by intros; nofun) (by intros; nofun) (by intros; nofun) h
  | resume => exact other (by intros; nofun) (by intros; nofun) (by intros; nofun) (by intros; nofun) h
  | «yield» => exact other (by intros; nofun) (by intros; nofun) (by intros; nofun) (by intros; nofun) h
  | stack => exact other (by intros; nofun) (by intros; nofun) (by intros; nofun) (by intros; nofun) h
  | fork => exact other (by intros; nofun) (by intros; nofun) (by intros; nofun) (by intros; nofun) h
  | thread => exact other (by intros; nofun) (by intros; nofun) (by intros; nofun) (by intros; nofun) h
  | await => exact other (by intros; nofun) (by intros; nofun) (by intros; nofun) (by intros; nofun) h
  ) : type_of% ?mG); have _ : True := trivial; type_of% ?mG))
end
theorem segS_sound {tb : String → Option Builtin} {p : Program} {w : World} {n₀ : Nat} {ann : Option Value} : ∀ {N : Nat} {s s' : SharedT} {t : Thread} {f : Flow} {c : Code} {q : Pos} {H : Heap},
    segS (step (denote tb) p w) (stepOk n₀ ann) N s t = some (f, s', c, q) → RelT s.tree s.n H →
    ∃ H', segRun tb p w n₀ ann 1 N ⟨H, s.gens, s.drawn, s.toks, s.os⟩ t = some (f, ⟨H', s'.gens, s'.drawn, s'.toks, s'.os⟩, c, q) ∧ RelT s'.tree s'.n H' ∧ Stay s.tree s.n H s'.tree s'.n H'
  | 0, _, _, _, _, _, _, _, h, _ => by cases h
  | N + 1, s, s', t, f, c, q, H, h, R => by
    unfold segS at h
    unfold segRun
    cases he : endAt 1 t with
    | some x => rw [he] at h; cases h; exact ⟨H, rfl, R, .refl⟩
    | none =>
      rw [he] at h
      cases hk : stepOk n₀ ann t with
      | false => rw [hk] at h; cases h
      | true =>
        rw [hk] at h
        cases hs : stepS (step (denote tb) p w) s t with
        | none => rw [hs] at h; cases h
        | some r =>
          obtain ⟨s₁, t₁⟩ := r
          rw [hs] at h
          obtain ⟨H₁, e₁, R₁, S₁⟩ := stepS_sound hs R
          obtain ⟨H₂, e₂, R₂, S₂⟩ := segS_sound h R₁
          refine ⟨H₂, ?_, R₂, S₁.trans S₂⟩
          dsimp only
          rw [e₁]
          exact e₂
end Mine
end
section
open PySem PySem.W PyProof.Rows PySem.Calls
namespace Mine
@[reducible] noncomputable def S (x : String) : Str := Str.ofString x
noncomputable def en (P : Params) (x : String) (t : Tok) (v : Value) : DictEntry := ⟨PyData.keyHash P (Str.ofString x), .str (Str.ofString x) t, v⟩
noncomputable def topEnv (p : Program) : Env := { scope := p.main.scope, locals := mainNs, globals := mainNs, cells := [], code := .ref 13, frame := some 14 }
noncomputable def thrG (ex : List Stmt → Env → Sem Flow) (p : Program) (i m : Nat) (pos : Pos) : Thread :=
  ⟨(ex (((behindTheImports p).drop i).take m) (topEnv p)).wrap doneF deadEnd id id, .body (behindTheImports p) (topEnv p), pos, [topFrame ⟨0, 0, 0, 0⟩]⟩
noncomputable def thr := thrG PySem.W.Fast.tw12563942051412417395
noncomputable def stp (p : Program) (w : World) : Shared → Thread → Step := PySem.W.Fast.tw8437177126325714943 (PySem.W.Fast.tw11892475500146522536 PySem.W.Fast.tw14364793385576792824) p w
noncomputable def okk : Thread → Bool := PySem.W.Fast.tw6613529449190102663 11 (some (.ref 6))
noncomputable def obs (l : List Nat) : Flow × SharedT × Code × Pos → Flow × Code × Pos × Nat × Nat × List GenState × Drawn × OsState × List (Option Obj)
  | (f, s, c, q) => (f, c, q, s.n, s.toks, s.gens.toList, s.drawn, s.os, l.map s.tree.get)
abbrev pwO := PySem.Challenge.pw_ok0100_01
noncomputable def topCode : Code := .body (behindTheImports pwO) (topEnv pwO)
noncomputable def treeOf (F : Frag) : BT := F.foldl (fun T p => T.set p.1 (fun _ => p.2)) (full 12)
noncomputable def hotAll : List Nat := [0, 2, 3, 4, 12, 13, 38, 39, 252, 253]
noncomputable def okOut (n n' : Nat) (hot out : Frag) : Bool := (hot.all fun p => Nat.blt p.1 n && hotAll.contains p.1) && out.all fun p => Nat.blt p.1 n' && !p.2.isFreed
/-- a run of m statements from the i-th on: what is known ahead of it, and what is known behind it -/
noncomputable def Chunk (i m N : Nat) (pos pos' : Pos) (n n' k k' : Nat) (hot out : Params → Frag) : Prop :=
  ∀ (w : World) (os : OsState), ((segS (stp pwO w) okk N ⟨treeOf (hot w.params), n, {}, #[], {}, k, os⟩ (thr pwO i m pos)).map (obs ((out w.params).map (·.1))), okOut n n' (hot w.params) (out w.params)) =
    (some (.next, topCode, pos', n', k', [], {}, os, (out w.params).map fun p => some p.2), true)
noncomputable def stm (i : Nat) : Stmt := (behindTheImports pwO).getD i (.Pass ⟨0, 0, 0, 0⟩)
noncomputable def cst (i j : Nat) : Stmt := match stm i with
  | .ClassDef _ _ _ b _ _ _ _ _ _ _ => b.getD j (.Pass ⟨0, 0, 0, 0⟩)
  | s => s
noncomputable def fdOf (st : Stmt) (qual : Str) (dV cd pm : Value) : FuncData := match st with
  | .FunctionDef n a b _ _ _ sc _ _ _ => { name := n, qualname := qual, params := a, body := .stmts b, scope := sc, globals := mainGlobals, closure := [], defaults := dV, kwdefaults := .none, doc := .none, pyModule := pm, annotations := none, code := cd, closureTuple := .none, builtins := builtinsNs }
  | _ => default
end Mine
end
section
open PySem PySem.W PyProof.Rows PySem.Calls
namespace Mine
noncomputable def At (H : Heap) (F : Frag) : Prop := ∀ p ∈ F, H.get? p.1 = some p.2
theorem At.append {H : Heap} {F G : Frag} (x : At H F) (y : At H G) : At H (F ++ G) := fun p hp => (List.mem_append.mp hp).elim (x p) (y p)
theorem At.left {H : Heap} {F G : Frag} (x : At H (F ++ G)) : At H F := fun p hp => x p (List.mem_append.mpr (.inl hp))
theorem At.right {H : Heap} {F G : Frag} (x : At H (F ++ G)) : At H G := fun p hp => x p (List.mem_append.mpr (.inr hp))
theorem stp_eq (p : Program) (w : World) : stp p w = step (denote treeTable) p w := by
  unfold stp
  rw [← show @step = _ from PySem.W.Fast.te8437177126325714943, ← show @denote = _ from PySem.W.Fast.te11892475500146522536, ← show @treeTable = _ from PySem.W.Fast.te14364793385576792824]
theorem okk_eq : okk = stepOk 11 (some (.ref 6)) := by
  unfold okk
  rw [← show @stepOk = _ from PySem.W.Fast.te6613529449190102663]
theorem thr_eq (i m : Nat) (pos : Pos) : thr pwO i m pos = piecesOf (((behindTheImports pwO).drop i).take m) (topEnv pwO) topCode pos [topFrame ⟨0, 0, 0, 0⟩] := by
  unfold thr thrG
  rw [← show @execs = _ from PySem.W.Fast.te12563942051412417395]
  rfl
theorem full_junk : ∀ (d i : Nat) (o : Obj), (full d).get i = some o → o = junk
  | 0, i, o, h => by cases h
  | d + 1, i, o, h => by
    have h : (BT.node junk (full d) (full d)).get i = some o := h
    rw [BT.get_node] at h
    split at h
    · cases h; rfl
    · split at h
      · exact full_junk d _ o h
      · exact full_junk d _ o h
theorem alive_junk : alive junk = none := rfl
theorem relT_full {H : Heap} {n : Nat} (hs : H.objs.size = n) (d : Nat) : RelT (full d) n H :=
  ⟨hs, fun i o _ h a => by rw [full_junk d i o h, alive_junk] at a; cases a⟩
theorem relT_fold {H : Heap} {n : Nat} : ∀ (F : Frag) (T : BT), RelT T n H → At H F → RelT (F.foldl (fun T p => T.set p.1 (fun _ => p.2)) T) n H
  | [], _, R, _ => R
  | q :: F, T, R, x => relT_fold F _ ⟨R.size, fun i o hi h a => by
      rw [BT.get_set] at h
      by_cases e : i = q.1
      · subst e
        rw [if_pos rfl] at h
        obtain ⟨o', _, rfl⟩ := Option.map_eq_some_iff.mp h
        exact x q (.head _)
      · rw [if_neg e] at h
        exact R.at_ i o hi h a⟩ fun p hp => x p (.tail _ hp)
theorem fold_other (b : Nat) : ∀ (F : Frag) (T : BT), (∀ p ∈ F, p.1 ≠ b) → (F.foldl (fun T p => T.set p.1 (fun _ => p.2)) T).get b = T.get b
  | [], _, _ => rfl
  | q :: F, T, h => (fold_other b F _ fun p hp => h p (.tail _ hp)).trans (by rw [BT.get_set, if_neg (Ne.symm (h q (.head _)))])
theorem treeOf_other {F : Frag} {b : Nat} (h : ∀ p ∈ F, p.1 ≠ b) : ∀ o, (treeOf F).get b = some o → alive o = none := fun o ho => by
  rw [treeOf, fold_other b F _ h] at ho
  rw [full_junk _ _ _ ho]; rfl
theorem map_get {l : List (Addr × Obj)} {f : Addr → Option Obj} (h : (l.map (·.1)).map f = l.map fun p => some p.2) : ∀ p ∈ l, f p.1 = some p.2 := by
  refine ?mG; exact ((by exact ?mB) : (let_mvar% ?mB := (by (
  induction l with
  | nil => exact fun p hp => nomatch hp
  | cons q l ih =>
    simp only [List.map_cons, List.cons.injEq] at h
    intro p hp
    rcases List.mem_cons.mp hp with rfl | hp
    · exact h.1
    · exact ih h.2 p hp
  ) : type_of% ?mG); have _ : True := trivial; type_of% ?mG))
theorem Chunk.use {i m N : Nat} {pos pos' : Pos} {n n' k k' : Nat} {hot out : Params → Frag} (c : Chunk i m N pos pos' n n' k k' hot out) (w : World) (os : OsState) {H : Heap} (hs : H.objs.size = n) (hh : At H (hot w.params)) :
    ∃ H', segRun treeTable pwO w 11 (some (.ref 6)) 1 N ⟨H, #[], {}, k, os⟩ (piecesOf (((behindTheImports pwO).drop i).take m) (topEnv pwO) topCode pos [topFrame ⟨0, 0, 0, 0⟩]) =
        some (.next, ⟨H', #[], {}, k', os⟩, topCode, pos') ∧ H'.objs.size = n' ∧ n ≤ n' ∧ At H' (out w.params) ∧ ∀ b, b < n → b ∉ hotAll → H'.get? b = H.get? b := by
  refine ?mG; exact ((by exact ?mB) : (let_mvar% ?mB := (by (
  have h := c w os
  have h1 := congrArg Prod.fst h
  have h2 : okOut n n' (hot w.params) (out w.params) = true := congrArg Prod.snd h
  rw [stp_eq, okk_eq, thr_eq] at h1
  obtain ⟨⟨f, s', cc, q⟩, hr, ho⟩ := Option.map_eq_some_iff.mp h1
  obtain ⟨T', n₁, life', gens', drawn', toks', os'⟩ := s'
  simp only [obs, Prod.mk.injEq] at ho
  obtain ⟨rfl, rfl, rfl, rfl, rfl, hg, rfl, rfl, hl⟩ := ho
  have hg' : gens' = #[] := Array.toList_eq_nil_iff.mp hg
  subst hg'
  obtain ⟨H', e, R, St⟩ := segS_sound hr (H := H) (relT_fold _ _ (relT_full hs 12) hh)
  obtain ⟨ok1, ok2⟩ := Bool.and_eq_true_iff.mp h2
  have mg := map_get hl
  refine ⟨H', e, R.size, St.le, fun p hp => ?_, fun b hb hn => (St.stay b hb (treeOf_other fun p hp q => ?_)).2⟩
  · have := List.all_eq_true.mp ok2 p hp
    obtain ⟨a1, a2⟩ := Bool.and_eq_true_iff.mp this
    exact R.at_ p.1 p.2 (Nat.le_of_ble_eq_true a1) (mg p hp) (alive_of (by simpa using a2))
  · have := List.all_eq_true.mp ok1 p hp
    obtain ⟨_, a2⟩ := Bool.and_eq_true_iff.mp this
    exact hn (q ▸ List.contains_iff_mem.mp a2)
  ) : type_of% ?mG); have _ : True := trivial; type_of% ?mG))
/-- from the i-th statement on the top's run comes to its end -/
noncomputable def Reach (fin : Params → Frag) (i : Nat) (pos : Pos) (n k : Nat) (hot acc : Params → Frag) : Prop :=
  ∀ (w : World) (os : OsState) (H : Heap), H.objs.size = n → At H (hot w.params) → At H (acc w.params) →
    ∃ N H', topRun treeTable pwO w 11 (some (.ref 6)) N ⟨H, #[], {}, k, os⟩ (restOf ((behindTheImports pwO).drop i) (topEnv pwO) topCode pos [topFrame ⟨0, 0, 0, 0⟩]) = some ⟨H', #[], {}, 2153, os⟩ ∧
      H'.objs.size = 1352 ∧ At H' (fin w.params) ∧ ∀ b, b < n → b ∉ hotAll → H'.get? b = H.get? b

noncomputable def offOk (n : Nat) (acc : Frag) : Bool := acc.all fun p => Nat.blt p.1 n && !hotAll.contains p.1
theorem Reach.back {fin : Params → Frag} {i m N : Nat} {pos pos' : Pos} {n n' k k' : Nat} {hot hot' kf acc : Params → Frag} (c : Chunk i m N pos pos' n n' k k' hot (fun P => hot' P ++ kf P))
    (off : ∀ P, offOk n (acc P) = true) (r : Reach fin (i + m) pos' n' k' hot' (fun P => acc P ++ kf P)) : Reach fin i pos n k hot acc := by
  refine ?mG; exact ((by exact ?mB) : (let_mvar% ?mB := (by (
  intro w os H hs hh ha
  obtain ⟨H₁, e₁, hs₁, le, x₁, fr₁⟩ := c.use w os hs hh
  have ha₁ : At H₁ (acc w.params) := fun p hp => by
    have := List.all_eq_true.mp (off w.params) p hp
    obtain ⟨a1, a2⟩ := Bool.and_eq_true_iff.mp this
    rw [fr₁ p.1 (Nat.le_of_ble_eq_true a1) (fun q => by rw [List.contains_iff_mem.mpr q] at a2; cases a2)]
    exact ha p hp
  obtain ⟨N₂, H₂, e₂, hs₂, x₂, fr₂⟩ := r w os H₁ hs₁ x₁.left (ha₁.append x₁.right)
  refine ⟨N + N₂, H₂, ?_, hs₂, x₂, fun b hb hn => (fr₂ b (Nat.lt_of_lt_of_le hb le) hn).trans (fr₁ b hb hn)⟩
  have split : (behindTheImports pwO).drop i = ((behindTheImports pwO).drop i).take m ++ (behindTheImports pwO).drop (i + m) := by
    rw [← List.drop_drop, List.take_append_drop]
  rw [split]
  exact piece_app e₁ e₂
  ) : type_of% ?mG); have _ : True := trivial; type_of% ?mG))
theorem body_end : (behindTheImports pwO).drop 173 = [] := by kernel_rfl
theorem reach_end {hot acc : Params → Frag} (fin : Params → Frag) (pos : Pos) (hf : ∀ P, fin P = hot P ++ acc P := by exact fun _ => rfl) : Reach fin 173 pos 1352 2153 hot acc := by
  intro w os H hs hh ha
  refine ⟨2, H, ?_, hs, hf w.params ▸ hh.append ha, fun _ _ _ => rfl⟩
  rw [body_end]
  exact piece_nil rfl
end Mine
end
section
open PySem PySem.W PyProof.Rows PySem.Calls
set_option maxRecDepth 100000
set_option maxHeartbeats 0
set_option Elab.async false
set_option compiler.extract_closed false
set_option compiler.reuse false
set_option linter.unusedVariables false
namespace Mine
/-! hot [0, 2, 3, 4, 12, 13, 38, 39, 252, 253]; written part 182 objects -/
noncomputable def b0_0 (P : Params) : Obj := ⟨(.type "dict"), none, (.dict #[en P "__name__" 1 (.str (S "builtins") 160), en P "__doc__" 2 (.builtin "builtins.__doc__:str#opaque"), en P "__package__" 3 (.builtin "builtins.__package__:str#opaque"), en P "__loader__" 4 (.builtin "builtins.__loader__:shared#opaque"), en P "__spec__" 5 (.builtin "builtins.__spec__#opaque"), en P "__build_class__" 6 (.builtin "__build_class__"), en P "__import__" 7 (.builtin "__import__"), en P "abs" 8 (.builtin "abs"), en P "all" 9 (.builtin "all"), en P "any" 10 (.builtin "any"), en P "ascii" 11 (.builtin "ascii"), en P "bin" 12 (.builtin "bin"), en P "breakpoint" 13 (.builtin "breakpoint"), en P "callable" 14 (.builtin "callable"), en P "chr" 15 (.builtin "chr"), en P "compile" 16 (.builtin "compile"), en P "delattr" 17 (.builtin "delattr"), en P "dir" 18 (.builtin "dir"), en P "divmod" 19 (.builtin "divmod"), en P "eval" 20 (.builtin "eval"), en P "exec" 21 (.builtin "exec"), en P "format" 22 (.builtin "format"), en P "getattr" 23 (.builtin "getattr"), en P "globals" 24 (.builtin "globals"), en P "hasattr" 25 (.builtin "hasattr"), en P "hash" 26 (.builtin "hash"), en P "hex" 27 (.builtin "hex"), en P "id" 28 (.builtin "id"), en P "input" 29 (.builtin "input"), en P "isinstance" 30 (.builtin "isinstance"), en P "issubclass" 31 (.builtin "issubclass"), en P "iter" 32 (.builtin "iter"), en P "aiter" 33 (.builtin "aiter"), en P "len" 34 (.builtin "len"), en P "locals" 35 (.builtin "locals"), en P "max" 36 (.builtin "max"), en P "min" 37 (.builtin "min"), en P "next" 38 (.builtin "next"), en P "anext" 39 (.builtin "anext"), en P "oct" 40 (.builtin "oct"), en P "ord" 41 (.builtin "ord"), en P "pow" 42 (.builtin "pow"), en P "print" 43 (.builtin "print"), en P "repr" 44 (.builtin "repr"), en P "round" 45 (.builtin "round"), en P "setattr" 46 (.builtin "setattr"), en P "sorted" 47 (.builtin "sorted"), en P "sum" 48 (.builtin "sum"), en P "vars" 49 (.builtin "vars"), en P "None" 50 .none, en P "Ellipsis" 51 .ellipsis, en P "NotImplemented" 52 .notImplemented, en P "False" 53 (.bool false), en P "True" 54 (.bool true), en P "bool" 55 (.type "bool"), en P "memoryview" 56 (.type "memoryview"), en P "bytearray" 57 (.type "bytearray"), en P "bytes" 58 (.type "bytes"), en P "classmethod" 59 (.type "classmethod"), en P "complex" 60 (.type "complex"), en P "dict" 61 (.type "dict"), en P "enumerate" 62 (.type "enumerate"), en P "filter" 63 (.type "filter"), en P "float" 64 (.type "float"), en P "frozenset" 65 (.type "frozenset"), en P "property" 66 (.type "property"), en P "int" 67 (.type "int"), en P "list" 68 (.type "list"), en P "map" 69 (.type "map"), en P "object" 70 (.type "object"), en P "range" 71 (.type "range"), en P "reversed" 72 (.type "reversed"), en P "set" 73 (.type "set"), en P "slice" 74 (.type "slice"), en P "staticmethod" 75 (.type "staticmethod"), en P "str" 76 (.type "str"), en P "super" 77 (.type "super"), en P "tuple" 78 (.type "tuple"), en P "type" 79 (.type "type"), en P "zip" 80 (.type "zip"), en P "__debug__" 81 (.bool true), en P "BaseException" 82 (.type "BaseException"), en P "BaseExceptionGroup" 83 (.type "BaseExceptionGroup"), en P "Exception" 84 (.type "Exception"), en P "GeneratorExit" 85 (.type "GeneratorExit"), en P "KeyboardInterrupt" 86 (.type "KeyboardInterrupt"), en P "SystemExit" 87 (.type "SystemExit"), en P "ArithmeticError" 88 (.type "ArithmeticError"), en P "AssertionError" 89 (.type "AssertionError"), en P "AttributeError" 90 (.type "AttributeError"), en P "BufferError" 91 (.type "BufferError"), en P "EOFError" 92 (.type "EOFError"), en P "ImportError" 93 (.type "ImportError"), en P "LookupError" 94 (.type "LookupError"), en P "MemoryError" 95 (.type "MemoryError"), en P "NameError" 96 (.type "NameError"), en P "OSError" 97 (.type "OSError"), en P "ReferenceError" 98 (.type "ReferenceError"), en P "RuntimeError" 99 (.type "RuntimeError"), en P "StopAsyncIteration" 100 (.type "StopAsyncIteration"), en P "StopIteration" 101 (.type "StopIteration"), en P "SyntaxError" 102 (.type "SyntaxError"), en P "SystemError" 103 (.type "SystemError"), en P "TypeError" 104 (.type "TypeError"), en P "ValueError" 105 (.type "ValueError"), en P "Warning" 106 (.type "Warning"), en P "FloatingPointError" 107 (.type "FloatingPointError"), en P "OverflowError" 108 (.type "OverflowError"), en P "ZeroDivisionError" 109 (.type "ZeroDivisionError"), en P "BytesWarning" 110 (.type "BytesWarning"), en P "DeprecationWarning" 111 (.type "DeprecationWarning"), en P "EncodingWarning" 112 (.type "EncodingWarning"), en P "FutureWarning" 113 (.type "FutureWarning"), en P "ImportWarning" 114 (.type "ImportWarning"), en P "PendingDeprecationWarning" 115 (.type "PendingDeprecationWarning"), en P "ResourceWarning" 116 (.type "ResourceWarning"), en P "RuntimeWarning" 117 (.type "RuntimeWarning"), en P "SyntaxWarning" 118 (.type "SyntaxWarning"), en P "UnicodeWarning" 119 (.type "UnicodeWarning"), en P "UserWarning" 120 (.type "UserWarning"), en P "BlockingIOError" 121 (.type "BlockingIOError"), en P "ChildProcessError" 122 (.type "ChildProcessError"), en P "ConnectionError" 123 (.type "ConnectionError"), en P "FileExistsError" 124 (.type "FileExistsError"), en P "FileNotFoundError" 125 (.type "FileNotFoundError"), en P "InterruptedError" 126 (.type "InterruptedError"), en P "IsADirectoryError" 127 (.type "IsADirectoryError"), en P "NotADirectoryError" 128 (.type "NotADirectoryError"), en P "PermissionError" 129 (.type "PermissionError"), en P "ProcessLookupError" 130 (.type "ProcessLookupError"), en P "TimeoutError" 131 (.type "TimeoutError"), en P "IndentationError" 132 (.type "IndentationError"), en P "_IncompleteInputError" 133 (.type "_IncompleteInputError"), en P "IndexError" 134 (.type "IndexError"), en P "KeyError" 135 (.type "KeyError"), en P "ModuleNotFoundError" 136 (.type "ModuleNotFoundError"), en P "NotImplementedError" 137 (.type "NotImplementedError"), en P "PythonFinalizationError" 138 (.type "PythonFinalizationError"), en P "RecursionError" 139 (.type "RecursionError"), en P "UnboundLocalError" 140 (.type "UnboundLocalError"), en P "UnicodeError" 141 (.type "UnicodeError"), en P "BrokenPipeError" 142 (.type "BrokenPipeError"), en P "ConnectionAbortedError" 143 (.type "ConnectionAbortedError"), en P "ConnectionRefusedError" 144 (.type "ConnectionRefusedError"), en P "ConnectionResetError" 145 (.type "ConnectionResetError"), en P "TabError" 146 (.type "TabError"), en P "UnicodeDecodeError" 147 (.type "UnicodeDecodeError"), en P "UnicodeEncodeError" 148 (.type "UnicodeEncodeError"), en P "UnicodeTranslateError" 149 (.type "UnicodeTranslateError"), en P "ExceptionGroup" 150 (.type "ExceptionGroup"), en P "EnvironmentError" 151 (.type "OSError"), en P "IOError" 152 (.type "OSError"), en P "open" 153 (.builtin "open"), en P "quit" 154 (.builtin "builtins.quit#opaque"), en P "exit" 155 (.builtin "builtins.exit#opaque"), en P "copyright" 156 (.builtin "builtins.copyright#opaque"), en P "credits" 157 (.builtin "builtins.credits#opaque"), en P "license" 158 (.builtin "builtins.license#opaque"), en P "help" 159 (.builtin "builtins.help#opaque")] 159), #[]⟩
noncomputable def b0_2 (P : Params) : Obj := ⟨.none, none, (.dict #[] 0), #[]⟩
noncomputable def b0_3 (P : Params) : Obj := ⟨(.type "dict"), none, (.dict #[en P "__name__" 165 (.str (S "__main__") 164), en P "__doc__" 166 .none, en P "__package__" 167 .none, en P "__loader__" 168 (.builtin "__main__.__loader__#opaque"), en P "__spec__" 169 .none, en P "__annotations__" 170 (.ref 6), en P "__builtins__" 171 (.ref 4), en P "__file__" 173 (.str (S "/claim/cut.py") 172), en P "__cached__" 174 .none] 9), #[]⟩
noncomputable def b0_4 (P : Params) : Obj := ⟨(.type "module"), (some 0), .plain, #[]⟩
noncomputable def b0_12 (P : Params) : Obj := ⟨.none, none, (.fields #[]), #[]⟩
noncomputable def b0_13 (P : Params) : Obj := ⟨(.type "code"), none, (.fields #[(.str (S "<module>") 182), (.str (S "<module>") 183), (.str (S "/claim/cut.py") 184), (.int 1 0), (.int 0 0), (.int 0 0), (.int 0 0), (.int 0 0), (.ref 11), (.bool false), (.int 181 0), (.ref 12), .none, .none, .none, .none, (.int 185 0), (.int 1 0), (.str (S "/claim/cut.py") 186)]), #[]⟩
noncomputable def hot0 (P : Params) : Frag := [(0, b0_0 P), (2, b0_2 P), (3, b0_3 P), (4, b0_4 P), (12, b0_12 P), (13, b0_13 P)]
noncomputable def b1_2 (P : Params) : Obj := ⟨.none, none, (.dict #[en P "type.__subclasses__.Exception.0" 228 (.int 39 0), en P "type.__subclasses__.Exception.n" 229 (.int 1 0)] 2), #[]⟩
noncomputable def b1_3 (P : Params) : Obj := ⟨(.type "dict"), none, (.dict #[en P "__name__" 165 (.str (S "gateloom.errors") 194), en P "__doc__" 166 .none, en P "__package__" 167 .none, en P "__loader__" 168 (.builtin "__main__.__loader__#opaque"), en P "__spec__" 169 .none, en P "__annotations__" 170 (.ref 6), en P "__builtins__" 171 (.ref 4), en P "__file__" 173 (.str (S "/claim/cut.py") 172), en P "__cached__" 174 .none, en P "_wall" 193 (.ref 21), en P "GateloomError" 231 (.ref 39)] 11), #[]⟩
noncomputable def b1_12 (P : Params) : Obj := ⟨.none, none, (.fields #[(.int 1 0), (.int 0 0), (.ref 20), (.int 5 0), (.int 0 0), (.ref 27)]), #[]⟩
noncomputable def b1_38 (P : Params) : Obj := ⟨(.type "dict"), none, (.dict #[en P "__module__" 203 (.str (S "gateloom.errors") 194), en P "__firstlineno__" 207 (.int 5 206), en P "__init__" 220 (.ref 36), en P "__static_attributes__" 224 (.ref 37), en P "__weakref__" 226 (.ref 40), en P "__doc__" 227 .none] 3), #[]⟩
noncomputable def b1_39 (P : Params) : Obj := ⟨(.type "type"), none, (.cls { name := (S "GateloomError"), bases := [(.type "Exception")], mro := [(.ref 39), (.type "Exception"), (.type "BaseException"), (.type "object")], ns := 38, qualname := (S "GateloomError"), hasDict := true, slotNames := [], subclasses := [], abstract := false, collection := none, hasDel := false }), #[(some (.ref 22)), none, (some (.str (S "GateloomError") 196)), (some (.str (S "GateloomError") 204)), (some (.builtin "Exception.__new__")), (some (.bool true))]⟩
noncomputable def hot1 (P : Params) : Frag := [(0, b0_0 P), (2, b1_2 P), (3, b1_3 P), (4, b0_4 P), (12, b1_12 P), (13, b0_13 P), (38, b1_38 P), (39, b1_39 P)]
noncomputable def b2_3 (P : Params) : Obj := ⟨(.type "dict"), none, (.dict #[en P "__name__" 165 (.str (S "gateloom.vec") 264), en P "__doc__" 166 .none, en P "__package__" 167 .none, en P "__loader__" 168 (.builtin "__main__.__loader__#opaque"), en P "__spec__" 169 .none, en P "__annotations__" 170 (.ref 6), en P "__builtins__" 171 (.ref 4), en P "__file__" 173 (.str (S "/claim/cut.py") 172), en P "__cached__" 174 .none, en P "_wall" 193 (.ref 21), en P "GateloomError" 231 (.ref 39), en P "DesignError" 247 (.ref 52), en P "LimitReached" 263 (.ref 64)] 13), #[]⟩
noncomputable def b2_12 (P : Params) : Obj := ⟨.none, none, (.fields #[(.int 1 0), (.int 0 0), (.ref 20), (.int 5 0), (.int 0 0), (.ref 27), (.int 11 0), (.int 0 0), (.ref 48), (.int 13 0), (.int 0 0), (.ref 60)]), #[]⟩
noncomputable def b2_39 (P : Params) : Obj := ⟨(.type "type"), none, (.cls { name := (S "GateloomError"), bases := [(.type "Exception")], mro := [(.ref 39), (.type "Exception"), (.type "BaseException"), (.type "object")], ns := 38, qualname := (S "GateloomError"), hasDict := true, slotNames := [], subclasses := [(.ref 52), (.ref 64)], abstract := false, collection := none, hasDel := false }), #[(some (.ref 22)), none, (some (.str (S "GateloomError") 196)), (some (.str (S "GateloomError") 204)), (some (.builtin "Exception.__new__")), (some (.bool true))]⟩
noncomputable def hot2 (P : Params) : Frag := [(0, b0_0 P), (2, b1_2 P), (3, b2_3 P), (4, b0_4 P), (12, b2_12 P), (13, b0_13 P), (38, b1_38 P), (39, b2_39 P)]
noncomputable def b3_3 (P : Params) : Obj := ⟨(.type "dict"), none, (.dict #[en P "__name__" 165 (.str (S "gateloom.store") 410), en P "__doc__" 166 .none, en P "__package__" 167 .none, en P "__loader__" 168 (.builtin "__main__.__loader__#opaque"), en P "__spec__" 169 .none, en P "__annotations__" 170 (.ref 6), en P "__builtins__" 171 (.ref 4), en P "__file__" 173 (.str (S "/claim/cut.py") 172), en P "__cached__" 174 .none, en P "_wall" 193 (.ref 21), en P "GateloomError" 231 (.ref 39), en P "DesignError" 247 (.ref 52), en P "LimitReached" 263 (.ref 64), en P "mask" 272 (.ref 73), en P "vec" 283 (.ref 81), en P "zeros" 290 (.ref 88), en P "all_x" 298 (.ref 95), en P "all_z" 305 (.ref 102), en P "from_int" 313 (.ref 109), en P "is_known" 320 (.ref 116), en P "to_int" 331 (.ref 123), en P "code" 339 (.ref 130), en P "slice_vec" 355 (.ref 137), en P "put_slice" 371 (.ref 144), en P "concat" 382 (.ref 151), en P "extend" 395 (.ref 158), en P "z_to_x" 402 (.ref 165), en P "truth" 409 (.ref 172)] 28), #[]⟩
noncomputable def b3_12 (P : Params) : Obj := ⟨.none, none, (.fields #[(.int 1 0), (.int 0 0), (.ref 20), (.int 5 0), (.int 0 0), (.ref 27), (.int 11 0), (.int 0 0), (.ref 48), (.int 13 0), (.int 0 0), (.ref 60), (.int 16 0), (.int 0 0), (.ref 72), (.int 18 0), (.int 0 0), (.ref 80), (.int 21 0), (.int 0 0), (.ref 87), (.int 23 0), (.int 0 0), (.ref 94), (.int 26 0), (.int 0 0), (.ref 101), (.int 28 0), (.int 0 0), (.ref 108), (.int 30 0), (.int 0 0), (.ref 115), (.int 32 0), (.int 0 0), (.ref 122), (.int 39 0), (.int 0 0), (.ref 129), (.int 41 0), (.int 0 0), (.ref 136), (.int 52 0), (.int 0 0), (.ref 143), (.int 63 0), (.int 0 0), (.ref 150), (.int 72 0), (.int 0 0), (.ref 157), (.int 82 0), (.int 0 0), (.ref 164), (.int 84 0), (.int 0 0), (.ref 171)]), #[]⟩
noncomputable def hot3 (P : Params) : Frag := [(0, b0_0 P), (2, b1_2 P), (3, b3_3 P), (4, b0_4 P), (12, b3_12 P), (13, b0_13 P), (38, b1_38 P), (39, b2_39 P)]
noncomputable def b4_3 (P : Params) : Obj := ⟨(.type "dict"), none, (.dict #[en P "__name__" 165 (.str (S "gateloom.store") 410), en P "__doc__" 166 .none, en P "__package__" 167 .none, en P "__loader__" 168 (.builtin "__main__.__loader__#opaque"), en P "__spec__" 169 .none, en P "__annotations__" 170 (.ref 6), en P "__builtins__" 171 (.ref 4), en P "__file__" 173 (.str (S "/claim/cut.py") 172), en P "__cached__" 174 .none, en P "_wall" 193 (.ref 21), en P "GateloomError" 231 (.ref 39), en P "DesignError" 247 (.ref 52), en P "LimitReached" 263 (.ref 64), en P "mask" 272 (.ref 73), en P "vec" 283 (.ref 81), en P "zeros" 290 (.ref 88), en P "all_x" 298 (.ref 95), en P "all_z" 305 (.ref 102), en P "from_int" 313 (.ref 109), en P "is_known" 320 (.ref 116), en P "to_int" 331 (.ref 123), en P "code" 339 (.ref 130), en P "slice_vec" 355 (.ref 137), en P "put_slice" 371 (.ref 144), en P "concat" 382 (.ref 151), en P "extend" 395 (.ref 158), en P "z_to_x" 402 (.ref 165), en P "truth" 409 (.ref 172), en P "Store" 477 (.ref 210)] 29), #[]⟩
noncomputable def b4_12 (P : Params) : Obj := ⟨.none, none, (.fields #[(.int 1 0), (.int 0 0), (.ref 20), (.int 5 0), (.int 0 0), (.ref 27), (.int 11 0), (.int 0 0), (.ref 48), (.int 13 0), (.int 0 0), (.ref 60), (.int 16 0), (.int 0 0), (.ref 72), (.int 18 0), (.int 0 0), (.ref 80), (.int 21 0), (.int 0 0), (.ref 87), (.int 23 0), (.int 0 0), (.ref 94), (.int 26 0), (.int 0 0), (.ref 101), (.int 28 0), (.int 0 0), (.ref 108), (.int 30 0), (.int 0 0), (.ref 115), (.int 32 0), (.int 0 0), (.ref 122), (.int 39 0), (.int 0 0), (.ref 129), (.int 41 0), (.int 0 0), (.ref 136), (.int 52 0), (.int 0 0), (.ref 143), (.int 63 0), (.int 0 0), (.ref 150), (.int 72 0), (.int 0 0), (.ref 157), (.int 82 0), (.int 0 0), (.ref 164), (.int 84 0), (.int 0 0), (.ref 171), (.int 91 0), (.int 0 0), (.ref 178)]), #[]⟩
noncomputable def hot4 (P : Params) : Frag := [(0, b0_0 P), (2, b1_2 P), (3, b4_3 P), (4, b0_4 P), (12, b4_12 P), (13, b0_13 P), (38, b1_38 P), (39, b2_39 P)]
noncomputable def b5_3 (P : Params) : Obj := ⟨(.type "dict"), none, (.dict #[en P "__name__" 165 (.str (S "gateloom.store") 410), en P "__doc__" 166 .none, en P "__package__" 167 .none, en P "__loader__" 168 (.builtin "__main__.__loader__#opaque"), en P "__spec__" 169 .none, en P "__annotations__" 170 (.ref 6), en P "__builtins__" 171 (.ref 4), en P "__file__" 173 (.str (S "/claim/cut.py") 172), en P "__cached__" 174 .none, en P "_wall" 193 (.ref 21), en P "GateloomError" 231 (.ref 39), en P "DesignError" 247 (.ref 52), en P "LimitReached" 263 (.ref 64), en P "mask" 272 (.ref 73), en P "vec" 283 (.ref 81), en P "zeros" 290 (.ref 88), en P "all_x" 298 (.ref 95), en P "all_z" 305 (.ref 102), en P "from_int" 313 (.ref 109), en P "is_known" 320 (.ref 116), en P "to_int" 331 (.ref 123), en P "code" 339 (.ref 130), en P "slice_vec" 355 (.ref 137), en P "put_slice" 371 (.ref 144), en P "concat" 382 (.ref 151), en P "extend" 395 (.ref 158), en P "z_to_x" 402 (.ref 165), en P "truth" 409 (.ref 172), en P "Store" 477 (.ref 210), en P "Context" 536 (.ref 253)] 30), #[]⟩
noncomputable def b5_12 (P : Params) : Obj := ⟨.none, none, (.fields #[(.int 1 0), (.int 0 0), (.ref 20), (.int 5 0), (.int 0 0), (.ref 27), (.int 11 0), (.int 0 0), (.ref 48), (.int 13 0), (.int 0 0), (.ref 60), (.int 16 0), (.int 0 0), (.ref 72), (.int 18 0), (.int 0 0), (.ref 80), (.int 21 0), (.int 0 0), (.ref 87), (.int 23 0), (.int 0 0), (.ref 94), (.int 26 0), (.int 0 0), (.ref 101), (.int 28 0), (.int 0 0), (.ref 108), (.int 30 0), (.int 0 0), (.ref 115), (.int 32 0), (.int 0 0), (.ref 122), (.int 39 0), (.int 0 0), (.ref 129), (.int 41 0), (.int 0 0), (.ref 136), (.int 52 0), (.int 0 0), (.ref 143), (.int 63 0), (.int 0 0), (.ref 150), (.int 72 0), (.int 0 0), (.ref 157), (.int 82 0), (.int 0 0), (.ref 164), (.int 84 0), (.int 0 0), (.ref 171), (.int 91 0), (.int 0 0), (.ref 178), (.int 134 0), (.int 0 0), (.ref 220)]), #[]⟩
noncomputable def b5_252 (P : Params) : Obj := ⟨(.type "dict"), none, (.dict #[en P "__module__" 485 (.str (S "gateloom.store") 410), en P "__firstlineno__" 489 (.int 134 488), en P "__init__" 500 (.ref 229), en P "call" 509 (.ref 236), en P "next_random" 517 (.ref 243), en P "time_vec" 525 (.ref 250), en P "__static_attributes__" 529 (.ref 251), en P "__dict__" 531 (.ref 254), en P "__weakref__" 533 (.ref 255), en P "__doc__" 534 .none] 4), #[]⟩
noncomputable def b5_253 (P : Params) : Obj := ⟨(.type "type"), none, (.cls { name := (S "Context"), bases := [(.type "object")], mro := [(.ref 253), (.type "object")], ns := 252, qualname := (S "Context"), hasDict := true, slotNames := [], subclasses := [], abstract := false, collection := none, hasDel := false }), #[none, none, (some (.str (S "Context") 478)), (some (.str (S "Context") 486)), (some (.builtin "object.__new__")), (some (.bool true))]⟩
noncomputable def hot5 (P : Params) : Frag := [(0, b0_0 P), (2, b1_2 P), (3, b5_3 P), (4, b0_4 P), (12, b5_12 P), (13, b0_13 P), (38, b1_38 P), (39, b2_39 P), (252, b5_252 P), (253, b5_253 P)]
noncomputable def b6_3 (P : Params) : Obj := ⟨(.type "dict"), none, (.dict #[en P "__name__" 165 (.str (S "gateloom.vecarith") 537), en P "__doc__" 166 .none, en P "__package__" 167 .none, en P "__loader__" 168 (.builtin "__main__.__loader__#opaque"), en P "__spec__" 169 .none, en P "__annotations__" 170 (.ref 6), en P "__builtins__" 171 (.ref 4), en P "__file__" 173 (.str (S "/claim/cut.py") 172), en P "__cached__" 174 .none, en P "_wall" 193 (.ref 21), en P "GateloomError" 231 (.ref 39), en P "DesignError" 247 (.ref 52), en P "LimitReached" 263 (.ref 64), en P "mask" 272 (.ref 73), en P "vec" 283 (.ref 81), en P "zeros" 290 (.ref 88), en P "all_x" 298 (.ref 95), en P "all_z" 305 (.ref 102), en P "from_int" 313 (.ref 109), en P "is_known" 320 (.ref 116), en P "to_int" 331 (.ref 123), en P "code" 339 (.ref 130), en P "slice_vec" 355 (.ref 137), en P "put_slice" 371 (.ref 144), en P "concat" 382 (.ref 151), en P "extend" 395 (.ref 158), en P "z_to_x" 402 (.ref 165), en P "truth" 409 (.ref 172), en P "Store" 477 (.ref 210), en P "Context" 536 (.ref 253), en P "add" 546 (.ref 264), en P "sub" 554 (.ref 271), en P "mul" 562 (.ref 278), en P "neg" 569 (.ref 285), en P "quotient" 578 (.ref 292), en P "div" 589 (.ref 299), en P "mod" 600 (.ref 306), en P "raise_whole" 613 (.ref 313), en P "power" 626 (.ref 320), en P "shift_left" 636 (.ref 327), en P "shift_right" 645 (.ref 334)] 41), #[]⟩
noncomputable def b6_12 (P : Params) : Obj := ⟨.none, none, (.fields #[(.int 1 0), (.int 0 0), (.ref 20), (.int 5 0), (.int 0 0), (.ref 27), (.int 11 0), (.int 0 0), (.ref 48), (.int 13 0), (.int 0 0), (.ref 60), (.int 16 0), (.int 0 0), (.ref 72), (.int 18 0), (.int 0 0), (.ref 80), (.int 21 0), (.int 0 0), (.ref 87), (.int 23 0), (.int 0 0), (.ref 94), (.int 26 0), (.int 0 0), (.ref 101), (.int 28 0), (.int 0 0), (.ref 108), (.int 30 0), (.int 0 0), (.ref 115), (.int 32 0), (.int 0 0), (.ref 122), (.int 39 0), (.int 0 0), (.ref 129), (.int 41 0), (.int 0 0), (.ref 136), (.int 52 0), (.int 0 0), (.ref 143), (.int 63 0), (.int 0 0), (.ref 150), (.int 72 0), (.int 0 0), (.ref 157), (.int 82 0), (.int 0 0), (.ref 164), (.int 84 0), (.int 0 0), (.ref 171), (.int 91 0), (.int 0 0), (.ref 178), (.int 134 0), (.int 0 0), (.ref 220), (.int 154 0), (.int 0 0), (.ref 263), (.int 158 0), (.int 0 0), (.ref 270), (.int 162 0), (.int 0 0), (.ref 277), (.int 166 0), (.int 0 0), (.ref 284), (.int 170 0), (.int 0 0), (.ref 291), (.int 175 0), (.int 0 0), (.ref 298), (.int 181 0), (.int 0 0), (.ref 305), (.int 187 0), (.int 0 0), (.ref 312), (.int 198 0), (.int 0 0), (.ref 319), (.int 213 0), (.int 0 0), (.ref 326), (.int 221 0), (.int 0 0), (.ref 333)]), #[]⟩
noncomputable def hot6 (P : Params) : Frag := [(0, b0_0 P), (2, b1_2 P), (3, b6_3 P), (4, b0_4 P), (12, b6_12 P), (13, b0_13 P), (38, b1_38 P), (39, b2_39 P), (252, b5_252 P), (253, b5_253 P)]
noncomputable def b7_3 (P : Params) : Obj := ⟨(.type "dict"), none, (.dict #[en P "__name__" 165 (.str (S "gateloom.vecops") 710), en P "__doc__" 166 .none, en P "__package__" 167 .none, en P "__loader__" 168 (.builtin "__main__.__loader__#opaque"), en P "__spec__" 169 .none, en P "__annotations__" 170 (.ref 6), en P "__builtins__" 171 (.ref 4), en P "__file__" 173 (.str (S "/claim/cut.py") 172), en P "__cached__" 174 .none, en P "_wall" 193 (.ref 21), en P "GateloomError" 231 (.ref 39), en P "DesignError" 247 (.ref 52), en P "LimitReached" 263 (.ref 64), en P "mask" 272 (.ref 73), en P "vec" 283 (.ref 81), en P "zeros" 290 (.ref 88), en P "all_x" 298 (.ref 95), en P "all_z" 305 (.ref 102), en P "from_int" 313 (.ref 109), en P "is_known" 320 (.ref 116), en P "to_int" 331 (.ref 123), en P "code" 339 (.ref 130), en P "slice_vec" 355 (.ref 137), en P "put_slice" 371 (.ref 144), en P "concat" 382 (.ref 151), en P "extend" 395 (.ref 158), en P "z_to_x" 402 (.ref 165), en P "truth" 409 (.ref 172), en P "Store" 477 (.ref 210), en P "Context" 536 (.ref 253), en P "add" 546 (.ref 264), en P "sub" 554 (.ref 271), en P "mul" 562 (.ref 278), en P "neg" 569 (.ref 285), en P "quotient" 578 (.ref 292), en P "div" 589 (.ref 299), en P "mod" 600 (.ref 306), en P "raise_whole" 613 (.ref 313), en P "power" 626 (.ref 320), en P "shift_left" 636 (.ref 327), en P "shift_right" 645 (.ref 334), en P "shift_arith" 660 (.ref 341), en P "ordered" 671 (.ref 348), en P "less" 681 (.ref 355), en P "less_equal" 691 (.ref 362), en P "greater" 700 (.ref 369), en P "greater_equal" 709 (.ref 376), en P "one_bit" 718 (.ref 383), en P "bit_not" 728 (.ref 390), en P "bit_and" 742 (.ref 397), en P "bit_or" 757 (.ref 404), en P "bit_xor" 766 (.ref 411), en P "bit_xnor" 774 (.ref 418), en P "reduce_and" 784 (.ref 425)] 54), #[]⟩
noncomputable def b7_12 (P : Params) : Obj := ⟨.none, none, (.fields #[(.int 1 0), (.int 0 0), (.ref 20), (.int 5 0), (.int 0 0), (.ref 27), (.int 11 0), (.int 0 0), (.ref 48), (.int 13 0), (.int 0 0), (.ref 60), (.int 16 0), (.int 0 0), (.ref 72), (.int 18 0), (.int 0 0), (.ref 80), (.int 21 0), (.int 0 0), (.ref 87), (.int 23 0), (.int 0 0), (.ref 94), (.int 26 0), (.int 0 0), (.ref 101), (.int 28 0), (.int 0 0), (.ref 108), (.int 30 0), (.int 0 0), (.ref 115), (.int 32 0), (.int 0 0), (.ref 122), (.int 39 0), (.int 0 0), (.ref 129), (.int 41 0), (.int 0 0), (.ref 136), (.int 52 0), (.int 0 0), (.ref 143), (.int 63 0), (.int 0 0), (.ref 150), (.int 72 0), (.int 0 0), (.ref 157), (.int 82 0), (.int 0 0), (.ref 164), (.int 84 0), (.int 0 0), (.ref 171), (.int 91 0), (.int 0 0), (.ref 178), (.int 134 0), (.int 0 0), (.ref 220), (.int 154 0), (.int 0 0), (.ref 263), (.int 158 0), (.int 0 0), (.ref 270), (.int 162 0), (.int 0 0), (.ref 277), (.int 166 0), (.int 0 0), (.ref 284), (.int 170 0), (.int 0 0), (.ref 291), (.int 175 0), (.int 0 0), (.ref 298), (.int 181 0), (.int 0 0), (.ref 305), (.int 187 0), (.int 0 0), (.ref 312), (.int 198 0), (.int 0 0), (.ref 319), (.int 213 0), (.int 0 0), (.ref 326), (.int 221 0), (.int 0 0), (.ref 333), (.int 228 0), (.int 0 0), (.ref 340), (.int 238 0), (.int 0 0), (.ref 347), (.int 246 0), (.int 0 0), (.ref 354), (.int 251 0), (.int 0 0), (.ref 361), (.int 256 0), (.int 0 0), (.ref 368), (.int 258 0), (.int 0 0), (.ref 375), (.int 261 0), (.int 0 0), (.ref 382), (.int 263 0), (.int 0 0), (.ref 389), (.int 266 0), (.int 0 0), (.ref 396), (.int 271 0), (.int 0 0), (.ref 403), (.int 277 0), (.int 0 0), (.ref 410), (.int 280 0), (.int 0 0), (.ref 417), (.int 282 0), (.int 0 0), (.ref 424)]), #[]⟩
noncomputable def hot7 (P : Params) : Frag := [(0, b0_0 P), (2, b1_2 P), (3, b7_3 P), (4, b0_4 P), (12, b7_12 P), (13, b0_13 P), (38, b1_38 P), (39, b2_39 P), (252, b5_252 P), (253, b5_253 P)]
noncomputable def b8_3 (P : Params) : Obj := ⟨(.type "dict"), none, (.dict #[en P "__name__" 165 (.str (S "gateloom.vecops") 710), en P "__doc__" 166 .none, en P "__package__" 167 .none, en P "__loader__" 168 (.builtin "__main__.__loader__#opaque"), en P "__spec__" 169 .none, en P "__annotations__" 170 (.ref 6), en P "__builtins__" 171 (.ref 4), en P "__file__" 173 (.str (S "/claim/cut.py") 172), en P "__cached__" 174 .none, en P "_wall" 193 (.ref 21), en P "GateloomError" 231 (.ref 39), en P "DesignError" 247 (.ref 52), en P "LimitReached" 263 (.ref 64), en P "mask" 272 (.ref 73), en P "vec" 283 (.ref 81), en P "zeros" 290 (.ref 88), en P "all_x" 298 (.ref 95), en P "all_z" 305 (.ref 102), en P "from_int" 313 (.ref 109), en P "is_known" 320 (.ref 116), en P "to_int" 331 (.ref 123), en P "code" 339 (.ref 130), en P "slice_vec" 355 (.ref 137), en P "put_slice" 371 (.ref 144), en P "concat" 382 (.ref 151), en P "extend" 395 (.ref 158), en P "z_to_x" 402 (.ref 165), en P "truth" 409 (.ref 172), en P "Store" 477 (.ref 210), en P "Context" 536 (.ref 253), en P "add" 546 (.ref 264), en P "sub" 554 (.ref 271), en P "mul" 562 (.ref 278), en P "neg" 569 (.ref 285), en P "quotient" 578 (.ref 292), en P "div" 589 (.ref 299), en P "mod" 600 (.ref 306), en P "raise_whole" 613 (.ref 313), en P "power" 626 (.ref 320), en P "shift_left" 636 (.ref 327), en P "shift_right" 645 (.ref 334), en P "shift_arith" 660 (.ref 341), en P "ordered" 671 (.ref 348), en P "less" 681 (.ref 355), en P "less_equal" 691 (.ref 362), en P "greater" 700 (.ref 369), en P "greater_equal" 709 (.ref 376), en P "one_bit" 718 (.ref 383), en P "bit_not" 728 (.ref 390), en P "bit_and" 742 (.ref 397), en P "bit_or" 757 (.ref 404), en P "bit_xor" 766 (.ref 411), en P "bit_xnor" 774 (.ref 418), en P "reduce_and" 784 (.ref 425), en P "reduce_nand" 791 (.ref 432), en P "reduce_or" 798 (.ref 439), en P "reduce_nor" 805 (.ref 446), en P "reduce_xor" 814 (.ref 453), en P "reduce_xnor" 821 (.ref 460), en P "logic_not" 828 (.ref 467), en P "logic_and" 836 (.ref 474), en P "logic_or" 844 (.ref 481), en P "equal" 853 (.ref 488), en P "not_equal" 861 (.ref 495), en P "case_equal" 869 (.ref 502), en P "case_not_equal" 877 (.ref 509), en P "matches" 888 (.ref 516), en P "choose" 901 (.ref 523)] 68), #[]⟩
noncomputable def b8_12 (P : Params) : Obj := ⟨.none, none, (.fields #[(.int 1 0), (.int 0 0), (.ref 20), (.int 5 0), (.int 0 0), (.ref 27), (.int 11 0), (.int 0 0), (.ref 48), (.int 13 0), (.int 0 0), (.ref 60), (.int 16 0), (.int 0 0), (.ref 72), (.int 18 0), (.int 0 0), (.ref 80), (.int 21 0), (.int 0 0), (.ref 87), (.int 23 0), (.int 0 0), (.ref 94), (.int 26 0), (.int 0 0), (.ref 101), (.int 28 0), (.int 0 0), (.ref 108), (.int 30 0), (.int 0 0), (.ref 115), (.int 32 0), (.int 0 0), (.ref 122), (.int 39 0), (.int 0 0), (.ref 129), (.int 41 0), (.int 0 0), (.ref 136), (.int 52 0), (.int 0 0), (.ref 143), (.int 63 0), (.int 0 0), (.ref 150), (.int 72 0), (.int 0 0), (.ref 157), (.int 82 0), (.int 0 0), (.ref 164), (.int 84 0), (.int 0 0), (.ref 171), (.int 91 0), (.int 0 0), (.ref 178), (.int 134 0), (.int 0 0), (.ref 220), (.int 154 0), (.int 0 0), (.ref 263), (.int 158 0), (.int 0 0), (.ref 270), (.int 162 0), (.int 0 0), (.ref 277), (.int 166 0), (.int 0 0), (.ref 284), (.int 170 0), (.int 0 0), (.ref 291), (.int 175 0), (.int 0 0), (.ref 298), (.int 181 0), (.int 0 0), (.ref 305), (.int 187 0), (.int 0 0), (.ref 312), (.int 198 0), (.int 0 0), (.ref 319), (.int 213 0), (.int 0 0), (.ref 326), (.int 221 0), (.int 0 0), (.ref 333), (.int 228 0), (.int 0 0), (.ref 340), (.int 238 0), (.int 0 0), (.ref 347), (.int 246 0), (.int 0 0), (.ref 354), (.int 251 0), (.int 0 0), (.ref 361), (.int 256 0), (.int 0 0), (.ref 368), (.int 258 0), (.int 0 0), (.ref 375), (.int 261 0), (.int 0 0), (.ref 382), (.int 263 0), (.int 0 0), (.ref 389), (.int 266 0), (.int 0 0), (.ref 396), (.int 271 0), (.int 0 0), (.ref 403), (.int 277 0), (.int 0 0), (.ref 410), (.int 280 0), (.int 0 0), (.ref 417), (.int 282 0), (.int 0 0), (.ref 424), (.int 287 0), (.int 0 0), (.ref 431), (.int 289 0), (.int 0 0), (.ref 438), (.int 291 0), (.int 0 0), (.ref 445), (.int 293 0), (.int 0 0), (.ref 452), (.int 302 0), (.int 0 0), (.ref 459), (.int 304 0), (.int 0 0), (.ref 466), (.int 306 0), (.int 0 0), (.ref 473), (.int 308 0), (.int 0 0), (.ref 480), (.int 310 0), (.int 0 0), (.ref 487), (.int 315 0), (.int 0 0), (.ref 494), (.int 317 0), (.int 0 0), (.ref 501), (.int 319 0), (.int 0 0), (.ref 508), (.int 321 0), (.int 0 0), (.ref 515), (.int 329 0), (.int 0 0), (.ref 522)]), #[]⟩
noncomputable def hot8 (P : Params) : Frag := [(0, b0_0 P), (2, b1_2 P), (3, b8_3 P), (4, b0_4 P), (12, b8_12 P), (13, b0_13 P), (38, b1_38 P), (39, b2_39 P), (252, b5_252 P), (253, b5_253 P)]
noncomputable def b9_3 (P : Params) : Obj := ⟨(.type "dict"), none, (.dict #[en P "__name__" 165 (.str (S "gateloom.evaluate") 902), en P "__doc__" 166 .none, en P "__package__" 167 .none, en P "__loader__" 168 (.builtin "__main__.__loader__#opaque"), en P "__spec__" 169 .none, en P "__annotations__" 170 (.ref 6), en P "__builtins__" 171 (.ref 4), en P "__file__" 173 (.str (S "/claim/cut.py") 172), en P "__cached__" 174 .none, en P "_wall" 193 (.ref 21), en P "GateloomError" 231 (.ref 39), en P "DesignError" 247 (.ref 52), en P "LimitReached" 263 (.ref 64), en P "mask" 272 (.ref 73), en P "vec" 283 (.ref 81), en P "zeros" 290 (.ref 88), en P "all_x" 298 (.ref 95), en P "all_z" 305 (.ref 102), en P "from_int" 313 (.ref 109), en P "is_known" 320 (.ref 116), en P "to_int" 331 (.ref 123), en P "code" 339 (.ref 130), en P "slice_vec" 355 (.ref 137), en P "put_slice" 371 (.ref 144), en P "concat" 382 (.ref 151), en P "extend" 395 (.ref 158), en P "z_to_x" 402 (.ref 165), en P "truth" 409 (.ref 172), en P "Store" 477 (.ref 210), en P "Context" 536 (.ref 253), en P "add" 546 (.ref 264), en P "sub" 554 (.ref 271), en P "mul" 562 (.ref 278), en P "neg" 569 (.ref 285), en P "quotient" 578 (.ref 292), en P "div" 589 (.ref 299), en P "mod" 600 (.ref 306), en P "raise_whole" 613 (.ref 313), en P "power" 626 (.ref 320), en P "shift_left" 636 (.ref 327), en P "shift_right" 645 (.ref 334), en P "shift_arith" 660 (.ref 341), en P "ordered" 671 (.ref 348), en P "less" 681 (.ref 355), en P "less_equal" 691 (.ref 362), en P "greater" 700 (.ref 369), en P "greater_equal" 709 (.ref 376), en P "one_bit" 718 (.ref 383), en P "bit_not" 728 (.ref 390), en P "bit_and" 742 (.ref 397), en P "bit_or" 757 (.ref 404), en P "bit_xor" 766 (.ref 411), en P "bit_xnor" 774 (.ref 418), en P "reduce_and" 784 (.ref 425), en P "reduce_nand" 791 (.ref 432), en P "reduce_or" 798 (.ref 439), en P "reduce_nor" 805 (.ref 446), en P "reduce_xor" 814 (.ref 453), en P "reduce_xnor" 821 (.ref 460), en P "logic_not" 828 (.ref 467), en P "logic_and" 836 (.ref 474), en P "logic_or" 844 (.ref 481), en P "equal" 853 (.ref 488), en P "not_equal" 861 (.ref 495), en P "case_equal" 869 (.ref 502), en P "case_not_equal" 877 (.ref 509), en P "matches" 888 (.ref 516), en P "choose" 901 (.ref 523), en P "unary" 911 (.ref 530), en P "arithmetic" 921 (.ref 537), en P "comparison" 931 (.ref 544), en P "bitwise" 940 (.ref 551), en P "binary" 951 (.ref 558), en P "whole_of" 960 (.ref 565), en P "memory_word" 970 (.ref 572), en P "picked" 980 (.ref 579), en P "conditional" 990 (.ref 586), en P "bits_needed" 998 (.ref 593), en P "system_value" 1009 (.ref 600), en P "system_value_evaluate" 1010 (.ref 600), en P "evaluate" 1016 (.ref 605)] 81), #[]⟩
noncomputable def b9_12 (P : Params) : Obj := ⟨.none, none, (.fields #[(.int 1 0), (.int 0 0), (.ref 20), (.int 5 0), (.int 0 0), (.ref 27), (.int 11 0), (.int 0 0), (.ref 48), (.int 13 0), (.int 0 0), (.ref 60), (.int 16 0), (.int 0 0), (.ref 72), (.int 18 0), (.int 0 0), (.ref 80), (.int 21 0), (.int 0 0), (.ref 87), (.int 23 0), (.int 0 0), (.ref 94), (.int 26 0), (.int 0 0), (.ref 101), (.int 28 0), (.int 0 0), (.ref 108), (.int 30 0), (.int 0 0), (.ref 115), (.int 32 0), (.int 0 0), (.ref 122), (.int 39 0), (.int 0 0), (.ref 129), (.int 41 0), (.int 0 0), (.ref 136), (.int 52 0), (.int 0 0), (.ref 143), (.int 63 0), (.int 0 0), (.ref 150), (.int 72 0), (.int 0 0), (.ref 157), (.int 82 0), (.int 0 0), (.ref 164), (.int 84 0), (.int 0 0), (.ref 171), (.int 91 0), (.int 0 0), (.ref 178), (.int 134 0), (.int 0 0), (.ref 220), (.int 154 0), (.int 0 0), (.ref 263), (.int 158 0), (.int 0 0), (.ref 270), (.int 162 0), (.int 0 0), (.ref 277), (.int 166 0), (.int 0 0), (.ref 284), (.int 170 0), (.int 0 0), (.ref 291), (.int 175 0), (.int 0 0), (.ref 298), (.int 181 0), (.int 0 0), (.ref 305), (.int 187 0), (.int 0 0), (.ref 312), (.int 198 0), (.int 0 0), (.ref 319), (.int 213 0), (.int 0 0), (.ref 326), (.int 221 0), (.int 0 0), (.ref 333), (.int 228 0), (.int 0 0), (.ref 340), (.int 238 0), (.int 0 0), (.ref 347), (.int 246 0), (.int 0 0), (.ref 354), (.int 251 0), (.int 0 0), (.ref 361), (.int 256 0), (.int 0 0), (.ref 368), (.int 258 0), (.int 0 0), (.ref 375), (.int 261 0), (.int 0 0), (.ref 382), (.int 263 0), (.int 0 0), (.ref 389), (.int 266 0), (.int 0 0), (.ref 396), (.int 271 0), (.int 0 0), (.ref 403), (.int 277 0), (.int 0 0), (.ref 410), (.int 280 0), (.int 0 0), (.ref 417), (.int 282 0), (.int 0 0), (.ref 424), (.int 287 0), (.int 0 0), (.ref 431), (.int 289 0), (.int 0 0), (.ref 438), (.int 291 0), (.int 0 0), (.ref 445), (.int 293 0), (.int 0 0), (.ref 452), (.int 302 0), (.int 0 0), (.ref 459), (.int 304 0), (.int 0 0), (.ref 466), (.int 306 0), (.int 0 0), (.ref 473), (.int 308 0), (.int 0 0), (.ref 480), (.int 310 0), (.int 0 0), (.ref 487), (.int 315 0), (.int 0 0), (.ref 494), (.int 317 0), (.int 0 0), (.ref 501), (.int 319 0), (.int 0 0), (.ref 508), (.int 321 0), (.int 0 0), (.ref 515), (.int 329 0), (.int 0 0), (.ref 522), (.int 340 0), (.int 0 0), (.ref 529), (.int 360 0), (.int 0 0), (.ref 536), (.int 378 0), (.int 0 0), (.ref 543), (.int 396 0), (.int 0 0), (.ref 550), (.int 410 0), (.int 0 0), (.ref 557), (.int 419 0), (.int 0 0), (.ref 564), (.int 421 0), (.int 0 0), (.ref 571), (.int 429 0), (.int 0 0), (.ref 578), (.int 435 0), (.int 0 0), (.ref 585), (.int 443 0), (.int 0 0), (.ref 592), (.int 448 0), (.int 0 0), (.ref 599), (.int 462 0), (.int 0 0), (.ref 604)]), #[]⟩
noncomputable def hot9 (P : Params) : Frag := [(0, b0_0 P), (2, b1_2 P), (3, b9_3 P), (4, b0_4 P), (12, b9_12 P), (13, b0_13 P), (38, b1_38 P), (39, b2_39 P), (252, b5_252 P), (253, b5_253 P)]
noncomputable def b10_3 (P : Params) : Obj := ⟨(.type "dict"), none, (.dict #[en P "__name__" 165 (.str (S "gateloom.funcs") 1070), en P "__doc__" 166 .none, en P "__package__" 167 .none, en P "__loader__" 168 (.builtin "__main__.__loader__#opaque"), en P "__spec__" 169 .none, en P "__annotations__" 170 (.ref 6), en P "__builtins__" 171 (.ref 4), en P "__file__" 173 (.str (S "/claim/cut.py") 172), en P "__cached__" 174 .none, en P "_wall" 193 (.ref 21), en P "GateloomError" 231 (.ref 39), en P "DesignError" 247 (.ref 52), en P "LimitReached" 263 (.ref 64), en P "mask" 272 (.ref 73), en P "vec" 283 (.ref 81), en P "zeros" 290 (.ref 88), en P "all_x" 298 (.ref 95), en P "all_z" 305 (.ref 102), en P "from_int" 313 (.ref 109), en P "is_known" 320 (.ref 116), en P "to_int" 331 (.ref 123), en P "code" 339 (.ref 130), en P "slice_vec" 355 (.ref 137), en P "put_slice" 371 (.ref 144), en P "concat" 382 (.ref 151), en P "extend" 395 (.ref 158), en P "z_to_x" 402 (.ref 165), en P "truth" 409 (.ref 172), en P "Store" 477 (.ref 210), en P "Context" 536 (.ref 253), en P "add" 546 (.ref 264), en P "sub" 554 (.ref 271), en P "mul" 562 (.ref 278), en P "neg" 569 (.ref 285), en P "quotient" 578 (.ref 292), en P "div" 589 (.ref 299), en P "mod" 600 (.ref 306), en P "raise_whole" 613 (.ref 313), en P "power" 626 (.ref 320), en P "shift_left" 636 (.ref 327), en P "shift_right" 645 (.ref 334), en P "shift_arith" 660 (.ref 341), en P "ordered" 671 (.ref 348), en P "less" 681 (.ref 355), en P "less_equal" 691 (.ref 362), en P "greater" 700 (.ref 369), en P "greater_equal" 709 (.ref 376), en P "one_bit" 718 (.ref 383), en P "bit_not" 728 (.ref 390), en P "bit_and" 742 (.ref 397), en P "bit_or" 757 (.ref 404), en P "bit_xor" 766 (.ref 411), en P "bit_xnor" 774 (.ref 418), en P "reduce_and" 784 (.ref 425), en P "reduce_nand" 791 (.ref 432), en P "reduce_or" 798 (.ref 439), en P "reduce_nor" 805 (.ref 446), en P "reduce_xor" 814 (.ref 453), en P "reduce_xnor" 821 (.ref 460), en P "logic_not" 828 (.ref 467), en P "logic_and" 836 (.ref 474), en P "logic_or" 844 (.ref 481), en P "equal" 853 (.ref 488), en P "not_equal" 861 (.ref 495), en P "case_equal" 869 (.ref 502), en P "case_not_equal" 877 (.ref 509), en P "matches" 888 (.ref 516), en P "choose" 901 (.ref 523), en P "unary" 911 (.ref 530), en P "arithmetic" 921 (.ref 537), en P "comparison" 931 (.ref 544), en P "bitwise" 940 (.ref 551), en P "binary" 951 (.ref 558), en P "whole_of" 960 (.ref 565), en P "memory_word" 970 (.ref 572), en P "picked" 980 (.ref 579), en P "conditional" 990 (.ref 586), en P "bits_needed" 998 (.ref 593), en P "system_value" 1009 (.ref 600), en P "system_value_evaluate" 1010 (.ref 600), en P "evaluate" 1016 (.ref 605), en P "locate" 1025 (.ref 612), en P "holder_width" 1033 (.ref 619), en P "resolve_target" 1052 (.ref 626), en P "store_rows" 1069 (.ref 633), en P "DEPTH_LIMIT" 1073 (.int 24 1072), en P "FunctionContext" 1140 (.ref 677)] 87), #[]⟩
noncomputable def b10_12 (P : Params) : Obj := ⟨.none, none, (.fields #[(.int 1 0), (.int 0 0), (.ref 20), (.int 5 0), (.int 0 0), (.ref 27), (.int 11 0), (.int 0 0), (.ref 48), (.int 13 0), (.int 0 0), (.ref 60), (.int 16 0), (.int 0 0), (.ref 72), (.int 18 0), (.int 0 0), (.ref 80), (.int 21 0), (.int 0 0), (.ref 87), (.int 23 0), (.int 0 0), (.ref 94), (.int 26 0), (.int 0 0), (.ref 101), (.int 28 0), (.int 0 0), (.ref 108), (.int 30 0), (.int 0 0), (.ref 115), (.int 32 0), (.int 0 0), (.ref 122), (.int 39 0), (.int 0 0), (.ref 129), (.int 41 0), (.int 0 0), (.ref 136), (.int 52 0), (.int 0 0), (.ref 143), (.int 63 0), (.int 0 0), (.ref 150), (.int 72 0), (.int 0 0), (.ref 157), (.int 82 0), (.int 0 0), (.ref 164), (.int 84 0), (.int 0 0), (.ref 171), (.int 91 0), (.int 0 0), (.ref 178), (.int 134 0), (.int 0 0), (.ref 220), (.int 154 0), (.int 0 0), (.ref 263), (.int 158 0), (.int 0 0), (.ref 270), (.int 162 0), (.int 0 0), (.ref 277), (.int 166 0), (.int 0 0), (.ref 284), (.int 170 0), (.int 0 0), (.ref 291), (.int 175 0), (.int 0 0), (.ref 298), (.int 181 0), (.int 0 0), (.ref 305), (.int 187 0), (.int 0 0), (.ref 312), (.int 198 0), (.int 0 0), (.ref 319), (.int 213 0), (.int 0 0), (.ref 326), (.int 221 0), (.int 0 0), (.ref 333), (.int 228 0), (.int 0 0), (.ref 340), (.int 238 0), (.int 0 0), (.ref 347), (.int 246 0), (.int 0 0), (.ref 354), (.int 251 0), (.int 0 0), (.ref 361), (.int 256 0), (.int 0 0), (.ref 368), (.int 258 0), (.int 0 0), (.ref 375), (.int 261 0), (.int 0 0), (.ref 382), (.int 263 0), (.int 0 0), (.ref 389), (.int 266 0), (.int 0 0), (.ref 396), (.int 271 0), (.int 0 0), (.ref 403), (.int 277 0), (.int 0 0), (.ref 410), (.int 280 0), (.int 0 0), (.ref 417), (.int 282 0), (.int 0 0), (.ref 424), (.int 287 0), (.int 0 0), (.ref 431), (.int 289 0), (.int 0 0), (.ref 438), (.int 291 0), (.int 0 0), (.ref 445), (.int 293 0), (.int 0 0), (.ref 452), (.int 302 0), (.int 0 0), (.ref 459), (.int 304 0), (.int 0 0), (.ref 466), (.int 306 0), (.int 0 0), (.ref 473), (.int 308 0), (.int 0 0), (.ref 480), (.int 310 0), (.int 0 0), (.ref 487), (.int 315 0), (.int 0 0), (.ref 494), (.int 317 0), (.int 0 0), (.ref 501), (.int 319 0), (.int 0 0), (.ref 508), (.int 321 0), (.int 0 0), (.ref 515), (.int 329 0), (.int 0 0), (.ref 522), (.int 340 0), (.int 0 0), (.ref 529), (.int 360 0), (.int 0 0), (.ref 536), (.int 378 0), (.int 0 0), (.ref 543), (.int 396 0), (.int 0 0), (.ref 550), (.int 410 0), (.int 0 0), (.ref 557), (.int 419 0), (.int 0 0), (.ref 564), (.int 421 0), (.int 0 0), (.ref 571), (.int 429 0), (.int 0 0), (.ref 578), (.int 435 0), (.int 0 0), (.ref 585), (.int 443 0), (.int 0 0), (.ref 592), (.int 448 0), (.int 0 0), (.ref 599), (.int 462 0), (.int 0 0), (.ref 604), (.int 493 0), (.int 0 0), (.ref 611), (.int 500 0), (.int 0 0), (.ref 618), (.int 504 0), (.int 0 0), (.ref 625), (.int 523 0), (.int 0 0), (.ref 632), (.int 535 0), (.int 0 0), (.ref 639)]), #[]⟩
noncomputable def b10_253 (P : Params) : Obj := ⟨(.type "type"), none, (.cls { name := (S "Context"), bases := [(.type "object")], mro := [(.ref 253), (.type "object")], ns := 252, qualname := (S "Context"), hasDict := true, slotNames := [], subclasses := [(.ref 677)], abstract := false, collection := none, hasDel := false }), #[none, none, (some (.str (S "Context") 478)), (some (.str (S "Context") 486)), (some (.builtin "object.__new__")), (some (.bool true))]⟩
noncomputable def hot10 (P : Params) : Frag := [(0, b0_0 P), (2, b1_2 P), (3, b10_3 P), (4, b0_4 P), (12, b10_12 P), (13, b0_13 P), (38, b1_38 P), (39, b2_39 P), (252, b5_252 P), (253, b10_253 P)]
noncomputable def b11_3 (P : Params) : Obj := ⟨(.type "dict"), none, (.dict #[en P "__name__" 165 (.str (S "gateloom.walks") 1212), en P "__doc__" 166 .none, en P "__package__" 167 .none, en P "__loader__" 168 (.builtin "__main__.__loader__#opaque"), en P "__spec__" 169 .none, en P "__annotations__" 170 (.ref 6), en P "__builtins__" 171 (.ref 4), en P "__file__" 173 (.str (S "/claim/cut.py") 172), en P "__cached__" 174 .none, en P "_wall" 193 (.ref 21), en P "GateloomError" 231 (.ref 39), en P "DesignError" 247 (.ref 52), en P "LimitReached" 263 (.ref 64), en P "mask" 272 (.ref 73), en P "vec" 283 (.ref 81), en P "zeros" 290 (.ref 88), en P "all_x" 298 (.ref 95), en P "all_z" 305 (.ref 102), en P "from_int" 313 (.ref 109), en P "is_known" 320 (.ref 116), en P "to_int" 331 (.ref 123), en P "code" 339 (.ref 130), en P "slice_vec" 355 (.ref 137), en P "put_slice" 371 (.ref 144), en P "concat" 382 (.ref 151), en P "extend" 395 (.ref 158), en P "z_to_x" 402 (.ref 165), en P "truth" 409 (.ref 172), en P "Store" 477 (.ref 210), en P "Context" 536 (.ref 253), en P "add" 546 (.ref 264), en P "sub" 554 (.ref 271), en P "mul" 562 (.ref 278), en P "neg" 569 (.ref 285), en P "quotient" 578 (.ref 292), en P "div" 589 (.ref 299), en P "mod" 600 (.ref 306), en P "raise_whole" 613 (.ref 313), en P "power" 626 (.ref 320), en P "shift_left" 636 (.ref 327), en P "shift_right" 645 (.ref 334), en P "shift_arith" 660 (.ref 341), en P "ordered" 671 (.ref 348), en P "less" 681 (.ref 355), en P "less_equal" 691 (.ref 362), en P "greater" 700 (.ref 369), en P "greater_equal" 709 (.ref 376), en P "one_bit" 718 (.ref 383), en P "bit_not" 728 (.ref 390), en P "bit_and" 742 (.ref 397), en P "bit_or" 757 (.ref 404), en P "bit_xor" 766 (.ref 411), en P "bit_xnor" 774 (.ref 418), en P "reduce_and" 784 (.ref 425), en P "reduce_nand" 791 (.ref 432), en P "reduce_or" 798 (.ref 439), en P "reduce_nor" 805 (.ref 446), en P "reduce_xor" 814 (.ref 453), en P "reduce_xnor" 821 (.ref 460), en P "logic_not" 828 (.ref 467), en P "logic_and" 836 (.ref 474), en P "logic_or" 844 (.ref 481), en P "equal" 853 (.ref 488), en P "not_equal" 861 (.ref 495), en P "case_equal" 869 (.ref 502), en P "case_not_equal" 877 (.ref 509), en P "matches" 888 (.ref 516), en P "choose" 901 (.ref 523), en P "unary" 911 (.ref 530), en P "arithmetic" 921 (.ref 537), en P "comparison" 931 (.ref 544), en P "bitwise" 940 (.ref 551), en P "binary" 951 (.ref 558), en P "whole_of" 960 (.ref 565), en P "memory_word" 970 (.ref 572), en P "picked" 980 (.ref 579), en P "conditional" 990 (.ref 586), en P "bits_needed" 998 (.ref 593), en P "system_value" 1009 (.ref 600), en P "system_value_evaluate" 1010 (.ref 600), en P "evaluate" 1016 (.ref 605), en P "locate" 1025 (.ref 612), en P "holder_width" 1033 (.ref 619), en P "resolve_target" 1052 (.ref 626), en P "store_rows" 1069 (.ref 633), en P "DEPTH_LIMIT" 1073 (.int 24 1072), en P "FunctionContext" 1140 (.ref 677), en P "run_block" 1150 (.ref 686), en P "run_set" 1160 (.ref 693), en P "run_case" 1173 (.ref 700), en P "run_while" 1184 (.ref 707), en P "run_repeat" 1194 (.ref 714), en P "run_for" 1202 (.ref 721), en P "run_statement" 1211 (.ref 728), en P "children" 1221 (.ref 735), en P "subexpressions" 1232 (.ref 742), en P "expr_reads" 1241 (.ref 749), en P "expr_calls" 1250 (.ref 756), en P "target_indexes" 1259 (.ref 763), en P "target_writes" 1268 (.ref 770), en P "stmt_parts" 1274 (.ref 775)] 101), #[]⟩
noncomputable def b11_12 (P : Params) : Obj := ⟨.none, none, (.fields #[(.int 1 0), (.int 0 0), (.ref 20), (.int 5 0), (.int 0 0), (.ref 27), (.int 11 0), (.int 0 0), (.ref 48), (.int 13 0), (.int 0 0), (.ref 60), (.int 16 0), (.int 0 0), (.ref 72), (.int 18 0), (.int 0 0), (.ref 80), (.int 21 0), (.int 0 0), (.ref 87), (.int 23 0), (.int 0 0), (.ref 94), (.int 26 0), (.int 0 0), (.ref 101), (.int 28 0), (.int 0 0), (.ref 108), (.int 30 0), (.int 0 0), (.ref 115), (.int 32 0), (.int 0 0), (.ref 122), (.int 39 0), (.int 0 0), (.ref 129), (.int 41 0), (.int 0 0), (.ref 136), (.int 52 0), (.int 0 0), (.ref 143), (.int 63 0), (.int 0 0), (.ref 150), (.int 72 0), (.int 0 0), (.ref 157), (.int 82 0), (.int 0 0), (.ref 164), (.int 84 0), (.int 0 0), (.ref 171), (.int 91 0), (.int 0 0), (.ref 178), (.int 134 0), (.int 0 0), (.ref 220), (.int 154 0), (.int 0 0), (.ref 263), (.int 158 0), (.int 0 0), (.ref 270), (.int 162 0), (.int 0 0), (.ref 277), (.int 166 0), (.int 0 0), (.ref 284), (.int 170 0), (.int 0 0), (.ref 291), (.int 175 0), (.int 0 0), (.ref 298), (.int 181 0), (.int 0 0), (.ref 305), (.int 187 0), (.int 0 0), (.ref 312), (.int 198 0), (.int 0 0), (.ref 319), (.int 213 0), (.int 0 0), (.ref 326), (.int 221 0), (.int 0 0), (.ref 333), (.int 228 0), (.int 0 0), (.ref 340), (.int 238 0), (.int 0 0), (.ref 347), (.int 246 0), (.int 0 0), (.ref 354), (.int 251 0), (.int 0 0), (.ref 361), (.int 256 0), (.int 0 0), (.ref 368), (.int 258 0), (.int 0 0), (.ref 375), (.int 261 0), (.int 0 0), (.ref 382), (.int 263 0), (.int 0 0), (.ref 389), (.int 266 0), (.int 0 0), (.ref 396), (.int 271 0), (.int 0 0), (.ref 403), (.int 277 0), (.int 0 0), (.ref 410), (.int 280 0), (.int 0 0), (.ref 417), (.int 282 0), (.int 0 0), (.ref 424), (.int 287 0), (.int 0 0), (.ref 431), (.int 289 0), (.int 0 0), (.ref 438), (.int 291 0), (.int 0 0), (.ref 445), (.int 293 0), (.int 0 0), (.ref 452), (.int 302 0), (.int 0 0), (.ref 459), (.int 304 0), (.int 0 0), (.ref 466), (.int 306 0), (.int 0 0), (.ref 473), (.int 308 0), (.int 0 0), (.ref 480), (.int 310 0), (.int 0 0), (.ref 487), (.int 315 0), (.int 0 0), (.ref 494), (.int 317 0), (.int 0 0), (.ref 501), (.int 319 0), (.int 0 0), (.ref 508), (.int 321 0), (.int 0 0), (.ref 515), (.int 329 0), (.int 0 0), (.ref 522), (.int 340 0), (.int 0 0), (.ref 529), (.int 360 0), (.int 0 0), (.ref 536), (.int 378 0), (.int 0 0), (.ref 543), (.int 396 0), (.int 0 0), (.ref 550), (.int 410 0), (.int 0 0), (.ref 557), (.int 419 0), (.int 0 0), (.ref 564), (.int 421 0), (.int 0 0), (.ref 571), (.int 429 0), (.int 0 0), (.ref 578), (.int 435 0), (.int 0 0), (.ref 585), (.int 443 0), (.int 0 0), (.ref 592), (.int 448 0), (.int 0 0), (.ref 599), (.int 462 0), (.int 0 0), (.ref 604), (.int 493 0), (.int 0 0), (.ref 611), (.int 500 0), (.int 0 0), (.ref 618), (.int 504 0), (.int 0 0), (.ref 625), (.int 523 0), (.int 0 0), (.ref 632), (.int 535 0), (.int 0 0), (.ref 639), (.int 578 0), (.int 0 0), (.ref 685), (.int 586 0), (.int 0 0), (.ref 692), (.int 593 0), (.int 0 0), (.ref 699), (.int 604 0), (.int 0 0), (.ref 706), (.int 612 0), (.int 0 0), (.ref 713), (.int 623 0), (.int 0 0), (.ref 720), (.int 626 0), (.int 0 0), (.ref 727), (.int 653 0), (.int 0 0), (.ref 734), (.int 672 0), (.int 0 0), (.ref 741), (.int 681 0), (.int 0 0), (.ref 748), (.int 687 0), (.int 0 0), (.ref 755), (.int 693 0), (.int 0 0), (.ref 762), (.int 701 0), (.int 0 0), (.ref 769), (.int 707 0), (.int 0 0), (.ref 774)]), #[]⟩
noncomputable def hot11 (P : Params) : Frag := [(0, b0_0 P), (2, b1_2 P), (3, b11_3 P), (4, b0_4 P), (12, b11_12 P), (13, b0_13 P), (38, b1_38 P), (39, b2_39 P), (252, b5_252 P), (253, b10_253 P)]
noncomputable def b12_3 (P : Params) : Obj := ⟨(.type "dict"), none, (.dict #[en P "__name__" 165 (.str (S "gateloom.elabparts") 1337), en P "__doc__" 166 .none, en P "__package__" 167 .none, en P "__loader__" 168 (.builtin "__main__.__loader__#opaque"), en P "__spec__" 169 .none, en P "__annotations__" 170 (.ref 6), en P "__builtins__" 171 (.ref 4), en P "__file__" 173 (.str (S "/claim/cut.py") 172), en P "__cached__" 174 .none, en P "_wall" 193 (.ref 21), en P "GateloomError" 231 (.ref 39), en P "DesignError" 247 (.ref 52), en P "LimitReached" 263 (.ref 64), en P "mask" 272 (.ref 73), en P "vec" 283 (.ref 81), en P "zeros" 290 (.ref 88), en P "all_x" 298 (.ref 95), en P "all_z" 305 (.ref 102), en P "from_int" 313 (.ref 109), en P "is_known" 320 (.ref 116), en P "to_int" 331 (.ref 123), en P "code" 339 (.ref 130), en P "slice_vec" 355 (.ref 137), en P "put_slice" 371 (.ref 144), en P "concat" 382 (.ref 151), en P "extend" 395 (.ref 158), en P "z_to_x" 402 (.ref 165), en P "truth" 409 (.ref 172), en P "Store" 477 (.ref 210), en P "Context" 536 (.ref 253), en P "add" 546 (.ref 264), en P "sub" 554 (.ref 271), en P "mul" 562 (.ref 278), en P "neg" 569 (.ref 285), en P "quotient" 578 (.ref 292), en P "div" 589 (.ref 299), en P "mod" 600 (.ref 306), en P "raise_whole" 613 (.ref 313), en P "power" 626 (.ref 320), en P "shift_left" 636 (.ref 327), en P "shift_right" 645 (.ref 334), en P "shift_arith" 660 (.ref 341), en P "ordered" 671 (.ref 348), en P "less" 681 (.ref 355), en P "less_equal" 691 (.ref 362), en P "greater" 700 (.ref 369), en P "greater_equal" 709 (.ref 376), en P "one_bit" 718 (.ref 383), en P "bit_not" 728 (.ref 390), en P "bit_and" 742 (.ref 397), en P "bit_or" 757 (.ref 404), en P "bit_xor" 766 (.ref 411), en P "bit_xnor" 774 (.ref 418), en P "reduce_and" 784 (.ref 425), en P "reduce_nand" 791 (.ref 432), en P "reduce_or" 798 (.ref 439), en P "reduce_nor" 805 (.ref 446), en P "reduce_xor" 814 (.ref 453), en P "reduce_xnor" 821 (.ref 460), en P "logic_not" 828 (.ref 467), en P "logic_and" 836 (.ref 474), en P "logic_or" 844 (.ref 481), en P "equal" 853 (.ref 488), en P "not_equal" 861 (.ref 495), en P "case_equal" 869 (.ref 502), en P "case_not_equal" 877 (.ref 509), en P "matches" 888 (.ref 516), en P "choose" 901 (.ref 523), en P "unary" 911 (.ref 530), en P "arithmetic" 921 (.ref 537), en P "comparison" 931 (.ref 544), en P "bitwise" 940 (.ref 551), en P "binary" 951 (.ref 558), en P "whole_of" 960 (.ref 565), en P "memory_word" 970 (.ref 572), en P "picked" 980 (.ref 579), en P "conditional" 990 (.ref 586), en P "bits_needed" 998 (.ref 593), en P "system_value" 1009 (.ref 600), en P "system_value_evaluate" 1010 (.ref 600), en P "evaluate" 1016 (.ref 605), en P "locate" 1025 (.ref 612), en P "holder_width" 1033 (.ref 619), en P "resolve_target" 1052 (.ref 626), en P "store_rows" 1069 (.ref 633), en P "DEPTH_LIMIT" 1073 (.int 24 1072), en P "FunctionContext" 1140 (.ref 677), en P "run_block" 1150 (.ref 686), en P "run_set" 1160 (.ref 693), en P "run_case" 1173 (.ref 700), en P "run_while" 1184 (.ref 707), en P "run_repeat" 1194 (.ref 714), en P "run_for" 1202 (.ref 721), en P "run_statement" 1211 (.ref 728), en P "children" 1221 (.ref 735), en P "subexpressions" 1232 (.ref 742), en P "expr_reads" 1241 (.ref 749), en P "expr_calls" 1250 (.ref 756), en P "target_indexes" 1259 (.ref 763), en P "target_writes" 1268 (.ref 770), en P "stmt_parts" 1274 (.ref 775), en P "substatements" 1285 (.ref 782), en P "stmt_targets" 1291 (.ref 787), en P "stmt_exprs" 1303 (.ref 794), en P "stmt_reads" 1314 (.ref 801), en P "stmt_writes" 1325 (.ref 808), en P "stmt_calls" 1336 (.ref 815), en P "MAX_WIDTH" 1340 (.int 65536 1339), en P "last_select" 1349 (.ref 822), en P "is_memory" 1357 (.ref 829), en P "shape" 1367 (.ref 836), en P "read_entry" 1377 (.ref 843), en P "folds" 1384 (.ref 850), en P "folded" 1392 (.ref 857), en P "checked_width" 1400 (.ref 864), en P "selected" 1409 (.ref 871)] 116), #[]⟩
noncomputable def b12_12 (P : Params) : Obj := ⟨.none, none, (.fields #[(.int 1 0), (.int 0 0), (.ref 20), (.int 5 0), (.int 0 0), (.ref 27), (.int 11 0), (.int 0 0), (.ref 48), (.int 13 0), (.int 0 0), (.ref 60), (.int 16 0), (.int 0 0), (.ref 72), (.int 18 0), (.int 0 0), (.ref 80), (.int 21 0), (.int 0 0), (.ref 87), (.int 23 0), (.int 0 0), (.ref 94), (.int 26 0), (.int 0 0), (.ref 101), (.int 28 0), (.int 0 0), (.ref 108), (.int 30 0), (.int 0 0), (.ref 115), (.int 32 0), (.int 0 0), (.ref 122), (.int 39 0), (.int 0 0), (.ref 129), (.int 41 0), (.int 0 0), (.ref 136), (.int 52 0), (.int 0 0), (.ref 143), (.int 63 0), (.int 0 0), (.ref 150), (.int 72 0), (.int 0 0), (.ref 157), (.int 82 0), (.int 0 0), (.ref 164), (.int 84 0), (.int 0 0), (.ref 171), (.int 91 0), (.int 0 0), (.ref 178), (.int 134 0), (.int 0 0), (.ref 220), (.int 154 0), (.int 0 0), (.ref 263), (.int 158 0), (.int 0 0), (.ref 270), (.int 162 0), (.int 0 0), (.ref 277), (.int 166 0), (.int 0 0), (.ref 284), (.int 170 0), (.int 0 0), (.ref 291), (.int 175 0), (.int 0 0), (.ref 298), (.int 181 0), (.int 0 0), (.ref 305), (.int 187 0), (.int 0 0), (.ref 312), (.int 198 0), (.int 0 0), (.ref 319), (.int 213 0), (.int 0 0), (.ref 326), (.int 221 0), (.int 0 0), (.ref 333), (.int 228 0), (.int 0 0), (.ref 340), (.int 238 0), (.int 0 0), (.ref 347), (.int 246 0), (.int 0 0), (.ref 354), (.int 251 0), (.int 0 0), (.ref 361), (.int 256 0), (.int 0 0), (.ref 368), (.int 258 0), (.int 0 0), (.ref 375), (.int 261 0), (.int 0 0), (.ref 382), (.int 263 0), (.int 0 0), (.ref 389), (.int 266 0), (.int 0 0), (.ref 396), (.int 271 0), (.int 0 0), (.ref 403), (.int 277 0), (.int 0 0), (.ref 410), (.int 280 0), (.int 0 0), (.ref 417), (.int 282 0), (.int 0 0), (.ref 424), (.int 287 0), (.int 0 0), (.ref 431), (.int 289 0), (.int 0 0), (.ref 438), (.int 291 0), (.int 0 0), (.ref 445), (.int 293 0), (.int 0 0), (.ref 452), (.int 302 0), (.int 0 0), (.ref 459), (.int 304 0), (.int 0 0), (.ref 466), (.int 306 0), (.int 0 0), (.ref 473), (.int 308 0), (.int 0 0), (.ref 480), (.int 310 0), (.int 0 0), (.ref 487), (.int 315 0), (.int 0 0), (.ref 494), (.int 317 0), (.int 0 0), (.ref 501), (.int 319 0), (.int 0 0), (.ref 508), (.int 321 0), (.int 0 0), (.ref 515), (.int 329 0), (.int 0 0), (.ref 522), (.int 340 0), (.int 0 0), (.ref 529), (.int 360 0), (.int 0 0), (.ref 536), (.int 378 0), (.int 0 0), (.ref 543), (.int 396 0), (.int 0 0), (.ref 550), (.int 410 0), (.int 0 0), (.ref 557), (.int 419 0), (.int 0 0), (.ref 564), (.int 421 0), (.int 0 0), (.ref 571), (.int 429 0), (.int 0 0), (.ref 578), (.int 435 0), (.int 0 0), (.ref 585), (.int 443 0), (.int 0 0), (.ref 592), (.int 448 0), (.int 0 0), (.ref 599), (.int 462 0), (.int 0 0), (.ref 604), (.int 493 0), (.int 0 0), (.ref 611), (.int 500 0), (.int 0 0), (.ref 618), (.int 504 0), (.int 0 0), (.ref 625), (.int 523 0), (.int 0 0), (.ref 632), (.int 535 0), (.int 0 0), (.ref 639), (.int 578 0), (.int 0 0), (.ref 685), (.int 586 0), (.int 0 0), (.ref 692), (.int 593 0), (.int 0 0), (.ref 699), (.int 604 0), (.int 0 0), (.ref 706), (.int 612 0), (.int 0 0), (.ref 713), (.int 623 0), (.int 0 0), (.ref 720), (.int 626 0), (.int 0 0), (.ref 727), (.int 653 0), (.int 0 0), (.ref 734), (.int 672 0), (.int 0 0), (.ref 741), (.int 681 0), (.int 0 0), (.ref 748), (.int 687 0), (.int 0 0), (.ref 755), (.int 693 0), (.int 0 0), (.ref 762), (.int 701 0), (.int 0 0), (.ref 769), (.int 707 0), (.int 0 0), (.ref 774), (.int 725 0), (.int 0 0), (.ref 781), (.int 736 0), (.int 0 0), (.ref 786), (.int 742 0), (.int 0 0), (.ref 793), (.int 767 0), (.int 0 0), (.ref 800), (.int 774 0), (.int 0 0), (.ref 807), (.int 781 0), (.int 0 0), (.ref 814), (.int 792 0), (.int 0 0), (.ref 821), (.int 797 0), (.int 0 0), (.ref 828), (.int 799 0), (.int 0 0), (.ref 835), (.int 812 0), (.int 0 0), (.ref 842), (.int 823 0), (.int 0 0), (.ref 849), (.int 827 0), (.int 0 0), (.ref 856), (.int 834 0), (.int 0 0), (.ref 863), (.int 840 0), (.int 0 0), (.ref 870)]), #[]⟩
noncomputable def hot12 (P : Params) : Frag := [(0, b0_0 P), (2, b1_2 P), (3, b12_3 P), (4, b0_4 P), (12, b12_12 P), (13, b0_13 P), (38, b1_38 P), (39, b2_39 P), (252, b5_252 P), (253, b10_253 P)]
noncomputable def b13_3 (P : Params) : Obj := ⟨(.type "dict"), none, (.dict #[en P "__name__" 165 (.str (S "gateloom.elabexpr") 1473), en P "__doc__" 166 .none, en P "__package__" 167 .none, en P "__loader__" 168 (.builtin "__main__.__loader__#opaque"), en P "__spec__" 169 .none, en P "__annotations__" 170 (.ref 6), en P "__builtins__" 171 (.ref 4), en P "__file__" 173 (.str (S "/claim/cut.py") 172), en P "__cached__" 174 .none, en P "_wall" 193 (.ref 21), en P "GateloomError" 231 (.ref 39), en P "DesignError" 247 (.ref 52), en P "LimitReached" 263 (.ref 64), en P "mask" 272 (.ref 73), en P "vec" 283 (.ref 81), en P "zeros" 290 (.ref 88), en P "all_x" 298 (.ref 95), en P "all_z" 305 (.ref 102), en P "from_int" 313 (.ref 109), en P "is_known" 320 (.ref 116), en P "to_int" 331 (.ref 123), en P "code" 339 (.ref 130), en P "slice_vec" 355 (.ref 137), en P "put_slice" 371 (.ref 144), en P "concat" 382 (.ref 151), en P "extend" 395 (.ref 158), en P "z_to_x" 402 (.ref 165), en P "truth" 409 (.ref 172), en P "Store" 477 (.ref 210), en P "Context" 536 (.ref 253), en P "add" 546 (.ref 264), en P "sub" 554 (.ref 271), en P "mul" 562 (.ref 278), en P "neg" 569 (.ref 285), en P "quotient" 578 (.ref 292), en P "div" 589 (.ref 299), en P "mod" 600 (.ref 306), en P "raise_whole" 613 (.ref 313), en P "power" 626 (.ref 320), en P "shift_left" 636 (.ref 327), en P "shift_right" 645 (.ref 334), en P "shift_arith" 660 (.ref 341), en P "ordered" 671 (.ref 348), en P "less" 681 (.ref 355), en P "less_equal" 691 (.ref 362), en P "greater" 700 (.ref 369), en P "greater_equal" 709 (.ref 376), en P "one_bit" 718 (.ref 383), en P "bit_not" 728 (.ref 390), en P "bit_and" 742 (.ref 397), en P "bit_or" 757 (.ref 404), en P "bit_xor" 766 (.ref 411), en P "bit_xnor" 774 (.ref 418), en P "reduce_and" 784 (.ref 425), en P "reduce_nand" 791 (.ref 432), en P "reduce_or" 798 (.ref 439), en P "reduce_nor" 805 (.ref 446), en P "reduce_xor" 814 (.ref 453), en P "reduce_xnor" 821 (.ref 460), en P "logic_not" 828 (.ref 467), en P "logic_and" 836 (.ref 474), en P "logic_or" 844 (.ref 481), en P "equal" 853 (.ref 488), en P "not_equal" 861 (.ref 495), en P "case_equal" 869 (.ref 502), en P "case_not_equal" 877 (.ref 509), en P "matches" 888 (.ref 516), en P "choose" 901 (.ref 523), en P "unary" 911 (.ref 530), en P "arithmetic" 921 (.ref 537), en P "comparison" 931 (.ref 544), en P "bitwise" 940 (.ref 551), en P "binary" 951 (.ref 558), en P "whole_of" 960 (.ref 565), en P "memory_word" 970 (.ref 572), en P "picked" 980 (.ref 579), en P "conditional" 990 (.ref 586), en P "bits_needed" 998 (.ref 593), en P "system_value" 1009 (.ref 600), en P "system_value_evaluate" 1010 (.ref 600), en P "evaluate" 1016 (.ref 605), en P "locate" 1025 (.ref 612), en P "holder_width" 1033 (.ref 619), en P "resolve_target" 1052 (.ref 626), en P "store_rows" 1069 (.ref 633), en P "DEPTH_LIMIT" 1073 (.int 24 1072), en P "FunctionContext" 1140 (.ref 677), en P "run_block" 1150 (.ref 686), en P "run_set" 1160 (.ref 693), en P "run_case" 1173 (.ref 700), en P "run_while" 1184 (.ref 707), en P "run_repeat" 1194 (.ref 714), en P "run_for" 1202 (.ref 721), en P "run_statement" 1211 (.ref 728), en P "children" 1221 (.ref 735), en P "subexpressions" 1232 (.ref 742), en P "expr_reads" 1241 (.ref 749), en P "expr_calls" 1250 (.ref 756), en P "target_indexes" 1259 (.ref 763), en P "target_writes" 1268 (.ref 770), en P "stmt_parts" 1274 (.ref 775), en P "substatements" 1285 (.ref 782), en P "stmt_targets" 1291 (.ref 787), en P "stmt_exprs" 1303 (.ref 794), en P "stmt_reads" 1314 (.ref 801), en P "stmt_writes" 1325 (.ref 808), en P "stmt_calls" 1336 (.ref 815), en P "MAX_WIDTH" 1340 (.int 65536 1339), en P "last_select" 1349 (.ref 822), en P "is_memory" 1357 (.ref 829), en P "shape" 1367 (.ref 836), en P "read_entry" 1377 (.ref 843), en P "folds" 1384 (.ref 850), en P "folded" 1392 (.ref 857), en P "checked_width" 1400 (.ref 864), en P "selected" 1409 (.ref 871), en P "text_vec" 1418 (.ref 878), en P "inner_join" 1425 (.ref 885), en P "is_context_operator" 1432 (.ref 892), en P "is_shift" 1439 (.ref 899), en P "widen" 1448 (.ref 906), en P "number_value" 1459 (.ref 913), en P "is_constant" 1472 (.ref 920), en P "path_names" 1485 (.ref 927), en P "entry_of" 1494 (.ref 934), en P "base_entry" 1504 (.ref 941), en P "select_width" 1512 (.ref 948), en P "select_where" 1530 (.ref 955), en P "named_type" 1540 (.ref 962), en P "named_value" 1553 (.ref 969), en P "function_of" 1563 (.ref 976)] 131), #[]⟩
noncomputable def b13_12 (P : Params) : Obj := ⟨.none, none, (.fields #[(.int 1 0), (.int 0 0), (.ref 20), (.int 5 0), (.int 0 0), (.ref 27), (.int 11 0), (.int 0 0), (.ref 48), (.int 13 0), (.int 0 0), (.ref 60), (.int 16 0), (.int 0 0), (.ref 72), (.int 18 0), (.int 0 0), (.ref 80), (.int 21 0), (.int 0 0), (.ref 87), (.int 23 0), (.int 0 0), (.ref 94), (.int 26 0), (.int 0 0), (.ref 101), (.int 28 0), (.int 0 0), (.ref 108), (.int 30 0), (.int 0 0), (.ref 115), (.int 32 0), (.int 0 0), (.ref 122), (.int 39 0), (.int 0 0), (.ref 129), (.int 41 0), (.int 0 0), (.ref 136), (.int 52 0), (.int 0 0), (.ref 143), (.int 63 0), (.int 0 0), (.ref 150), (.int 72 0), (.int 0 0), (.ref 157), (.int 82 0), (.int 0 0), (.ref 164), (.int 84 0), (.int 0 0), (.ref 171), (.int 91 0), (.int 0 0), (.ref 178), (.int 134 0), (.int 0 0), (.ref 220), (.int 154 0), (.int 0 0), (.ref 263), (.int 158 0), (.int 0 0), (.ref 270), (.int 162 0), (.int 0 0), (.ref 277), (.int 166 0), (.int 0 0), (.ref 284), (.int 170 0), (.int 0 0), (.ref 291), (.int 175 0), (.int 0 0), (.ref 298), (.int 181 0), (.int 0 0), (.ref 305), (.int 187 0), (.int 0 0), (.ref 312), (.int 198 0), (.int 0 0), (.ref 319), (.int 213 0), (.int 0 0), (.ref 326), (.int 221 0), (.int 0 0), (.ref 333), (.int 228 0), (.int 0 0), (.ref 340), (.int 238 0), (.int 0 0), (.ref 347), (.int 246 0), (.int 0 0), (.ref 354), (.int 251 0), (.int 0 0), (.ref 361), (.int 256 0), (.int 0 0), (.ref 368), (.int 258 0), (.int 0 0), (.ref 375), (.int 261 0), (.int 0 0), (.ref 382), (.int 263 0), (.int 0 0), (.ref 389), (.int 266 0), (.int 0 0), (.ref 396), (.int 271 0), (.int 0 0), (.ref 403), (.int 277 0), (.int 0 0), (.ref 410), (.int 280 0), (.int 0 0), (.ref 417), (.int 282 0), (.int 0 0), (.ref 424), (.int 287 0), (.int 0 0), (.ref 431), (.int 289 0), (.int 0 0), (.ref 438), (.int 291 0), (.int 0 0), (.ref 445), (.int 293 0), (.int 0 0), (.ref 452), (.int 302 0), (.int 0 0), (.ref 459), (.int 304 0), (.int 0 0), (.ref 466), (.int 306 0), (.int 0 0), (.ref 473), (.int 308 0), (.int 0 0), (.ref 480), (.int 310 0), (.int 0 0), (.ref 487), (.int 315 0), (.int 0 0), (.ref 494), (.int 317 0), (.int 0 0), (.ref 501), (.int 319 0), (.int 0 0), (.ref 508), (.int 321 0), (.int 0 0), (.ref 515), (.int 329 0), (.int 0 0), (.ref 522), (.int 340 0), (.int 0 0), (.ref 529), (.int 360 0), (.int 0 0), (.ref 536), (.int 378 0), (.int 0 0), (.ref 543), (.int 396 0), (.int 0 0), (.ref 550), (.int 410 0), (.int 0 0), (.ref 557), (.int 419 0), (.int 0 0), (.ref 564), (.int 421 0), (.int 0 0), (.ref 571), (.int 429 0), (.int 0 0), (.ref 578), (.int 435 0), (.int 0 0), (.ref 585), (.int 443 0), (.int 0 0), (.ref 592), (.int 448 0), (.int 0 0), (.ref 599), (.int 462 0), (.int 0 0), (.ref 604), (.int 493 0), (.int 0 0), (.ref 611), (.int 500 0), (.int 0 0), (.ref 618), (.int 504 0), (.int 0 0), (.ref 625), (.int 523 0), (.int 0 0), (.ref 632), (.int 535 0), (.int 0 0), (.ref 639), (.int 578 0), (.int 0 0), (.ref 685), (.int 586 0), (.int 0 0), (.ref 692), (.int 593 0), (.int 0 0), (.ref 699), (.int 604 0), (.int 0 0), (.ref 706), (.int 612 0), (.int 0 0), (.ref 713), (.int 623 0), (.int 0 0), (.ref 720), (.int 626 0), (.int 0 0), (.ref 727), (.int 653 0), (.int 0 0), (.ref 734), (.int 672 0), (.int 0 0), (.ref 741), (.int 681 0), (.int 0 0), (.ref 748), (.int 687 0), (.int 0 0), (.ref 755), (.int 693 0), (.int 0 0), (.ref 762), (.int 701 0), (.int 0 0), (.ref 769), (.int 707 0), (.int 0 0), (.ref 774), (.int 725 0), (.int 0 0), (.ref 781), (.int 736 0), (.int 0 0), (.ref 786), (.int 742 0), (.int 0 0), (.ref 793), (.int 767 0), (.int 0 0), (.ref 800), (.int 774 0), (.int 0 0), (.ref 807), (.int 781 0), (.int 0 0), (.ref 814), (.int 792 0), (.int 0 0), (.ref 821), (.int 797 0), (.int 0 0), (.ref 828), (.int 799 0), (.int 0 0), (.ref 835), (.int 812 0), (.int 0 0), (.ref 842), (.int 823 0), (.int 0 0), (.ref 849), (.int 827 0), (.int 0 0), (.ref 856), (.int 834 0), (.int 0 0), (.ref 863), (.int 840 0), (.int 0 0), (.ref 870), (.int 844 0), (.int 0 0), (.ref 877), (.int 849 0), (.int 0 0), (.ref 884), (.int 851 0), (.int 0 0), (.ref 891), (.int 853 0), (.int 0 0), (.ref 898), (.int 855 0), (.int 0 0), (.ref 905), (.int 859 0), (.int 0 0), (.ref 912), (.int 863 0), (.int 0 0), (.ref 919), (.int 881 0), (.int 0 0), (.ref 926), (.int 888 0), (.int 0 0), (.ref 933), (.int 895 0), (.int 0 0), (.ref 940), (.int 905 0), (.int 0 0), (.ref 947), (.int 911 0), (.int 0 0), (.ref 954), (.int 933 0), (.int 0 0), (.ref 961), (.int 946 0), (.int 0 0), (.ref 968), (.int 965 0), (.int 0 0), (.ref 975)]), #[]⟩
noncomputable def hot13 (P : Params) : Frag := [(0, b0_0 P), (2, b1_2 P), (3, b13_3 P), (4, b0_4 P), (12, b13_12 P), (13, b0_13 P), (38, b1_38 P), (39, b2_39 P), (252, b5_252 P), (253, b10_253 P)]
noncomputable def b14_3 (P : Params) : Obj := ⟨(.type "dict"), none, (.dict #[en P "__name__" 165 (.str (S "gateloom.elabexpr") 1473), en P "__doc__" 166 .none, en P "__package__" 167 .none, en P "__loader__" 168 (.builtin "__main__.__loader__#opaque"), en P "__spec__" 169 .none, en P "__annotations__" 170 (.ref 6), en P "__builtins__" 171 (.ref 4), en P "__file__" 173 (.str (S "/claim/cut.py") 172), en P "__cached__" 174 .none, en P "_wall" 193 (.ref 21), en P "GateloomError" 231 (.ref 39), en P "DesignError" 247 (.ref 52), en P "LimitReached" 263 (.ref 64), en P "mask" 272 (.ref 73), en P "vec" 283 (.ref 81), en P "zeros" 290 (.ref 88), en P "all_x" 298 (.ref 95), en P "all_z" 305 (.ref 102), en P "from_int" 313 (.ref 109), en P "is_known" 320 (.ref 116), en P "to_int" 331 (.ref 123), en P "code" 339 (.ref 130), en P "slice_vec" 355 (.ref 137), en P "put_slice" 371 (.ref 144), en P "concat" 382 (.ref 151), en P "extend" 395 (.ref 158), en P "z_to_x" 402 (.ref 165), en P "truth" 409 (.ref 172), en P "Store" 477 (.ref 210), en P "Context" 536 (.ref 253), en P "add" 546 (.ref 264), en P "sub" 554 (.ref 271), en P "mul" 562 (.ref 278), en P "neg" 569 (.ref 285), en P "quotient" 578 (.ref 292), en P "div" 589 (.ref 299), en P "mod" 600 (.ref 306), en P "raise_whole" 613 (.ref 313), en P "power" 626 (.ref 320), en P "shift_left" 636 (.ref 327), en P "shift_right" 645 (.ref 334), en P "shift_arith" 660 (.ref 341), en P "ordered" 671 (.ref 348), en P "less" 681 (.ref 355), en P "less_equal" 691 (.ref 362), en P "greater" 700 (.ref 369), en P "greater_equal" 709 (.ref 376), en P "one_bit" 718 (.ref 383), en P "bit_not" 728 (.ref 390), en P "bit_and" 742 (.ref 397), en P "bit_or" 757 (.ref 404), en P "bit_xor" 766 (.ref 411), en P "bit_xnor" 774 (.ref 418), en P "reduce_and" 784 (.ref 425), en P "reduce_nand" 791 (.ref 432), en P "reduce_or" 798 (.ref 439), en P "reduce_nor" 805 (.ref 446), en P "reduce_xor" 814 (.ref 453), en P "reduce_xnor" 821 (.ref 460), en P "logic_not" 828 (.ref 467), en P "logic_and" 836 (.ref 474), en P "logic_or" 844 (.ref 481), en P "equal" 853 (.ref 488), en P "not_equal" 861 (.ref 495), en P "case_equal" 869 (.ref 502), en P "case_not_equal" 877 (.ref 509), en P "matches" 888 (.ref 516), en P "choose" 901 (.ref 523), en P "unary" 911 (.ref 530), en P "arithmetic" 921 (.ref 537), en P "comparison" 931 (.ref 544), en P "bitwise" 940 (.ref 551), en P "binary" 951 (.ref 558), en P "whole_of" 960 (.ref 565), en P "memory_word" 970 (.ref 572), en P "picked" 980 (.ref 579), en P "conditional" 990 (.ref 586), en P "bits_needed" 998 (.ref 593), en P "system_value" 1009 (.ref 997), en P "system_value_evaluate" 1010 (.ref 600), en P "evaluate" 1016 (.ref 605), en P "locate" 1025 (.ref 612), en P "holder_width" 1033 (.ref 619), en P "resolve_target" 1052 (.ref 626), en P "store_rows" 1069 (.ref 633), en P "DEPTH_LIMIT" 1073 (.int 24 1072), en P "FunctionContext" 1140 (.ref 677), en P "run_block" 1150 (.ref 686), en P "run_set" 1160 (.ref 693), en P "run_case" 1173 (.ref 700), en P "run_while" 1184 (.ref 707), en P "run_repeat" 1194 (.ref 714), en P "run_for" 1202 (.ref 721), en P "run_statement" 1211 (.ref 728), en P "children" 1221 (.ref 735), en P "subexpressions" 1232 (.ref 742), en P "expr_reads" 1241 (.ref 749), en P "expr_calls" 1250 (.ref 756), en P "target_indexes" 1259 (.ref 763), en P "target_writes" 1268 (.ref 770), en P "stmt_parts" 1274 (.ref 775), en P "substatements" 1285 (.ref 782), en P "stmt_targets" 1291 (.ref 787), en P "stmt_exprs" 1303 (.ref 794), en P "stmt_reads" 1314 (.ref 801), en P "stmt_writes" 1325 (.ref 808), en P "stmt_calls" 1336 (.ref 815), en P "MAX_WIDTH" 1340 (.int 65536 1339), en P "last_select" 1349 (.ref 822), en P "is_memory" 1357 (.ref 829), en P "shape" 1367 (.ref 836), en P "read_entry" 1377 (.ref 843), en P "folds" 1384 (.ref 850), en P "folded" 1392 (.ref 857), en P "checked_width" 1400 (.ref 864), en P "selected" 1409 (.ref 871), en P "text_vec" 1418 (.ref 878), en P "inner_join" 1425 (.ref 885), en P "is_context_operator" 1432 (.ref 892), en P "is_shift" 1439 (.ref 899), en P "widen" 1448 (.ref 906), en P "number_value" 1459 (.ref 913), en P "is_constant" 1472 (.ref 920), en P "path_names" 1485 (.ref 927), en P "entry_of" 1494 (.ref 934), en P "base_entry" 1504 (.ref 941), en P "select_width" 1512 (.ref 948), en P "select_where" 1530 (.ref 955), en P "named_type" 1540 (.ref 962), en P "named_value" 1553 (.ref 969), en P "function_of" 1563 (.ref 976), en P "call_value" 1575 (.ref 983), en P "system_type" 1585 (.ref 990), en P "system_value_elabexpr" 1597 (.ref 997), en P "joined_parts" 1607 (.ref 1004), en P "copies" 1616 (.ref 1011), en P "joined_width" 1626 (.ref 1018), en P "joined_value" 1637 (.ref 1025), en P "both_types" 1648 (.ref 1032), en P "expr_type" 1658 (.ref 1039), en P "unary_value" 1669 (.ref 1046), en P "binary_value" 1685 (.ref 1053), en P "build" 1699 (.ref 1060), en P "self_determined" 1709 (.ref 1067), en P "sized" 1720 (.ref 1074), en P "constant_vec" 1730 (.ref 1081), en P "constant" 1740 (.ref 1088), en P "whole" 1751 (.ref 1095)] 148), #[]⟩
noncomputable def b14_12 (P : Params) : Obj := ⟨.none, none, (.fields #[(.int 1 0), (.int 0 0), (.ref 20), (.int 5 0), (.int 0 0), (.ref 27), (.int 11 0), (.int 0 0), (.ref 48), (.int 13 0), (.int 0 0), (.ref 60), (.int 16 0), (.int 0 0), (.ref 72), (.int 18 0), (.int 0 0), (.ref 80), (.int 21 0), (.int 0 0), (.ref 87), (.int 23 0), (.int 0 0), (.ref 94), (.int 26 0), (.int 0 0), (.ref 101), (.int 28 0), (.int 0 0), (.ref 108), (.int 30 0), (.int 0 0), (.ref 115), (.int 32 0), (.int 0 0), (.ref 122), (.int 39 0), (.int 0 0), (.ref 129), (.int 41 0), (.int 0 0), (.ref 136), (.int 52 0), (.int 0 0), (.ref 143), (.int 63 0), (.int 0 0), (.ref 150), (.int 72 0), (.int 0 0), (.ref 157), (.int 82 0), (.int 0 0), (.ref 164), (.int 84 0), (.int 0 0), (.ref 171), (.int 91 0), (.int 0 0), (.ref 178), (.int 134 0), (.int 0 0), (.ref 220), (.int 154 0), (.int 0 0), (.ref 263), (.int 158 0), (.int 0 0), (.ref 270), (.int 162 0), (.int 0 0), (.ref 277), (.int 166 0), (.int 0 0), (.ref 284), (.int 170 0), (.int 0 0), (.ref 291), (.int 175 0), (.int 0 0), (.ref 298), (.int 181 0), (.int 0 0), (.ref 305), (.int 187 0), (.int 0 0), (.ref 312), (.int 198 0), (.int 0 0), (.ref 319), (.int 213 0), (.int 0 0), (.ref 326), (.int 221 0), (.int 0 0), (.ref 333), (.int 228 0), (.int 0 0), (.ref 340), (.int 238 0), (.int 0 0), (.ref 347), (.int 246 0), (.int 0 0), (.ref 354), (.int 251 0), (.int 0 0), (.ref 361), (.int 256 0), (.int 0 0), (.ref 368), (.int 258 0), (.int 0 0), (.ref 375), (.int 261 0), (.int 0 0), (.ref 382), (.int 263 0), (.int 0 0), (.ref 389), (.int 266 0), (.int 0 0), (.ref 396), (.int 271 0), (.int 0 0), (.ref 403), (.int 277 0), (.int 0 0), (.ref 410), (.int 280 0), (.int 0 0), (.ref 417), (.int 282 0), (.int 0 0), (.ref 424), (.int 287 0), (.int 0 0), (.ref 431), (.int 289 0), (.int 0 0), (.ref 438), (.int 291 0), (.int 0 0), (.ref 445), (.int 293 0), (.int 0 0), (.ref 452), (.int 302 0), (.int 0 0), (.ref 459), (.int 304 0), (.int 0 0), (.ref 466), (.int 306 0), (.int 0 0), (.ref 473), (.int 308 0), (.int 0 0), (.ref 480), (.int 310 0), (.int 0 0), (.ref 487), (.int 315 0), (.int 0 0), (.ref 494), (.int 317 0), (.int 0 0), (.ref 501), (.int 319 0), (.int 0 0), (.ref 508), (.int 321 0), (.int 0 0), (.ref 515), (.int 329 0), (.int 0 0), (.ref 522), (.int 340 0), (.int 0 0), (.ref 529), (.int 360 0), (.int 0 0), (.ref 536), (.int 378 0), (.int 0 0), (.ref 543), (.int 396 0), (.int 0 0), (.ref 550), (.int 410 0), (.int 0 0), (.ref 557), (.int 419 0), (.int 0 0), (.ref 564), (.int 421 0), (.int 0 0), (.ref 571), (.int 429 0), (.int 0 0), (.ref 578), (.int 435 0), (.int 0 0), (.ref 585), (.int 443 0), (.int 0 0), (.ref 592), (.int 448 0), (.int 0 0), (.ref 599), (.int 462 0), (.int 0 0), (.ref 604), (.int 493 0), (.int 0 0), (.ref 611), (.int 500 0), (.int 0 0), (.ref 618), (.int 504 0), (.int 0 0), (.ref 625), (.int 523 0), (.int 0 0), (.ref 632), (.int 535 0), (.int 0 0), (.ref 639), (.int 578 0), (.int 0 0), (.ref 685), (.int 586 0), (.int 0 0), (.ref 692), (.int 593 0), (.int 0 0), (.ref 699), (.int 604 0), (.int 0 0), (.ref 706), (.int 612 0), (.int 0 0), (.ref 713), (.int 623 0), (.int 0 0), (.ref 720), (.int 626 0), (.int 0 0), (.ref 727), (.int 653 0), (.int 0 0), (.ref 734), (.int 672 0), (.int 0 0), (.ref 741), (.int 681 0), (.int 0 0), (.ref 748), (.int 687 0), (.int 0 0), (.ref 755), (.int 693 0), (.int 0 0), (.ref 762), (.int 701 0), (.int 0 0), (.ref 769), (.int 707 0), (.int 0 0), (.ref 774), (.int 725 0), (.int 0 0), (.ref 781), (.int 736 0), (.int 0 0), (.ref 786), (.int 742 0), (.int 0 0), (.ref 793), (.int 767 0), (.int 0 0), (.ref 800), (.int 774 0), (.int 0 0), (.ref 807), (.int 781 0), (.int 0 0), (.ref 814), (.int 792 0), (.int 0 0), (.ref 821), (.int 797 0), (.int 0 0), (.ref 828), (.int 799 0), (.int 0 0), (.ref 835), (.int 812 0), (.int 0 0), (.ref 842), (.int 823 0), (.int 0 0), (.ref 849), (.int 827 0), (.int 0 0), (.ref 856), (.int 834 0), (.int 0 0), (.ref 863), (.int 840 0), (.int 0 0), (.ref 870), (.int 844 0), (.int 0 0), (.ref 877), (.int 849 0), (.int 0 0), (.ref 884), (.int 851 0), (.int 0 0), (.ref 891), (.int 853 0), (.int 0 0), (.ref 898), (.int 855 0), (.int 0 0), (.ref 905), (.int 859 0), (.int 0 0), (.ref 912), (.int 863 0), (.int 0 0), (.ref 919), (.int 881 0), (.int 0 0), (.ref 926), (.int 888 0), (.int 0 0), (.ref 933), (.int 895 0), (.int 0 0), (.ref 940), (.int 905 0), (.int 0 0), (.ref 947), (.int 911 0), (.int 0 0), (.ref 954), (.int 933 0), (.int 0 0), (.ref 961), (.int 946 0), (.int 0 0), (.ref 968), (.int 965 0), (.int 0 0), (.ref 975), (.int 977 0), (.int 0 0), (.ref 982), (.int 985 0), (.int 0 0), (.ref 989), (.int 1003 0), (.int 0 0), (.ref 996), (.int 1012 0), (.int 0 0), (.ref 1003), (.int 1022 0), (.int 0 0), (.ref 1010), (.int 1027 0), (.int 0 0), (.ref 1017), (.int 1034 0), (.int 0 0), (.ref 1024), (.int 1042 0), (.int 0 0), (.ref 1031), (.int 1046 0), (.int 0 0), (.ref 1038), (.int 1074 0), (.int 0 0), (.ref 1045), (.int 1081 0), (.int 0 0), (.ref 1052), (.int 1100 0), (.int 0 0), (.ref 1059), (.int 1123 0), (.int 0 0), (.ref 1066), (.int 1126 0), (.int 0 0), (.ref 1073), (.int 1129 0), (.int 0 0), (.ref 1080), (.int 1136 0), (.int 0 0), (.ref 1087), (.int 1139 0), (.int 0 0), (.ref 1094)]), #[]⟩
noncomputable def hot14 (P : Params) : Frag := [(0, b0_0 P), (2, b1_2 P), (3, b14_3 P), (4, b0_4 P), (12, b14_12 P), (13, b0_13 P), (38, b1_38 P), (39, b2_39 P), (252, b5_252 P), (253, b10_253 P)]
noncomputable def b15_3 (P : Params) : Obj := ⟨(.type "dict"), none, (.dict #[en P "__name__" 165 (.str (S "gateloom.design") 1834), en P "__doc__" 166 .none, en P "__package__" 167 .none, en P "__loader__" 168 (.builtin "__main__.__loader__#opaque"), en P "__spec__" 169 .none, en P "__annotations__" 170 (.ref 6), en P "__builtins__" 171 (.ref 4), en P "__file__" 173 (.str (S "/claim/cut.py") 172), en P "__cached__" 174 .none, en P "_wall" 193 (.ref 21), en P "GateloomError" 231 (.ref 39), en P "DesignError" 247 (.ref 52), en P "LimitReached" 263 (.ref 64), en P "mask" 272 (.ref 73), en P "vec" 283 (.ref 81), en P "zeros" 290 (.ref 88), en P "all_x" 298 (.ref 95), en P "all_z" 305 (.ref 102), en P "from_int" 313 (.ref 109), en P "is_known" 320 (.ref 116), en P "to_int" 331 (.ref 123), en P "code" 339 (.ref 130), en P "slice_vec" 355 (.ref 137), en P "put_slice" 371 (.ref 144), en P "concat" 382 (.ref 151), en P "extend" 395 (.ref 158), en P "z_to_x" 402 (.ref 165), en P "truth" 409 (.ref 172), en P "Store" 477 (.ref 210), en P "Context" 536 (.ref 253), en P "add" 546 (.ref 264), en P "sub" 554 (.ref 271), en P "mul" 562 (.ref 278), en P "neg" 569 (.ref 285), en P "quotient" 578 (.ref 292), en P "div" 589 (.ref 299), en P "mod" 600 (.ref 306), en P "raise_whole" 613 (.ref 313), en P "power" 626 (.ref 320), en P "shift_left" 636 (.ref 327), en P "shift_right" 645 (.ref 334), en P "shift_arith" 660 (.ref 341), en P "ordered" 671 (.ref 348), en P "less" 681 (.ref 355), en P "less_equal" 691 (.ref 362), en P "greater" 700 (.ref 369), en P "greater_equal" 709 (.ref 376), en P "one_bit" 718 (.ref 383), en P "bit_not" 728 (.ref 390), en P "bit_and" 742 (.ref 397), en P "bit_or" 757 (.ref 404), en P "bit_xor" 766 (.ref 411), en P "bit_xnor" 774 (.ref 418), en P "reduce_and" 784 (.ref 425), en P "reduce_nand" 791 (.ref 432), en P "reduce_or" 798 (.ref 439), en P "reduce_nor" 805 (.ref 446), en P "reduce_xor" 814 (.ref 453), en P "reduce_xnor" 821 (.ref 460), en P "logic_not" 828 (.ref 467), en P "logic_and" 836 (.ref 474), en P "logic_or" 844 (.ref 481), en P "equal" 853 (.ref 488), en P "not_equal" 861 (.ref 495), en P "case_equal" 869 (.ref 502), en P "case_not_equal" 877 (.ref 509), en P "matches" 888 (.ref 516), en P "choose" 901 (.ref 523), en P "unary" 911 (.ref 530), en P "arithmetic" 921 (.ref 537), en P "comparison" 931 (.ref 544), en P "bitwise" 940 (.ref 551), en P "binary" 951 (.ref 558), en P "whole_of" 960 (.ref 565), en P "memory_word" 970 (.ref 572), en P "picked" 980 (.ref 579), en P "conditional" 990 (.ref 586), en P "bits_needed" 998 (.ref 593), en P "system_value" 1009 (.ref 997), en P "system_value_evaluate" 1010 (.ref 600), en P "evaluate" 1016 (.ref 605), en P "locate" 1025 (.ref 612), en P "holder_width" 1033 (.ref 619), en P "resolve_target" 1052 (.ref 626), en P "store_rows" 1069 (.ref 633), en P "DEPTH_LIMIT" 1073 (.int 24 1072), en P "FunctionContext" 1140 (.ref 677), en P "run_block" 1150 (.ref 686), en P "run_set" 1160 (.ref 693), en P "run_case" 1173 (.ref 700), en P "run_while" 1184 (.ref 707), en P "run_repeat" 1194 (.ref 714), en P "run_for" 1202 (.ref 721), en P "run_statement" 1211 (.ref 728), en P "children" 1221 (.ref 735), en P "subexpressions" 1232 (.ref 742), en P "expr_reads" 1241 (.ref 749), en P "expr_calls" 1250 (.ref 756), en P "target_indexes" 1259 (.ref 763), en P "target_writes" 1268 (.ref 770), en P "stmt_parts" 1274 (.ref 775), en P "substatements" 1285 (.ref 782), en P "stmt_targets" 1291 (.ref 787), en P "stmt_exprs" 1303 (.ref 794), en P "stmt_reads" 1314 (.ref 801), en P "stmt_writes" 1325 (.ref 808), en P "stmt_calls" 1336 (.ref 815), en P "MAX_WIDTH" 1340 (.int 65536 1339), en P "last_select" 1349 (.ref 822), en P "is_memory" 1357 (.ref 829), en P "shape" 1367 (.ref 836), en P "read_entry" 1377 (.ref 843), en P "folds" 1384 (.ref 850), en P "folded" 1392 (.ref 857), en P "checked_width" 1400 (.ref 864), en P "selected" 1409 (.ref 871), en P "text_vec" 1418 (.ref 878), en P "inner_join" 1425 (.ref 885), en P "is_context_operator" 1432 (.ref 892), en P "is_shift" 1439 (.ref 899), en P "widen" 1448 (.ref 906), en P "number_value" 1459 (.ref 913), en P "is_constant" 1472 (.ref 920), en P "path_names" 1485 (.ref 927), en P "entry_of" 1494 (.ref 934), en P "base_entry" 1504 (.ref 941), en P "select_width" 1512 (.ref 948), en P "select_where" 1530 (.ref 955), en P "named_type" 1540 (.ref 962), en P "named_value" 1553 (.ref 969), en P "function_of" 1563 (.ref 976), en P "call_value" 1575 (.ref 983), en P "system_type" 1585 (.ref 990), en P "system_value_elabexpr" 1597 (.ref 997), en P "joined_parts" 1607 (.ref 1004), en P "copies" 1616 (.ref 1011), en P "joined_width" 1626 (.ref 1018), en P "joined_value" 1637 (.ref 1025), en P "both_types" 1648 (.ref 1032), en P "expr_type" 1658 (.ref 1039), en P "unary_value" 1669 (.ref 1046), en P "binary_value" 1685 (.ref 1053), en P "build" 1699 (.ref 1060), en P "self_determined" 1709 (.ref 1067), en P "sized" 1720 (.ref 1074), en P "constant_vec" 1730 (.ref 1081), en P "constant" 1740 (.ref 1088), en P "whole" 1751 (.ref 1095), en P "modules_by_name" 1759 (.ref 1100), en P "primitives_by_name" 1765 (.ref 1105), en P "inner_items" 1771 (.ref 1110), en P "instantiated" 1781 (.ref 1117), en P "tops" 1792 (.ref 1124), en P "parameter_names" 1801 (.ref 1131), en P "ordered_parameters" 1807 (.ref 1136), en P "override_values" 1822 (.ref 1143), en P "check_parameters" 1833 (.ref 1150)] 157), #[]⟩
noncomputable def b15_12 (P : Params) : Obj := ⟨.none, none, (.fields #[(.int 1 0), (.int 0 0), (.ref 20), (.int 5 0), (.int 0 0), (.ref 27), (.int 11 0), (.int 0 0), (.ref 48), (.int 13 0), (.int 0 0), (.ref 60), (.int 16 0), (.int 0 0), (.ref 72), (.int 18 0), (.int 0 0), (.ref 80), (.int 21 0), (.int 0 0), (.ref 87), (.int 23 0), (.int 0 0), (.ref 94), (.int 26 0), (.int 0 0), (.ref 101), (.int 28 0), (.int 0 0), (.ref 108), (.int 30 0), (.int 0 0), (.ref 115), (.int 32 0), (.int 0 0), (.ref 122), (.int 39 0), (.int 0 0), (.ref 129), (.int 41 0), (.int 0 0), (.ref 136), (.int 52 0), (.int 0 0), (.ref 143), (.int 63 0), (.int 0 0), (.ref 150), (.int 72 0), (.int 0 0), (.ref 157), (.int 82 0), (.int 0 0), (.ref 164), (.int 84 0), (.int 0 0), (.ref 171), (.int 91 0), (.int 0 0), (.ref 178), (.int 134 0), (.int 0 0), (.ref 220), (.int 154 0), (.int 0 0), (.ref 263), (.int 158 0), (.int 0 0), (.ref 270), (.int 162 0), (.int 0 0), (.ref 277), (.int 166 0), (.int 0 0), (.ref 284), (.int 170 0), (.int 0 0), (.ref 291), (.int 175 0), (.int 0 0), (.ref 298), (.int 181 0), (.int 0 0), (.ref 305), (.int 187 0), (.int 0 0), (.ref 312), (.int 198 0), (.int 0 0), (.ref 319), (.int 213 0), (.int 0 0), (.ref 326), (.int 221 0), (.int 0 0), (.ref 333), (.int 228 0), (.int 0 0), (.ref 340), (.int 238 0), (.int 0 0), (.ref 347), (.int 246 0), (.int 0 0), (.ref 354), (.int 251 0), (.int 0 0), (.ref 361), (.int 256 0), (.int 0 0), (.ref 368), (.int 258 0), (.int 0 0), (.ref 375), (.int 261 0), (.int 0 0), (.ref 382), (.int 263 0), (.int 0 0), (.ref 389), (.int 266 0), (.int 0 0), (.ref 396), (.int 271 0), (.int 0 0), (.ref 403), (.int 277 0), (.int 0 0), (.ref 410), (.int 280 0), (.int 0 0), (.ref 417), (.int 282 0), (.int 0 0), (.ref 424), (.int 287 0), (.int 0 0), (.ref 431), (.int 289 0), (.int 0 0), (.ref 438), (.int 291 0), (.int 0 0), (.ref 445), (.int 293 0), (.int 0 0), (.ref 452), (.int 302 0), (.int 0 0), (.ref 459), (.int 304 0), (.int 0 0), (.ref 466), (.int 306 0), (.int 0 0), (.ref 473), (.int 308 0), (.int 0 0), (.ref 480), (.int 310 0), (.int 0 0), (.ref 487), (.int 315 0), (.int 0 0), (.ref 494), (.int 317 0), (.int 0 0), (.ref 501), (.int 319 0), (.int 0 0), (.ref 508), (.int 321 0), (.int 0 0), (.ref 515), (.int 329 0), (.int 0 0), (.ref 522), (.int 340 0), (.int 0 0), (.ref 529), (.int 360 0), (.int 0 0), (.ref 536), (.int 378 0), (.int 0 0), (.ref 543), (.int 396 0), (.int 0 0), (.ref 550), (.int 410 0), (.int 0 0), (.ref 557), (.int 419 0), (.int 0 0), (.ref 564), (.int 421 0), (.int 0 0), (.ref 571), (.int 429 0), (.int 0 0), (.ref 578), (.int 435 0), (.int 0 0), (.ref 585), (.int 443 0), (.int 0 0), (.ref 592), (.int 448 0), (.int 0 0), (.ref 599), (.int 462 0), (.int 0 0), (.ref 604), (.int 493 0), (.int 0 0), (.ref 611), (.int 500 0), (.int 0 0), (.ref 618), (.int 504 0), (.int 0 0), (.ref 625), (.int 523 0), (.int 0 0), (.ref 632), (.int 535 0), (.int 0 0), (.ref 639), (.int 578 0), (.int 0 0), (.ref 685), (.int 586 0), (.int 0 0), (.ref 692), (.int 593 0), (.int 0 0), (.ref 699), (.int 604 0), (.int 0 0), (.ref 706), (.int 612 0), (.int 0 0), (.ref 713), (.int 623 0), (.int 0 0), (.ref 720), (.int 626 0), (.int 0 0), (.ref 727), (.int 653 0), (.int 0 0), (.ref 734), (.int 672 0), (.int 0 0), (.ref 741), (.int 681 0), (.int 0 0), (.ref 748), (.int 687 0), (.int 0 0), (.ref 755), (.int 693 0), (.int 0 0), (.ref 762), (.int 701 0), (.int 0 0), (.ref 769), (.int 707 0), (.int 0 0), (.ref 774), (.int 725 0), (.int 0 0), (.ref 781), (.int 736 0), (.int 0 0), (.ref 786), (.int 742 0), (.int 0 0), (.ref 793), (.int 767 0), (.int 0 0), (.ref 800), (.int 774 0), (.int 0 0), (.ref 807), (.int 781 0), (.int 0 0), (.ref 814), (.int 792 0), (.int 0 0), (.ref 821), (.int 797 0), (.int 0 0), (.ref 828), (.int 799 0), (.int 0 0), (.ref 835), (.int 812 0), (.int 0 0), (.ref 842), (.int 823 0), (.int 0 0), (.ref 849), (.int 827 0), (.int 0 0), (.ref 856), (.int 834 0), (.int 0 0), (.ref 863), (.int 840 0), (.int 0 0), (.ref 870), (.int 844 0), (.int 0 0), (.ref 877), (.int 849 0), (.int 0 0), (.ref 884), (.int 851 0), (.int 0 0), (.ref 891), (.int 853 0), (.int 0 0), (.ref 898), (.int 855 0), (.int 0 0), (.ref 905), (.int 859 0), (.int 0 0), (.ref 912), (.int 863 0), (.int 0 0), (.ref 919), (.int 881 0), (.int 0 0), (.ref 926), (.int 888 0), (.int 0 0), (.ref 933), (.int 895 0), (.int 0 0), (.ref 940), (.int 905 0), (.int 0 0), (.ref 947), (.int 911 0), (.int 0 0), (.ref 954), (.int 933 0), (.int 0 0), (.ref 961), (.int 946 0), (.int 0 0), (.ref 968), (.int 965 0), (.int 0 0), (.ref 975), (.int 977 0), (.int 0 0), (.ref 982), (.int 985 0), (.int 0 0), (.ref 989), (.int 1003 0), (.int 0 0), (.ref 996), (.int 1012 0), (.int 0 0), (.ref 1003), (.int 1022 0), (.int 0 0), (.ref 1010), (.int 1027 0), (.int 0 0), (.ref 1017), (.int 1034 0), (.int 0 0), (.ref 1024), (.int 1042 0), (.int 0 0), (.ref 1031), (.int 1046 0), (.int 0 0), (.ref 1038), (.int 1074 0), (.int 0 0), (.ref 1045), (.int 1081 0), (.int 0 0), (.ref 1052), (.int 1100 0), (.int 0 0), (.ref 1059), (.int 1123 0), (.int 0 0), (.ref 1066), (.int 1126 0), (.int 0 0), (.ref 1073), (.int 1129 0), (.int 0 0), (.ref 1080), (.int 1136 0), (.int 0 0), (.ref 1087), (.int 1139 0), (.int 0 0), (.ref 1094), (.int 1146 0), (.int 0 0), (.ref 1099), (.int 1148 0), (.int 0 0), (.ref 1104), (.int 1150 0), (.int 0 0), (.ref 1109), (.int 1160 0), (.int 0 0), (.ref 1116), (.int 1169 0), (.int 0 0), (.ref 1123), (.int 1180 0), (.int 0 0), (.ref 1130), (.int 1186 0), (.int 0 0), (.ref 1135), (.int 1191 0), (.int 0 0), (.ref 1142), (.int 1203 0), (.int 0 0), (.ref 1149)]), #[]⟩
noncomputable def hot15 (P : Params) : Frag := [(0, b0_0 P), (2, b1_2 P), (3, b15_3 P), (4, b0_4 P), (12, b15_12 P), (13, b0_13 P), (38, b1_38 P), (39, b2_39 P), (252, b5_252 P), (253, b10_253 P)]
noncomputable def b16_3 (P : Params) : Obj := ⟨(.type "dict"), none, (.dict #[en P "__name__" 165 (.str (S "gateloom.scopes") 1935), en P "__doc__" 166 .none, en P "__package__" 167 .none, en P "__loader__" 168 (.builtin "__main__.__loader__#opaque"), en P "__spec__" 169 .none, en P "__annotations__" 170 (.ref 6), en P "__builtins__" 171 (.ref 4), en P "__file__" 173 (.str (S "/claim/cut.py") 172), en P "__cached__" 174 .none, en P "_wall" 193 (.ref 21), en P "GateloomError" 231 (.ref 39), en P "DesignError" 247 (.ref 52), en P "LimitReached" 263 (.ref 64), en P "mask" 272 (.ref 73), en P "vec" 283 (.ref 81), en P "zeros" 290 (.ref 88), en P "all_x" 298 (.ref 95), en P "all_z" 305 (.ref 102), en P "from_int" 313 (.ref 109), en P "is_known" 320 (.ref 116), en P "to_int" 331 (.ref 123), en P "code" 339 (.ref 130), en P "slice_vec" 355 (.ref 137), en P "put_slice" 371 (.ref 144), en P "concat" 382 (.ref 151), en P "extend" 395 (.ref 158), en P "z_to_x" 402 (.ref 165), en P "truth" 409 (.ref 172), en P "Store" 477 (.ref 210), en P "Context" 536 (.ref 253), en P "add" 546 (.ref 264), en P "sub" 554 (.ref 271), en P "mul" 562 (.ref 278), en P "neg" 569 (.ref 285), en P "quotient" 578 (.ref 292), en P "div" 589 (.ref 299), en P "mod" 600 (.ref 306), en P "raise_whole" 613 (.ref 313), en P "power" 626 (.ref 320), en P "shift_left" 636 (.ref 327), en P "shift_right" 645 (.ref 334), en P "shift_arith" 660 (.ref 341), en P "ordered" 671 (.ref 348), en P "less" 681 (.ref 355), en P "less_equal" 691 (.ref 362), en P "greater" 700 (.ref 369), en P "greater_equal" 709 (.ref 376), en P "one_bit" 718 (.ref 383), en P "bit_not" 728 (.ref 390), en P "bit_and" 742 (.ref 397), en P "bit_or" 757 (.ref 404), en P "bit_xor" 766 (.ref 411), en P "bit_xnor" 774 (.ref 418), en P "reduce_and" 784 (.ref 425), en P "reduce_nand" 791 (.ref 432), en P "reduce_or" 798 (.ref 439), en P "reduce_nor" 805 (.ref 446), en P "reduce_xor" 814 (.ref 453), en P "reduce_xnor" 821 (.ref 460), en P "logic_not" 828 (.ref 467), en P "logic_and" 836 (.ref 474), en P "logic_or" 844 (.ref 481), en P "equal" 853 (.ref 488), en P "not_equal" 861 (.ref 495), en P "case_equal" 869 (.ref 502), en P "case_not_equal" 877 (.ref 509), en P "matches" 888 (.ref 516), en P "choose" 901 (.ref 523), en P "unary" 911 (.ref 530), en P "arithmetic" 921 (.ref 537), en P "comparison" 931 (.ref 544), en P "bitwise" 940 (.ref 551), en P "binary" 951 (.ref 558), en P "whole_of" 960 (.ref 565), en P "memory_word" 970 (.ref 572), en P "picked" 980 (.ref 579), en P "conditional" 990 (.ref 586), en P "bits_needed" 998 (.ref 593), en P "system_value" 1009 (.ref 997), en P "system_value_evaluate" 1010 (.ref 600), en P "evaluate" 1016 (.ref 605), en P "locate" 1025 (.ref 612), en P "holder_width" 1033 (.ref 619), en P "resolve_target" 1052 (.ref 626), en P "store_rows" 1069 (.ref 633), en P "DEPTH_LIMIT" 1073 (.int 24 1072), en P "FunctionContext" 1140 (.ref 677), en P "run_block" 1150 (.ref 686), en P "run_set" 1160 (.ref 693), en P "run_case" 1173 (.ref 700), en P "run_while" 1184 (.ref 707), en P "run_repeat" 1194 (.ref 714), en P "run_for" 1202 (.ref 721), en P "run_statement" 1211 (.ref 728), en P "children" 1221 (.ref 735), en P "subexpressions" 1232 (.ref 742), en P "expr_reads" 1241 (.ref 749), en P "expr_calls" 1250 (.ref 756), en P "target_indexes" 1259 (.ref 763), en P "target_writes" 1268 (.ref 770), en P "stmt_parts" 1274 (.ref 775), en P "substatements" 1285 (.ref 782), en P "stmt_targets" 1291 (.ref 787), en P "stmt_exprs" 1303 (.ref 794), en P "stmt_reads" 1314 (.ref 801), en P "stmt_writes" 1325 (.ref 808), en P "stmt_calls" 1336 (.ref 815), en P "MAX_WIDTH" 1340 (.int 65536 1339), en P "last_select" 1349 (.ref 822), en P "is_memory" 1357 (.ref 829), en P "shape" 1367 (.ref 836), en P "read_entry" 1377 (.ref 843), en P "folds" 1384 (.ref 850), en P "folded" 1392 (.ref 857), en P "checked_width" 1400 (.ref 864), en P "selected" 1409 (.ref 871), en P "text_vec" 1418 (.ref 878), en P "inner_join" 1425 (.ref 885), en P "is_context_operator" 1432 (.ref 892), en P "is_shift" 1439 (.ref 899), en P "widen" 1448 (.ref 906), en P "number_value" 1459 (.ref 913), en P "is_constant" 1472 (.ref 920), en P "path_names" 1485 (.ref 927), en P "entry_of" 1494 (.ref 934), en P "base_entry" 1504 (.ref 941), en P "select_width" 1512 (.ref 948), en P "select_where" 1530 (.ref 955), en P "named_type" 1540 (.ref 962), en P "named_value" 1553 (.ref 969), en P "function_of" 1563 (.ref 976), en P "call_value" 1575 (.ref 983), en P "system_type" 1585 (.ref 990), en P "system_value_elabexpr" 1597 (.ref 997), en P "joined_parts" 1607 (.ref 1004), en P "copies" 1616 (.ref 1011), en P "joined_width" 1626 (.ref 1018), en P "joined_value" 1637 (.ref 1025), en P "both_types" 1648 (.ref 1032), en P "expr_type" 1658 (.ref 1039), en P "unary_value" 1669 (.ref 1046), en P "binary_value" 1685 (.ref 1053), en P "build" 1699 (.ref 1060), en P "self_determined" 1709 (.ref 1067), en P "sized" 1720 (.ref 1074), en P "constant_vec" 1730 (.ref 1081), en P "constant" 1740 (.ref 1088), en P "whole" 1751 (.ref 1095), en P "modules_by_name" 1759 (.ref 1100), en P "primitives_by_name" 1765 (.ref 1105), en P "inner_items" 1771 (.ref 1110), en P "instantiated" 1781 (.ref 1117), en P "tops" 1792 (.ref 1124), en P "parameter_names" 1801 (.ref 1131), en P "ordered_parameters" 1807 (.ref 1136), en P "override_values" 1822 (.ref 1143), en P "check_parameters" 1833 (.ref 1150), en P "Design" 1934 (.ref 1209)] 158), #[]⟩
noncomputable def b16_12 (P : Params) : Obj := ⟨.none, none, (.fields #[(.int 1 0), (.int 0 0), (.ref 20), (.int 5 0), (.int 0 0), (.ref 27), (.int 11 0), (.int 0 0), (.ref 48), (.int 13 0), (.int 0 0), (.ref 60), (.int 16 0), (.int 0 0), (.ref 72), (.int 18 0), (.int 0 0), (.ref 80), (.int 21 0), (.int 0 0), (.ref 87), (.int 23 0), (.int 0 0), (.ref 94), (.int 26 0), (.int 0 0), (.ref 101), (.int 28 0), (.int 0 0), (.ref 108), (.int 30 0), (.int 0 0), (.ref 115), (.int 32 0), (.int 0 0), (.ref 122), (.int 39 0), (.int 0 0), (.ref 129), (.int 41 0), (.int 0 0), (.ref 136), (.int 52 0), (.int 0 0), (.ref 143), (.int 63 0), (.int 0 0), (.ref 150), (.int 72 0), (.int 0 0), (.ref 157), (.int 82 0), (.int 0 0), (.ref 164), (.int 84 0), (.int 0 0), (.ref 171), (.int 91 0), (.int 0 0), (.ref 178), (.int 134 0), (.int 0 0), (.ref 220), (.int 154 0), (.int 0 0), (.ref 263), (.int 158 0), (.int 0 0), (.ref 270), (.int 162 0), (.int 0 0), (.ref 277), (.int 166 0), (.int 0 0), (.ref 284), (.int 170 0), (.int 0 0), (.ref 291), (.int 175 0), (.int 0 0), (.ref 298), (.int 181 0), (.int 0 0), (.ref 305), (.int 187 0), (.int 0 0), (.ref 312), (.int 198 0), (.int 0 0), (.ref 319), (.int 213 0), (.int 0 0), (.ref 326), (.int 221 0), (.int 0 0), (.ref 333), (.int 228 0), (.int 0 0), (.ref 340), (.int 238 0), (.int 0 0), (.ref 347), (.int 246 0), (.int 0 0), (.ref 354), (.int 251 0), (.int 0 0), (.ref 361), (.int 256 0), (.int 0 0), (.ref 368), (.int 258 0), (.int 0 0), (.ref 375), (.int 261 0), (.int 0 0), (.ref 382), (.int 263 0), (.int 0 0), (.ref 389), (.int 266 0), (.int 0 0), (.ref 396), (.int 271 0), (.int 0 0), (.ref 403), (.int 277 0), (.int 0 0), (.ref 410), (.int 280 0), (.int 0 0), (.ref 417), (.int 282 0), (.int 0 0), (.ref 424), (.int 287 0), (.int 0 0), (.ref 431), (.int 289 0), (.int 0 0), (.ref 438), (.int 291 0), (.int 0 0), (.ref 445), (.int 293 0), (.int 0 0), (.ref 452), (.int 302 0), (.int 0 0), (.ref 459), (.int 304 0), (.int 0 0), (.ref 466), (.int 306 0), (.int 0 0), (.ref 473), (.int 308 0), (.int 0 0), (.ref 480), (.int 310 0), (.int 0 0), (.ref 487), (.int 315 0), (.int 0 0), (.ref 494), (.int 317 0), (.int 0 0), (.ref 501), (.int 319 0), (.int 0 0), (.ref 508), (.int 321 0), (.int 0 0), (.ref 515), (.int 329 0), (.int 0 0), (.ref 522), (.int 340 0), (.int 0 0), (.ref 529), (.int 360 0), (.int 0 0), (.ref 536), (.int 378 0), (.int 0 0), (.ref 543), (.int 396 0), (.int 0 0), (.ref 550), (.int 410 0), (.int 0 0), (.ref 557), (.int 419 0), (.int 0 0), (.ref 564), (.int 421 0), (.int 0 0), (.ref 571), (.int 429 0), (.int 0 0), (.ref 578), (.int 435 0), (.int 0 0), (.ref 585), (.int 443 0), (.int 0 0), (.ref 592), (.int 448 0), (.int 0 0), (.ref 599), (.int 462 0), (.int 0 0), (.ref 604), (.int 493 0), (.int 0 0), (.ref 611), (.int 500 0), (.int 0 0), (.ref 618), (.int 504 0), (.int 0 0), (.ref 625), (.int 523 0), (.int 0 0), (.ref 632), (.int 535 0), (.int 0 0), (.ref 639), (.int 578 0), (.int 0 0), (.ref 685), (.int 586 0), (.int 0 0), (.ref 692), (.int 593 0), (.int 0 0), (.ref 699), (.int 604 0), (.int 0 0), (.ref 706), (.int 612 0), (.int 0 0), (.ref 713), (.int 623 0), (.int 0 0), (.ref 720), (.int 626 0), (.int 0 0), (.ref 727), (.int 653 0), (.int 0 0), (.ref 734), (.int 672 0), (.int 0 0), (.ref 741), (.int 681 0), (.int 0 0), (.ref 748), (.int 687 0), (.int 0 0), (.ref 755), (.int 693 0), (.int 0 0), (.ref 762), (.int 701 0), (.int 0 0), (.ref 769), (.int 707 0), (.int 0 0), (.ref 774), (.int 725 0), (.int 0 0), (.ref 781), (.int 736 0), (.int 0 0), (.ref 786), (.int 742 0), (.int 0 0), (.ref 793), (.int 767 0), (.int 0 0), (.ref 800), (.int 774 0), (.int 0 0), (.ref 807), (.int 781 0), (.int 0 0), (.ref 814), (.int 792 0), (.int 0 0), (.ref 821), (.int 797 0), (.int 0 0), (.ref 828), (.int 799 0), (.int 0 0), (.ref 835), (.int 812 0), (.int 0 0), (.ref 842), (.int 823 0), (.int 0 0), (.ref 849), (.int 827 0), (.int 0 0), (.ref 856), (.int 834 0), (.int 0 0), (.ref 863), (.int 840 0), (.int 0 0), (.ref 870), (.int 844 0), (.int 0 0), (.ref 877), (.int 849 0), (.int 0 0), (.ref 884), (.int 851 0), (.int 0 0), (.ref 891), (.int 853 0), (.int 0 0), (.ref 898), (.int 855 0), (.int 0 0), (.ref 905), (.int 859 0), (.int 0 0), (.ref 912), (.int 863 0), (.int 0 0), (.ref 919), (.int 881 0), (.int 0 0), (.ref 926), (.int 888 0), (.int 0 0), (.ref 933), (.int 895 0), (.int 0 0), (.ref 940), (.int 905 0), (.int 0 0), (.ref 947), (.int 911 0), (.int 0 0), (.ref 954), (.int 933 0), (.int 0 0), (.ref 961), (.int 946 0), (.int 0 0), (.ref 968), (.int 965 0), (.int 0 0), (.ref 975), (.int 977 0), (.int 0 0), (.ref 982), (.int 985 0), (.int 0 0), (.ref 989), (.int 1003 0), (.int 0 0), (.ref 996), (.int 1012 0), (.int 0 0), (.ref 1003), (.int 1022 0), (.int 0 0), (.ref 1010), (.int 1027 0), (.int 0 0), (.ref 1017), (.int 1034 0), (.int 0 0), (.ref 1024), (.int 1042 0), (.int 0 0), (.ref 1031), (.int 1046 0), (.int 0 0), (.ref 1038), (.int 1074 0), (.int 0 0), (.ref 1045), (.int 1081 0), (.int 0 0), (.ref 1052), (.int 1100 0), (.int 0 0), (.ref 1059), (.int 1123 0), (.int 0 0), (.ref 1066), (.int 1126 0), (.int 0 0), (.ref 1073), (.int 1129 0), (.int 0 0), (.ref 1080), (.int 1136 0), (.int 0 0), (.ref 1087), (.int 1139 0), (.int 0 0), (.ref 1094), (.int 1146 0), (.int 0 0), (.ref 1099), (.int 1148 0), (.int 0 0), (.ref 1104), (.int 1150 0), (.int 0 0), (.ref 1109), (.int 1160 0), (.int 0 0), (.ref 1116), (.int 1169 0), (.int 0 0), (.ref 1123), (.int 1180 0), (.int 0 0), (.ref 1130), (.int 1186 0), (.int 0 0), (.ref 1135), (.int 1191 0), (.int 0 0), (.ref 1142), (.int 1203 0), (.int 0 0), (.ref 1149), (.int 1209 0), (.int 0 0), (.ref 1156)]), #[]⟩
noncomputable def hot16 (P : Params) : Frag := [(0, b0_0 P), (2, b1_2 P), (3, b16_3 P), (4, b0_4 P), (12, b16_12 P), (13, b0_13 P), (38, b1_38 P), (39, b2_39 P), (252, b5_252 P), (253, b10_253 P)]
noncomputable def b17_3 (P : Params) : Obj := ⟨(.type "dict"), none, (.dict #[en P "__name__" 165 (.str (S "gateloom.udps") 2054), en P "__doc__" 166 .none, en P "__package__" 167 .none, en P "__loader__" 168 (.builtin "__main__.__loader__#opaque"), en P "__spec__" 169 .none, en P "__annotations__" 170 (.ref 6), en P "__builtins__" 171 (.ref 4), en P "__file__" 173 (.str (S "/claim/cut.py") 172), en P "__cached__" 174 .none, en P "_wall" 193 (.ref 21), en P "GateloomError" 231 (.ref 39), en P "DesignError" 247 (.ref 52), en P "LimitReached" 263 (.ref 64), en P "mask" 272 (.ref 73), en P "vec" 283 (.ref 81), en P "zeros" 290 (.ref 88), en P "all_x" 298 (.ref 95), en P "all_z" 305 (.ref 102), en P "from_int" 313 (.ref 109), en P "is_known" 320 (.ref 116), en P "to_int" 331 (.ref 123), en P "code" 339 (.ref 130), en P "slice_vec" 355 (.ref 137), en P "put_slice" 371 (.ref 144), en P "concat" 382 (.ref 151), en P "extend" 395 (.ref 158), en P "z_to_x" 402 (.ref 165), en P "truth" 409 (.ref 172), en P "Store" 477 (.ref 210), en P "Context" 536 (.ref 253), en P "add" 546 (.ref 264), en P "sub" 554 (.ref 271), en P "mul" 562 (.ref 278), en P "neg" 569 (.ref 285), en P "quotient" 578 (.ref 292), en P "div" 589 (.ref 299), en P "mod" 600 (.ref 306), en P "raise_whole" 613 (.ref 313), en P "power" 626 (.ref 320), en P "shift_left" 636 (.ref 327), en P "shift_right" 645 (.ref 334), en P "shift_arith" 660 (.ref 341), en P "ordered" 671 (.ref 348), en P "less" 681 (.ref 355), en P "less_equal" 691 (.ref 362), en P "greater" 700 (.ref 369), en P "greater_equal" 709 (.ref 376), en P "one_bit" 718 (.ref 383), en P "bit_not" 728 (.ref 390), en P "bit_and" 742 (.ref 397), en P "bit_or" 757 (.ref 404), en P "bit_xor" 766 (.ref 411), en P "bit_xnor" 774 (.ref 418), en P "reduce_and" 784 (.ref 425), en P "reduce_nand" 791 (.ref 432), en P "reduce_or" 798 (.ref 439), en P "reduce_nor" 805 (.ref 446), en P "reduce_xor" 814 (.ref 453), en P "reduce_xnor" 821 (.ref 460), en P "logic_not" 828 (.ref 467), en P "logic_and" 836 (.ref 474), en P "logic_or" 844 (.ref 481), en P "equal" 853 (.ref 488), en P "not_equal" 861 (.ref 495), en P "case_equal" 869 (.ref 502), en P "case_not_equal" 877 (.ref 509), en P "matches" 888 (.ref 516), en P "choose" 901 (.ref 523), en P "unary" 911 (.ref 530), en P "arithmetic" 921 (.ref 537), en P "comparison" 931 (.ref 544), en P "bitwise" 940 (.ref 551), en P "binary" 951 (.ref 558), en P "whole_of" 960 (.ref 565), en P "memory_word" 970 (.ref 572), en P "picked" 980 (.ref 579), en P "conditional" 990 (.ref 586), en P "bits_needed" 998 (.ref 593), en P "system_value" 1009 (.ref 997), en P "system_value_evaluate" 1010 (.ref 600), en P "evaluate" 1016 (.ref 605), en P "locate" 1025 (.ref 612), en P "holder_width" 1033 (.ref 619), en P "resolve_target" 1052 (.ref 626), en P "store_rows" 1069 (.ref 633), en P "DEPTH_LIMIT" 1073 (.int 24 1072), en P "FunctionContext" 1140 (.ref 677), en P "run_block" 1150 (.ref 686), en P "run_set" 1160 (.ref 693), en P "run_case" 1173 (.ref 700), en P "run_while" 1184 (.ref 707), en P "run_repeat" 1194 (.ref 714), en P "run_for" 1202 (.ref 721), en P "run_statement" 1211 (.ref 728), en P "children" 1221 (.ref 735), en P "subexpressions" 1232 (.ref 742), en P "expr_reads" 1241 (.ref 749), en P "expr_calls" 1250 (.ref 756), en P "target_indexes" 1259 (.ref 763), en P "target_writes" 1268 (.ref 770), en P "stmt_parts" 1274 (.ref 775), en P "substatements" 1285 (.ref 782), en P "stmt_targets" 1291 (.ref 787), en P "stmt_exprs" 1303 (.ref 794), en P "stmt_reads" 1314 (.ref 801), en P "stmt_writes" 1325 (.ref 808), en P "stmt_calls" 1336 (.ref 815), en P "MAX_WIDTH" 1340 (.int 65536 1339), en P "last_select" 1349 (.ref 822), en P "is_memory" 1357 (.ref 829), en P "shape" 1367 (.ref 836), en P "read_entry" 1377 (.ref 843), en P "folds" 1384 (.ref 850), en P "folded" 1392 (.ref 857), en P "checked_width" 1400 (.ref 864), en P "selected" 1409 (.ref 871), en P "text_vec" 1418 (.ref 878), en P "inner_join" 1425 (.ref 885), en P "is_context_operator" 1432 (.ref 892), en P "is_shift" 1439 (.ref 899), en P "widen" 1448 (.ref 906), en P "number_value" 1459 (.ref 913), en P "is_constant" 1472 (.ref 920), en P "path_names" 1485 (.ref 927), en P "entry_of" 1494 (.ref 934), en P "base_entry" 1504 (.ref 941), en P "select_width" 1512 (.ref 948), en P "select_where" 1530 (.ref 955), en P "named_type" 1540 (.ref 962), en P "named_value" 1553 (.ref 969), en P "function_of" 1563 (.ref 976), en P "call_value" 1575 (.ref 983), en P "system_type" 1585 (.ref 990), en P "system_value_elabexpr" 1597 (.ref 997), en P "joined_parts" 1607 (.ref 1004), en P "copies" 1616 (.ref 1011), en P "joined_width" 1626 (.ref 1018), en P "joined_value" 1637 (.ref 1025), en P "both_types" 1648 (.ref 1032), en P "expr_type" 1658 (.ref 1039), en P "unary_value" 1669 (.ref 1046), en P "binary_value" 1685 (.ref 1053), en P "build" 1699 (.ref 1060), en P "self_determined" 1709 (.ref 1067), en P "sized" 1720 (.ref 1074), en P "constant_vec" 1730 (.ref 1081), en P "constant" 1740 (.ref 1088), en P "whole" 1751 (.ref 1095), en P "modules_by_name" 1759 (.ref 1100), en P "primitives_by_name" 1765 (.ref 1105), en P "inner_items" 1771 (.ref 1110), en P "instantiated" 1781 (.ref 1117), en P "tops" 1792 (.ref 1124), en P "parameter_names" 1801 (.ref 1131), en P "ordered_parameters" 1807 (.ref 1136), en P "override_values" 1822 (.ref 1143), en P "check_parameters" 1833 (.ref 1150), en P "Design" 1934 (.ref 1209), en P "Scope" 2053 (.ref 1286)] 159), #[]⟩
noncomputable def b17_12 (P : Params) : Obj := ⟨.none, none, (.fields #[(.int 1 0), (.int 0 0), (.ref 20), (.int 5 0), (.int 0 0), (.ref 27), (.int 11 0), (.int 0 0), (.ref 48), (.int 13 0), (.int 0 0), (.ref 60), (.int 16 0), (.int 0 0), (.ref 72), (.int 18 0), (.int 0 0), (.ref 80), (.int 21 0), (.int 0 0), (.ref 87), (.int 23 0), (.int 0 0), (.ref 94), (.int 26 0), (.int 0 0), (.ref 101), (.int 28 0), (.int 0 0), (.ref 108), (.int 30 0), (.int 0 0), (.ref 115), (.int 32 0), (.int 0 0), (.ref 122), (.int 39 0), (.int 0 0), (.ref 129), (.int 41 0), (.int 0 0), (.ref 136), (.int 52 0), (.int 0 0), (.ref 143), (.int 63 0), (.int 0 0), (.ref 150), (.int 72 0), (.int 0 0), (.ref 157), (.int 82 0), (.int 0 0), (.ref 164), (.int 84 0), (.int 0 0), (.ref 171), (.int 91 0), (.int 0 0), (.ref 178), (.int 134 0), (.int 0 0), (.ref 220), (.int 154 0), (.int 0 0), (.ref 263), (.int 158 0), (.int 0 0), (.ref 270), (.int 162 0), (.int 0 0), (.ref 277), (.int 166 0), (.int 0 0), (.ref 284), (.int 170 0), (.int 0 0), (.ref 291), (.int 175 0), (.int 0 0), (.ref 298), (.int 181 0), (.int 0 0), (.ref 305), (.int 187 0), (.int 0 0), (.ref 312), (.int 198 0), (.int 0 0), (.ref 319), (.int 213 0), (.int 0 0), (.ref 326), (.int 221 0), (.int 0 0), (.ref 333), (.int 228 0), (.int 0 0), (.ref 340), (.int 238 0), (.int 0 0), (.ref 347), (.int 246 0), (.int 0 0), (.ref 354), (.int 251 0), (.int 0 0), (.ref 361), (.int 256 0), (.int 0 0), (.ref 368), (.int 258 0), (.int 0 0), (.ref 375), (.int 261 0), (.int 0 0), (.ref 382), (.int 263 0), (.int 0 0), (.ref 389), (.int 266 0), (.int 0 0), (.ref 396), (.int 271 0), (.int 0 0), (.ref 403), (.int 277 0), (.int 0 0), (.ref 410), (.int 280 0), (.int 0 0), (.ref 417), (.int 282 0), (.int 0 0), (.ref 424), (.int 287 0), (.int 0 0), (.ref 431), (.int 289 0), (.int 0 0), (.ref 438), (.int 291 0), (.int 0 0), (.ref 445), (.int 293 0), (.int 0 0), (.ref 452), (.int 302 0), (.int 0 0), (.ref 459), (.int 304 0), (.int 0 0), (.ref 466), (.int 306 0), (.int 0 0), (.ref 473), (.int 308 0), (.int 0 0), (.ref 480), (.int 310 0), (.int 0 0), (.ref 487), (.int 315 0), (.int 0 0), (.ref 494), (.int 317 0), (.int 0 0), (.ref 501), (.int 319 0), (.int 0 0), (.ref 508), (.int 321 0), (.int 0 0), (.ref 515), (.int 329 0), (.int 0 0), (.ref 522), (.int 340 0), (.int 0 0), (.ref 529), (.int 360 0), (.int 0 0), (.ref 536), (.int 378 0), (.int 0 0), (.ref 543), (.int 396 0), (.int 0 0), (.ref 550), (.int 410 0), (.int 0 0), (.ref 557), (.int 419 0), (.int 0 0), (.ref 564), (.int 421 0), (.int 0 0), (.ref 571), (.int 429 0), (.int 0 0), (.ref 578), (.int 435 0), (.int 0 0), (.ref 585), (.int 443 0), (.int 0 0), (.ref 592), (.int 448 0), (.int 0 0), (.ref 599), (.int 462 0), (.int 0 0), (.ref 604), (.int 493 0), (.int 0 0), (.ref 611), (.int 500 0), (.int 0 0), (.ref 618), (.int 504 0), (.int 0 0), (.ref 625), (.int 523 0), (.int 0 0), (.ref 632), (.int 535 0), (.int 0 0), (.ref 639), (.int 578 0), (.int 0 0), (.ref 685), (.int 586 0), (.int 0 0), (.ref 692), (.int 593 0), (.int 0 0), (.ref 699), (.int 604 0), (.int 0 0), (.ref 706), (.int 612 0), (.int 0 0), (.ref 713), (.int 623 0), (.int 0 0), (.ref 720), (.int 626 0), (.int 0 0), (.ref 727), (.int 653 0), (.int 0 0), (.ref 734), (.int 672 0), (.int 0 0), (.ref 741), (.int 681 0), (.int 0 0), (.ref 748), (.int 687 0), (.int 0 0), (.ref 755), (.int 693 0), (.int 0 0), (.ref 762), (.int 701 0), (.int 0 0), (.ref 769), (.int 707 0), (.int 0 0), (.ref 774), (.int 725 0), (.int 0 0), (.ref 781), (.int 736 0), (.int 0 0), (.ref 786), (.int 742 0), (.int 0 0), (.ref 793), (.int 767 0), (.int 0 0), (.ref 800), (.int 774 0), (.int 0 0), (.ref 807), (.int 781 0), (.int 0 0), (.ref 814), (.int 792 0), (.int 0 0), (.ref 821), (.int 797 0), (.int 0 0), (.ref 828), (.int 799 0), (.int 0 0), (.ref 835), (.int 812 0), (.int 0 0), (.ref 842), (.int 823 0), (.int 0 0), (.ref 849), (.int 827 0), (.int 0 0), (.ref 856), (.int 834 0), (.int 0 0), (.ref 863), (.int 840 0), (.int 0 0), (.ref 870), (.int 844 0), (.int 0 0), (.ref 877), (.int 849 0), (.int 0 0), (.ref 884), (.int 851 0), (.int 0 0), (.ref 891), (.int 853 0), (.int 0 0), (.ref 898), (.int 855 0), (.int 0 0), (.ref 905), (.int 859 0), (.int 0 0), (.ref 912), (.int 863 0), (.int 0 0), (.ref 919), (.int 881 0), (.int 0 0), (.ref 926), (.int 888 0), (.int 0 0), (.ref 933), (.int 895 0), (.int 0 0), (.ref 940), (.int 905 0), (.int 0 0), (.ref 947), (.int 911 0), (.int 0 0), (.ref 954), (.int 933 0), (.int 0 0), (.ref 961), (.int 946 0), (.int 0 0), (.ref 968), (.int 965 0), (.int 0 0), (.ref 975), (.int 977 0), (.int 0 0), (.ref 982), (.int 985 0), (.int 0 0), (.ref 989), (.int 1003 0), (.int 0 0), (.ref 996), (.int 1012 0), (.int 0 0), (.ref 1003), (.int 1022 0), (.int 0 0), (.ref 1010), (.int 1027 0), (.int 0 0), (.ref 1017), (.int 1034 0), (.int 0 0), (.ref 1024), (.int 1042 0), (.int 0 0), (.ref 1031), (.int 1046 0), (.int 0 0), (.ref 1038), (.int 1074 0), (.int 0 0), (.ref 1045), (.int 1081 0), (.int 0 0), (.ref 1052), (.int 1100 0), (.int 0 0), (.ref 1059), (.int 1123 0), (.int 0 0), (.ref 1066), (.int 1126 0), (.int 0 0), (.ref 1073), (.int 1129 0), (.int 0 0), (.ref 1080), (.int 1136 0), (.int 0 0), (.ref 1087), (.int 1139 0), (.int 0 0), (.ref 1094), (.int 1146 0), (.int 0 0), (.ref 1099), (.int 1148 0), (.int 0 0), (.ref 1104), (.int 1150 0), (.int 0 0), (.ref 1109), (.int 1160 0), (.int 0 0), (.ref 1116), (.int 1169 0), (.int 0 0), (.ref 1123), (.int 1180 0), (.int 0 0), (.ref 1130), (.int 1186 0), (.int 0 0), (.ref 1135), (.int 1191 0), (.int 0 0), (.ref 1142), (.int 1203 0), (.int 0 0), (.ref 1149), (.int 1209 0), (.int 0 0), (.ref 1156), (.int 1248 0), (.int 0 0), (.ref 1219)]), #[]⟩
noncomputable def hot17 (P : Params) : Frag := [(0, b0_0 P), (2, b1_2 P), (3, b17_3 P), (4, b0_4 P), (12, b17_12 P), (13, b0_13 P), (38, b1_38 P), (39, b2_39 P), (252, b5_252 P), (253, b10_253 P)]
noncomputable def b18_3 (P : Params) : Obj := ⟨(.type "dict"), none, (.dict #[en P "__name__" 165 (.str (S "law_ok0100_01") 2097), en P "__doc__" 166 .none, en P "__package__" 167 .none, en P "__loader__" 168 (.builtin "__main__.__loader__#opaque"), en P "__spec__" 169 .none, en P "__annotations__" 170 (.ref 6), en P "__builtins__" 171 (.ref 4), en P "__file__" 173 (.str (S "/claim/cut.py") 172), en P "__cached__" 174 .none, en P "_wall" 193 (.ref 21), en P "GateloomError" 231 (.ref 39), en P "DesignError" 247 (.ref 52), en P "LimitReached" 263 (.ref 64), en P "mask" 272 (.ref 73), en P "vec" 283 (.ref 81), en P "zeros" 290 (.ref 88), en P "all_x" 298 (.ref 95), en P "all_z" 305 (.ref 102), en P "from_int" 313 (.ref 109), en P "is_known" 320 (.ref 116), en P "to_int" 331 (.ref 123), en P "code" 339 (.ref 130), en P "slice_vec" 355 (.ref 137), en P "put_slice" 371 (.ref 144), en P "concat" 382 (.ref 151), en P "extend" 395 (.ref 158), en P "z_to_x" 402 (.ref 165), en P "truth" 409 (.ref 172), en P "Store" 477 (.ref 210), en P "Context" 536 (.ref 253), en P "add" 546 (.ref 264), en P "sub" 554 (.ref 271), en P "mul" 562 (.ref 278), en P "neg" 569 (.ref 285), en P "quotient" 578 (.ref 292), en P "div" 589 (.ref 299), en P "mod" 600 (.ref 306), en P "raise_whole" 613 (.ref 313), en P "power" 626 (.ref 320), en P "shift_left" 636 (.ref 327), en P "shift_right" 645 (.ref 334), en P "shift_arith" 660 (.ref 341), en P "ordered" 671 (.ref 348), en P "less" 681 (.ref 355), en P "less_equal" 691 (.ref 362), en P "greater" 700 (.ref 369), en P "greater_equal" 709 (.ref 376), en P "one_bit" 718 (.ref 383), en P "bit_not" 728 (.ref 390), en P "bit_and" 742 (.ref 397), en P "bit_or" 757 (.ref 404), en P "bit_xor" 766 (.ref 411), en P "bit_xnor" 774 (.ref 418), en P "reduce_and" 784 (.ref 425), en P "reduce_nand" 791 (.ref 432), en P "reduce_or" 798 (.ref 439), en P "reduce_nor" 805 (.ref 446), en P "reduce_xor" 814 (.ref 453), en P "reduce_xnor" 821 (.ref 460), en P "logic_not" 828 (.ref 467), en P "logic_and" 836 (.ref 474), en P "logic_or" 844 (.ref 481), en P "equal" 853 (.ref 488), en P "not_equal" 861 (.ref 495), en P "case_equal" 869 (.ref 502), en P "case_not_equal" 877 (.ref 509), en P "matches" 888 (.ref 516), en P "choose" 901 (.ref 523), en P "unary" 911 (.ref 530), en P "arithmetic" 921 (.ref 537), en P "comparison" 931 (.ref 544), en P "bitwise" 940 (.ref 551), en P "binary" 951 (.ref 558), en P "whole_of" 960 (.ref 565), en P "memory_word" 970 (.ref 572), en P "picked" 980 (.ref 579), en P "conditional" 990 (.ref 586), en P "bits_needed" 998 (.ref 593), en P "system_value" 1009 (.ref 997), en P "system_value_evaluate" 1010 (.ref 600), en P "evaluate" 1016 (.ref 605), en P "locate" 1025 (.ref 612), en P "holder_width" 1033 (.ref 619), en P "resolve_target" 1052 (.ref 626), en P "store_rows" 1069 (.ref 633), en P "DEPTH_LIMIT" 1073 (.int 24 1072), en P "FunctionContext" 1140 (.ref 677), en P "run_block" 1150 (.ref 686), en P "run_set" 1160 (.ref 693), en P "run_case" 1173 (.ref 700), en P "run_while" 1184 (.ref 707), en P "run_repeat" 1194 (.ref 714), en P "run_for" 1202 (.ref 721), en P "run_statement" 1211 (.ref 728), en P "children" 1221 (.ref 735), en P "subexpressions" 1232 (.ref 742), en P "expr_reads" 1241 (.ref 749), en P "expr_calls" 1250 (.ref 756), en P "target_indexes" 1259 (.ref 763), en P "target_writes" 1268 (.ref 770), en P "stmt_parts" 1274 (.ref 775), en P "substatements" 1285 (.ref 782), en P "stmt_targets" 1291 (.ref 787), en P "stmt_exprs" 1303 (.ref 794), en P "stmt_reads" 1314 (.ref 801), en P "stmt_writes" 1325 (.ref 808), en P "stmt_calls" 1336 (.ref 815), en P "MAX_WIDTH" 1340 (.int 65536 1339), en P "last_select" 1349 (.ref 822), en P "is_memory" 1357 (.ref 829), en P "shape" 1367 (.ref 836), en P "read_entry" 1377 (.ref 843), en P "folds" 1384 (.ref 850), en P "folded" 1392 (.ref 857), en P "checked_width" 1400 (.ref 864), en P "selected" 1409 (.ref 871), en P "text_vec" 1418 (.ref 878), en P "inner_join" 1425 (.ref 885), en P "is_context_operator" 1432 (.ref 892), en P "is_shift" 1439 (.ref 899), en P "widen" 1448 (.ref 906), en P "number_value" 1459 (.ref 913), en P "is_constant" 1472 (.ref 920), en P "path_names" 1485 (.ref 927), en P "entry_of" 1494 (.ref 934), en P "base_entry" 1504 (.ref 941), en P "select_width" 1512 (.ref 948), en P "select_where" 1530 (.ref 955), en P "named_type" 1540 (.ref 962), en P "named_value" 1553 (.ref 969), en P "function_of" 1563 (.ref 976), en P "call_value" 1575 (.ref 983), en P "system_type" 1585 (.ref 990), en P "system_value_elabexpr" 1597 (.ref 997), en P "joined_parts" 1607 (.ref 1004), en P "copies" 1616 (.ref 1011), en P "joined_width" 1626 (.ref 1018), en P "joined_value" 1637 (.ref 1025), en P "both_types" 1648 (.ref 1032), en P "expr_type" 1658 (.ref 1039), en P "unary_value" 1669 (.ref 1046), en P "binary_value" 1685 (.ref 1053), en P "build" 1699 (.ref 1060), en P "self_determined" 1709 (.ref 1067), en P "sized" 1720 (.ref 1074), en P "constant_vec" 1730 (.ref 1081), en P "constant" 1740 (.ref 1088), en P "whole" 1751 (.ref 1095), en P "modules_by_name" 1759 (.ref 1100), en P "primitives_by_name" 1765 (.ref 1105), en P "inner_items" 1771 (.ref 1110), en P "instantiated" 1781 (.ref 1117), en P "tops" 1792 (.ref 1124), en P "parameter_names" 1801 (.ref 1131), en P "ordered_parameters" 1807 (.ref 1136), en P "override_values" 1822 (.ref 1143), en P "check_parameters" 1833 (.ref 1150), en P "Design" 1934 (.ref 1209), en P "Scope" 2053 (.ref 1286), en P "Primitive" 2096 (.ref 1307), en P "_law_row" 2109 (.ref 1318), en P "_law_next" 2116 (.ref 1325), en P "_law_number" 2124 (.ref 1332), en P "_law_item" 2138 (.ref 1339), en P "_law_kept" 2146 (.ref 1346), en P "law" 2152 (.ref 1351)] 166), #[]⟩
noncomputable def b18_12 (P : Params) : Obj := ⟨.none, none, (.fields #[(.int 1 0), (.int 0 0), (.ref 20), (.int 5 0), (.int 0 0), (.ref 27), (.int 11 0), (.int 0 0), (.ref 48), (.int 13 0), (.int 0 0), (.ref 60), (.int 16 0), (.int 0 0), (.ref 72), (.int 18 0), (.int 0 0), (.ref 80), (.int 21 0), (.int 0 0), (.ref 87), (.int 23 0), (.int 0 0), (.ref 94), (.int 26 0), (.int 0 0), (.ref 101), (.int 28 0), (.int 0 0), (.ref 108), (.int 30 0), (.int 0 0), (.ref 115), (.int 32 0), (.int 0 0), (.ref 122), (.int 39 0), (.int 0 0), (.ref 129), (.int 41 0), (.int 0 0), (.ref 136), (.int 52 0), (.int 0 0), (.ref 143), (.int 63 0), (.int 0 0), (.ref 150), (.int 72 0), (.int 0 0), (.ref 157), (.int 82 0), (.int 0 0), (.ref 164), (.int 84 0), (.int 0 0), (.ref 171), (.int 91 0), (.int 0 0), (.ref 178), (.int 134 0), (.int 0 0), (.ref 220), (.int 154 0), (.int 0 0), (.ref 263), (.int 158 0), (.int 0 0), (.ref 270), (.int 162 0), (.int 0 0), (.ref 277), (.int 166 0), (.int 0 0), (.ref 284), (.int 170 0), (.int 0 0), (.ref 291), (.int 175 0), (.int 0 0), (.ref 298), (.int 181 0), (.int 0 0), (.ref 305), (.int 187 0), (.int 0 0), (.ref 312), (.int 198 0), (.int 0 0), (.ref 319), (.int 213 0), (.int 0 0), (.ref 326), (.int 221 0), (.int 0 0), (.ref 333), (.int 228 0), (.int 0 0), (.ref 340), (.int 238 0), (.int 0 0), (.ref 347), (.int 246 0), (.int 0 0), (.ref 354), (.int 251 0), (.int 0 0), (.ref 361), (.int 256 0), (.int 0 0), (.ref 368), (.int 258 0), (.int 0 0), (.ref 375), (.int 261 0), (.int 0 0), (.ref 382), (.int 263 0), (.int 0 0), (.ref 389), (.int 266 0), (.int 0 0), (.ref 396), (.int 271 0), (.int 0 0), (.ref 403), (.int 277 0), (.int 0 0), (.ref 410), (.int 280 0), (.int 0 0), (.ref 417), (.int 282 0), (.int 0 0), (.ref 424), (.int 287 0), (.int 0 0), (.ref 431), (.int 289 0), (.int 0 0), (.ref 438), (.int 291 0), (.int 0 0), (.ref 445), (.int 293 0), (.int 0 0), (.ref 452), (.int 302 0), (.int 0 0), (.ref 459), (.int 304 0), (.int 0 0), (.ref 466), (.int 306 0), (.int 0 0), (.ref 473), (.int 308 0), (.int 0 0), (.ref 480), (.int 310 0), (.int 0 0), (.ref 487), (.int 315 0), (.int 0 0), (.ref 494), (.int 317 0), (.int 0 0), (.ref 501), (.int 319 0), (.int 0 0), (.ref 508), (.int 321 0), (.int 0 0), (.ref 515), (.int 329 0), (.int 0 0), (.ref 522), (.int 340 0), (.int 0 0), (.ref 529), (.int 360 0), (.int 0 0), (.ref 536), (.int 378 0), (.int 0 0), (.ref 543), (.int 396 0), (.int 0 0), (.ref 550), (.int 410 0), (.int 0 0), (.ref 557), (.int 419 0), (.int 0 0), (.ref 564), (.int 421 0), (.int 0 0), (.ref 571), (.int 429 0), (.int 0 0), (.ref 578), (.int 435 0), (.int 0 0), (.ref 585), (.int 443 0), (.int 0 0), (.ref 592), (.int 448 0), (.int 0 0), (.ref 599), (.int 462 0), (.int 0 0), (.ref 604), (.int 493 0), (.int 0 0), (.ref 611), (.int 500 0), (.int 0 0), (.ref 618), (.int 504 0), (.int 0 0), (.ref 625), (.int 523 0), (.int 0 0), (.ref 632), (.int 535 0), (.int 0 0), (.ref 639), (.int 578 0), (.int 0 0), (.ref 685), (.int 586 0), (.int 0 0), (.ref 692), (.int 593 0), (.int 0 0), (.ref 699), (.int 604 0), (.int 0 0), (.ref 706), (.int 612 0), (.int 0 0), (.ref 713), (.int 623 0), (.int 0 0), (.ref 720), (.int 626 0), (.int 0 0), (.ref 727), (.int 653 0), (.int 0 0), (.ref 734), (.int 672 0), (.int 0 0), (.ref 741), (.int 681 0), (.int 0 0), (.ref 748), (.int 687 0), (.int 0 0), (.ref 755), (.int 693 0), (.int 0 0), (.ref 762), (.int 701 0), (.int 0 0), (.ref 769), (.int 707 0), (.int 0 0), (.ref 774), (.int 725 0), (.int 0 0), (.ref 781), (.int 736 0), (.int 0 0), (.ref 786), (.int 742 0), (.int 0 0), (.ref 793), (.int 767 0), (.int 0 0), (.ref 800), (.int 774 0), (.int 0 0), (.ref 807), (.int 781 0), (.int 0 0), (.ref 814), (.int 792 0), (.int 0 0), (.ref 821), (.int 797 0), (.int 0 0), (.ref 828), (.int 799 0), (.int 0 0), (.ref 835), (.int 812 0), (.int 0 0), (.ref 842), (.int 823 0), (.int 0 0), (.ref 849), (.int 827 0), (.int 0 0), (.ref 856), (.int 834 0), (.int 0 0), (.ref 863), (.int 840 0), (.int 0 0), (.ref 870), (.int 844 0), (.int 0 0), (.ref 877), (.int 849 0), (.int 0 0), (.ref 884), (.int 851 0), (.int 0 0), (.ref 891), (.int 853 0), (.int 0 0), (.ref 898), (.int 855 0), (.int 0 0), (.ref 905), (.int 859 0), (.int 0 0), (.ref 912), (.int 863 0), (.int 0 0), (.ref 919), (.int 881 0), (.int 0 0), (.ref 926), (.int 888 0), (.int 0 0), (.ref 933), (.int 895 0), (.int 0 0), (.ref 940), (.int 905 0), (.int 0 0), (.ref 947), (.int 911 0), (.int 0 0), (.ref 954), (.int 933 0), (.int 0 0), (.ref 961), (.int 946 0), (.int 0 0), (.ref 968), (.int 965 0), (.int 0 0), (.ref 975), (.int 977 0), (.int 0 0), (.ref 982), (.int 985 0), (.int 0 0), (.ref 989), (.int 1003 0), (.int 0 0), (.ref 996), (.int 1012 0), (.int 0 0), (.ref 1003), (.int 1022 0), (.int 0 0), (.ref 1010), (.int 1027 0), (.int 0 0), (.ref 1017), (.int 1034 0), (.int 0 0), (.ref 1024), (.int 1042 0), (.int 0 0), (.ref 1031), (.int 1046 0), (.int 0 0), (.ref 1038), (.int 1074 0), (.int 0 0), (.ref 1045), (.int 1081 0), (.int 0 0), (.ref 1052), (.int 1100 0), (.int 0 0), (.ref 1059), (.int 1123 0), (.int 0 0), (.ref 1066), (.int 1126 0), (.int 0 0), (.ref 1073), (.int 1129 0), (.int 0 0), (.ref 1080), (.int 1136 0), (.int 0 0), (.ref 1087), (.int 1139 0), (.int 0 0), (.ref 1094), (.int 1146 0), (.int 0 0), (.ref 1099), (.int 1148 0), (.int 0 0), (.ref 1104), (.int 1150 0), (.int 0 0), (.ref 1109), (.int 1160 0), (.int 0 0), (.ref 1116), (.int 1169 0), (.int 0 0), (.ref 1123), (.int 1180 0), (.int 0 0), (.ref 1130), (.int 1186 0), (.int 0 0), (.ref 1135), (.int 1191 0), (.int 0 0), (.ref 1142), (.int 1203 0), (.int 0 0), (.ref 1149), (.int 1209 0), (.int 0 0), (.ref 1156), (.int 1248 0), (.int 0 0), (.ref 1219), (.int 1324 0), (.int 0 0), (.ref 1296), (.int 1335 0), (.int 0 0), (.ref 1317), (.int 1348 0), (.int 0 0), (.ref 1324), (.int 1350 0), (.int 0 0), (.ref 1331), (.int 1353 0), (.int 0 0), (.ref 1338), (.int 1371 0), (.int 0 0), (.ref 1345), (.int 1376 0), (.int 0 0), (.ref 1350)]), #[]⟩
noncomputable def hot18 (P : Params) : Frag := [(0, b0_0 P), (2, b1_2 P), (3, b18_3 P), (4, b0_4 P), (12, b18_12 P), (13, b0_13 P), (38, b1_38 P), (39, b2_39 P), (252, b5_252 P), (253, b10_253 P)]
noncomputable def k29 (P : Params) : Obj := ⟨(.type "tuple"), none, (.seq #[(.int (-1) 209), (.str (S "") 210)] 0), #[]⟩
noncomputable def k31 (P : Params) : Obj := ⟨.none, none, (.fields #[]), #[]⟩
noncomputable def k35 (P : Params) : Obj := ⟨(.type "code"), none, (.fields #[(.str (S "__init__") 211), (.str (S "GateloomError.__init__") 212), (.str (S "/claim/cut.py") 213), (.int 7 0), (.int 4 0), (.int 0 0), (.int 0 0), (.int 3 0), (.ref 30), (.bool true), (.int 181 0), (.ref 31), .none, (.ref 32), (.ref 33), (.ref 34), (.int 218 0), (.int 7 0), (.str (S "/claim/cut.py") 219)]), #[]⟩
noncomputable def k36 (P : Params) : Obj := ⟨(.type "function"), none, (.func (fdOf (cst 2 0) (S "GateloomError.__init__") (.ref 29) (.ref 35) (.str (S "gateloom.errors") 194))), #[]⟩
noncomputable def k37 (P : Params) : Obj := ⟨(.type "tuple"), none, (.seq #[(.str (S "at") 221), (.str (S "detail") 222), (.str (S "kind") 223)] 0), #[]⟩
noncomputable def k40 (P : Params) : Obj := ⟨(.type "getset_descriptor"), none, (.fields #[(.str (S "__weakref__") 225), (.ref 39), (.builtin "ExceptionGroup.__weakref__"), .none]), #[]⟩
noncomputable def kf0 (P : Params) : Frag := [(29, k29 P), (31, k31 P), (35, k35 P), (36, k36 P), (37, k37 P), (40, k40 P)]
theorem c0 : Chunk 0 3 279 ⟨0, 0, 0, 0⟩ ⟨5, 0, 10, 28⟩ 15 43 187 232 hot0 (fun P => hot1 P ++ kf0 P) := fun w os => by kernel_rfl
noncomputable def k50 (P : Params) : Obj := ⟨(.type "tuple"), none, (.seq #[] 0), #[]⟩
noncomputable def k51 (P : Params) : Obj := ⟨(.type "dict"), none, (.dict #[en P "__module__" 239 (.str (S "gateloom.errors") 194), en P "__firstlineno__" 243 (.int 11 242), en P "__static_attributes__" 244 (.ref 50), en P "__doc__" 245 .none] 2), #[]⟩
noncomputable def k52 (P : Params) : Obj := ⟨(.type "type"), none, (.cls { name := (S "DesignError"), bases := [(.ref 39)], mro := [(.ref 52), (.ref 39), (.type "Exception"), (.type "BaseException"), (.type "object")], ns := 51, qualname := (S "DesignError"), hasDict := true, slotNames := [], subclasses := [], abstract := false, collection := none, hasDel := false }), #[(some (.ref 43)), none, (some (.str (S "DesignError") 232)), (some (.str (S "DesignError") 240)), (some (.builtin "Exception.__new__")), (some (.bool true))]⟩
noncomputable def kf1 (P : Params) : Frag := [(50, k50 P), (51, k51 P), (52, k52 P)]
theorem c1 : Chunk 3 3 436 ⟨5, 0, 10, 28⟩ ⟨15, 0, 15, 8⟩ 43 67 232 266 hot1 (fun P => hot2 P ++ kf1 P) := fun w os => by kernel_rfl
noncomputable def k68 (P : Params) : Obj := ⟨.none, none, (.fields #[]), #[]⟩
noncomputable def k72 (P : Params) : Obj := ⟨(.type "code"), none, (.fields #[(.str (S "mask") 266), (.str (S "mask") 267), (.str (S "/claim/cut.py") 268), (.int 16 0), (.int 1 0), (.int 0 0), (.int 0 0), (.int 3 0), (.ref 67), (.bool true), (.int 181 0), (.ref 68), .none, (.ref 69), (.ref 70), (.ref 71), (.int 270 0), (.int 16 0), (.str (S "/claim/cut.py") 271)]), #[]⟩
noncomputable def k73 (P : Params) : Obj := ⟨(.type "function"), none, (.func (fdOf (stm 6) (S "mask") .none (.ref 72) (.str (S "gateloom.vec") 264))), #[]⟩
noncomputable def k74 (P : Params) : Obj := ⟨(.type "tuple"), none, (.seq #[(.int 0 273)] 0), #[]⟩
noncomputable def k76 (P : Params) : Obj := ⟨.none, none, (.fields #[]), #[]⟩
noncomputable def k80 (P : Params) : Obj := ⟨(.type "code"), none, (.fields #[(.str (S "vec") 274), (.str (S "vec") 275), (.str (S "/claim/cut.py") 276), (.int 18 0), (.int 3 0), (.int 0 0), (.int 0 0), (.int 3 0), (.ref 75), (.bool true), (.int 181 0), (.ref 76), .none, (.ref 77), (.ref 78), (.ref 79), (.int 281 0), (.int 18 0), (.str (S "/claim/cut.py") 282)]), #[]⟩
noncomputable def k81 (P : Params) : Obj := ⟨(.type "function"), none, (.func (fdOf (stm 7) (S "vec") (.ref 74) (.ref 80) (.str (S "gateloom.vec") 264))), #[]⟩
noncomputable def k153 (P : Params) : Obj := ⟨.none, none, (.fields #[]), #[]⟩
noncomputable def k157 (P : Params) : Obj := ⟨(.type "code"), none, (.fields #[(.str (S "extend") 383), (.str (S "extend") 384), (.str (S "/claim/cut.py") 385), (.int 72 0), (.int 3 0), (.int 0 0), (.int 0 0), (.int 3 0), (.ref 152), (.bool true), (.int 181 0), (.ref 153), .none, (.ref 154), (.ref 155), (.ref 156), (.int 393 0), (.int 72 0), (.str (S "/claim/cut.py") 394)]), #[]⟩
noncomputable def k158 (P : Params) : Obj := ⟨(.type "function"), none, (.func (fdOf (stm 18) (S "extend") .none (.ref 157) (.str (S "gateloom.vec") 264))), #[]⟩
noncomputable def kf2 (P : Params) : Frag := [(68, k68 P), (72, k72 P), (73, k73 P), (74, k74 P), (76, k76 P), (80, k80 P), (81, k81 P), (153, k153 P), (157, k157 P), (158, k158 P)]
theorem c2 : Chunk 6 16 485 ⟨15, 0, 15, 8⟩ ⟨90, 0, 90, 8⟩ 67 173 266 412 hot2 (fun P => hot3 P ++ kf2 P) := fun w os => by kernel_rfl
noncomputable def kf3 (P : Params) : Frag := []
theorem c3 : Chunk 22 1 332 ⟨90, 0, 90, 8⟩ ⟨91, 0, 133, 19⟩ 173 215 412 478 hot3 (fun P => hot4 P ++ kf3 P) := fun w os => by kernel_rfl
noncomputable def kf4 (P : Params) : Frag := []
theorem c4 : Chunk 23 1 326 ⟨91, 0, 133, 19⟩ ⟨134, 0, 152, 16⟩ 215 258 478 537 hot4 (fun P => hot5 P ++ kf4 P) := fun w os => by kernel_rfl
noncomputable def kf5 (P : Params) : Frag := []
theorem c5 : Chunk 24 12 359 ⟨134, 0, 152, 16⟩ ⟨221, 0, 227, 42⟩ 258 335 537 646 hot5 (fun P => hot6 P ++ kf5 P) := fun w os => by kernel_rfl
noncomputable def kf6 (P : Params) : Frag := []
theorem c6 : Chunk 36 14 433 ⟨221, 0, 227, 42⟩ ⟨282, 0, 286, 38⟩ 335 426 646 785 hot6 (fun P => hot7 P ++ kf6 P) := fun w os => by kernel_rfl
noncomputable def kf7 (P : Params) : Frag := []
theorem c7 : Chunk 50 14 426 ⟨282, 0, 286, 38⟩ ⟨329, 0, 338, 46⟩ 426 524 785 902 hot7 (fun P => hot8 P ++ kf7 P) := fun w os => by kernel_rfl
noncomputable def kf8 (P : Params) : Frag := []
theorem c8 : Chunk 64 14 394 ⟨329, 0, 338, 46⟩ ⟨462, 0, 492, 52⟩ 524 606 902 1017 hot8 (fun P => hot9 P ++ kf8 P) := fun w os => by kernel_rfl
noncomputable def kf9 (P : Params) : Frag := []
theorem c9 : Chunk 78 7 542 ⟨462, 0, 492, 52⟩ ⟨535, 0, 577, 44⟩ 606 680 1017 1141 hot9 (fun P => hot10 P ++ kf9 P) := fun w os => by kernel_rfl
noncomputable def kf10 (P : Params) : Frag := []
theorem c10 : Chunk 85 15 448 ⟨535, 0, 577, 44⟩ ⟨707, 0, 724, 55⟩ 680 776 1141 1275 hot10 (fun P => hot11 P ++ kf10 P) := fun w os => by kernel_rfl
noncomputable def k817 (P : Params) : Obj := ⟨.none, none, (.fields #[]), #[]⟩
noncomputable def k821 (P : Params) : Obj := ⟨(.type "code"), none, (.fields #[(.str (S "last_select") 1341), (.str (S "last_select") 1342), (.str (S "/claim/cut.py") 1343), (.int 792 0), (.int 1 0), (.int 0 0), (.int 0 0), (.int 3 0), (.ref 816), (.bool true), (.int 181 0), (.ref 817), .none, (.ref 818), (.ref 819), (.ref 820), (.int 1347 0), (.int 792 0), (.str (S "/claim/cut.py") 1348)]), #[]⟩
noncomputable def k822 (P : Params) : Obj := ⟨(.type "function"), none, (.func (fdOf (stm 108) (S "last_select") .none (.ref 821) (.str (S "gateloom.elabparts") 1337))), #[]⟩
noncomputable def k824 (P : Params) : Obj := ⟨.none, none, (.fields #[]), #[]⟩
noncomputable def k828 (P : Params) : Obj := ⟨(.type "code"), none, (.fields #[(.str (S "is_memory") 1350), (.str (S "is_memory") 1351), (.str (S "/claim/cut.py") 1352), (.int 797 0), (.int 2 0), (.int 0 0), (.int 0 0), (.int 3 0), (.ref 823), (.bool true), (.int 181 0), (.ref 824), .none, (.ref 825), (.ref 826), (.ref 827), (.int 1355 0), (.int 797 0), (.str (S "/claim/cut.py") 1356)]), #[]⟩
noncomputable def k829 (P : Params) : Obj := ⟨(.type "function"), none, (.func (fdOf (stm 109) (S "is_memory") .none (.ref 828) (.str (S "gateloom.elabparts") 1337))), #[]⟩
noncomputable def k831 (P : Params) : Obj := ⟨.none, none, (.fields #[]), #[]⟩
noncomputable def k835 (P : Params) : Obj := ⟨(.type "code"), none, (.fields #[(.str (S "shape") 1358), (.str (S "shape") 1359), (.str (S "/claim/cut.py") 1360), (.int 799 0), (.int 3 0), (.int 0 0), (.int 0 0), (.int 3 0), (.ref 830), (.bool true), (.int 181 0), (.ref 831), .none, (.ref 832), (.ref 833), (.ref 834), (.int 1365 0), (.int 799 0), (.str (S "/claim/cut.py") 1366)]), #[]⟩
noncomputable def k836 (P : Params) : Obj := ⟨(.type "function"), none, (.func (fdOf (stm 110) (S "shape") .none (.ref 835) (.str (S "gateloom.elabparts") 1337))), #[]⟩
noncomputable def k838 (P : Params) : Obj := ⟨.none, none, (.fields #[]), #[]⟩
noncomputable def k842 (P : Params) : Obj := ⟨(.type "code"), none, (.fields #[(.str (S "read_entry") 1368), (.str (S "read_entry") 1369), (.str (S "/claim/cut.py") 1370), (.int 812 0), (.int 3 0), (.int 0 0), (.int 0 0), (.int 3 0), (.ref 837), (.bool true), (.int 181 0), (.ref 838), .none, (.ref 839), (.ref 840), (.ref 841), (.int 1375 0), (.int 812 0), (.str (S "/claim/cut.py") 1376)]), #[]⟩
noncomputable def k843 (P : Params) : Obj := ⟨(.type "function"), none, (.func (fdOf (stm 111) (S "read_entry") .none (.ref 842) (.str (S "gateloom.elabparts") 1337))), #[]⟩
noncomputable def kf11 (P : Params) : Frag := [(817, k817 P), (821, k821 P), (822, k822 P), (824, k824 P), (828, k828 P), (829, k829 P), (831, k831 P), (835, k835 P), (836, k836 P), (838, k838 P), (842, k842 P), (843, k843 P)]
theorem c11 : Chunk 100 16 456 ⟨707, 0, 724, 55⟩ ⟨840, 0, 843, 81⟩ 776 872 1275 1410 hot11 (fun P => hot12 P ++ kf11 P) := fun w os => by kernel_rfl
noncomputable def k901 (P : Params) : Obj := ⟨.none, none, (.fields #[]), #[]⟩
noncomputable def k905 (P : Params) : Obj := ⟨(.type "code"), none, (.fields #[(.str (S "widen") 1440), (.str (S "widen") 1441), (.str (S "/claim/cut.py") 1442), (.int 855 0), (.int 3 0), (.int 0 0), (.int 0 0), (.int 3 0), (.ref 900), (.bool true), (.int 181 0), (.ref 901), .none, (.ref 902), (.ref 903), (.ref 904), (.int 1446 0), (.int 855 0), (.str (S "/claim/cut.py") 1447)]), #[]⟩
noncomputable def k906 (P : Params) : Obj := ⟨(.type "function"), none, (.func (fdOf (stm 120) (S "widen") .none (.ref 905) (.str (S "gateloom.elabparts") 1337))), #[]⟩
noncomputable def k908 (P : Params) : Obj := ⟨.none, none, (.fields #[]), #[]⟩
noncomputable def k912 (P : Params) : Obj := ⟨(.type "code"), none, (.fields #[(.str (S "number_value") 1449), (.str (S "number_value") 1450), (.str (S "/claim/cut.py") 1451), (.int 859 0), (.int 3 0), (.int 0 0), (.int 0 0), (.int 3 0), (.ref 907), (.bool true), (.int 181 0), (.ref 908), .none, (.ref 909), (.ref 910), (.ref 911), (.int 1457 0), (.int 859 0), (.str (S "/claim/cut.py") 1458)]), #[]⟩
noncomputable def k913 (P : Params) : Obj := ⟨(.type "function"), none, (.func (fdOf (stm 121) (S "number_value") .none (.ref 912) (.str (S "gateloom.elabparts") 1337))), #[]⟩
noncomputable def k929 (P : Params) : Obj := ⟨.none, none, (.fields #[]), #[]⟩
noncomputable def k933 (P : Params) : Obj := ⟨(.type "code"), none, (.fields #[(.str (S "entry_of") 1486), (.str (S "entry_of") 1487), (.str (S "/claim/cut.py") 1488), (.int 888 0), (.int 2 0), (.int 0 0), (.int 0 0), (.int 3 0), (.ref 928), (.bool true), (.int 181 0), (.ref 929), .none, (.ref 930), (.ref 931), (.ref 932), (.int 1492 0), (.int 888 0), (.str (S "/claim/cut.py") 1493)]), #[]⟩
noncomputable def k934 (P : Params) : Obj := ⟨(.type "function"), none, (.func (fdOf (stm 125) (S "entry_of") .none (.ref 933) (.str (S "gateloom.elabexpr") 1473))), #[]⟩
noncomputable def k957 (P : Params) : Obj := ⟨.none, none, (.fields #[]), #[]⟩
noncomputable def k961 (P : Params) : Obj := ⟨(.type "code"), none, (.fields #[(.str (S "named_type") 1531), (.str (S "named_type") 1532), (.str (S "/claim/cut.py") 1533), (.int 933 0), (.int 2 0), (.int 0 0), (.int 0 0), (.int 3 0), (.ref 956), (.bool true), (.int 181 0), (.ref 957), .none, (.ref 958), (.ref 959), (.ref 960), (.int 1538 0), (.int 933 0), (.str (S "/claim/cut.py") 1539)]), #[]⟩
noncomputable def k962 (P : Params) : Obj := ⟨(.type "function"), none, (.func (fdOf (stm 129) (S "named_type") .none (.ref 961) (.str (S "gateloom.elabexpr") 1473))), #[]⟩
noncomputable def k964 (P : Params) : Obj := ⟨.none, none, (.fields #[]), #[]⟩
noncomputable def k968 (P : Params) : Obj := ⟨(.type "code"), none, (.fields #[(.str (S "named_value") 1541), (.str (S "named_value") 1542), (.str (S "/claim/cut.py") 1543), (.int 946 0), (.int 2 0), (.int 0 0), (.int 0 0), (.int 3 0), (.ref 963), (.bool true), (.int 181 0), (.ref 964), .none, (.ref 965), (.ref 966), (.ref 967), (.int 1551 0), (.int 946 0), (.str (S "/claim/cut.py") 1552)]), #[]⟩
noncomputable def k969 (P : Params) : Obj := ⟨(.type "function"), none, (.func (fdOf (stm 130) (S "named_value") .none (.ref 968) (.str (S "gateloom.elabexpr") 1473))), #[]⟩
noncomputable def kf12 (P : Params) : Frag := [(901, k901 P), (905, k905 P), (906, k906 P), (908, k908 P), (912, k912 P), (913, k913 P), (929, k929 P), (933, k933 P), (934, k934 P), (957, k957 P), (961, k961 P), (962, k962 P), (964, k964 P), (968, k968 P), (969, k969 P)]
theorem c12 : Chunk 116 16 492 ⟨840, 0, 843, 81⟩ ⟨965, 0, 976, 18⟩ 872 977 1410 1564 hot12 (fun P => hot13 P ++ kf12 P) := fun w os => by kernel_rfl
noncomputable def k1034 (P : Params) : Obj := ⟨.none, none, (.fields #[]), #[]⟩
noncomputable def k1038 (P : Params) : Obj := ⟨(.type "code"), none, (.fields #[(.str (S "expr_type") 1649), (.str (S "expr_type") 1650), (.str (S "/claim/cut.py") 1651), (.int 1046 0), (.int 2 0), (.int 0 0), (.int 0 0), (.int 3 0), (.ref 1033), (.bool true), (.int 181 0), (.ref 1034), .none, (.ref 1035), (.ref 1036), (.ref 1037), (.int 1656 0), (.int 1046 0), (.str (S "/claim/cut.py") 1657)]), #[]⟩
noncomputable def k1039 (P : Params) : Obj := ⟨(.type "function"), none, (.func (fdOf (stm 141) (S "expr_type") .none (.ref 1038) (.str (S "gateloom.elabexpr") 1473))), #[]⟩
noncomputable def k1055 (P : Params) : Obj := ⟨.none, none, (.fields #[]), #[]⟩
noncomputable def k1059 (P : Params) : Obj := ⟨(.type "code"), none, (.fields #[(.str (S "build") 1686), (.str (S "build") 1687), (.str (S "/claim/cut.py") 1688), (.int 1100 0), (.int 4 0), (.int 0 0), (.int 0 0), (.int 3 0), (.ref 1054), (.bool true), (.int 181 0), (.ref 1055), .none, (.ref 1056), (.ref 1057), (.ref 1058), (.int 1697 0), (.int 1100 0), (.str (S "/claim/cut.py") 1698)]), #[]⟩
noncomputable def k1060 (P : Params) : Obj := ⟨(.type "function"), none, (.func (fdOf (stm 144) (S "build") .none (.ref 1059) (.str (S "gateloom.elabexpr") 1473))), #[]⟩
noncomputable def k1062 (P : Params) : Obj := ⟨.none, none, (.fields #[]), #[]⟩
noncomputable def k1066 (P : Params) : Obj := ⟨(.type "code"), none, (.fields #[(.str (S "self_determined") 1700), (.str (S "self_determined") 1701), (.str (S "/claim/cut.py") 1702), (.int 1123 0), (.int 2 0), (.int 0 0), (.int 0 0), (.int 3 0), (.ref 1061), (.bool true), (.int 181 0), (.ref 1062), .none, (.ref 1063), (.ref 1064), (.ref 1065), (.int 1707 0), (.int 1123 0), (.str (S "/claim/cut.py") 1708)]), #[]⟩
noncomputable def k1067 (P : Params) : Obj := ⟨(.type "function"), none, (.func (fdOf (stm 145) (S "self_determined") .none (.ref 1066) (.str (S "gateloom.elabexpr") 1473))), #[]⟩
noncomputable def k1076 (P : Params) : Obj := ⟨.none, none, (.fields #[]), #[]⟩
noncomputable def k1080 (P : Params) : Obj := ⟨(.type "code"), none, (.fields #[(.str (S "constant_vec") 1721), (.str (S "constant_vec") 1722), (.str (S "/claim/cut.py") 1723), (.int 1129 0), (.int 3 0), (.int 0 0), (.int 0 0), (.int 3 0), (.ref 1075), (.bool true), (.int 181 0), (.ref 1076), .none, (.ref 1077), (.ref 1078), (.ref 1079), (.int 1728 0), (.int 1129 0), (.str (S "/claim/cut.py") 1729)]), #[]⟩
noncomputable def k1081 (P : Params) : Obj := ⟨(.type "function"), none, (.func (fdOf (stm 147) (S "constant_vec") .none (.ref 1080) (.str (S "gateloom.elabexpr") 1473))), #[]⟩
noncomputable def k1083 (P : Params) : Obj := ⟨.none, none, (.fields #[]), #[]⟩
noncomputable def k1087 (P : Params) : Obj := ⟨(.type "code"), none, (.fields #[(.str (S "constant") 1731), (.str (S "constant") 1732), (.str (S "/claim/cut.py") 1733), (.int 1136 0), (.int 2 0), (.int 0 0), (.int 0 0), (.int 3 0), (.ref 1082), (.bool true), (.int 181 0), (.ref 1083), .none, (.ref 1084), (.ref 1085), (.ref 1086), (.int 1738 0), (.int 1136 0), (.str (S "/claim/cut.py") 1739)]), #[]⟩
noncomputable def k1088 (P : Params) : Obj := ⟨(.type "function"), none, (.func (fdOf (stm 148) (S "constant") .none (.ref 1087) (.str (S "gateloom.elabexpr") 1473))), #[]⟩
noncomputable def kf13 (P : Params) : Frag := [(1034, k1034 P), (1038, k1038 P), (1039, k1039 P), (1055, k1055 P), (1059, k1059 P), (1060, k1060 P), (1062, k1062 P), (1066, k1066 P), (1067, k1067 P), (1076, k1076 P), (1080, k1080 P), (1081, k1081 P), (1083, k1083 P), (1087, k1087 P), (1088, k1088 P)]
theorem c13 : Chunk 132 18 572 ⟨965, 0, 976, 18⟩ ⟨1139, 0, 1144, 17⟩ 977 1096 1564 1752 hot13 (fun P => hot14 P ++ kf13 P) := fun w os => by kernel_rfl
noncomputable def k1097 (P : Params) : Obj := ⟨.none, none, (.fields #[]), #[]⟩
noncomputable def k1099 (P : Params) : Obj := ⟨(.type "code"), none, (.fields #[(.str (S "modules_by_name") 1754), (.str (S "modules_by_name") 1755), (.str (S "/claim/cut.py") 1756), (.int 1146 0), (.int 1 0), (.int 0 0), (.int 0 0), (.int 3 0), (.ref 1096), (.bool true), (.int 181 0), (.ref 1097), .none, .none, .none, (.ref 1098), (.int 1757 0), (.int 1146 0), (.str (S "/claim/cut.py") 1758)]), #[]⟩
noncomputable def k1100 (P : Params) : Obj := ⟨(.type "function"), none, (.func (fdOf (stm 151) (S "modules_by_name") .none (.ref 1099) (.str (S "gateloom.elabmod") 1752))), #[]⟩
noncomputable def k1102 (P : Params) : Obj := ⟨.none, none, (.fields #[]), #[]⟩
noncomputable def k1104 (P : Params) : Obj := ⟨(.type "code"), none, (.fields #[(.str (S "primitives_by_name") 1760), (.str (S "primitives_by_name") 1761), (.str (S "/claim/cut.py") 1762), (.int 1148 0), (.int 1 0), (.int 0 0), (.int 0 0), (.int 3 0), (.ref 1101), (.bool true), (.int 181 0), (.ref 1102), .none, .none, .none, (.ref 1103), (.int 1763 0), (.int 1148 0), (.str (S "/claim/cut.py") 1764)]), #[]⟩
noncomputable def k1105 (P : Params) : Obj := ⟨(.type "function"), none, (.func (fdOf (stm 152) (S "primitives_by_name") .none (.ref 1104) (.str (S "gateloom.elabmod") 1752))), #[]⟩
noncomputable def k1107 (P : Params) : Obj := ⟨.none, none, (.fields #[]), #[]⟩
noncomputable def k1109 (P : Params) : Obj := ⟨(.type "code"), none, (.fields #[(.str (S "inner_items") 1766), (.str (S "inner_items") 1767), (.str (S "/claim/cut.py") 1768), (.int 1150 0), (.int 1 0), (.int 0 0), (.int 0 0), (.int 3 0), (.ref 1106), (.bool true), (.int 181 0), (.ref 1107), .none, .none, .none, (.ref 1108), (.int 1769 0), (.int 1150 0), (.str (S "/claim/cut.py") 1770)]), #[]⟩
noncomputable def k1110 (P : Params) : Obj := ⟨(.type "function"), none, (.func (fdOf (stm 153) (S "inner_items") .none (.ref 1109) (.str (S "gateloom.elabmod") 1752))), #[]⟩
noncomputable def k1112 (P : Params) : Obj := ⟨.none, none, (.fields #[]), #[]⟩
noncomputable def k1116 (P : Params) : Obj := ⟨(.type "code"), none, (.fields #[(.str (S "instantiated") 1772), (.str (S "instantiated") 1773), (.str (S "/claim/cut.py") 1774), (.int 1160 0), (.int 1 0), (.int 0 0), (.int 0 0), (.int 3 0), (.ref 1111), (.bool true), (.int 181 0), (.ref 1112), .none, (.ref 1113), (.ref 1114), (.ref 1115), (.int 1779 0), (.int 1160 0), (.str (S "/claim/cut.py") 1780)]), #[]⟩
noncomputable def k1117 (P : Params) : Obj := ⟨(.type "function"), none, (.func (fdOf (stm 154) (S "instantiated") .none (.ref 1116) (.str (S "gateloom.elabmod") 1752))), #[]⟩
noncomputable def k1119 (P : Params) : Obj := ⟨.none, none, (.fields #[]), #[]⟩
noncomputable def k1123 (P : Params) : Obj := ⟨(.type "code"), none, (.fields #[(.str (S "tops") 1782), (.str (S "tops") 1783), (.str (S "/claim/cut.py") 1784), (.int 1169 0), (.int 1 0), (.int 0 0), (.int 0 0), (.int 3 0), (.ref 1118), (.bool true), (.int 181 0), (.ref 1119), .none, (.ref 1120), (.ref 1121), (.ref 1122), (.int 1790 0), (.int 1169 0), (.str (S "/claim/cut.py") 1791)]), #[]⟩
noncomputable def k1124 (P : Params) : Obj := ⟨(.type "function"), none, (.func (fdOf (stm 155) (S "tops") .none (.ref 1123) (.str (S "gateloom.elabmod") 1752))), #[]⟩
noncomputable def k1126 (P : Params) : Obj := ⟨.none, none, (.fields #[]), #[]⟩
noncomputable def k1130 (P : Params) : Obj := ⟨(.type "code"), none, (.fields #[(.str (S "parameter_names") 1793), (.str (S "parameter_names") 1794), (.str (S "/claim/cut.py") 1795), (.int 1180 0), (.int 1 0), (.int 0 0), (.int 0 0), (.int 3 0), (.ref 1125), (.bool true), (.int 181 0), (.ref 1126), .none, (.ref 1127), (.ref 1128), (.ref 1129), (.int 1799 0), (.int 1180 0), (.str (S "/claim/cut.py") 1800)]), #[]⟩
noncomputable def k1131 (P : Params) : Obj := ⟨(.type "function"), none, (.func (fdOf (stm 156) (S "parameter_names") .none (.ref 1130) (.str (S "gateloom.elabmod") 1752))), #[]⟩
noncomputable def k1133 (P : Params) : Obj := ⟨.none, none, (.fields #[]), #[]⟩
noncomputable def k1135 (P : Params) : Obj := ⟨(.type "code"), none, (.fields #[(.str (S "ordered_parameters") 1802), (.str (S "ordered_parameters") 1803), (.str (S "/claim/cut.py") 1804), (.int 1186 0), (.int 1 0), (.int 0 0), (.int 0 0), (.int 3 0), (.ref 1132), (.bool true), (.int 181 0), (.ref 1133), .none, .none, .none, (.ref 1134), (.int 1805 0), (.int 1186 0), (.str (S "/claim/cut.py") 1806)]), #[]⟩
noncomputable def k1136 (P : Params) : Obj := ⟨(.type "function"), none, (.func (fdOf (stm 157) (S "ordered_parameters") .none (.ref 1135) (.str (S "gateloom.elabmod") 1752))), #[]⟩
noncomputable def k1138 (P : Params) : Obj := ⟨.none, none, (.fields #[]), #[]⟩
noncomputable def k1142 (P : Params) : Obj := ⟨(.type "code"), none, (.fields #[(.str (S "override_values") 1808), (.str (S "override_values") 1809), (.str (S "/claim/cut.py") 1810), (.int 1191 0), (.int 4 0), (.int 0 0), (.int 0 0), (.int 3 0), (.ref 1137), (.bool true), (.int 181 0), (.ref 1138), .none, (.ref 1139), (.ref 1140), (.ref 1141), (.int 1820 0), (.int 1191 0), (.str (S "/claim/cut.py") 1821)]), #[]⟩
noncomputable def k1143 (P : Params) : Obj := ⟨(.type "function"), none, (.func (fdOf (stm 158) (S "override_values") .none (.ref 1142) (.str (S "gateloom.elabmod") 1752))), #[]⟩
noncomputable def k1145 (P : Params) : Obj := ⟨.none, none, (.fields #[]), #[]⟩
noncomputable def k1149 (P : Params) : Obj := ⟨(.type "code"), none, (.fields #[(.str (S "check_parameters") 1823), (.str (S "check_parameters") 1824), (.str (S "/claim/cut.py") 1825), (.int 1203 0), (.int 3 0), (.int 0 0), (.int 0 0), (.int 3 0), (.ref 1144), (.bool true), (.int 181 0), (.ref 1145), .none, (.ref 1146), (.ref 1147), (.ref 1148), (.int 1831 0), (.int 1203 0), (.str (S "/claim/cut.py") 1832)]), #[]⟩
noncomputable def k1150 (P : Params) : Obj := ⟨(.type "function"), none, (.func (fdOf (stm 159) (S "check_parameters") .none (.ref 1149) (.str (S "gateloom.elabmod") 1752))), #[]⟩
noncomputable def kf14 (P : Params) : Frag := [(1097, k1097 P), (1099, k1099 P), (1100, k1100 P), (1102, k1102 P), (1104, k1104 P), (1105, k1105 P), (1107, k1107 P), (1109, k1109 P), (1110, k1110 P), (1112, k1112 P), (1116, k1116 P), (1117, k1117 P), (1119, k1119 P), (1123, k1123 P), (1124, k1124 P), (1126, k1126 P), (1130, k1130 P), (1131, k1131 P), (1133, k1133 P), (1135, k1135 P), (1136, k1136 P), (1138, k1138 P), (1142, k1142 P), (1143, k1143 P), (1145, k1145 P), (1149, k1149 P), (1150, k1150 P)]
theorem c14 : Chunk 150 11 289 ⟨1139, 0, 1144, 17⟩ ⟨1208, 0, 1208, 8⟩ 1096 1151 1752 1836 hot14 (fun P => hot15 P ++ kf14 P) := fun w os => by kernel_rfl
noncomputable def k1159 (P : Params) : Obj := ⟨.none, none, (.fields #[]), #[]⟩
noncomputable def k1163 (P : Params) : Obj := ⟨(.type "code"), none, (.fields #[(.str (S "__init__") 1848), (.str (S "Design.__init__") 1849), (.str (S "/claim/cut.py") 1850), (.int 1211 0), (.int 1 0), (.int 0 0), (.int 0 0), (.int 3 0), (.ref 1158), (.bool true), (.int 181 0), (.ref 1159), .none, (.ref 1160), (.ref 1161), (.ref 1162), (.int 1852 0), (.int 1211 0), (.str (S "/claim/cut.py") 1853)]), #[]⟩
noncomputable def k1164 (P : Params) : Obj := ⟨(.type "function"), none, (.func (fdOf (cst 161 0) (S "Design.__init__") .none (.ref 1163) (.str (S "gateloom.design") 1834))), #[]⟩
noncomputable def k1166 (P : Params) : Obj := ⟨.none, none, (.fields #[]), #[]⟩
noncomputable def k1170 (P : Params) : Obj := ⟨(.type "code"), none, (.fields #[(.str (S "add_signal") 1855), (.str (S "Design.add_signal") 1856), (.str (S "/claim/cut.py") 1857), (.int 1224 0), (.int 8 0), (.int 0 0), (.int 0 0), (.int 3 0), (.ref 1165), (.bool true), (.int 181 0), (.ref 1166), .none, (.ref 1167), (.ref 1168), (.ref 1169), (.int 1866 0), (.int 1224 0), (.str (S "/claim/cut.py") 1867)]), #[]⟩
noncomputable def k1171 (P : Params) : Obj := ⟨(.type "function"), none, (.func (fdOf (cst 161 1) (S "Design.add_signal") .none (.ref 1170) (.str (S "gateloom.design") 1834))), #[]⟩
noncomputable def k1173 (P : Params) : Obj := ⟨.none, none, (.fields #[]), #[]⟩
noncomputable def k1177 (P : Params) : Obj := ⟨(.type "code"), none, (.fields #[(.str (S "add_scope") 1869), (.str (S "Design.add_scope") 1870), (.str (S "/claim/cut.py") 1871), (.int 1227 0), (.int 2 0), (.int 0 0), (.int 0 0), (.int 3 0), (.ref 1172), (.bool true), (.int 181 0), (.ref 1173), .none, (.ref 1174), (.ref 1175), (.ref 1176), (.int 1874 0), (.int 1227 0), (.str (S "/claim/cut.py") 1875)]), #[]⟩
noncomputable def k1178 (P : Params) : Obj := ⟨(.type "function"), none, (.func (fdOf (cst 161 2) (S "Design.add_scope") .none (.ref 1177) (.str (S "gateloom.design") 1834))), #[]⟩
noncomputable def k1180 (P : Params) : Obj := ⟨.none, none, (.fields #[]), #[]⟩
noncomputable def k1184 (P : Params) : Obj := ⟨(.type "code"), none, (.fields #[(.str (S "add_routine") 1877), (.str (S "Design.add_routine") 1878), (.str (S "/claim/cut.py") 1879), (.int 1231 0), (.int 5 0), (.int 0 0), (.int 0 0), (.int 3 0), (.ref 1179), (.bool true), (.int 181 0), (.ref 1180), .none, (.ref 1181), (.ref 1182), (.ref 1183), (.int 1885 0), (.int 1231 0), (.str (S "/claim/cut.py") 1886)]), #[]⟩
noncomputable def k1185 (P : Params) : Obj := ⟨(.type "function"), none, (.func (fdOf (cst 161 3) (S "Design.add_routine") .none (.ref 1184) (.str (S "gateloom.design") 1834))), #[]⟩
noncomputable def k1187 (P : Params) : Obj := ⟨.none, none, (.fields #[]), #[]⟩
noncomputable def k1191 (P : Params) : Obj := ⟨(.type "code"), none, (.fields #[(.str (S "add_process") 1888), (.str (S "Design.add_process") 1889), (.str (S "/claim/cut.py") 1890), (.int 1234 0), (.int 5 0), (.int 0 0), (.int 0 0), (.int 3 0), (.ref 1186), (.bool true), (.int 181 0), (.ref 1187), .none, (.ref 1188), (.ref 1189), (.ref 1190), (.int 1896 0), (.int 1234 0), (.str (S "/claim/cut.py") 1897)]), #[]⟩
noncomputable def k1192 (P : Params) : Obj := ⟨(.type "function"), none, (.func (fdOf (cst 161 4) (S "Design.add_process") .none (.ref 1191) (.str (S "gateloom.design") 1834))), #[]⟩
noncomputable def k1194 (P : Params) : Obj := ⟨.none, none, (.fields #[]), #[]⟩
noncomputable def k1198 (P : Params) : Obj := ⟨(.type "code"), none, (.fields #[(.str (S "find") 1899), (.str (S "Design.find") 1900), (.str (S "/claim/cut.py") 1901), (.int 1237 0), (.int 2 0), (.int 0 0), (.int 0 0), (.int 3 0), (.ref 1193), (.bool true), (.int 181 0), (.ref 1194), .none, (.ref 1195), (.ref 1196), (.ref 1197), (.int 1904 0), (.int 1237 0), (.str (S "/claim/cut.py") 1905)]), #[]⟩
noncomputable def k1199 (P : Params) : Obj := ⟨(.type "function"), none, (.func (fdOf (cst 161 5) (S "Design.find") .none (.ref 1198) (.str (S "gateloom.design") 1834))), #[]⟩
noncomputable def k1201 (P : Params) : Obj := ⟨.none, none, (.fields #[]), #[]⟩
noncomputable def k1205 (P : Params) : Obj := ⟨(.type "code"), none, (.fields #[(.str (S "routine") 1907), (.str (S "Design.routine") 1908), (.str (S "/claim/cut.py") 1909), (.int 1240 0), (.int 2 0), (.int 0 0), (.int 0 0), (.int 3 0), (.ref 1200), (.bool true), (.int 181 0), (.ref 1201), .none, (.ref 1202), (.ref 1203), (.ref 1204), (.int 1913 0), (.int 1240 0), (.str (S "/claim/cut.py") 1914)]), #[]⟩
noncomputable def k1206 (P : Params) : Obj := ⟨(.type "function"), none, (.func (fdOf (cst 161 6) (S "Design.routine") .none (.ref 1205) (.str (S "gateloom.design") 1834))), #[]⟩
noncomputable def k1207 (P : Params) : Obj := ⟨(.type "tuple"), none, (.seq #[(.str (S "assigns") 1916), (.str (S "by_path") 1917), (.str (S "gates") 1918), (.str (S "maker") 1919), (.str (S "ports") 1920), (.str (S "processes") 1921), (.str (S "routines") 1922), (.str (S "scopes") 1923), (.str (S "signals") 1924), (.str (S "tops") 1925), (.str (S "udps") 1926)] 0), #[]⟩
noncomputable def k1208 (P : Params) : Obj := ⟨(.type "dict"), none, (.dict #[en P "__module__" 1843 (.str (S "gateloom.design") 1834), en P "__firstlineno__" 1847 (.int 1209 1846), en P "__init__" 1854 (.ref 1164), en P "add_signal" 1868 (.ref 1171), en P "add_scope" 1876 (.ref 1178), en P "add_routine" 1887 (.ref 1185), en P "add_process" 1898 (.ref 1192), en P "find" 1906 (.ref 1199), en P "routine" 1915 (.ref 1206), en P "__static_attributes__" 1927 (.ref 1207), en P "__dict__" 1929 (.ref 1210), en P "__weakref__" 1931 (.ref 1211), en P "__doc__" 1932 .none] 4), #[]⟩
noncomputable def k1209 (P : Params) : Obj := ⟨(.type "type"), none, (.cls { name := (S "Design"), bases := [(.type "object")], mro := [(.ref 1209), (.type "object")], ns := 1208, qualname := (S "Design"), hasDict := true, slotNames := [], subclasses := [], abstract := false, collection := none, hasDel := false }), #[none, none, (some (.str (S "Design") 1836)), (some (.str (S "Design") 1844)), (some (.builtin "object.__new__")), (some (.bool true))]⟩
noncomputable def k1210 (P : Params) : Obj := ⟨(.type "getset_descriptor"), none, (.fields #[(.str (S "__dict__") 1928), (.ref 1209), (.builtin "function.__dict__"), (.builtin "function.__dict__#set")]), #[]⟩
noncomputable def k1211 (P : Params) : Obj := ⟨(.type "getset_descriptor"), none, (.fields #[(.str (S "__weakref__") 1930), (.ref 1209), (.builtin "ExceptionGroup.__weakref__"), .none]), #[]⟩
noncomputable def kf15 (P : Params) : Frag := [(1159, k1159 P), (1163, k1163 P), (1164, k1164 P), (1166, k1166 P), (1170, k1170 P), (1171, k1171 P), (1173, k1173 P), (1177, k1177 P), (1178, k1178 P), (1180, k1180 P), (1184, k1184 P), (1185, k1185 P), (1187, k1187 P), (1191, k1191 P), (1192, k1192 P), (1194, k1194 P), (1198, k1198 P), (1199, k1199 P), (1201, k1201 P), (1205, k1205 P), (1206, k1206 P), (1207, k1207 P), (1208, k1208 P), (1209, k1209 P), (1210, k1210 P), (1211, k1211 P)]
theorem c15 : Chunk 161 2 446 ⟨1208, 0, 1208, 8⟩ ⟨1247, 0, 1247, 8⟩ 1151 1214 1836 1937 hot15 (fun P => hot16 P ++ kf15 P) := fun w os => by kernel_rfl
noncomputable def k1222 (P : Params) : Obj := ⟨.none, none, (.fields #[]), #[]⟩
noncomputable def k1226 (P : Params) : Obj := ⟨(.type "code"), none, (.fields #[(.str (S "__init__") 1949), (.str (S "Scope.__init__") 1950), (.str (S "/claim/cut.py") 1951), (.int 1250 0), (.int 5 0), (.int 0 0), (.int 0 0), (.int 3 0), (.ref 1221), (.bool true), (.int 181 0), (.ref 1222), .none, (.ref 1223), (.ref 1224), (.ref 1225), (.int 1957 0), (.int 1250 0), (.str (S "/claim/cut.py") 1958)]), #[]⟩
noncomputable def k1227 (P : Params) : Obj := ⟨(.type "function"), none, (.func (fdOf (cst 163 0) (S "Scope.__init__") .none (.ref 1226) (.str (S "gateloom.scopes") 1935))), #[]⟩
noncomputable def k1229 (P : Params) : Obj := ⟨.none, none, (.fields #[]), #[]⟩
noncomputable def k1233 (P : Params) : Obj := ⟨(.type "code"), none, (.fields #[(.str (S "child") 1960), (.str (S "Scope.child") 1961), (.str (S "/claim/cut.py") 1962), (.int 1264 0), (.int 4 0), (.int 0 0), (.int 0 0), (.int 3 0), (.ref 1228), (.bool true), (.int 181 0), (.ref 1229), .none, (.ref 1230), (.ref 1231), (.ref 1232), (.int 1968 0), (.int 1264 0), (.str (S "/claim/cut.py") 1969)]), #[]⟩
noncomputable def k1234 (P : Params) : Obj := ⟨(.type "function"), none, (.func (fdOf (cst 163 1) (S "Scope.child") .none (.ref 1233) (.str (S "gateloom.scopes") 1935))), #[]⟩
noncomputable def k1236 (P : Params) : Obj := ⟨.none, none, (.fields #[]), #[]⟩
noncomputable def k1240 (P : Params) : Obj := ⟨(.type "code"), none, (.fields #[(.str (S "declare") 1971), (.str (S "Scope.declare") 1972), (.str (S "/claim/cut.py") 1973), (.int 1269 0), (.int 4 0), (.int 0 0), (.int 0 0), (.int 3 0), (.ref 1235), (.bool true), (.int 181 0), (.ref 1236), .none, (.ref 1237), (.ref 1238), (.ref 1239), (.int 1978 0), (.int 1269 0), (.str (S "/claim/cut.py") 1979)]), #[]⟩
noncomputable def k1241 (P : Params) : Obj := ⟨(.type "function"), none, (.func (fdOf (cst 163 2) (S "Scope.declare") .none (.ref 1240) (.str (S "gateloom.scopes") 1935))), #[]⟩
noncomputable def k1243 (P : Params) : Obj := ⟨.none, none, (.fields #[]), #[]⟩
noncomputable def k1247 (P : Params) : Obj := ⟨(.type "code"), none, (.fields #[(.str (S "module_scope") 1981), (.str (S "Scope.module_scope") 1982), (.str (S "/claim/cut.py") 1983), (.int 1274 0), (.int 1 0), (.int 0 0), (.int 0 0), (.int 3 0), (.ref 1242), (.bool true), (.int 181 0), (.ref 1243), .none, (.ref 1244), (.ref 1245), (.ref 1246), (.int 1985 0), (.int 1274 0), (.str (S "/claim/cut.py") 1986)]), #[]⟩
noncomputable def k1248 (P : Params) : Obj := ⟨(.type "function"), none, (.func (fdOf (cst 163 3) (S "Scope.module_scope") .none (.ref 1247) (.str (S "gateloom.scopes") 1935))), #[]⟩
noncomputable def k1250 (P : Params) : Obj := ⟨.none, none, (.fields #[]), #[]⟩
noncomputable def k1254 (P : Params) : Obj := ⟨(.type "code"), none, (.fields #[(.str (S "lookup") 1988), (.str (S "Scope.lookup") 1989), (.str (S "/claim/cut.py") 1990), (.int 1277 0), (.int 2 0), (.int 0 0), (.int 0 0), (.int 3 0), (.ref 1249), (.bool true), (.int 181 0), (.ref 1250), .none, (.ref 1251), (.ref 1252), (.ref 1253), (.int 1994 0), (.int 1277 0), (.str (S "/claim/cut.py") 1995)]), #[]⟩
noncomputable def k1255 (P : Params) : Obj := ⟨(.type "function"), none, (.func (fdOf (cst 163 4) (S "Scope.lookup") .none (.ref 1254) (.str (S "gateloom.scopes") 1935))), #[]⟩
noncomputable def k1257 (P : Params) : Obj := ⟨.none, none, (.fields #[]), #[]⟩
noncomputable def k1261 (P : Params) : Obj := ⟨(.type "code"), none, (.fields #[(.str (S "lookup_routine") 1997), (.str (S "Scope.lookup_routine") 1998), (.str (S "/claim/cut.py") 1999), (.int 1287 0), (.int 2 0), (.int 0 0), (.int 0 0), (.int 3 0), (.ref 1256), (.bool true), (.int 181 0), (.ref 1257), .none, (.ref 1258), (.ref 1259), (.ref 1260), (.int 2004 0), (.int 1287 0), (.str (S "/claim/cut.py") 2005)]), #[]⟩
noncomputable def k1262 (P : Params) : Obj := ⟨(.type "function"), none, (.func (fdOf (cst 163 5) (S "Scope.lookup_routine") .none (.ref 1261) (.str (S "gateloom.scopes") 1935))), #[]⟩
noncomputable def k1264 (P : Params) : Obj := ⟨.none, none, (.fields #[]), #[]⟩
noncomputable def k1268 (P : Params) : Obj := ⟨(.type "code"), none, (.fields #[(.str (S "descend") 2007), (.str (S "Scope.descend") 2008), (.str (S "/claim/cut.py") 2009), (.int 1298 0), (.int 2 0), (.int 0 0), (.int 0 0), (.int 3 0), (.ref 1263), (.bool true), (.int 181 0), (.ref 1264), .none, (.ref 1265), (.ref 1266), (.ref 1267), (.int 2015 0), (.int 1298 0), (.str (S "/claim/cut.py") 2016)]), #[]⟩
noncomputable def k1269 (P : Params) : Obj := ⟨(.type "function"), none, (.func (fdOf (cst 163 6) (S "Scope.descend") .none (.ref 1268) (.str (S "gateloom.scopes") 1935))), #[]⟩
noncomputable def k1271 (P : Params) : Obj := ⟨.none, none, (.fields #[]), #[]⟩
noncomputable def k1275 (P : Params) : Obj := ⟨(.type "code"), none, (.fields #[(.str (S "resolve") 2018), (.str (S "Scope.resolve") 2019), (.str (S "/claim/cut.py") 2020), (.int 1310 0), (.int 3 0), (.int 0 0), (.int 0 0), (.int 3 0), (.ref 1270), (.bool true), (.int 181 0), (.ref 1271), .none, (.ref 1272), (.ref 1273), (.ref 1274), (.int 2026 0), (.int 1310 0), (.str (S "/claim/cut.py") 2027)]), #[]⟩
noncomputable def k1276 (P : Params) : Obj := ⟨(.type "function"), none, (.func (fdOf (cst 163 7) (S "Scope.resolve") .none (.ref 1275) (.str (S "gateloom.scopes") 1935))), #[]⟩
noncomputable def k1278 (P : Params) : Obj := ⟨.none, none, (.fields #[]), #[]⟩
noncomputable def k1282 (P : Params) : Obj := ⟨(.type "code"), none, (.fields #[(.str (S "answers_to") 2029), (.str (S "Scope.answers_to") 2030), (.str (S "/claim/cut.py") 2031), (.int 1321 0), (.int 2 0), (.int 0 0), (.int 0 0), (.int 3 0), (.ref 1277), (.bool true), (.int 181 0), (.ref 1278), .none, (.ref 1279), (.ref 1280), (.ref 1281), (.int 2034 0), (.int 1321 0), (.str (S "/claim/cut.py") 2035)]), #[]⟩
noncomputable def k1283 (P : Params) : Obj := ⟨(.type "function"), none, (.func (fdOf (cst 163 8) (S "Scope.answers_to") .none (.ref 1282) (.str (S "gateloom.scopes") 1935))), #[]⟩
noncomputable def k1284 (P : Params) : Obj := ⟨(.type "tuple"), none, (.seq #[(.str (S "design") 2037), (.str (S "entries") 2038), (.str (S "kind") 2039), (.str (S "module_name") 2040), (.str (S "name") 2041), (.str (S "nettype") 2042), (.str (S "number") 2043), (.str (S "parent") 2044), (.str (S "path") 2045)] 0), #[]⟩
noncomputable def k1285 (P : Params) : Obj := ⟨(.type "dict"), none, (.dict #[en P "__module__" 1944 (.str (S "gateloom.scopes") 1935), en P "__firstlineno__" 1948 (.int 1248 1947), en P "__init__" 1959 (.ref 1227), en P "child" 1970 (.ref 1234), en P "declare" 1980 (.ref 1241), en P "module_scope" 1987 (.ref 1248), en P "lookup" 1996 (.ref 1255), en P "lookup_routine" 2006 (.ref 1262), en P "descend" 2017 (.ref 1269), en P "resolve" 2028 (.ref 1276), en P "answers_to" 2036 (.ref 1283), en P "__static_attributes__" 2046 (.ref 1284), en P "__dict__" 2048 (.ref 1287), en P "__weakref__" 2050 (.ref 1288), en P "__doc__" 2051 .none] 4), #[]⟩
noncomputable def k1286 (P : Params) : Obj := ⟨(.type "type"), none, (.cls { name := (S "Scope"), bases := [(.type "object")], mro := [(.ref 1286), (.type "object")], ns := 1285, qualname := (S "Scope"), hasDict := true, slotNames := [], subclasses := [], abstract := false, collection := none, hasDel := false }), #[none, none, (some (.str (S "Scope") 1937)), (some (.str (S "Scope") 1945)), (some (.builtin "object.__new__")), (some (.bool true))]⟩
noncomputable def k1287 (P : Params) : Obj := ⟨(.type "getset_descriptor"), none, (.fields #[(.str (S "__dict__") 2047), (.ref 1286), (.builtin "function.__dict__"), (.builtin "function.__dict__#set")]), #[]⟩
noncomputable def k1288 (P : Params) : Obj := ⟨(.type "getset_descriptor"), none, (.fields #[(.str (S "__weakref__") 2049), (.ref 1286), (.builtin "ExceptionGroup.__weakref__"), .none]), #[]⟩
noncomputable def kf16 (P : Params) : Frag := [(1222, k1222 P), (1226, k1226 P), (1227, k1227 P), (1229, k1229 P), (1233, k1233 P), (1234, k1234 P), (1236, k1236 P), (1240, k1240 P), (1241, k1241 P), (1243, k1243 P), (1247, k1247 P), (1248, k1248 P), (1250, k1250 P), (1254, k1254 P), (1255, k1255 P), (1257, k1257 P), (1261, k1261 P), (1262, k1262 P), (1264, k1264 P), (1268, k1268 P), (1269, k1269 P), (1271, k1271 P), (1275, k1275 P), (1276, k1276 P), (1278, k1278 P), (1282, k1282 P), (1283, k1283 P), (1284, k1284 P), (1285, k1285 P), (1286, k1286 P), (1287, k1287 P), (1288, k1288 P)]
theorem c16 : Chunk 163 2 512 ⟨1247, 0, 1247, 8⟩ ⟨1323, 0, 1323, 8⟩ 1214 1291 1937 2056 hot16 (fun P => hot17 P ++ kf16 P) := fun w os => by kernel_rfl
noncomputable def k1299 (P : Params) : Obj := ⟨.none, none, (.fields #[]), #[]⟩
noncomputable def k1303 (P : Params) : Obj := ⟨(.type "code"), none, (.fields #[(.str (S "__init__") 2068), (.str (S "Primitive.__init__") 2069), (.str (S "/claim/cut.py") 2070), (.int 1326 0), (.int 8 0), (.int 0 0), (.int 0 0), (.int 3 0), (.ref 1298), (.bool true), (.int 181 0), (.ref 1299), .none, (.ref 1300), (.ref 1301), (.ref 1302), (.int 2079 0), (.int 1326 0), (.str (S "/claim/cut.py") 2080)]), #[]⟩
noncomputable def k1304 (P : Params) : Obj := ⟨(.type "function"), none, (.func (fdOf (cst 165 0) (S "Primitive.__init__") .none (.ref 1303) (.str (S "gateloom.udps") 2054))), #[]⟩
noncomputable def k1305 (P : Params) : Obj := ⟨(.type "tuple"), none, (.seq #[(.str (S "at") 2082), (.str (S "init") 2083), (.str (S "inputs") 2084), (.str (S "name") 2085), (.str (S "output") 2086), (.str (S "rows") 2087), (.str (S "sequential") 2088)] 0), #[]⟩
noncomputable def k1306 (P : Params) : Obj := ⟨(.type "dict"), none, (.dict #[en P "__module__" 2063 (.str (S "gateloom.udps") 2054), en P "__firstlineno__" 2067 (.int 1324 2066), en P "__init__" 2081 (.ref 1304), en P "__static_attributes__" 2089 (.ref 1305), en P "__dict__" 2091 (.ref 1308), en P "__weakref__" 2093 (.ref 1309), en P "__doc__" 2094 .none] 4), #[]⟩
noncomputable def k1307 (P : Params) : Obj := ⟨(.type "type"), none, (.cls { name := (S "Primitive"), bases := [(.type "object")], mro := [(.ref 1307), (.type "object")], ns := 1306, qualname := (S "Primitive"), hasDict := true, slotNames := [], subclasses := [], abstract := false, collection := none, hasDel := false }), #[none, none, (some (.str (S "Primitive") 2056)), (some (.str (S "Primitive") 2064)), (some (.builtin "object.__new__")), (some (.bool true))]⟩
noncomputable def k1308 (P : Params) : Obj := ⟨(.type "getset_descriptor"), none, (.fields #[(.str (S "__dict__") 2090), (.ref 1307), (.builtin "function.__dict__"), (.builtin "function.__dict__#set")]), #[]⟩
noncomputable def k1309 (P : Params) : Obj := ⟨(.type "getset_descriptor"), none, (.fields #[(.str (S "__weakref__") 2092), (.ref 1307), (.builtin "ExceptionGroup.__weakref__"), .none]), #[]⟩
noncomputable def k1313 (P : Params) : Obj := ⟨.none, none, (.fields #[]), #[]⟩
noncomputable def k1317 (P : Params) : Obj := ⟨(.type "code"), none, (.fields #[(.str (S "_law_row") 2099), (.str (S "_law_row") 2100), (.str (S "/claim/cut.py") 2101), (.int 1335 0), (.int 1 0), (.int 0 0), (.int 0 0), (.int 3 0), (.ref 1312), (.bool true), (.int 181 0), (.ref 1313), .none, (.ref 1314), (.ref 1315), (.ref 1316), (.int 2107 0), (.int 1335 0), (.str (S "/claim/cut.py") 2108)]), #[]⟩
noncomputable def k1318 (P : Params) : Obj := ⟨(.type "function"), none, (.func (fdOf (stm 167) (S "_law_row") .none (.ref 1317) (.str (S "law_ok0100_01") 2097))), #[]⟩
noncomputable def k1320 (P : Params) : Obj := ⟨.none, none, (.fields #[]), #[]⟩
noncomputable def k1324 (P : Params) : Obj := ⟨(.type "code"), none, (.fields #[(.str (S "_law_next") 2110), (.str (S "_law_next") 2111), (.str (S "/claim/cut.py") 2112), (.int 1348 0), (.int 1 0), (.int 0 0), (.int 0 0), (.int 3 0), (.ref 1319), (.bool true), (.int 181 0), (.ref 1320), .none, (.ref 1321), (.ref 1322), (.ref 1323), (.int 2114 0), (.int 1348 0), (.str (S "/claim/cut.py") 2115)]), #[]⟩
noncomputable def k1325 (P : Params) : Obj := ⟨(.type "function"), none, (.func (fdOf (stm 168) (S "_law_next") .none (.ref 1324) (.str (S "law_ok0100_01") 2097))), #[]⟩
noncomputable def k1327 (P : Params) : Obj := ⟨.none, none, (.fields #[]), #[]⟩
noncomputable def k1331 (P : Params) : Obj := ⟨(.type "code"), none, (.fields #[(.str (S "_law_number") 2117), (.str (S "_law_number") 2118), (.str (S "/claim/cut.py") 2119), (.int 1350 0), (.int 1 0), (.int 0 0), (.int 0 0), (.int 3 0), (.ref 1326), (.bool true), (.int 181 0), (.ref 1327), .none, (.ref 1328), (.ref 1329), (.ref 1330), (.int 2122 0), (.int 1350 0), (.str (S "/claim/cut.py") 2123)]), #[]⟩
noncomputable def k1332 (P : Params) : Obj := ⟨(.type "function"), none, (.func (fdOf (stm 169) (S "_law_number") .none (.ref 1331) (.str (S "law_ok0100_01") 2097))), #[]⟩
noncomputable def k1334 (P : Params) : Obj := ⟨.none, none, (.fields #[]), #[]⟩
noncomputable def k1338 (P : Params) : Obj := ⟨(.type "code"), none, (.fields #[(.str (S "_law_item") 2125), (.str (S "_law_item") 2126), (.str (S "/claim/cut.py") 2127), (.int 1353 0), (.int 3 0), (.int 0 0), (.int 0 0), (.int 3 0), (.ref 1333), (.bool true), (.int 181 0), (.ref 1334), .none, (.ref 1335), (.ref 1336), (.ref 1337), (.int 2136 0), (.int 1353 0), (.str (S "/claim/cut.py") 2137)]), #[]⟩
noncomputable def k1339 (P : Params) : Obj := ⟨(.type "function"), none, (.func (fdOf (stm 170) (S "_law_item") .none (.ref 1338) (.str (S "law_ok0100_01") 2097))), #[]⟩
noncomputable def k1341 (P : Params) : Obj := ⟨.none, none, (.fields #[]), #[]⟩
noncomputable def k1345 (P : Params) : Obj := ⟨(.type "code"), none, (.fields #[(.str (S "_law_kept") 2139), (.str (S "_law_kept") 2140), (.str (S "/claim/cut.py") 2141), (.int 1371 0), (.int 1 0), (.int 0 0), (.int 0 0), (.int 3 0), (.ref 1340), (.bool true), (.int 181 0), (.ref 1341), .none, (.ref 1342), (.ref 1343), (.ref 1344), (.int 2144 0), (.int 1371 0), (.str (S "/claim/cut.py") 2145)]), #[]⟩
noncomputable def k1346 (P : Params) : Obj := ⟨(.type "function"), none, (.func (fdOf (stm 171) (S "_law_kept") .none (.ref 1345) (.str (S "law_ok0100_01") 2097))), #[]⟩
noncomputable def k1348 (P : Params) : Obj := ⟨.none, none, (.fields #[]), #[]⟩
noncomputable def k1350 (P : Params) : Obj := ⟨(.type "code"), none, (.fields #[(.str (S "law") 2147), (.str (S "law") 2148), (.str (S "/claim/cut.py") 2149), (.int 1376 0), (.int 1 0), (.int 0 0), (.int 0 0), (.int 3 0), (.ref 1347), (.bool true), (.int 181 0), (.ref 1348), .none, .none, .none, (.ref 1349), (.int 2150 0), (.int 1376 0), (.str (S "/claim/cut.py") 2151)]), #[]⟩
noncomputable def k1351 (P : Params) : Obj := ⟨(.type "function"), none, (.func (fdOf (stm 172) (S "law") .none (.ref 1350) (.str (S "law_ok0100_01") 2097))), #[]⟩
noncomputable def kf17 (P : Params) : Frag := [(1299, k1299 P), (1303, k1303 P), (1304, k1304 P), (1305, k1305 P), (1306, k1306 P), (1307, k1307 P), (1308, k1308 P), (1309, k1309 P), (1313, k1313 P), (1317, k1317 P), (1318, k1318 P), (1320, k1320 P), (1324, k1324 P), (1325, k1325 P), (1327, k1327 P), (1331, k1331 P), (1332, k1332 P), (1334, k1334 P), (1338, k1338 P), (1339, k1339 P), (1341, k1341 P), (1345, k1345 P), (1346, k1346 P), (1348, k1348 P), (1350, k1350 P), (1351, k1351 P)]
theorem c17 : Chunk 165 8 428 ⟨1323, 0, 1323, 8⟩ ⟨1376, 0, 1435, 72⟩ 1291 1352 2056 2153 hot17 (fun P => hot18 P ++ kf17 P) := fun w os => by kernel_rfl
noncomputable def acc0 (_ : Params) : Frag := []
noncomputable def acc1 (P : Params) : Frag := acc0 P ++ kf0 P
noncomputable def acc2 (P : Params) : Frag := acc1 P ++ kf1 P
noncomputable def acc3 (P : Params) : Frag := acc2 P ++ kf2 P
noncomputable def acc4 (P : Params) : Frag := acc3 P ++ kf3 P
noncomputable def acc5 (P : Params) : Frag := acc4 P ++ kf4 P
noncomputable def acc6 (P : Params) : Frag := acc5 P ++ kf5 P
noncomputable def acc7 (P : Params) : Frag := acc6 P ++ kf6 P
noncomputable def acc8 (P : Params) : Frag := acc7 P ++ kf7 P
noncomputable def acc9 (P : Params) : Frag := acc8 P ++ kf8 P
noncomputable def acc10 (P : Params) : Frag := acc9 P ++ kf9 P
noncomputable def acc11 (P : Params) : Frag := acc10 P ++ kf10 P
noncomputable def acc12 (P : Params) : Frag := acc11 P ++ kf11 P
noncomputable def acc13 (P : Params) : Frag := acc12 P ++ kf12 P
noncomputable def acc14 (P : Params) : Frag := acc13 P ++ kf13 P
noncomputable def acc15 (P : Params) : Frag := acc14 P ++ kf14 P
noncomputable def acc16 (P : Params) : Frag := acc15 P ++ kf15 P
noncomputable def acc17 (P : Params) : Frag := acc16 P ++ kf16 P
noncomputable def acc18 (P : Params) : Frag := acc17 P ++ kf17 P
noncomputable def finF (P : Params) : Frag := hot18 P ++ acc18 P
noncomputable def p11 : Obj := ⟨(.type "tuple"), none, (.seq #[] 0), #[]⟩
noncomputable def p12 : Obj := ⟨.none, none, (.fields #[]), #[]⟩
noncomputable def p13 : Obj := ⟨(.type "code"), none, (.fields #[(.str (S "<module>") 182), (.str (S "<module>") 183), (.str (S "/claim/cut.py") 184), (.int 1 0), (.int 0 0), (.int 0 0), (.int 0 0), (.int 0 0), (.ref 11), (.bool false), (.int 181 0), (.ref 12), .none, .none, .none, .none, (.int 185 0), (.int 1 0), (.str (S "/claim/cut.py") 186)]), #[]⟩
noncomputable def p14 : Obj := ⟨(.type "frame"), none, .plain, #[(some (.ref 13)), (some (.ref 3)), (some (.ref 3)), none, (some (.str (S "__main__") 164)), none, (some (.ref 0))]⟩
theorem off0 (P : Params) : offOk 15 (acc0 P) = true := by kernel_rfl
theorem off1 (P : Params) : offOk 43 (acc1 P) = true := by kernel_rfl
theorem off2 (P : Params) : offOk 67 (acc2 P) = true := by kernel_rfl
theorem off3 (P : Params) : offOk 173 (acc3 P) = true := by kernel_rfl
theorem off4 (P : Params) : offOk 215 (acc4 P) = true := by kernel_rfl
theorem off5 (P : Params) : offOk 258 (acc5 P) = true := by kernel_rfl
theorem off6 (P : Params) : offOk 335 (acc6 P) = true := by kernel_rfl
theorem off7 (P : Params) : offOk 426 (acc7 P) = true := by kernel_rfl
theorem off8 (P : Params) : offOk 524 (acc8 P) = true := by kernel_rfl
theorem off9 (P : Params) : offOk 606 (acc9 P) = true := by kernel_rfl
theorem off10 (P : Params) : offOk 680 (acc10 P) = true := by kernel_rfl
theorem off11 (P : Params) : offOk 776 (acc11 P) = true := by kernel_rfl
theorem off12 (P : Params) : offOk 872 (acc12 P) = true := by kernel_rfl
theorem off13 (P : Params) : offOk 977 (acc13 P) = true := by kernel_rfl
theorem off14 (P : Params) : offOk 1096 (acc14 P) = true := by kernel_rfl
theorem off15 (P : Params) : offOk 1151 (acc15 P) = true := by kernel_rfl
theorem off16 (P : Params) : offOk 1214 (acc16 P) = true := by kernel_rfl
theorem off17 (P : Params) : offOk 1291 (acc17 P) = true := by kernel_rfl
theorem r18 : Reach finF 173 ⟨1376, 0, 1435, 72⟩ 1352 2153 hot18 acc18 := reach_end _ _
theorem r17 : Reach finF 165 ⟨1323, 0, 1323, 8⟩ 1291 2056 hot17 acc17 := Reach.back c17 off17 r18
theorem r16 : Reach finF 163 ⟨1247, 0, 1247, 8⟩ 1214 1937 hot16 acc16 := Reach.back c16 off16 r17
theorem r15 : Reach finF 161 ⟨1208, 0, 1208, 8⟩ 1151 1836 hot15 acc15 := Reach.back c15 off15 r16
theorem r14 : Reach finF 150 ⟨1139, 0, 1144, 17⟩ 1096 1752 hot14 acc14 := Reach.back c14 off14 r15
theorem r13 : Reach finF 132 ⟨965, 0, 976, 18⟩ 977 1564 hot13 acc13 := Reach.back c13 off13 r14
theorem r12 : Reach finF 116 ⟨840, 0, 843, 81⟩ 872 1410 hot12 acc12 := Reach.back c12 off12 r13
theorem r11 : Reach finF 100 ⟨707, 0, 724, 55⟩ 776 1275 hot11 acc11 := Reach.back c11 off11 r12
theorem r10 : Reach finF 85 ⟨535, 0, 577, 44⟩ 680 1141 hot10 acc10 := Reach.back c10 off10 r11
theorem r9 : Reach finF 78 ⟨462, 0, 492, 52⟩ 606 1017 hot9 acc9 := Reach.back c9 off9 r10
theorem r8 : Reach finF 64 ⟨329, 0, 338, 46⟩ 524 902 hot8 acc8 := Reach.back c8 off8 r9
theorem r7 : Reach finF 50 ⟨282, 0, 286, 38⟩ 426 785 hot7 acc7 := Reach.back c7 off7 r8
theorem r6 : Reach finF 36 ⟨221, 0, 227, 42⟩ 335 646 hot6 acc6 := Reach.back c6 off6 r7
theorem r5 : Reach finF 24 ⟨134, 0, 152, 16⟩ 258 537 hot5 acc5 := Reach.back c5 off5 r6
theorem r4 : Reach finF 23 ⟨91, 0, 133, 19⟩ 215 478 hot4 acc4 := Reach.back c4 off4 r5
theorem r3 : Reach finF 22 ⟨90, 0, 90, 8⟩ 173 412 hot3 acc3 := Reach.back c3 off3 r4
theorem r2 : Reach finF 6 ⟨15, 0, 15, 8⟩ 67 266 hot2 acc2 := Reach.back c2 off2 r3
theorem r1 : Reach finF 3 ⟨5, 0, 10, 28⟩ 43 232 hot1 acc1 := Reach.back c1 off1 r2
theorem r0 : Reach finF 0 ⟨0, 0, 0, 0⟩ 15 187 hot0 acc0 := Reach.back c0 off0 r1
end Mine
end
section
open PySem PySem.W PyProof.Rows PySem.Calls
set_option maxRecDepth 100000
set_option Elab.async false
set_option compiler.extract_closed false
set_option compiler.reuse false
namespace Mine
noncomputable def H15 (P : Params) : Heap := ((((boot_heap P).push p11).push p12).push p13).push p14
theorem pre_run (w : World) : (fun os : OsState => topGo treeTable pwO w 11 (some (.ref 6)) 12 ⟨boot_heap w.params, #[], boot_drawn, boot_toks, os⟩ (topStub pwO)) =
    fun os => some (⟨H15 w.params, #[], {}, 187, os⟩, ⟨denote treeTable topCode, topCode, ⟨0, 0, 0, 0⟩, [topFrame ⟨0, 0, 0, 0⟩]⟩) := by kernel_rfl
theorem block_run (w : World) : (fun (H : Heap) (os : OsState) => segRun treeTable pwO w 11 (some (.ref 6)) 1 1 ⟨H, #[], {}, 187, os⟩ (blockOf (behindTheImports pwO) (topEnv pwO) topCode ⟨0, 0, 0, 0⟩ [topFrame ⟨0, 0, 0, 0⟩])) =
    fun H os => some (.next, ⟨H, #[], {}, 187, os⟩, topCode, ⟨0, 0, 0, 0⟩) := by kernel_rfl
theorem h15_size (P : Params) : (H15 P).objs.size = 15 := by kernel_rfl
theorem h15_hot (P : Params) : (hot0 P).map (fun p => (H15 P).get? p.1) = (hot0 P).map fun p => some p.2 := by kernel_rfl
theorem open_name : opening pwO = plainProg pwO.main.scope.names := by kernel_rfl
theorem fence_is (s : Shared) : fenceModules? pwO s = some s := by kernel_rfl
end Mine
end
section
open PySem PySem.W PyProof.Rows PySem.Calls
set_option maxRecDepth 100000
set_option Elab.async false
set_option compiler.extract_closed false
set_option compiler.reuse false
namespace Mine
noncomputable def KQ (P : Params) : Frag := finF P ++ [(1, boot_o_1 P), (5, boot_o_5 P), (6, boot_o_6 P)]
noncomputable def MH (P : Params) : Heap := ⟨#[b0_0 P, boot_o_1 P, b1_2 P, b18_3 P, b0_4 P, boot_o_5 P, boot_o_6 P], {}⟩
theorem lookup_mem {a : Addr} {o : Obj} : ∀ {K : Frag}, K.lookup a = some o → (a, o) ∈ K
  | [], h => by cases h
  | (b, q) :: K, h => by
    rw [List.lookup_cons] at h
    cases e : a == b with
    | true => rw [e] at h; cases h; rw [beq_iff_eq.mp e]; exact .head _
    | false => rw [e] at h; exact .tail _ (lookup_mem h)
theorem At.in {H : Heap} {F : Frag} (x : At H F) : F.In H := fun a o h => x (a, o) (lookup_mem h)
theorem mini {P : Params} {H : Heap} (x : (KQ P).In H) : (H.get? 0 = (MH P).get? 0 ∧ H.get? 1 = (MH P).get? 1 ∧ H.get? 2 = (MH P).get? 2) ∧ H.get? 3 = (MH P).get? 3 ∧ H.get? 4 = (MH P).get? 4 :=
  ⟨⟨(x 0 (b0_0 P) (by kernel_rfl)).trans (by kernel_rfl), (x 1 (boot_o_1 P) (by kernel_rfl)).trans (by kernel_rfl), (x 2 (b1_2 P) (by kernel_rfl)).trans (by kernel_rfl)⟩,
    (x 3 (b18_3 P) (by kernel_rfl)).trans (by kernel_rfl), (x 4 (b0_4 P) (by kernel_rfl)).trans (by kernel_rfl)⟩
theorem keys_q (P : Params) : ((MH P).nsKeys mainGlobals).all (fun k => @List.contains Str (@instBEqOfDecidableEq Str Fast.sDec) startupNames k || @List.contains Str (@instBEqOfDecidableEq Str Fast.sDec) pwO.boundNames k) = true := by kernel_rfl
theorem keys_mh (P : Params) : ((MH P).nsKeys mainGlobals).all (fun k => startupNames.contains k || pwO.boundNames.contains k) = true := by
  rw [Fast.sDec_eq]; exact keys_q P
theorem names_mh (P : Params) : namesBound pwO (MH P) = true := by
  unfold namesBound
  rw [keys_mh P, Bool.and_true]
  kernel_rfl
/-- what the last heap bears, by a look at the small one -/
theorem looks_mh (P : Params) : (staticsOk [] (boot_heap P) (MH P) && (MH P).accountedOkI [] && (MH P).isNs builtinsNs && namesBound pwO (MH P) && laidKept (boot_heap P) (MH P) && (MH P).isNs cStatics && (MH P).isNs sysModules && (MH P).isNs mainGlobals) = true :=
  look_both (look_both (look_both (look_both (look_both (look_both (look_both (by kernel_rfl) (by kernel_rfl)) (by kernel_rfl)) (names_mh P)) (by kernel_rfl)) (by kernel_rfl)) (by kernel_rfl)) (by kernel_rfl)
theorem nones_mh (P : Params) : ((MH P).nsMap cStatics "sys.recursionlimit", (MH P).nsMap cStatics "sys.int_max_str_digits", (MH P).nsMap cStatics "sys.audit-hooks", (MH P).nsMap cStatics "sys.dict", (MH P).nsMap sysModules "_pylong", (MH P).nsMap mainGlobals "__builtins__", (MH P).get? 4) =
    (none, none, none, none, none, some (.ref 4), some { cls := .type "module", dict := some builtinsNs }) := by kernel_rfl
theorem blt_mh (P : Params) : (MH P).bltView = bltViewBooted := by kernel_rfl
theorem imported_none : importedModules pwO.main.body = [] := by kernel_rfl
theorem boot_looks (P : Params) : ((boot_heap P).isNs mainGlobals, (boot_heap P).objs.size, (boot_heap P).nsMap mainGlobals "__annotations__", globalOf (boot_heap P) "__annotations__") = (true, 11, some (.ref 6), some (.ref 6)) := by kernel_rfl
theorem boot_rest (P : Params) : ((boot_heap P).get? 1, (boot_heap P).get? 5, (boot_heap P).get? 6) = (some (boot_o_1 P), some (boot_o_5 P), some (boot_o_6 P)) := by kernel_rfl
end Mine
end
section
open PySem PySem.W PyProof.Rows PySem.Calls
set_option maxRecDepth 100000
set_option Elab.async false
set_option compiler.extract_closed false
set_option compiler.reuse false
namespace Mine
section
variable {P : Params} {H : Heap}
theorem look_isNs {G : Heap} {a : Addr} (e : H.get? a = G.get? a) : H.isNs a = G.isNs a := by unfold Heap.isNs; rw [e]
theorem look_nsMap {G : Heap} {a : Addr} (e : H.get? a = G.get? a) : H.nsMap a = G.nsMap a := by funext x; unfold Heap.nsMap; rw [e]
theorem look_nsKeys {G : Heap} {a : Addr} (e : H.get? a = G.get? a) : H.nsKeys a = G.nsKeys a := by unfold Heap.nsKeys; rw [e]
theorem look_nsPairs {G : Heap} {a : Addr} (e : H.get? a = G.get? a) : H.nsPairs a = G.nsPairs a := by unfold Heap.nsPairs; rw [e]
structure Seen (P : Params) (H : Heap) : Prop where
  statics : staticsOk [] (boot_heap P) H = true
  acc : H.accountedOkI [] = true
  bns : H.isNs builtinsNs = true
  names : namesBound pwO H = true
  laid : laidKept (boot_heap P) H = true
  cns : H.isNs cStatics = true
  mns : H.isNs sysModules = true
  gns : H.isNs mainGlobals = true
  blt : H.bltView = bltViewBooted
  nolim : H.nsMap cStatics "sys.recursionlimit" = none
  nodig : H.nsMap cStatics "sys.int_max_str_digits" = none
  nohook : H.nsMap cStatics "sys.audit-hooks" = none
  nodict : H.nsMap cStatics "sys.dict" = none
  nolong : H.nsMap sysModules "_pylong" = none
  bm : H.nsMap mainGlobals "__builtins__" = some (.ref 4)
  bmo : H.get? 4 = some { cls := .type "module", dict := some builtinsNs }
  keys : (H.nsKeys mainGlobals).all (fun k => startupNames.contains k || pwO.boundNames.contains k) = true
theorem seen_min (x : (H.get? 0 = (MH P).get? 0 ∧ H.get? 1 = (MH P).get? 1 ∧ H.get? 2 = (MH P).get? 2) ∧ H.get? 3 = (MH P).get? 3 ∧ H.get? 4 = (MH P).get? 4) : Seen P H := by
  refine ?mG; exact ((by exact ?mB) : (let_mvar% ?mB := (by (
  obtain ⟨⟨e0, e1, e2⟩, e3, e4⟩ := x
  have i0 := look_isNs (a := builtinsNs) e0
  have i1 := look_isNs (a := sysModules) e1
  have i2 := look_isNs (a := cStatics) e2
  have i3 := look_isNs (a := mainGlobals) e3
  have m2 := look_nsMap (a := cStatics) e2
  have m3 := look_nsMap (a := mainGlobals) e3
  have m1 := look_nsMap (a := sysModules) e1
  have k2 := look_nsKeys (a := cStatics) e2
  have k3 := look_nsKeys (a := mainGlobals) e3
  have p0 := look_nsPairs (a := builtinsNs) e0
  have L := looks_mh P
  simp only [Bool.and_eq_true] at L
  obtain ⟨⟨⟨⟨⟨⟨⟨l1, l2⟩, l3⟩, l4⟩, l5⟩, l6⟩, l7⟩, l8⟩ := L
  have N := nones_mh P
  simp only [Prod.mk.injEq] at N
  obtain ⟨n1, n2, n3, n4, n5, n6, n7⟩ := N
  refine ⟨?_, ?_, i0.trans l3, ?_, ?_, i2.trans l6, i1.trans l7, i3.trans l8, ?_, ?_, ?_, ?_, ?_, ?_, ?_, e4.trans n7, ?_⟩
  · unfold staticsOk at l1 ⊢; rw [i2, k2, m2]; exact l1
  · unfold Heap.accountedOkI at l2 ⊢; rw [i2, k2, m2]; exact l2
  · unfold namesBound at l4 ⊢; rw [i3, k3]; exact l4
  · unfold laidKept at l5 ⊢; rw [i3, m3]; exact l5
  · unfold Heap.bltView; rw [p0]; exact blt_mh P
  · rw [m2]; exact n1
  · rw [m2]; exact n2
  · rw [m2]; exact n3
  · rw [m2]; exact n4
  · rw [m1]; exact n5
  · rw [m3]; exact n6
  · rw [k3]; exact keys_mh P
  ) : type_of% ?mG); have _ : True := trivial; type_of% ?mG))
theorem seen_of (x : (KQ P).In H) : Seen P H := seen_min (mini x)
/-- a text without a line: what the walk asks of the top hangs on the written part alone -/
noncomputable def q0 : Program := plainProg []
theorem top_q0 (S : Seen P H) : Top q0 pwO.boundNames (ExcName.means H) (H.nsMap mainGlobals) (H.nsMap builtinsNs) H where
  g := .of_isNs S.gns
  b := .of_isNs S.bns
  nolimit := ⟨_, .of_isNs S.cns, S.nolim⟩
  nodigits := ⟨_, .of_isNs S.cns, S.nodig⟩
  fn := fun d hd => nomatch hd
  own := fun d hd => nomatch hd
  const := fun x d h => by cases h
  free := fun x h1 h2 _ _ _ => Heap.nsMap_none fun hk => by
    have := List.all_eq_true.mp S.keys x hk
    rcases Bool.or_eq_true_iff.mp this with q | q
    · exact h1 (List.contains_iff_mem.mp q)
    · exact h2 (List.contains_iff_mem.mp q)
  builtins := fun x hx => Heap.of_bltView S.bns S.blt x hx
  tab := fun d hd => nomatch hd
  bmain := ⟨4, _, S.bm, by decide, S.bmo, rfl, rfl, rfl⟩
  seer := fun _ => ⟨⟨_, .of_isNs S.cns, S.nohook, S.nodict⟩, ⟨_, .of_isNs S.mns, S.nolong⟩, ⟨_, .of_isNs S.bns, fun x hx => Heap.of_bltView S.bns S.blt x hx⟩, ⟨_, 4, _, .of_isNs S.gns, S.bm, S.bmo, rfl, rfl⟩⟩
end

theorem behind (w : World) : (∃ s, AfterRun (opening pwO) w s) ∧ ∀ s, AfterRun (opening pwO) w s → ∃ s₀, fenceModules? pwO s = some s₀ ∧ s₀.gens = #[] ∧ ∃ s₁, TopRan pwO w s₀ s₁ ∧ s₁.asleep ∧ s₁.gens = #[] ∧ s₁.heap.objs.size = 1352 ∧ s₁.toks = 2153 ∧ (KQ w.params).In s₁.heap := by
  refine ?mG; exact ((by exact ?mB) : (let_mvar% ?mB := (by (
  have h := boot_open (p := pwO) (N := 600) open_name (by rfl) fence_is w
  rw [← table_eq_tree] at h
  obtain ⟨s₀, h1, e⟩ := Option.map_eq_some_iff.mp h
  obtain ⟨s, h4, h5⟩ := Option.bind_eq_some_iff.mp h1
  have A := AfterImport.of_importEnds h4
  refine ⟨⟨s, A⟩, fun s' hs' => ?_⟩
  obtain rfl : s' = s := AfterImport.unique hs' A
  have z : s₀.asleep := Shared.asleep_of_life (fence_lifeW h5) A.life
  obtain ⟨hp, gens, drawn, toks, os⟩ := s₀
  simp only [Prod.mk.injEq] at e
  obtain ⟨rfl, rfl, rfl, rfl⟩ := e
  have hot : At (H15 w.params) (hot0 w.params) := map_get (h15_hot w.params)
  obtain ⟨N, H', r, hsz, hat, fr⟩ := r0 w os (H15 w.params) (h15_size _) hot (fun p hp => nomatch hp)
  have r1 := piece_block (congrFun (congrFun (block_run w) (H15 w.params)) os) (by simpa using r)
  have r2 := go_top (congrFun (pre_run w) os) r1
  rw [← table_eq_tree] at r2
  obtain ⟨a, l, los, fro⟩ := topRun_spec _ _ _ _ z r2
  have B := boot_rest w.params
  simp only [Prod.mk.injEq] at B
  have L := boot_looks w.params
  simp only [Prod.mk.injEq] at L
  obtain ⟨l1, l2, l3, l4⟩ := L
  have old : ∀ b o, (boot_heap w.params).get? b = some o → b ≠ 3 → b ≠ 2 → b ≠ 6 → H'.get? b = some o := fun b o hb h3 h2 h6 =>
    fro b o (l2 ▸ Heap.lt_size hb) h3 h2 (fun q => h6 (by cases q; rfl)) hb
  have k6 : H'.get? 6 = some (boot_o_6 w.params) := (fr 6 (by decide) (by decide)).trans (by
    show (((((boot_heap w.params).push p11).push p12).push p13).push p14).get? 6 = _
    exact Heap.get?_push_of_some _ (Heap.get?_push_of_some _ (Heap.get?_push_of_some _ (Heap.get?_push_of_some _ B.2.2))))
  have KI : (KQ w.params).In H' := At.in (hat.append fun p hp => by
    rcases List.mem_cons.mp hp with rfl | hp
    · exact old 1 _ B.1 (by decide) (by decide) (by decide)
    · rcases List.mem_cons.mp hp with rfl | hp
      · exact old 5 _ B.2.1 (by decide) (by decide) (by decide)
      · rcases List.mem_cons.mp hp with rfl | hp
        · exact k6
        · cases hp)
  have S := seen_of KI
  have T := top_q0 S
  refine ⟨_, h5, rfl, ⟨H', #[], {}, 2153, os⟩, ⟨a, l, Shared.rest_eq los, fun b o hb hn => ?_, ?_, ?_, Pin.keysAreStrs_of S.gns, ?_, ?_, (fun g hg => absurd hg (by simp)), names_of_bound S.names, laid_of_kept S.laid⟩, Shared.asleep_of_life l z, rfl, hsz, rfl, KI⟩
  · refine fro b o (l2 ▸ Heap.lt_size hb) (fun q => hn (.inl q)) (fun q => hn (.inr (.inl q))) (fun q => hn (.inr (.inr (l4.trans q)))) hb
  · rw [imported_none]; exact Heap.accountedI_of_ok S.acc
  · rw [imported_none]; exact statics_of_ok S.statics
  · exact fun x hx => (Pin.builtinOf_eq S.bns x).trans (Heap.of_bltView S.bns S.blt x hx)
  · exact ⟨4, _, (Pin.globalOf_eq S.gns _).trans S.bm, S.bmo, rfl, rfl⟩
  ) : type_of% ?mG); have _ : True := trivial; type_of% ?mG))
end Mine
end
section
open PySem PySem.W PyProof.Rows PySem.Calls
set_option maxRecDepth 100000
set_option maxHeartbeats 0
set_option Elab.async false
set_option compiler.extract_closed false
set_option compiler.reuse false
set_option linter.unusedVariables false
namespace Mine
@[reducible] noncomputable def mkFn (qual : Str) (dV cd pm : Value) {st : Stmt} {n a b d1 d2 d3 sc e1 e2 e3} (_ : st = Stmt.FunctionDef n a b d1 d2 d3 sc e1 e2 e3) : FuncData := fnOf n qual a b sc dV .none .none pm none cd .none
@[reducible] noncomputable def f36 : FuncData := mkFn (S "GateloomError.__init__") (.ref 29) (.ref 35) (.str (S "gateloom.errors") 194) (st := cst 2 0) rfl
noncomputable def x36 (P : Params) : Obj := ⟨(.type "function"), none, (.func f36), #[]⟩
@[reducible] noncomputable def f73 : FuncData := mkFn (S "mask") .none (.ref 72) (.str (S "gateloom.vec") 264) (st := stm 6) rfl
noncomputable def x73 (P : Params) : Obj := ⟨(.type "function"), none, (.func f73), #[]⟩
@[reducible] noncomputable def f81 : FuncData := mkFn (S "vec") (.ref 74) (.ref 80) (.str (S "gateloom.vec") 264) (st := stm 7) rfl
noncomputable def x81 (P : Params) : Obj := ⟨(.type "function"), none, (.func f81), #[]⟩
@[reducible] noncomputable def f158 : FuncData := mkFn (S "extend") .none (.ref 157) (.str (S "gateloom.vec") 264) (st := stm 18) rfl
noncomputable def x158 (P : Params) : Obj := ⟨(.type "function"), none, (.func f158), #[]⟩
@[reducible] noncomputable def f822 : FuncData := mkFn (S "last_select") .none (.ref 821) (.str (S "gateloom.elabparts") 1337) (st := stm 108) rfl
noncomputable def x822 (P : Params) : Obj := ⟨(.type "function"), none, (.func f822), #[]⟩
@[reducible] noncomputable def f829 : FuncData := mkFn (S "is_memory") .none (.ref 828) (.str (S "gateloom.elabparts") 1337) (st := stm 109) rfl
noncomputable def x829 (P : Params) : Obj := ⟨(.type "function"), none, (.func f829), #[]⟩
@[reducible] noncomputable def f836 : FuncData := mkFn (S "shape") .none (.ref 835) (.str (S "gateloom.elabparts") 1337) (st := stm 110) rfl
noncomputable def x836 (P : Params) : Obj := ⟨(.type "function"), none, (.func f836), #[]⟩
@[reducible] noncomputable def f843 : FuncData := mkFn (S "read_entry") .none (.ref 842) (.str (S "gateloom.elabparts") 1337) (st := stm 111) rfl
noncomputable def x843 (P : Params) : Obj := ⟨(.type "function"), none, (.func f843), #[]⟩
@[reducible] noncomputable def f906 : FuncData := mkFn (S "widen") .none (.ref 905) (.str (S "gateloom.elabparts") 1337) (st := stm 120) rfl
noncomputable def x906 (P : Params) : Obj := ⟨(.type "function"), none, (.func f906), #[]⟩
@[reducible] noncomputable def f913 : FuncData := mkFn (S "number_value") .none (.ref 912) (.str (S "gateloom.elabparts") 1337) (st := stm 121) rfl
noncomputable def x913 (P : Params) : Obj := ⟨(.type "function"), none, (.func f913), #[]⟩
@[reducible] noncomputable def f934 : FuncData := mkFn (S "entry_of") .none (.ref 933) (.str (S "gateloom.elabexpr") 1473) (st := stm 125) rfl
noncomputable def x934 (P : Params) : Obj := ⟨(.type "function"), none, (.func f934), #[]⟩
@[reducible] noncomputable def f962 : FuncData := mkFn (S "named_type") .none (.ref 961) (.str (S "gateloom.elabexpr") 1473) (st := stm 129) rfl
noncomputable def x962 (P : Params) : Obj := ⟨(.type "function"), none, (.func f962), #[]⟩
@[reducible] noncomputable def f969 : FuncData := mkFn (S "named_value") .none (.ref 968) (.str (S "gateloom.elabexpr") 1473) (st := stm 130) rfl
noncomputable def x969 (P : Params) : Obj := ⟨(.type "function"), none, (.func f969), #[]⟩
@[reducible] noncomputable def f1039 : FuncData := mkFn (S "expr_type") .none (.ref 1038) (.str (S "gateloom.elabexpr") 1473) (st := stm 141) rfl
noncomputable def x1039 (P : Params) : Obj := ⟨(.type "function"), none, (.func f1039), #[]⟩
@[reducible] noncomputable def f1060 : FuncData := mkFn (S "build") .none (.ref 1059) (.str (S "gateloom.elabexpr") 1473) (st := stm 144) rfl
noncomputable def x1060 (P : Params) : Obj := ⟨(.type "function"), none, (.func f1060), #[]⟩
@[reducible] noncomputable def f1067 : FuncData := mkFn (S "self_determined") .none (.ref 1066) (.str (S "gateloom.elabexpr") 1473) (st := stm 145) rfl
noncomputable def x1067 (P : Params) : Obj := ⟨(.type "function"), none, (.func f1067), #[]⟩
@[reducible] noncomputable def f1081 : FuncData := mkFn (S "constant_vec") .none (.ref 1080) (.str (S "gateloom.elabexpr") 1473) (st := stm 147) rfl
noncomputable def x1081 (P : Params) : Obj := ⟨(.type "function"), none, (.func f1081), #[]⟩
@[reducible] noncomputable def f1088 : FuncData := mkFn (S "constant") .none (.ref 1087) (.str (S "gateloom.elabexpr") 1473) (st := stm 148) rfl
noncomputable def x1088 (P : Params) : Obj := ⟨(.type "function"), none, (.func f1088), #[]⟩
@[reducible] noncomputable def f1100 : FuncData := mkFn (S "modules_by_name") .none (.ref 1099) (.str (S "gateloom.elabmod") 1752) (st := stm 151) rfl
noncomputable def x1100 (P : Params) : Obj := ⟨(.type "function"), none, (.func f1100), #[]⟩
@[reducible] noncomputable def f1105 : FuncData := mkFn (S "primitives_by_name") .none (.ref 1104) (.str (S "gateloom.elabmod") 1752) (st := stm 152) rfl
noncomputable def x1105 (P : Params) : Obj := ⟨(.type "function"), none, (.func f1105), #[]⟩
@[reducible] noncomputable def f1110 : FuncData := mkFn (S "inner_items") .none (.ref 1109) (.str (S "gateloom.elabmod") 1752) (st := stm 153) rfl
noncomputable def x1110 (P : Params) : Obj := ⟨(.type "function"), none, (.func f1110), #[]⟩
@[reducible] noncomputable def f1117 : FuncData := mkFn (S "instantiated") .none (.ref 1116) (.str (S "gateloom.elabmod") 1752) (st := stm 154) rfl
noncomputable def x1117 (P : Params) : Obj := ⟨(.type "function"), none, (.func f1117), #[]⟩
@[reducible] noncomputable def f1124 : FuncData := mkFn (S "tops") .none (.ref 1123) (.str (S "gateloom.elabmod") 1752) (st := stm 155) rfl
noncomputable def x1124 (P : Params) : Obj := ⟨(.type "function"), none, (.func f1124), #[]⟩
@[reducible] noncomputable def f1131 : FuncData := mkFn (S "parameter_names") .none (.ref 1130) (.str (S "gateloom.elabmod") 1752) (st := stm 156) rfl
noncomputable def x1131 (P : Params) : Obj := ⟨(.type "function"), none, (.func f1131), #[]⟩
@[reducible] noncomputable def f1136 : FuncData := mkFn (S "ordered_parameters") .none (.ref 1135) (.str (S "gateloom.elabmod") 1752) (st := stm 157) rfl
noncomputable def x1136 (P : Params) : Obj := ⟨(.type "function"), none, (.func f1136), #[]⟩
@[reducible] noncomputable def f1143 : FuncData := mkFn (S "override_values") .none (.ref 1142) (.str (S "gateloom.elabmod") 1752) (st := stm 158) rfl
noncomputable def x1143 (P : Params) : Obj := ⟨(.type "function"), none, (.func f1143), #[]⟩
@[reducible] noncomputable def f1150 : FuncData := mkFn (S "check_parameters") .none (.ref 1149) (.str (S "gateloom.elabmod") 1752) (st := stm 159) rfl
noncomputable def x1150 (P : Params) : Obj := ⟨(.type "function"), none, (.func f1150), #[]⟩
@[reducible] noncomputable def f1164 : FuncData := mkFn (S "Design.__init__") .none (.ref 1163) (.str (S "gateloom.design") 1834) (st := cst 161 0) rfl
noncomputable def x1164 (P : Params) : Obj := ⟨(.type "function"), none, (.func f1164), #[]⟩
@[reducible] noncomputable def f1171 : FuncData := mkFn (S "Design.add_signal") .none (.ref 1170) (.str (S "gateloom.design") 1834) (st := cst 161 1) rfl
noncomputable def x1171 (P : Params) : Obj := ⟨(.type "function"), none, (.func f1171), #[]⟩
@[reducible] noncomputable def f1178 : FuncData := mkFn (S "Design.add_scope") .none (.ref 1177) (.str (S "gateloom.design") 1834) (st := cst 161 2) rfl
noncomputable def x1178 (P : Params) : Obj := ⟨(.type "function"), none, (.func f1178), #[]⟩
@[reducible] noncomputable def f1185 : FuncData := mkFn (S "Design.add_routine") .none (.ref 1184) (.str (S "gateloom.design") 1834) (st := cst 161 3) rfl
noncomputable def x1185 (P : Params) : Obj := ⟨(.type "function"), none, (.func f1185), #[]⟩
@[reducible] noncomputable def f1192 : FuncData := mkFn (S "Design.add_process") .none (.ref 1191) (.str (S "gateloom.design") 1834) (st := cst 161 4) rfl
noncomputable def x1192 (P : Params) : Obj := ⟨(.type "function"), none, (.func f1192), #[]⟩
@[reducible] noncomputable def f1199 : FuncData := mkFn (S "Design.find") .none (.ref 1198) (.str (S "gateloom.design") 1834) (st := cst 161 5) rfl
noncomputable def x1199 (P : Params) : Obj := ⟨(.type "function"), none, (.func f1199), #[]⟩
@[reducible] noncomputable def f1206 : FuncData := mkFn (S "Design.routine") .none (.ref 1205) (.str (S "gateloom.design") 1834) (st := cst 161 6) rfl
noncomputable def x1206 (P : Params) : Obj := ⟨(.type "function"), none, (.func f1206), #[]⟩
@[reducible] noncomputable def f1227 : FuncData := mkFn (S "Scope.__init__") .none (.ref 1226) (.str (S "gateloom.scopes") 1935) (st := cst 163 0) rfl
noncomputable def x1227 (P : Params) : Obj := ⟨(.type "function"), none, (.func f1227), #[]⟩
@[reducible] noncomputable def f1234 : FuncData := mkFn (S "Scope.child") .none (.ref 1233) (.str (S "gateloom.scopes") 1935) (st := cst 163 1) rfl
noncomputable def x1234 (P : Params) : Obj := ⟨(.type "function"), none, (.func f1234), #[]⟩
@[reducible] noncomputable def f1241 : FuncData := mkFn (S "Scope.declare") .none (.ref 1240) (.str (S "gateloom.scopes") 1935) (st := cst 163 2) rfl
noncomputable def x1241 (P : Params) : Obj := ⟨(.type "function"), none, (.func f1241), #[]⟩
@[reducible] noncomputable def f1248 : FuncData := mkFn (S "Scope.module_scope") .none (.ref 1247) (.str (S "gateloom.scopes") 1935) (st := cst 163 3) rfl
noncomputable def x1248 (P : Params) : Obj := ⟨(.type "function"), none, (.func f1248), #[]⟩
@[reducible] noncomputable def f1255 : FuncData := mkFn (S "Scope.lookup") .none (.ref 1254) (.str (S "gateloom.scopes") 1935) (st := cst 163 4) rfl
noncomputable def x1255 (P : Params) : Obj := ⟨(.type "function"), none, (.func f1255), #[]⟩
@[reducible] noncomputable def f1262 : FuncData := mkFn (S "Scope.lookup_routine") .none (.ref 1261) (.str (S "gateloom.scopes") 1935) (st := cst 163 5) rfl
noncomputable def x1262 (P : Params) : Obj := ⟨(.type "function"), none, (.func f1262), #[]⟩
@[reducible] noncomputable def f1269 : FuncData := mkFn (S "Scope.descend") .none (.ref 1268) (.str (S "gateloom.scopes") 1935) (st := cst 163 6) rfl
noncomputable def x1269 (P : Params) : Obj := ⟨(.type "function"), none, (.func f1269), #[]⟩
@[reducible] noncomputable def f1276 : FuncData := mkFn (S "Scope.resolve") .none (.ref 1275) (.str (S "gateloom.scopes") 1935) (st := cst 163 7) rfl
noncomputable def x1276 (P : Params) : Obj := ⟨(.type "function"), none, (.func f1276), #[]⟩
@[reducible] noncomputable def f1283 : FuncData := mkFn (S "Scope.answers_to") .none (.ref 1282) (.str (S "gateloom.scopes") 1935) (st := cst 163 8) rfl
noncomputable def x1283 (P : Params) : Obj := ⟨(.type "function"), none, (.func f1283), #[]⟩
@[reducible] noncomputable def f1304 : FuncData := mkFn (S "Primitive.__init__") .none (.ref 1303) (.str (S "gateloom.udps") 2054) (st := cst 165 0) rfl
noncomputable def x1304 (P : Params) : Obj := ⟨(.type "function"), none, (.func f1304), #[]⟩
@[reducible] noncomputable def f1318 : FuncData := mkFn (S "_law_row") .none (.ref 1317) (.str (S "law_ok0100_01") 2097) (st := stm 167) rfl
noncomputable def x1318 (P : Params) : Obj := ⟨(.type "function"), none, (.func f1318), #[]⟩
@[reducible] noncomputable def f1325 : FuncData := mkFn (S "_law_next") .none (.ref 1324) (.str (S "law_ok0100_01") 2097) (st := stm 168) rfl
noncomputable def x1325 (P : Params) : Obj := ⟨(.type "function"), none, (.func f1325), #[]⟩
@[reducible] noncomputable def f1332 : FuncData := mkFn (S "_law_number") .none (.ref 1331) (.str (S "law_ok0100_01") 2097) (st := stm 169) rfl
noncomputable def x1332 (P : Params) : Obj := ⟨(.type "function"), none, (.func f1332), #[]⟩
@[reducible] noncomputable def f1339 : FuncData := mkFn (S "_law_item") .none (.ref 1338) (.str (S "law_ok0100_01") 2097) (st := stm 170) rfl
noncomputable def x1339 (P : Params) : Obj := ⟨(.type "function"), none, (.func f1339), #[]⟩
@[reducible] noncomputable def f1346 : FuncData := mkFn (S "_law_kept") .none (.ref 1345) (.str (S "law_ok0100_01") 2097) (st := stm 171) rfl
noncomputable def x1346 (P : Params) : Obj := ⟨(.type "function"), none, (.func f1346), #[]⟩
@[reducible] noncomputable def f1351 : FuncData := mkFn (S "law") .none (.ref 1350) (.str (S "law_ok0100_01") 2097) (st := stm 172) rfl
noncomputable def x1351 (P : Params) : Obj := ⟨(.type "function"), none, (.func f1351), #[]⟩
noncomputable def KX (P : Params) : Frag := (nat_lit 0, b0_0 P) :: (nat_lit 2, b1_2 P) :: (nat_lit 3, b18_3 P) :: (nat_lit 4, b0_4 P) :: (nat_lit 12, b18_12 P) :: (nat_lit 13, b0_13 P) :: (nat_lit 38, b1_38 P) :: (nat_lit 39, b2_39 P) :: (nat_lit 252, b5_252 P) :: (nat_lit 253, b10_253 P) :: (nat_lit 29, k29 P) :: (nat_lit 31, k31 P) :: (nat_lit 35, k35 P) :: (nat_lit 36, x36 P) :: (nat_lit 37, k37 P) :: (nat_lit 40, k40 P) :: (nat_lit 50, k50 P) :: (nat_lit 51, k51 P) :: (nat_lit 52, k52 P) :: (nat_lit 68, k68 P) :: (nat_lit 72, k72 P) :: (nat_lit 73, x73 P) :: (nat_lit 74, k74 P) :: (nat_lit 76, k76 P) :: (nat_lit 80, k80 P) :: (nat_lit 81, x81 P) :: (nat_lit 153, k153 P) :: (nat_lit 157, k157 P) :: (nat_lit 158, x158 P) :: (nat_lit 817, k817 P) :: (nat_lit 821, k821 P) :: (nat_lit 822, x822 P) :: (nat_lit 824, k824 P) :: (nat_lit 828, k828 P) :: (nat_lit 829, x829 P) :: (nat_lit 831, k831 P) :: (nat_lit 835, k835 P) :: (nat_lit 836, x836 P) :: (nat_lit 838, k838 P) :: (nat_lit 842, k842 P) :: (nat_lit 843, x843 P) :: (nat_lit 901, k901 P) :: (nat_lit 905, k905 P) :: (nat_lit 906, x906 P) :: (nat_lit 908, k908 P) :: (nat_lit 912, k912 P) :: (nat_lit 913, x913 P) :: (nat_lit 929, k929 P) :: (nat_lit 933, k933 P) :: (nat_lit 934, x934 P) :: (nat_lit 957, k957 P) :: (nat_lit 961, k961 P) :: (nat_lit 962, x962 P) :: (nat_lit 964, k964 P) :: (nat_lit 968, k968 P) :: (nat_lit 969, x969 P) :: (nat_lit 1034, k1034 P) :: (nat_lit 1038, k1038 P) :: (nat_lit 1039, x1039 P) :: (nat_lit 1055, k1055 P) :: (nat_lit 1059, k1059 P) :: (nat_lit 1060, x1060 P) :: (nat_lit 1062, k1062 P) :: (nat_lit 1066, k1066 P) :: (nat_lit 1067, x1067 P) :: (nat_lit 1076, k1076 P) :: (nat_lit 1080, k1080 P) :: (nat_lit 1081, x1081 P) :: (nat_lit 1083, k1083 P) :: (nat_lit 1087, k1087 P) :: (nat_lit 1088, x1088 P) :: (nat_lit 1097, k1097 P) :: (nat_lit 1099, k1099 P) :: (nat_lit 1100, x1100 P) :: (nat_lit 1102, k1102 P) :: (nat_lit 1104, k1104 P) :: (nat_lit 1105, x1105 P) :: (nat_lit 1107, k1107 P) :: (nat_lit 1109, k1109 P) :: (nat_lit 1110, x1110 P) :: (nat_lit 1112, k1112 P) :: (nat_lit 1116, k1116 P) :: (nat_lit 1117, x1117 P) :: (nat_lit 1119, k1119 P) :: (nat_lit 1123, k1123 P) :: (nat_lit 1124, x1124 P) :: (nat_lit 1126, k1126 P) :: (nat_lit 1130, k1130 P) :: (nat_lit 1131, x1131 P) :: (nat_lit 1133, k1133 P) :: (nat_lit 1135, k1135 P) :: (nat_lit 1136, x1136 P) :: (nat_lit 1138, k1138 P) :: (nat_lit 1142, k1142 P) :: (nat_lit 1143, x1143 P) :: (nat_lit 1145, k1145 P) :: (nat_lit 1149, k1149 P) :: (nat_lit 1150, x1150 P) :: (nat_lit 1159, k1159 P) :: (nat_lit 1163, k1163 P) :: (nat_lit 1164, x1164 P) :: (nat_lit 1166, k1166 P) :: (nat_lit 1170, k1170 P) :: (nat_lit 1171, x1171 P) :: (nat_lit 1173, k1173 P) :: (nat_lit 1177, k1177 P) :: (nat_lit 1178, x1178 P) :: (nat_lit 1180, k1180 P) :: (nat_lit 1184, k1184 P) :: (nat_lit 1185, x1185 P) :: (nat_lit 1187, k1187 P) :: (nat_lit 1191, k1191 P) :: (nat_lit 1192, x1192 P) :: (nat_lit 1194, k1194 P) :: (nat_lit 1198, k1198 P) :: (nat_lit 1199, x1199 P) :: (nat_lit 1201, k1201 P) :: (nat_lit 1205, k1205 P) :: (nat_lit 1206, x1206 P) :: (nat_lit 1207, k1207 P) :: (nat_lit 1208, k1208 P) :: (nat_lit 1209, k1209 P) :: (nat_lit 1210, k1210 P) :: (nat_lit 1211, k1211 P) :: (nat_lit 1222, k1222 P) :: (nat_lit 1226, k1226 P) :: (nat_lit 1227, x1227 P) :: (nat_lit 1229, k1229 P) :: (nat_lit 1233, k1233 P) :: (nat_lit 1234, x1234 P) :: (nat_lit 1236, k1236 P) :: (nat_lit 1240, k1240 P) :: (nat_lit 1241, x1241 P) :: (nat_lit 1243, k1243 P) :: (nat_lit 1247, k1247 P) :: (nat_lit 1248, x1248 P) :: (nat_lit 1250, k1250 P) :: (nat_lit 1254, k1254 P) :: (nat_lit 1255, x1255 P) :: (nat_lit 1257, k1257 P) :: (nat_lit 1261, k1261 P) :: (nat_lit 1262, x1262 P) :: (nat_lit 1264, k1264 P) :: (nat_lit 1268, k1268 P) :: (nat_lit 1269, x1269 P) :: (nat_lit 1271, k1271 P) :: (nat_lit 1275, k1275 P) :: (nat_lit 1276, x1276 P) :: (nat_lit 1278, k1278 P) :: (nat_lit 1282, k1282 P) :: (nat_lit 1283, x1283 P) :: (nat_lit 1284, k1284 P) :: (nat_lit 1285, k1285 P) :: (nat_lit 1286, k1286 P) :: (nat_lit 1287, k1287 P) :: (nat_lit 1288, k1288 P) :: (nat_lit 1299, k1299 P) :: (nat_lit 1303, k1303 P) :: (nat_lit 1304, x1304 P) :: (nat_lit 1305, k1305 P) :: (nat_lit 1306, k1306 P) :: (nat_lit 1307, k1307 P) :: (nat_lit 1308, k1308 P) :: (nat_lit 1309, k1309 P) :: (nat_lit 1313, k1313 P) :: (nat_lit 1317, k1317 P) :: (nat_lit 1318, x1318 P) :: (nat_lit 1320, k1320 P) :: (nat_lit 1324, k1324 P) :: (nat_lit 1325, x1325 P) :: (nat_lit 1327, k1327 P) :: (nat_lit 1331, k1331 P) :: (nat_lit 1332, x1332 P) :: (nat_lit 1334, k1334 P) :: (nat_lit 1338, k1338 P) :: (nat_lit 1339, x1339 P) :: (nat_lit 1341, k1341 P) :: (nat_lit 1345, k1345 P) :: (nat_lit 1346, x1346 P) :: (nat_lit 1350, k1350 P) :: (nat_lit 1351, x1351 P) :: (nat_lit 1, boot_o_1 P) :: (nat_lit 5, boot_o_5 P) :: (nat_lit 6, boot_o_6 P) :: []
theorem kx_look (P : Params) : (KX P).map (fun p => (KQ P).lookup p.1) = (KX P).map (fun p => some p.2) := by kernel_rfl
theorem kx_in {P : Params} {H : Heap} (x : (KQ P).In H) : (KX P).In H := fun a o h => x a o (List.map_inj_left.mp (kx_look P) (a, o) (lookup_mem h))
end Mine
end
section
open PySem PySem.W PyProof.Rows PySem.Calls
set_option maxRecDepth 100000
set_option maxHeartbeats 0
set_option Elab.async false
set_option compiler.extract_closed false
set_option compiler.reuse false
set_option linter.unusedVariables false
namespace Mine
theorem cl0 {g r : Prop} (h : g ∧ r) : g := h.1
theorem cl1 {a0 g r : Prop} (h : a0 ∧ g ∧ r) : g := h.2.1
theorem cr1 {a0 g : Prop} (h : a0 ∧ g) : g := h.2
theorem cl2 {a0 a1 g r : Prop} (h : a0 ∧ a1 ∧ g ∧ r) : g := h.2.2.1
theorem cr2 {a0 a1 g : Prop} (h : a0 ∧ a1 ∧ g) : g := h.2.2
theorem cl3 {a0 a1 a2 g r : Prop} (h : a0 ∧ a1 ∧ a2 ∧ g ∧ r) : g := h.2.2.2.1
theorem cr3 {a0 a1 a2 g : Prop} (h : a0 ∧ a1 ∧ a2 ∧ g) : g := h.2.2.2
theorem cl4 {a0 a1 a2 a3 g r : Prop} (h : a0 ∧ a1 ∧ a2 ∧ a3 ∧ g ∧ r) : g := h.2.2.2.2.1
theorem cr4 {a0 a1 a2 a3 g : Prop} (h : a0 ∧ a1 ∧ a2 ∧ a3 ∧ g) : g := h.2.2.2.2
theorem cl5 {a0 a1 a2 a3 a4 g r : Prop} (h : a0 ∧ a1 ∧ a2 ∧ a3 ∧ a4 ∧ g ∧ r) : g := h.2.2.2.2.2.1
theorem cr5 {a0 a1 a2 a3 a4 g : Prop} (h : a0 ∧ a1 ∧ a2 ∧ a3 ∧ a4 ∧ g) : g := h.2.2.2.2.2
theorem cl6 {a0 a1 a2 a3 a4 a5 g r : Prop} (h : a0 ∧ a1 ∧ a2 ∧ a3 ∧ a4 ∧ a5 ∧ g ∧ r) : g := h.2.2.2.2.2.2.1
theorem cr6 {a0 a1 a2 a3 a4 a5 g : Prop} (h : a0 ∧ a1 ∧ a2 ∧ a3 ∧ a4 ∧ a5 ∧ g) : g := h.2.2.2.2.2.2
theorem cl7 {a0 a1 a2 a3 a4 a5 a6 g r : Prop} (h : a0 ∧ a1 ∧ a2 ∧ a3 ∧ a4 ∧ a5 ∧ a6 ∧ g ∧ r) : g := h.2.2.2.2.2.2.2.1
theorem cr7 {a0 a1 a2 a3 a4 a5 a6 g : Prop} (h : a0 ∧ a1 ∧ a2 ∧ a3 ∧ a4 ∧ a5 ∧ a6 ∧ g) : g := h.2.2.2.2.2.2.2
theorem cl8 {a0 a1 a2 a3 a4 a5 a6 a7 g r : Prop} (h : a0 ∧ a1 ∧ a2 ∧ a3 ∧ a4 ∧ a5 ∧ a6 ∧ a7 ∧ g ∧ r) : g := h.2.2.2.2.2.2.2.2.1
theorem cr8 {a0 a1 a2 a3 a4 a5 a6 a7 g : Prop} (h : a0 ∧ a1 ∧ a2 ∧ a3 ∧ a4 ∧ a5 ∧ a6 ∧ a7 ∧ g) : g := h.2.2.2.2.2.2.2.2
theorem cl9 {a0 a1 a2 a3 a4 a5 a6 a7 a8 g r : Prop} (h : a0 ∧ a1 ∧ a2 ∧ a3 ∧ a4 ∧ a5 ∧ a6 ∧ a7 ∧ a8 ∧ g ∧ r) : g := h.2.2.2.2.2.2.2.2.2.1
theorem cr9 {a0 a1 a2 a3 a4 a5 a6 a7 a8 g : Prop} (h : a0 ∧ a1 ∧ a2 ∧ a3 ∧ a4 ∧ a5 ∧ a6 ∧ a7 ∧ a8 ∧ g) : g := h.2.2.2.2.2.2.2.2.2
theorem cl10 {a0 a1 a2 a3 a4 a5 a6 a7 a8 a9 g r : Prop} (h : a0 ∧ a1 ∧ a2 ∧ a3 ∧ a4 ∧ a5 ∧ a6 ∧ a7 ∧ a8 ∧ a9 ∧ g ∧ r) : g := h.2.2.2.2.2.2.2.2.2.2.1
theorem cr10 {a0 a1 a2 a3 a4 a5 a6 a7 a8 a9 g : Prop} (h : a0 ∧ a1 ∧ a2 ∧ a3 ∧ a4 ∧ a5 ∧ a6 ∧ a7 ∧ a8 ∧ a9 ∧ g) : g := h.2.2.2.2.2.2.2.2.2.2
theorem cl11 {a0 a1 a2 a3 a4 a5 a6 a7 a8 a9 a10 g r : Prop} (h : a0 ∧ a1 ∧ a2 ∧ a3 ∧ a4 ∧ a5 ∧ a6 ∧ a7 ∧ a8 ∧ a9 ∧ a10 ∧ g ∧ r) : g := h.2.2.2.2.2.2.2.2.2.2.2.1
theorem cr11 {a0 a1 a2 a3 a4 a5 a6 a7 a8 a9 a10 g : Prop} (h : a0 ∧ a1 ∧ a2 ∧ a3 ∧ a4 ∧ a5 ∧ a6 ∧ a7 ∧ a8 ∧ a9 ∧ a10 ∧ g) : g := h.2.2.2.2.2.2.2.2.2.2.2
theorem cl12 {a0 a1 a2 a3 a4 a5 a6 a7 a8 a9 a10 a11 g r : Prop} (h : a0 ∧ a1 ∧ a2 ∧ a3 ∧ a4 ∧ a5 ∧ a6 ∧ a7 ∧ a8 ∧ a9 ∧ a10 ∧ a11 ∧ g ∧ r) : g := h.2.2.2.2.2.2.2.2.2.2.2.2.1
theorem cr12 {a0 a1 a2 a3 a4 a5 a6 a7 a8 a9 a10 a11 g : Prop} (h : a0 ∧ a1 ∧ a2 ∧ a3 ∧ a4 ∧ a5 ∧ a6 ∧ a7 ∧ a8 ∧ a9 ∧ a10 ∧ a11 ∧ g) : g := h.2.2.2.2.2.2.2.2.2.2.2.2
theorem cl13 {a0 a1 a2 a3 a4 a5 a6 a7 a8 a9 a10 a11 a12 g r : Prop} (h : a0 ∧ a1 ∧ a2 ∧ a3 ∧ a4 ∧ a5 ∧ a6 ∧ a7 ∧ a8 ∧ a9 ∧ a10 ∧ a11 ∧ a12 ∧ g ∧ r) : g := h.2.2.2.2.2.2.2.2.2.2.2.2.2.1
theorem cr13 {a0 a1 a2 a3 a4 a5 a6 a7 a8 a9 a10 a11 a12 g : Prop} (h : a0 ∧ a1 ∧ a2 ∧ a3 ∧ a4 ∧ a5 ∧ a6 ∧ a7 ∧ a8 ∧ a9 ∧ a10 ∧ a11 ∧ a12 ∧ g) : g := h.2.2.2.2.2.2.2.2.2.2.2.2.2
theorem cl14 {a0 a1 a2 a3 a4 a5 a6 a7 a8 a9 a10 a11 a12 a13 g r : Prop} (h : a0 ∧ a1 ∧ a2 ∧ a3 ∧ a4 ∧ a5 ∧ a6 ∧ a7 ∧ a8 ∧ a9 ∧ a10 ∧ a11 ∧ a12 ∧ a13 ∧ g ∧ r) : g := h.2.2.2.2.2.2.2.2.2.2.2.2.2.2.1
theorem cr14 {a0 a1 a2 a3 a4 a5 a6 a7 a8 a9 a10 a11 a12 a13 g : Prop} (h : a0 ∧ a1 ∧ a2 ∧ a3 ∧ a4 ∧ a5 ∧ a6 ∧ a7 ∧ a8 ∧ a9 ∧ a10 ∧ a11 ∧ a12 ∧ a13 ∧ g) : g := h.2.2.2.2.2.2.2.2.2.2.2.2.2.2
theorem mm0 {α : Type} {x : α} {l : List α} : x ∈ x :: l := .head _
theorem mm1 {α : Type} {a0 x : α} {l : List α} : x ∈ a0 :: x :: l := .tail _ mm0
theorem mm2 {α : Type} {a0 a1 x : α} {l : List α} : x ∈ a0 :: a1 :: x :: l := .tail _ mm1
theorem mm3 {α : Type} {a0 a1 a2 x : α} {l : List α} : x ∈ a0 :: a1 :: a2 :: x :: l := .tail _ mm2
theorem mm4 {α : Type} {a0 a1 a2 a3 x : α} {l : List α} : x ∈ a0 :: a1 :: a2 :: a3 :: x :: l := .tail _ mm3
theorem mm5 {α : Type} {a0 a1 a2 a3 a4 x : α} {l : List α} : x ∈ a0 :: a1 :: a2 :: a3 :: a4 :: x :: l := .tail _ mm4
theorem mm6 {α : Type} {a0 a1 a2 a3 a4 a5 x : α} {l : List α} : x ∈ a0 :: a1 :: a2 :: a3 :: a4 :: a5 :: x :: l := .tail _ mm5
theorem mm7 {α : Type} {a0 a1 a2 a3 a4 a5 a6 x : α} {l : List α} : x ∈ a0 :: a1 :: a2 :: a3 :: a4 :: a5 :: a6 :: x :: l := .tail _ mm6
theorem mm8 {α : Type} {a0 a1 a2 a3 a4 a5 a6 a7 x : α} {l : List α} : x ∈ a0 :: a1 :: a2 :: a3 :: a4 :: a5 :: a6 :: a7 :: x :: l := .tail _ mm7
theorem mm9 {α : Type} {a0 a1 a2 a3 a4 a5 a6 a7 a8 x : α} {l : List α} : x ∈ a0 :: a1 :: a2 :: a3 :: a4 :: a5 :: a6 :: a7 :: a8 :: x :: l := .tail _ mm8
theorem mm10 {α : Type} {a0 a1 a2 a3 a4 a5 a6 a7 a8 a9 x : α} {l : List α} : x ∈ a0 :: a1 :: a2 :: a3 :: a4 :: a5 :: a6 :: a7 :: a8 :: a9 :: x :: l := .tail _ mm9
theorem mm11 {α : Type} {a0 a1 a2 a3 a4 a5 a6 a7 a8 a9 a10 x : α} {l : List α} : x ∈ a0 :: a1 :: a2 :: a3 :: a4 :: a5 :: a6 :: a7 :: a8 :: a9 :: a10 :: x :: l := .tail _ mm10
theorem mm12 {α : Type} {a0 a1 a2 a3 a4 a5 a6 a7 a8 a9 a10 a11 x : α} {l : List α} : x ∈ a0 :: a1 :: a2 :: a3 :: a4 :: a5 :: a6 :: a7 :: a8 :: a9 :: a10 :: a11 :: x :: l := .tail _ mm11
theorem mm13 {α : Type} {a0 a1 a2 a3 a4 a5 a6 a7 a8 a9 a10 a11 a12 x : α} {l : List α} : x ∈ a0 :: a1 :: a2 :: a3 :: a4 :: a5 :: a6 :: a7 :: a8 :: a9 :: a10 :: a11 :: a12 :: x :: l := .tail _ mm12
theorem mm14 {α : Type} {a0 a1 a2 a3 a4 a5 a6 a7 a8 a9 a10 a11 a12 a13 x : α} {l : List α} : x ∈ a0 :: a1 :: a2 :: a3 :: a4 :: a5 :: a6 :: a7 :: a8 :: a9 :: a10 :: a11 :: a12 :: a13 :: x :: l := .tail _ mm13
theorem mm15 {α : Type} {a0 a1 a2 a3 a4 a5 a6 a7 a8 a9 a10 a11 a12 a13 a14 x : α} {l : List α} : x ∈ a0 :: a1 :: a2 :: a3 :: a4 :: a5 :: a6 :: a7 :: a8 :: a9 :: a10 :: a11 :: a12 :: a13 :: a14 :: x :: l := .tail _ mm14
theorem mm16 {α : Type} {a0 a1 a2 a3 a4 a5 a6 a7 a8 a9 a10 a11 a12 a13 a14 a15 x : α} {l : List α} : x ∈ a0 :: a1 :: a2 :: a3 :: a4 :: a5 :: a6 :: a7 :: a8 :: a9 :: a10 :: a11 :: a12 :: a13 :: a14 :: a15 :: x :: l := .tail _ mm15
theorem mm17 {α : Type} {a0 a1 a2 a3 a4 a5 a6 a7 a8 a9 a10 a11 a12 a13 a14 a15 a16 x : α} {l : List α} : x ∈ a0 :: a1 :: a2 :: a3 :: a4 :: a5 :: a6 :: a7 :: a8 :: a9 :: a10 :: a11 :: a12 :: a13 :: a14 :: a15 :: a16 :: x :: l := .tail _ mm16
theorem mm18 {α : Type} {a0 a1 a2 a3 a4 a5 a6 a7 a8 a9 a10 a11 a12 a13 a14 a15 a16 a17 x : α} {l : List α} : x ∈ a0 :: a1 :: a2 :: a3 :: a4 :: a5 :: a6 :: a7 :: a8 :: a9 :: a10 :: a11 :: a12 :: a13 :: a14 :: a15 :: a16 :: a17 :: x :: l := .tail _ mm17
theorem mm19 {α : Type} {a0 a1 a2 a3 a4 a5 a6 a7 a8 a9 a10 a11 a12 a13 a14 a15 a16 a17 a18 x : α} {l : List α} : x ∈ a0 :: a1 :: a2 :: a3 :: a4 :: a5 :: a6 :: a7 :: a8 :: a9 :: a10 :: a11 :: a12 :: a13 :: a14 :: a15 :: a16 :: a17 :: a18 :: x :: l := .tail _ mm18
theorem mm20 {α : Type} {a0 a1 a2 a3 a4 a5 a6 a7 a8 a9 a10 a11 a12 a13 a14 a15 a16 a17 a18 a19 x : α} {l : List α} : x ∈ a0 :: a1 :: a2 :: a3 :: a4 :: a5 :: a6 :: a7 :: a8 :: a9 :: a10 :: a11 :: a12 :: a13 :: a14 :: a15 :: a16 :: a17 :: a18 :: a19 :: x :: l := .tail _ mm19
noncomputable abbrev TopM (mean : ExcName → Option Value) (mg mb : Str → Option Value) (h : Heap) : Prop := Top q0 pwO.boundNames mean mg mb h
noncomputable abbrev Led := List (Addr × Obj)
/-- the addresses that may change stand apart -/
noncomputable def Off (adr : List Addr) (l : Led) : Prop := ∀ p ∈ l, ∀ b ∈ adr, p.1 ≠ b
noncomputable def Lt (l : Led) (x : Addr) : Prop := ∀ p ∈ l, p.1 < x
theorem nsub {h₀ h : Heap} {L : Addr} {l l' : Led} (N : News h₀ L h l) (s : ∀ p ∈ l', p ∈ l) : News h₀ L h l' := fun p hp => N p (s p hp)
theorem Off.nil {adr : List Addr} : Off adr [] := fun _ h => nomatch h
theorem Off.cons {adr : List Addr} {l : Led} {p : Addr × Obj} (h : ∀ b ∈ adr, p.1 ≠ b) (r : Off adr l) : Off adr (p :: l) := fun q hq => by
  rcases List.mem_cons.mp hq with rfl | hq
  · exact h
  · exact r q hq
theorem Off.app {adr : List Addr} {l l' : Led} (h : Off adr l) (r : Off adr l') : Off adr (l ++ l') := fun q hq => (List.mem_append.mp hq).elim (h q) (r q)
theorem isL {h₀ h : Heap} {L a : Addr} {news : Led} {vs : List Value} {n : Nat} (N : News h₀ L h news) (hm : (a, listOf vs.toArray n) ∈ news) : h.IsList a vs.toArray := ⟨_, N.get hm, rfl, _, rfl⟩
theorem len_pos {us : List Value} {ns : List Int} (hi : IntsAre us ns) (h : decide (ns = []) = false) : 0 < us.length := by
  cases hi with
  | nil => simp at h
  | cons => exact Nat.succ_pos _
theorem updF_perm {d : Addr} {o : Obj} {l : Led} {g : Obj → Led} (U : UpdF d o l g) : ∃ r : Led, (∀ p, p ∈ (d, o) :: r ↔ p ∈ l) ∧ (∀ p ∈ r, p.1 ≠ d) ∧ ∀ o', ∀ p ∈ g o', p ∈ (d, o') :: r := by
  refine ?mG; exact ((by exact ?mB) : (let_mvar% ?mB := (by (
  obtain ⟨pre, post, hl, hg, h1, h2⟩ := U.split
  refine ⟨pre ++ post, fun p => ?_, fun p hp => (List.mem_append.mp hp).elim (h1 p) (h2 p), fun o' p hp => ?_⟩
  · rw [hl, List.mem_cons, List.mem_append, List.mem_append, List.mem_cons]
    constructor
    · rintro (h | h | h)
      · exact .inr (.inl h)
      · exact .inl h
      · exact .inr (.inr h)
    · rintro (h | h | h)
      · exact .inr (.inl h)
      · exact .inl h
      · exact .inr (.inr h)
  · rw [hg] at hp
    rcases List.mem_append.mp hp with h | h
    · exact .tail _ (List.mem_append_left _ h)
    · rcases List.mem_cons.mp h with rfl | h
      · exact .head _
      · exact .tail _ (List.mem_append_right _ h)
  ) : type_of% ?mG); have _ : True := trivial; type_of% ?mG))
theorem of_allLt {d : Addr} : ∀ {l : Led}, AllLt d l → ∀ p ∈ l, p.1 < d := by
  refine ?mG; exact ((by exact ?mB) : (let_mvar% ?mB := (by (
  intro l
  induction l with
  | nil => intro _ p hp; cases hp
  | cons q r ih =>
    intro h p hp
    rcases List.mem_cons.mp hp with rfl | hp
    · exact h.1
    · exact ih h.2 p hp
  ) : type_of% ?mG); have _ : True := trivial; type_of% ?mG))
theorem two_pow_pos (n : Nat) : (0 : Int) < 2 ^ n := Int.pow_pos (by decide)
noncomputable abbrev tupO (vs : List Value) : Obj := { cls := .type "tuple", data := .seq vs.toArray }
noncomputable abbrev numO (t0 t1 : Tok) (D1 : Addr) (sg : Bool) : Obj := tupO [.str (Str.ofString "num") t0, .int 0 t1, .ref D1, .bool sg, .bool true]
noncomputable abbrev vecO (t2 : Tok) (wd : Int) (t3 : Tok) (vl : Int) (t4 : Tok) : Obj := tupO [.int wd t2, .int vl t3, .int 0 t4]
noncomputable def numD (wd vl : Int) (sg : Bool) : Dat := .tuple [.str (Str.ofString "num"), .int 0, .tuple [.int wd, .int vl, .int 0], .bool sg, .bool true]
/-- the items that the law makes -/
inductive It where
  | inst (x : Str)
  | init
  | blk (o : It)
  | gif (o : It)
  | gif2 (o e : It)
  | gcase (o : It)
  | gfor (o : It)
noncomputable abbrev dS (x : String) : Dat := .str (Str.ofString x)
noncomputable def idD : Dat := .tuple [dS "id", .int 0, dS "n"]
noncomputable def blkD (d : Dat) : Dat := .tuple [dS "genblock", .int 0, .none, .tuple [d]]
noncomputable def It.dat : It → Dat
  | .inst x => .tuple [dS "inst", .int 0, .str x, .tuple [], dS "i", .none, .tuple []]
  | .init => .tuple [dS "initial", .int 0, .none]
  | .blk o => blkD o.dat
  | .gif o => .tuple [dS "genif", .int 0, idD, blkD o.dat, .none]
  | .gif2 o e => .tuple [dS "genif", .int 0, idD, blkD o.dat, e.dat]
  | .gcase o => .tuple [dS "gencase", .int 0, idD, .tuple [.tuple [.tuple [idD], .none], .tuple [.none, o.dat]]]
  | .gfor o => .tuple [dS "genfor", .int 0, dS "g", idD, idD, idD, blkD o.dat]
noncomputable def It.names : It → List Str
  | .inst x => [x]
  | .init => []
  | .blk o => o.names
  | .gif o => o.names
  | .gif2 o e => o.names ++ e.names
  | .gcase o => o.names
  | .gfor o => o.names
noncomputable def It.deep : It → Nat
  | .inst _ => 0
  | .init => 0
  | .blk o => o.deep + 1
  | .gif o => o.deep + 1
  | .gif2 o e => max o.deep e.deep + 1
  | .gcase o => o.deep + 1
  | .gfor o => o.deep + 1
noncomputable def mNames : List Str := [S "m0", S "m1", S "m2", S "m3", S "m4", S "m5", S "u"]
noncomputable def It.ok : It → Prop
  | .inst x => x ∈ mNames
  | .init => True
  | .blk o => o.ok
  | .gif o => o.ok
  | .gif2 o e => o.ok ∧ e.ok
  | .gcase o => o.ok
  | .gfor o => o.ok
theorem It.names_len : ∀ it : It, it.names.length ≤ 2 ^ it.deep := by
  refine ?mG; exact ((by exact ?mB) : (let_mvar% ?mB := (by (
  intro it
  induction it with
  | inst x => exact Nat.le_refl _
  | init => exact Nat.zero_le _
  | blk o ih => exact Nat.le_trans ih (Nat.pow_le_pow_right (by decide) (Nat.le_succ _))
  | gif o ih => exact Nat.le_trans ih (Nat.pow_le_pow_right (by decide) (Nat.le_succ _))
  | gif2 o e ih1 ih2 =>
    show (o.names ++ e.names).length ≤ 2 ^ (max o.deep e.deep + 1)
    rw [List.length_append, Nat.pow_succ]
    have h1 := Nat.le_trans ih1 (Nat.pow_le_pow_right (n := 2) (by decide) (Nat.le_max_left o.deep e.deep))
    have h2 := Nat.le_trans ih2 (Nat.pow_le_pow_right (n := 2) (by decide) (Nat.le_max_right o.deep e.deep))
    omega
  | gcase o ih => exact Nat.le_trans ih (Nat.pow_le_pow_right (by decide) (Nat.le_succ _))
  | gfor o ih => exact Nat.le_trans ih (Nat.pow_le_pow_right (by decide) (Nat.le_succ _))
  ) : type_of% ?mG); have _ : True := trivial; type_of% ?mG))
theorem lk1339 (P) : (KX P).lookup 1339 = some ⟨.type "function", none, .func f1339, #[]⟩ := by kernel_rfl
theorem datStrs_get {news : Led} : ∀ {vs : List Value} {xs : List Str}, DatAll news vs (xs.map Dat.str) → ∀ k, k < xs.length → ∃ x t, vs[k]? = some (.str x t) ∧ x ∈ xs := by
  refine ?mG; exact ((by exact ?mB) : (let_mvar% ?mB := (by (
  intro vs xs h k hk
  have h1 : k < (xs.map Dat.str).length := by rw [List.length_map]; exact hk
  obtain ⟨v, e1, e2⟩ := h.get h1
  rw [List.getElem_map] at e2
  cases e2 with
  | str _ t => exact ⟨_, t, e1, List.getElem_mem _⟩
  ) : type_of% ?mG); have _ : True := trivial; type_of% ?mG))
section
variable {prog : Program} {w : World} {A : Around} {E : Value → Shared → Prop} {s : Shared} {h₀ : Heap} {L a : Addr} {news : Led} {vs : List Value} {xs : List Str} {n : Nat} {k : Int} {u : Tok} {Q : Value → Shared → Prop}
theorem pick_str {value slice : Expr} (N : News h₀ L s.heap news) (hm : (a, listOf vs.toArray n) ∈ news) (hv : DatAll news vs (xs.map Dat.str)) (lo : 0 ≤ k) (hi : k < xs.length) (hs63 : (xs.length : Int) ≤ 2 ^ 63)
    (h : ∀ x t, x ∈ xs → Q (.str x t) s)
    (hs : subscripted slice false (.ref a) (.int k u) = operate [.ref a, .int k u] (getItem (.ref a) (.int k u)) := by with_unfolding_all rfl) :
    wpAny (model prog w) A (subscriptTail value slice (.ref a) (.int k u)) Q E s := by
  have hL := isL N hm
  obtain ⟨x, t, e, hx⟩ := datStrs_get hv k.toNat (by omega)
  exact tail_any hL.typeIs slot_list_getitem.lookup (wpAny_getItem_list hL lo (by omega) (by simpa using e) (h x t hx)) hs
end
noncomputable def OffP (row used : Addr) (mo rest : Led) : Prop := (∀ p ∈ mo ++ rest, p.1 ≠ row) ∧ (∀ p ∈ mo ++ rest, p.1 ≠ used) ∧ ∀ b ∈ mo.map Prod.fst, ∀ p ∈ rest, p.1 ≠ b
theorem item_fin {row used : Addr} {mo rest new : Led} (o : OffP row used mo rest)
    (hn : ∀ q ∈ new, @LT.lt Nat _ row q.1 ∧ @LT.lt Nat _ used q.1 ∧ ∀ p ∈ mo, @LT.lt Nat _ p.1 q.1) : OffP row used mo (new ++ rest) := by
  refine ?mG; exact ((by exact ?mB) : (let_mvar% ?mB := (by (
  obtain ⟨h1, h2, h3⟩ := o
  refine ⟨fun p hp => ?_, fun p hp => ?_, fun b hb p hp => ?_⟩
  · rcases List.mem_append.mp hp with h | h
    · exact h1 p (List.mem_append_left _ h)
    · rcases List.mem_append.mp h with h | h
      · exact Nat.ne_of_gt (hn p h).1
      · exact h1 p (List.mem_append_right _ h)
  · rcases List.mem_append.mp hp with h | h
    · exact h2 p (List.mem_append_left _ h)
    · rcases List.mem_append.mp h with h | h
      · exact Nat.ne_of_gt (hn p h).2.1
      · exact h2 p (List.mem_append_right _ h)
  · rcases List.mem_append.mp hp with h | h
    · obtain ⟨q, hq, e⟩ := List.mem_map.mp hb
      have := (hn p h).2.2 q hq
      rw [e] at this
      exact Nat.ne_of_gt this
    · exact h3 b hb p h
  ) : type_of% ?mG); have _ : True := trivial; type_of% ?mG))
theorem moLt {x : Addr} {mo rest : Led} (h : AllLt x (mo ++ rest)) : ∀ p ∈ mo, @LT.lt Nat _ p.1 x := fun p hp => of_allLt h p (List.mem_append_left _ hp)
/-- the ledger with the new things put behind -/
theorem put_back {row used : Addr} {R V : Obj} {mo rest new : Led} : ∀ p ∈ (row, R) :: (used, V) :: (mo ++ (new ++ rest)), p ∈ new ++ (row, R) :: (used, V) :: (mo ++ rest) := by
  refine ?mG; exact ((by exact ?mB) : (let_mvar% ?mB := (by (
  intro p hp
  rcases List.mem_cons.mp hp with rfl | hp
  · exact List.mem_append_right _ (.head _)
  · rcases List.mem_cons.mp hp with rfl | hp
    · exact List.mem_append_right _ mm1
    · rcases List.mem_append.mp hp with hp | hp
      · exact List.mem_append_right _ (.tail _ (.tail _ (List.mem_append_left _ hp)))
      · rcases List.mem_append.mp hp with hp | hp
        · exact List.mem_append_left _ hp
        · exact List.mem_append_right _ (.tail _ (.tail _ (List.mem_append_right _ hp)))
  ) : type_of% ?mG); have _ : True := trivial; type_of% ?mG))
theorem dat_inst {l : Led} {D3 D1 D2 : Addr} {t0 t1 t2 : Tok} {x : Str} {tx : Tok} (m3 : (D3, tupO [.str (Str.ofString "inst") t0, .int 0 t1, .str x tx, .ref D2, .str (Str.ofString "i") t2, .none, .ref D1]) ∈ l) (m1 : (D1, tupO []) ∈ l) (m2 : (D2, tupO []) ∈ l) :
    DatIn l (.ref D3) (It.dat (.inst x)) := .tuple m3 (.cons (.str _ _) (.cons (.int _ _) (.cons (.str _ _) (.cons (.tuple m2 .nil) (.cons (.str _ _) (.cons .none (.cons (.tuple m1 .nil) .nil)))))))
theorem dat_init {l : Led} {D : Addr} {t0 t1 : Tok} (m : (D, tupO [.str (Str.ofString "initial") t0, .int 0 t1, .none]) ∈ l) : DatIn l (.ref D) (It.dat .init) := .tuple m (.cons (.str _ _) (.cons (.int _ _) (.cons .none .nil)))
theorem used_put {vs : List Value} {xs : List Str} {x : Str} {tx : Tok} (h : DatAll [] vs (xs.map Dat.str)) : DatAll [] (vs ++ [.str x tx]) ((xs ++ [x]).map Dat.str) := by
  rw [List.map_append]; exact h.append (.one (.str _ _))
theorem skip3 {a b c j : Addr × Obj} {l : Led} : ∀ p ∈ [a, b, c] ++ l, p ∈ a :: b :: c :: j :: l := by
  refine ?mG; exact ((by exact ?mB) : (let_mvar% ?mB := (by (
  intro p hp
  simp only [List.cons_append, List.nil_append, List.mem_cons] at hp ⊢
  rcases hp with h | h | h | h
  · exact .inl h
  · exact .inr (.inl h)
  · exact .inr (.inr (.inl h))
  · exact .inr (.inr (.inr (.inr h)))
  ) : type_of% ?mG); have _ : True := trivial; type_of% ?mG))
section
variable {l : Led} {r r2 : Value} {it it2 : It} {A1 A2 A3 A4 A5 A6 A7 A8 A9 : Addr} {t0 t1 t2 : Tok}
theorem dat_id (m : (A1, tupO [.str (Str.ofString "id") t0, .int 0 t1, .str (Str.ofString "n") t2]) ∈ l) : DatIn l (.ref A1) idD := .tuple m (.cons (.str _ _) (.cons (.int _ _) (.cons (.str _ _) .nil)))
theorem dat_blk (m2 : (A2, tupO [.str (Str.ofString "genblock") t0, .int 0 t1, .none, .ref A1]) ∈ l) (m1 : (A1, tupO [r]) ∈ l) (h : DatIn l r it.dat) : DatIn l (.ref A2) (blkD it.dat) :=
  .tuple m2 (.cons (.str _ _) (.cons (.int _ _) (.cons .none (.cons (.tuple m1 (.cons h .nil)) .nil))))
theorem dat_gif (m : (A3, tupO [.str (Str.ofString "genif") t0, .int 0 t1, .ref A1, .ref A2, .none]) ∈ l) (h1 : DatIn l (.ref A1) idD) (h2 : DatIn l (.ref A2) (blkD it.dat)) : DatIn l (.ref A3) (It.dat (.gif it)) :=
  .tuple m (.cons (.str _ _) (.cons (.int _ _) (.cons h1 (.cons h2 (.cons .none .nil)))))
theorem dat_gif2 (m : (A3, tupO [.str (Str.ofString "genif") t0, .int 0 t1, .ref A1, .ref A2, r2]) ∈ l) (h1 : DatIn l (.ref A1) idD) (h2 : DatIn l (.ref A2) (blkD it.dat)) (h3 : DatIn l r2 it2.dat) : DatIn l (.ref A3) (It.dat (.gif2 it it2)) :=
  .tuple m (.cons (.str _ _) (.cons (.int _ _) (.cons h1 (.cons h2 (.cons h3 .nil)))))
theorem dat_gcase (m : (A9, tupO [.str (Str.ofString "gencase") t0, .int 0 t1, .ref A1, .ref A2]) ∈ l) (h1 : DatIn l (.ref A1) idD) (m2 : (A2, tupO [.ref A3, .ref A4]) ∈ l) (m3 : (A3, tupO [.ref A5, .none]) ∈ l) (m5 : (A5, tupO [.ref A6]) ∈ l) (h6 : DatIn l (.ref A6) idD)
    (m4 : (A4, tupO [.none, r]) ∈ l) (h : DatIn l r it.dat) : DatIn l (.ref A9) (It.dat (.gcase it)) :=
  .tuple m (.cons (.str _ _) (.cons (.int _ _) (.cons h1 (.cons (.tuple m2 (.cons (.tuple m3 (.cons (.tuple m5 (.cons h6 .nil)) (.cons .none .nil))) (.cons (.tuple m4 (.cons .none (.cons h .nil))) .nil))) .nil))))
theorem dat_gfor (m : (A9, tupO [.str (Str.ofString "genfor") t0, .int 0 t1, .str (Str.ofString "g") t2, .ref A1, .ref A2, .ref A3, .ref A4]) ∈ l) (h1 : DatIn l (.ref A1) idD) (h2 : DatIn l (.ref A2) idD) (h3 : DatIn l (.ref A3) idD) (h4 : DatIn l (.ref A4) (blkD it.dat)) :
    DatIn l (.ref A9) (It.dat (.gfor it)) := .tuple m (.cons (.str _ _) (.cons (.int _ _) (.cons (.str _ _) (.cons h1 (.cons h2 (.cons h3 (.cons h4 .nil)))))))
theorem dat_up {new rest : Led} {d : Dat} (h : DatIn rest r d) : DatIn (new ++ rest) r d := h.mono fun p hp => List.mem_append_right _ hp
end
noncomputable def ItemC (w : World) (d : Int) : Prop :=
  ∀ {mean : ExcName → Option Value} {mg mb : Str → Option Value} {dp un : Nat} {gd : Option (List Code)} {cn : Str} {cs : Scope} {a : Addr} {ccd : Value} {cl : List (Str × Addr)} {A₀ : Around} {outer : List Env} {base h₀ : Heap} {L : Addr} {m : Str → Option Value} {s : Shared} {Q E : Value → Shared → Prop}
    {row used : Addr} {us : List Value} {ns : List Int} {n n2 : Nat} {vs : List Value} {xs : List Str} {d' : Int} {t : Tok} {mo rest : Led}
    (_ : Below A₀ base outer h₀) (_ : Fr h₀ L s.heap m) (_ : (KX w.params).In h₀) (_ : News h₀ L s.heap ((row, listOf us.toArray n) :: (used, listOf vs.toArray n2) :: (mo ++ rest))) (_ : TopM mean mg mb h₀)
    (_ : cs.kind = .function) (_ : dp + 8 + 2 * d.toNat < recursionLimit) (_ : un + 300 + 20 * d.toNat < cLine) (_ : d' = d)
    (_ : IntsAre us ns) (_ : us.length ≤ 200) (_ : DatAll [] vs (xs.map Dat.str)) (_ : vs.length + 2 ^ d.toNat ≤ 900) (_ : row ≠ used) (_ : OffP row used mo rest)
    (_ : ∀ r rest' us' ns' n' vs' n2' it h' tk', Fr h₀ L h' m → News h₀ L h' ((row, listOf us'.toArray n') :: (used, listOf vs'.toArray n2') :: (mo ++ rest')) → (∀ p ∈ rest, p ∈ rest') →
      OffP row used mo rest' → DatIn rest' r (It.dat it) → it.ok → (it.deep : Int) ≤ d → IntsAre us' ns' → us'.length ≤ 200 →
      DatAll [] vs' ((xs ++ it.names).map Dat.str) → Q r { s with heap := h', toks := tk' }),
    wpAny (model pwO w) (ktrTop dp un gd cn cs L a ccd cl outer) (call (.ref 1339) [.ref row, .int d' t, .ref used]) Q E s
theorem deepS {a : Nat} {d : Int} (h : (a : Int) ≤ d) : ((a + 1 : Nat) : Int) ≤ d + 1 := by omega
theorem deepM {a b : Nat} {d : Int} (h : (a : Int) ≤ d) (k : (b : Int) ≤ d) : ((max a b + 1 : Nat) : Int) ≤ d + 1 := by omega
theorem fm (x k : Int) (h : 0 < k) : 0 ≤ x.fmod k ∧ x.fmod k < k := ⟨fmod_lo x h, fmod_hi x h⟩
theorem len2 {d : Int} {vs vs' : List Value} {xs : List Str} {it : It} (h : DatAll [] vs (xs.map Dat.str)) (h' : DatAll [] vs' ((xs ++ it.names).map Dat.str)) (hd : (it.deep : Int) ≤ d) : vs'.length ≤ vs.length + 2 ^ d.toNat := by
  refine ?mG; exact ((by exact ?mB) : (let_mvar% ?mB := (by (
  have h1 := h.length
  have h2 := h'.length
  rw [List.length_map] at h1 h2
  rw [List.length_append] at h2
  have h3 := Nat.le_trans it.names_len (Nat.pow_le_pow_right (n := 2) (by decide) (show it.deep ≤ d.toNat by omega))
  omega
  ) : type_of% ?mG); have _ : True := trivial; type_of% ?mG))
theorem allHn {row used : Addr} {mo : Led} {q : Addr × Obj} {l : Led} (a : @LT.lt Nat _ row q.1) (b : @LT.lt Nat _ used q.1) (c : ∀ p ∈ mo, @LT.lt Nat _ p.1 q.1) (r : ∀ q ∈ l, @LT.lt Nat _ row q.1 ∧ @LT.lt Nat _ used q.1 ∧ ∀ p ∈ mo, @LT.lt Nat _ p.1 q.1) :
    ∀ z ∈ q :: l, @LT.lt Nat _ row z.1 ∧ @LT.lt Nat _ used z.1 ∧ ∀ p ∈ mo, @LT.lt Nat _ p.1 z.1 := List.forall_mem_cons.mpr ⟨⟨a, b, c⟩, r⟩
section
variable {w : World} {d : Int} {mean : ExcName → Option Value} {mg mb : Str → Option Value} {dp un : Nat} {gd : Option (List Code)} {cn : Str} {cs : Scope} {a : Addr} {ccd : Value} {cl : List (Str × Addr)} {A₀ : Around} {outer : List Env} {base h₀ : Heap} {L : Addr} {m : Str → Option Value} {s : Shared} {Q E : Value → Shared → Prop}
    {row used : Addr} {us : List Value} {ns : List Int} {n n2 : Nat} {vs : List Value} {xs : List Str} {d' : Int} {t : Tok} {mo rest : Led}
theorem item_p (C : ItemC w d) (pre : Led) (B : Below A₀ base outer h₀) (F : Fr h₀ L s.heap m) (X : (KX w.params).In h₀) (N : News h₀ L s.heap (pre ++ (row, listOf us.toArray n) :: (used, listOf vs.toArray n2) :: (mo ++ rest))) (T : TopM mean mg mb h₀)
    (hk : cs.kind = .function) (hd : dp + 8 + 2 * d.toNat < recursionLimit) (hu : un + 300 + 20 * d.toNat < cLine) (hdd : d' = d)
    (hi : IntsAre us ns) (hl : us.length ≤ 200) (hv : DatAll [] vs (xs.map Dat.str)) (hvl : vs.length + 2 ^ d.toNat ≤ 900) (hru : row ≠ used) (hoff : OffP row used mo rest)
    (hpre : ∀ q ∈ pre, @LT.lt Nat _ row q.1 ∧ @LT.lt Nat _ used q.1 ∧ ∀ p ∈ mo, @LT.lt Nat _ p.1 q.1)
    (ret : ∀ r rest' us' ns' n' vs' n2' it h' tk', Fr h₀ L h' m → News h₀ L h' (pre ++ (row, listOf us'.toArray n') :: (used, listOf vs'.toArray n2') :: (mo ++ rest')) → (∀ p ∈ rest, p ∈ rest') →
      OffP row used mo rest' → DatIn rest' r (It.dat it) → it.ok → (it.deep : Int) ≤ d → IntsAre us' ns' → us'.length ≤ 200 →
      DatAll [] vs' ((xs ++ it.names).map Dat.str) → vs'.length ≤ vs.length + 2 ^ d.toNat → Q r { s with heap := h', toks := tk' }) :
    wpAny (model pwO w) (ktrTop dp un gd cn cs L a ccd cl outer) (call (.ref 1339) [.ref row, .int d' t, .ref used]) Q E s :=
  C B F X (nsub N put_back) T hk hd hu hdd hi hl hv hvl hru (item_fin hoff hpre) fun r rest' us' ns' n' vs' n2' it h' tk' F' N' hs o hD ok hdp i l hv' =>
    ret r rest' us' ns' n' vs' n2' it h' tk' F' (nsub N' fun p hp => by
      rcases List.mem_append.mp hp with hp | hp
      · exact .tail _ (.tail _ (List.mem_append_right _ (hs p (List.mem_append_left _ hp))))
      · exact hp) (fun p hp => hs p (List.mem_append_right _ hp)) o hD ok hdp i l hv' (len2 hv hv' hdp)
end
noncomputable def nextV (ns : List Int) : Int := ns.getLastD 0
theorem lk1325 (P) : (KX P).lookup 1325 = some ⟨.type "function", none, .func f1325, #[]⟩ := by kernel_rfl
theorem lk1332 (P) : (KX P).lookup 1332 = some ⟨.type "function", none, .func f1332, #[]⟩ := by kernel_rfl
theorem ne_gt {a b : Nat} (h : b < a) : a ≠ b := Nat.ne_of_gt h
theorem ne_lt {a b : Nat} (h : a < b) : a ≠ b := Nat.ne_of_lt h
theorem ne_up {L r k : Nat} (h : L + 7 < r) (e : Nat.ble k 7 = true) : L + k ≠ r := Nat.ne_of_lt (Nat.lt_of_le_of_lt (Nat.add_le_add_left (Nat.le_of_ble_eq_true e) L) h)
theorem ne_48 {L r : Nat} (h : 1348 < L) (g : L + 7 < r) : 1348 ≠ r := Nat.ne_of_lt (Nat.lt_trans h (Nat.lt_of_le_of_lt (Nat.le_add_right L 7) g))
theorem ne_4k {L k : Nat} (h : 1348 < L) : 1348 ≠ L + k := Nat.ne_of_lt (Nat.lt_of_lt_of_le h (Nat.le_add_right L k))
theorem ne_add {L j k : Nat} (e : Nat.beq j k = false) : L + j ≠ L + k := fun h => Nat.ne_of_beq_eq_false e (Nat.add_left_cancel h)
theorem ne_aj (j : Nat) {L k : Nat} (e : Nat.beq j k = false) : L + j ≠ L + k := ne_add e
theorem ne_uj (j : Nat) {L r : Nat} (h : L + 7 < r) (e : Nat.ble j 7 = true) : L + j ≠ r := ne_up h e
theorem ne_4j (j : Nat) {L : Nat} (h : 1348 < L) : 1348 ≠ L + j := ne_4k h
theorem small_zero {n : Nat} (h : n ≤ 1000) : Builtin.Range.small 0 n 1 = true := small_one (by decide) (by decide) (by omega) (by omega)
theorem leB (k : Nat) {a K : Nat} (h : a ≤ k) (e : Nat.ble k K = true) : a ≤ K := Nat.le_trans h (Nat.le_of_ble_eq_true e)
theorem room1 {u k n b : Nat} (h : u + n < b) (e : Nat.ble k n = true) : u + k < b := Nat.lt_of_le_of_lt (Nat.add_le_add_left (Nat.le_of_ble_eq_true e) u) h
theorem room0 {u n b : Nat} (h : u + n < b) : u < b := Nat.lt_of_le_of_lt (Nat.le_add_right u n) h
theorem room2 {u a k n b : Nat} (h : u + n < b) (e : Nat.ble (a + k) n = true) : u + a + k < b := by rw [Nat.add_assoc]; exact room1 h e
theorem room3 {u a c k n b : Nat} (h : u + n < b) (e : Nat.ble (a + c + k) n = true) : u + a + c + k < b := by rw [Nat.add_assoc, Nat.add_assoc, ← Nat.add_assoc a]; exact room1 h e
theorem room4 {u a c e k n b : Nat} (h : u + n < b) (q : Nat.ble (a + c + e + k) n = true) : u + a + c + e + k < b := by
  rw [Nat.add_assoc, Nat.add_assoc, Nat.add_assoc, ← Nat.add_assoc c, ← Nat.add_assoc a, ← Nat.add_assoc a]; exact room1 h q
theorem dep_deeper {A : Around} {e : Env} {n b : Nat} (h : A.depth + (n + 1) < b) : (A.deeper e).depth + n < b := by have q : (A.deeper e).depth = A.depth + 1 := rfl; rw [q, Nat.add_assoc, Nat.add_comm 1]; exact h
theorem dep_zero {A : Around} {b : Nat} (h : A.depth + 0 < b) : A.depth < b := h
theorem uni_deeper {A : Around} {e : Env} {n b : Nat} (h : A.units + (n + 3) < b) : (A.deeper e).units + n < b := by rw [units_deeper, Nat.add_assoc, Nat.add_comm 3]; exact h
theorem fa_cons {α : Type} {p : α → Prop} {a : α} {l : List α} (h : p a) (t : ∀ x ∈ l, p x) : ∀ x ∈ a :: l, p x := List.forall_mem_cons.mpr ⟨h, t⟩
theorem sub_cons {α : Type} {x : α} {l' l : List α} (h : x ∈ l) (t : ∀ p ∈ l', p ∈ l) : ∀ p ∈ x :: l', p ∈ l := List.forall_mem_cons.mpr ⟨h, t⟩
theorem glet {G : Prop} (h : let g := G; g) : G := h
theorem ord4 {L r a b c : Nat} (h : L + 7 < r ∧ r < a ∧ a < b ∧ b < c) : r < b ∧ r < c ∧ a < c ∧ L + 7 < a ∧ L + 7 < b ∧ L + 7 < c :=
  have x := Nat.lt_trans h.2.1 h.2.2.1
  have y := Nat.lt_trans x h.2.2.2
  ⟨x, y, Nat.lt_trans h.2.2.1 h.2.2.2, Nat.lt_trans h.1 h.2.1, Nat.lt_trans h.1 x, Nat.lt_trans h.1 y⟩
theorem ord3 {L r a b : Nat} (h : L + 7 < r ∧ r < a ∧ a < b) : r < b ∧ L + 7 < a ∧ L + 7 < b :=
  have x := Nat.lt_trans h.2.1 h.2.2
  ⟨x, Nat.lt_trans h.1 h.2.1, Nat.lt_trans h.1 x⟩
theorem qlet {V : Type} {M : Model} {A : Around} {m : Sem V} {Q : V → Shared → Prop} {E : Value → Shared → Prop} {s : Shared} (h : let q := Q; wpAny M A m q E s) : wpAny M A m Q E s := h
theorem alet {V : Type} {M : Model} {A : Around} {m : Sem V} {Q : V → Shared → Prop} {E : Value → Shared → Prop} {s : Shared} (h : let a := A; wpAny M a m Q E s) : wpAny M A m Q E s := h
theorem slet {V : Type} {M : Model} {A : Around} {m : Sem V} {Q : V → Shared → Prop} {E : Value → Shared → Prop} {s : Shared} (h : let z := s; wpAny M A m Q E z) : wpAny M A m Q E s := h
theorem mne {k k' : Str} {x : Option Value} {y r : Option Value} (h : k ≠ k') (e : y = r) : (if k = k' then x else y) = r := by rw [if_neg h]; exact e
abbrev Mac := Lean.MacroM (Lean.TSyntax `tactic)
abbrev Tm := Lean.TSyntax `term
def on (k : String) (s : Lean.TSyntax `str) (m : Mac) : Mac := if s.getString == k then m else Lean.Macro.throwUnsupported
def holdS : Mac := `(tactic| refine $(Lean.mkIdent `Mine.hold_of) ?_)
def held (ks : List String) (s : Lean.TSyntax `str) : Mac := if ks.contains s.getString then holdS else Lean.Macro.throwUnsupported
def showAt (t : Tm) : Mac := `(tactic| show wpAny _ _ $t _ _ _)
def firstOf (as : Array (Lean.TSyntax `tactic)) : Mac := do
  let bs ← as.mapM fun a => `(Lean.Parser.Tactic.tacticSeq| $a:tactic)
  `(tactic| first $[| $bs]*)
def exactS (t : Tm) : Mac := `(tactic| exact $t)
def heldAt (ts : List Tm) : Mac := do
  let f ← firstOf (← ts.toArray.mapM fun t => do showAt t)
  `(tactic| ((with_reducible $f:tactic); $(← holdS):tactic))
def refsAt (ns : List Nat) : Lean.MacroM (List Tm) := ns.mapM fun n => `(call (Value.ref $(Lean.quote n)) _)
def tacOf (c : Char) : Mac := match c with
  | 'a' => `(tactic| k_asm)
  | 'e' => `(tactic| exact rfl)
  | 'm' => `(tactic| k_mem)
  | 'r' => `(tactic| with_reducible assumption)
  | 'q' => `(tactic| assumption)
  | 'R' => `(tactic| ktr_room)
  | 'V' => `(tactic| ktr_units)
  | 'U' => `(tactic| k_updF)
  | 'w' => `(tactic| with_unfolding_all rfl)
  | 'd' => `(tactic| decide)
  | 'f' => `(tactic| rfl)
  | 'l' => `(tactic| exact Nat.le_of_ble_eq_true rfl)
  | 'n' => `(tactic| exact fun h => nomatch h)
  | 'k' => `(tactic| kl_lit)
  | 'g' => `(tactic| (intro _; with_unfolding_all rfl))
  | _ => `(tactic| first | with_reducible assumption | omega)
/-- one argument a letter: `_` the goal that goes on; the others a hole and the line that fills it (q, then R and V last) -/
def holes (spec : String) : Lean.MacroM (Array Tm × Array (Lean.TSyntax `tactic)) := do
  let mut as : Array Tm := #[]
  let mut cs : Array (Lean.TSyntax `tactic) := #[]
  let mut mid := #[]
  let mut late := #[]
  for (c, i) in spec.toList.zipIdx do
    if c == '_' then as := as.push (← `(?_)) else
    let x := Lean.mkIdent (← Lean.MonadQuotation.addMacroScope (Lean.Name.mkSimple s!"k{i}"))
    as := as.push (← `(?$x))
    let t ← `(tactic| (case $x:ident => $(← tacOf c):tactic))
    if c == 'R' || c == 'V' then late := late.push t else if c == 'q' then mid := mid.push t else cs := cs.push t
  return (as, cs ++ mid ++ late)
def rfT (t : Tm) (cs : Array (Lean.TSyntax `tactic)) : Mac := `(tactic| (refine' $t; $[$cs:tactic];*))
def rf (f : Lean.Name) (spec : String) : Mac := do
  let (as, cs) ← holes spec
  rfT (Lean.Syntax.mkApp (Lean.mkCIdent f) as) cs
/-- a contract -/
def ct (f : Lean.Name) (spec : String) (n : Nat) : Mac := do
  let is := Array.replicate n (← `(_))
  `(tactic| (k_here; k_dflt $(← rf f spec):tactic; k_whole; intro $is*; try dsimp only))
def plainS (r : Mac) : Mac := do `(tactic| (k_here; k_dflt $(← r):tactic; k_whole))
/-- a comprehension of the form `p` -/
def compS (p : Option Tm) (f : Lean.Name) (spec : String) : Mac := do
  let sh ← match p with
    | some p => showAt p
    | none => `(tactic| skip)
  `(tactic| (k_here; (try wtm_at "a_open"); (with_reducible $sh:tactic); k_dflt $(← rf f spec):tactic; k_whole))
/-- on to the next statement of the form `p` -/
def toExecsS (p : Tm) : Mac := `(tactic| repeat (first | (k_unfold; (try dsimp only)) | ((fail_if_success (with_reducible show wpAny _ _ $p _ _ _)); first | walk1 | (dsimp only; walk1))))
def sliceS (f : Tm) (cs : Array (Lean.TSyntax `tactic)) : Mac := do
  `(tactic| (k_here; k_dflt $(← rfT f cs):tactic; k_whole; intro D' h' F' N' l1; (try k_lt l1); (try dsimp only)))
def sliceAB (a b : Nat) : Mac := do
  let (as, cs) ← holes "aamdlnk_wgl"
  sliceS (← `($(Lean.mkCIdent `Mine.slice_tuple_ab) (a := $(Lean.quote a)) (b := $(Lean.quote b)) $as*)) cs
def dictS : Mac := do compS (some (← `((eval (Expr.DictComp _ _ [⟨_, _, [_], _⟩] _ _) _)))) `Mine.DictComp_hold "awdfdf_"
def cjs : List Lean.Name := [``cl0, ``cl1, ``cr1, ``cl2, ``cr2, ``cl3, ``cr3, ``cl4, ``cr4, ``cl5, ``cr5, ``cl6, ``cr6, ``cl7, ``cr7, ``cl8, ``cr8, ``cl9, ``cr9, ``cl10, ``cr10, ``cl11, ``cr11, ``cl12, ``cr12, ``cl13, ``cr13, ``cl14, ``cr14]
def conjS : Mac := do
  let r ← `((by with_reducible assumption))
  let as ← cjs.toArray.mapM fun n => exactS (Lean.Syntax.mkApp (Lean.mkCIdent n) #[r])
  firstOf (#[← tacOf 'r'] ++ as)
def neS : Mac := do
  let c ← `((by wtm_at "conj"))
  let r ← `((by with_reducible assumption))
  let e ← `(rfl)
  let ap (f : Lean.Name) (l : Array Tm) : Tm := Lean.Syntax.mkApp (Lean.mkCIdent f) l
  let sy (t : Tm) : Tm := ap ``Ne.symm #[t]
  let up := ap ``ne_up #[c, e]
  let n48 := ap ``ne_48 #[r, c]
  let n4k := ap ``ne_4k #[r]
  let upr := ap ``ne_up #[r, e]
  let n48r := ap ``ne_48 #[r, r]
  let js := (List.range 6).toArray.flatMap fun i =>
    let j : Tm := Lean.quote (i + 2)
    let x := ap ``ne_aj #[j, e]
    let y := ap ``ne_uj #[j, r, e]
    let z := ap ``ne_4j #[j, r]
    #[x, sy x, y, sy y, z, sy z]
  let one ← #[sy r, ap ``ne_add #[e], ap ``ne_gt #[r], ap ``ne_lt #[r], upr, sy upr, n4k, sy n4k, n48r, sy n48r].mapM exactS
  let far ← firstOf (← js.mapM exactS)
  let two ← #[ap ``ne_lt #[c], ap ``ne_gt #[c], up, sy up, c, sy c, n48, sy n48].mapM exactS
  firstOf (#[← tacOf 'r'] ++ one ++ #[← `(tactic| ((with_reducible show _ + _ + _ ≠ _); $far:tactic)), ← `(tactic| ((with_reducible show _ ≠ _ + _ + _); $far:tactic))] ++ two)
def roomsS (dep : Bool) : Mac := do
  let r (p : Lean.Name × String) : Mac := rf p.1 p.2
  let as ← ([(``room1, "ae"), (``room2, "ae"), (``room3, "ae"), (``room4, "ae")] ++ (if dep then [(``room0, "a")] else [])).toArray.mapM r
  let f ← firstOf (as.push (← `(tactic| fail "no room")))
  let l ← if dep then `(tactic| refine dep_deeper ?_) else `(tactic| refine uni_deeper ?_)
  let z ← if dep then `(tactic| (try refine dep_zero ?_)) else `(tactic| skip)
  `(tactic| ($z:tactic; first | ((repeat (with_reducible $l:tactic)); $f:tactic) | ((repeat $l:tactic); $f:tactic)))
/-- a let-bound name for what `pat` shows (the state, the surroundings) -/
def letS (z : Lean.Name) (old : String) (ty l : Lean.Name) (state : Bool) : Mac := do
  let q := Lean.mkIdent (Lean.Name.mkSimple s!"{old}{← Lean.MonadQuotation.getCurrMacroScope}")
  let z := Lean.mkIdent z
  let sh ← if state then `(tactic| show wpAny _ _ _ _ _ $z) else `(tactic| show wpAny _ $z _ _ _ _)
  `(tactic| ((fail_if_success (with_reducible $sh:tactic)); (try ((fail_if_success (fail_if_success (have := $z))); rename $(Lean.mkCIdent ty):term => $q)); refine $(Lean.mkCIdent l) ?_; intro $z:ident))
def mms : List Lean.Name := [``mm0, ``mm1, ``mm2, ``mm3, ``mm4, ``mm5, ``mm6, ``mm7, ``mm8, ``mm9, ``mm10, ``mm11, ``mm12, ``mm13, ``mm14, ``mm15, ``mm16]
def memS (more : Array (Lean.TSyntax `tactic)) : Mac := do
  let as ← mms.toArray.mapM fun n => exactS (Lean.mkCIdent n)
  firstOf (as ++ more)
def omS : Mac := do
  let r ← `((by with_reducible assumption))
  let e ← `(rfl)
  let as ← [900, 200, 63, 5000, 16384, 10000, 100, 160, 40, 10, 6, 5].toArray.mapM fun (k : Nat) => exactS (Lean.Syntax.mkApp (Lean.mkCIdent ``leB) #[Lean.quote k, r, e])
  firstOf (#[← tacOf 'r'] ++ as ++ #[← `(tactic| exact Nat.add_lt_add_left (by decide) _), ← `(tactic| exact Nat.lt_of_lt_of_le (by with_reducible assumption) (Nat.le_add_right _ _)), ← `(tactic| lia)])
end Mine
end
section
open PySem PySem.W PyProof.Rows PySem.Calls
set_option maxRecDepth 100000
set_option maxHeartbeats 0
set_option Elab.async false
set_option compiler.extract_closed false
set_option compiler.reuse false
set_option linter.unusedVariables false
namespace Mine
abbrev RL : OpenLaw := PySem.Challenge.rw_ok0100_01
theorem opens0 : opensWell pwO = true := by kernel_rfl
noncomputable def holdsQ : TablesWhole.Alg Bool := ⟨fun sc n _ => Fast.tw15985051520779696433 sc n, fun _ _ _ ok => ok, fun _ => true, true, false, fun a b => a && b⟩
theorem holdsQ_eq : TablesWhole.holds = holdsQ := by unfold TablesWhole.holds holdsQ; rw [Fast.te15985051520779696433]
theorem whole_of {p : Program} (h1 : TablesWhole.noTwice p.main.scope = true) (h2 : TablesWhole.wSs TablesWhole.gather p.main.scope ⟨p.main.scope, [], [], [], none⟩ p.main.scope p.main.body = [])
    (h3 : TablesWhole.wSs TablesWhole.holds p.main.scope ⟨p.main.scope, [], [], [], none⟩ p.main.scope p.main.body = true) (m : p.modules = []) (q : p.parses = []) (v : p.harvested = []) : p.tablesWhole = true := by
  refine ?mG; exact ((by exact ?mB) : (let_mvar% ?mB := (by (
  have e : TablesWhole.wModule TablesWhole.holds p.main = true := by
    unfold TablesWhole.wModule
    simp only [h2, TablesWhole.Alg.all, List.foldr, h3]
    simp only [TablesWhole.holds, h1, Bool.and_self]
  unfold Program.tablesWhole TablesWhole.wProgram
  rw [e, m, q, v]; rfl
  ) : type_of% ?mG); have _ : True := trivial; type_of% ?mG))
theorem told1 : Fast.tw16421684217811934046 Fast.tw12652042256554560961 pwO.main.scope ⟨pwO.main.scope, [], [], [], none⟩ pwO.main.scope pwO.main.body = [] := by kernel_rfl
theorem whole1 : Fast.tw16421684217811934046 holdsQ pwO.main.scope ⟨pwO.main.scope, [], [], [], none⟩ pwO.main.scope pwO.main.body = true := by kernel_rfl
theorem twice1 : Fast.tw8331962902438777018 pwO.main.scope = true := by kernel_rfl
theorem whole0 : pwO.tablesWhole = true := whole_of (by rw [Fast.te8331962902438777018]; exact twice1)
  (by rw [Fast.te16421684217811934046, Fast.te12652042256554560961]; exact told1) (by rw [Fast.te16421684217811934046, holdsQ_eq]; exact whole1) rfl rfl rfl
theorem bare0 : pwO.bare := ⟨rfl, rfl, rfl, rfl, rfl, whole0⟩
theorem prom0 : RL.row.toRowW.promised := by w_witness2
theorem free0 : frees RL.row.toRowW = true := by rfl
theorem tab_in {P : Params} {H : Heap} (x : (KQ P).In H) : H.get? 1348 = some (tabObj #[]) := x 1348 _ (by kernel_rfl)
theorem code_in {P : Params} {H : Heap} (x : (KX P).In H) : CodeHd H 1350 1348 :=
  ⟨_, _, _, _, _, _, _, _, _, x 1350 (k1350 P) (by kernel_rfl), rfl, rfl, rfl, rfl, rfl, rfl, rfl, rfl, by decide⟩
noncomputable abbrev lawSc : Scope := f1351.scope
noncomputable abbrev lawBd : List Stmt := match f1351.body with | .stmts b => b | _ => []
noncomputable abbrev lawCl (L : Addr) : List (Str × Addr) := cellsFrom (L + 1) lawSc.names []
theorem law_global (P : Params) : globalOf ⟨#[default, default, default, b18_3 P], {}⟩ RL.name = some (.ref 1351) := by kernel_rfl
theorem globalOf_at {H G : Heap} (e : H.get? 3 = G.get? 3) (x : Str) : globalOf H x = globalOf G x := by
  show (match H.get? 3 with | some o => _ | none => none) = (match G.get? 3 with | some o => _ | none => none)
  rw [e]
theorem law_def : pwO.theDef RL.name = some (f1351.params, lawBd, f1351.scope) := by kernel_rfl
theorem pin0 {P : Params} {H : Heap} (x : (KX P).In H) : isTheDefsW pwO H RL.name := by
  have e3 : H.get? 3 = some (b18_3 P) := x 3 _ (by kernel_rfl)
  refine ⟨1351, _, f1351, f1351.params, lawBd, f1351.scope, ?_, x 1351 (x1351 P) (by kernel_rfl), rfl, law_def, rfl, rfl, rfl, rfl, rfl, rfl, rfl, rfl, ?_⟩
  · rw [globalOf_at (G := ⟨#[default, default, default, b18_3 P], {}⟩) (e3.trans (by rfl))]; exact law_global P
  · exact ⟨.inl ⟨rfl, rfl⟩, [], rfl, .inl ⟨rfl, rfl⟩⟩
noncomputable def bindS (sc : Addr) : List (Str × Value) := [(S "script", .ref sc)]
/-- the law's walk: what is left of the claim behind the head -/
noncomputable def LawW : Prop := ∀ (w : World) {mean : ExcName → Option Value} {mg mb : Str → Option Value} {dp un : Nat} {gd : Option (List Code)} {A₀ : Around} {base h₀ : Heap} {L : Addr} {s : Shared} {Q : Flow → Shared → Prop} {cells : Led} {sc : Addr} {vs : List Value} {zs : List Int}
  (_ : Below A₀ base [] h₀) (_ : Fr h₀ L s.heap (bindL (envX (S "law") lawSc L 1351 (.ref 1350) (lawCl L)).kindOf (bindS sc) fun _ => none)) (_ : (KX w.params).In h₀) (_ : News h₀ L s.heap (cells ++ [(1348, tabObj #[])])) (_ : TopM mean mg mb h₀) (_ : (KX w.params).In base) (_ : TopM mean mg mb base)
  (_ : CellsAre (bindC (envX (S "law") lawSc L 1351 (.ref 1350) (lawCl L)).kindOf (bindS sc) fun _ => none) (lawCl L) cells) (_ : @LT.lt Nat _ 1348 L)
  (_ : dp + 60 < recursionLimit) (_ : un + 1200 < cLine) (_ : CodeHd h₀ 1350 1348) (_ : base.IsList sc vs.toArray) (_ : IntsAre vs zs) (_ : vs.length ≤ 63)
  (_ : ∀ h' tk' m' ps rest, Fr h₀ L h' m' → News h₀ L h' ((1348, tabObj ps) :: rest) → Q (.ret (.bool true)) { s with heap := h', toks := tk' }),
  wpAny (model pwO w) (ktrTop dp un gd (S "law") lawSc L 1351 (.ref 1350) (lawCl L) []) (execs lawBd (envX (S "law") lawSc L 1351 (.ref 1350) (lawCl L))) Q (fun _ _ => False) s
theorem law_ns0 (P : Params) : (⟨#[default, default, default, b18_3 P], {}⟩ : Heap).nsMap mainGlobals RL.name = some (.ref 1351) := by kernel_rfl
theorem law_ns {P : Params} {H : Heap} (x : (KQ P).In H) : H.nsMap mainGlobals RL.name = some (.ref 1351) := by
  have e3 : H.get? 3 = some (b18_3 P) := x 3 _ (by kernel_rfl)
  rw [look_nsMap (G := ⟨#[default, default, default, b18_3 P], {}⟩) (a := mainGlobals) (e3.trans (by rfl))]
  exact law_ns0 P
theorem kx_no (P : Params) : (KX P).lookup 1348 = none := by kernel_rfl
theorem law_call (W : LawW) (w : World) (s₀ s₁ : Shared) (args : List WData) (vs : List Value) (as : List Addr) (KI : (KQ w.params).In s₁.heap) (hpre : RL.row.toRowW.claim.pre args = true) (hlay : WData.layableAll args = true) (hgens : s₁.gens = #[])
    (hrd : ReadsAllW RL.row.records (classAt s₀.heap) s₁.heap vs args as) (hwl : WellAll w.params s₁.heap vs args) (hlo : ∀ a ∈ as, (a == sysModules) = false) :
    wpAny (model pwO w) callerA (PySem.call (.ref 1351) vs) (fun v s' => GoodWG RL.row.toRowW.claim (classAt s₀.heap) (ExcName.means s₀.heap) args s₁ (.ok (.ret v)) s')
      (fun e s' => GoodWG RL.row.toRowW.claim (classAt s₀.heap) (ExcName.means s₀.heap) args s₁ (.error e) s') s₁ := by
  refine ?mG; exact ((by exact ?mB) : (let_mvar% ?mB := (by (
  have X := kx_in KI
  have hT : TabsAt [(1350, 1348)] s₁.heap := List.forall_mem_cons.mpr ⟨⟨code_in X, tab_in KI⟩, fun _ h => nomatch h⟩
  have T : TopM (ExcName.means s₁.heap) _ _ s₁.heap := top_q0 (seen_of KI)
  wrow_args hpre hlay hrd hwl hlo
  rename_i zs _ _ _ _ _ _ _ sc vs _ hL _ _ _ hI _ hc _
  refine enter_call ?_
  refine kn_post hT (fun _ _ => rfl) ?_
  refine call_cellsN (by decide) (X 1351 (x1351 w.params) (by kernel_rfl)) rfl T.nolimit ⟨1350, _, _, _, rfl, X 1350 (k1350 w.params) (by kernel_rfl), rfl, rfl⟩ rfl (kinds_of (by kinds_ok)) (by decide) fun h₁ tk₁ cells F N0 X0 => ?_
  have X' : (KX w.params).In (ghostOf s₁.heap [(1350, 1348)]) := fun a o e => ghost_ne (X a o e) (by
    intro hm
    obtain rfl := List.mem_singleton.mp (show a ∈ [1348] from hm)
    rw [kx_no] at e; cases e)
  have KI' : (KQ w.params).In s₁.heap := KI
  have mm : ∀ a o, (KQ w.params).lookup a = some o → a ≠ 1348 → (ghostOf s₁.heap [(1350, 1348)]).get? a = some o := fun a o e hn => ghost_ne (KI a o e) (by
    intro hm
    exact hn (List.mem_singleton.mp (show a ∈ [1348] from hm)))
  have S' : Seen w.params (ghostOf s₁.heap [(1350, 1348)]) := seen_min ⟨⟨(mm 0 (b0_0 w.params) (by kernel_rfl) (by decide)).trans (by kernel_rfl), (mm 1 (boot_o_1 w.params) (by kernel_rfl) (by decide)).trans (by kernel_rfl), (mm 2 (b1_2 w.params) (by kernel_rfl) (by decide)).trans (by kernel_rfl)⟩,
    (mm 3 (b18_3 w.params) (by kernel_rfl) (by decide)).trans (by kernel_rfl), (mm 4 (b0_4 w.params) (by kernel_rfl) (by decide)).trans (by kernel_rfl)⟩
  have F' := ghost_fr hT F
  refine wpAny_mono (W w (below_caller _) F' X' (ghost_news hT F N0) (top_q0 S') X' (top_q0 S') X0 (ghost_lt hT F _ (.head _)) (by decide) (by decide) (code_in X') (ghost_list hT hL) hI ?_ ?_) (fun _ _ z => z) fun _ _ z => z.elim
  · have := hI.length; omega
  · intro h' tk' m' ps rest F2 N2
    refine ⟨⟨.inl ⟨.bool true, .bool true, [], rfl, fun _ => rfl, .bool _, ?_, unshared_nil⟩, F2.keep, rfl, hgens⟩, ⟨⟨_, (N2 _ (.head _)).1⟩, trivial⟩⟩
    exact postW_of (by wrow_shape) (by wtm_val) (by w_fin)
  ) : type_of% ?mG); have _ : True := trivial; type_of% ?mG))
theorem row_holds (W : LawW) (k1 : RL.row.wellSaid = true) : RL.row.Holds := by
  refine ?mG; exact ((by exact ?mB) : (let_mvar% ?mB := (by (
  refine ⟨k1, prom0, ⟨⟨bare0, opens0, rfl⟩, prom0.witness, fun w => ⟨(behind w).1, fun s hs => ?_⟩⟩⟩
  obtain ⟨s₀, hf, hg0, s, hT, hz, hgens, hsz, htk, KI⟩ := (behind w).2 s hs
  have X := kx_in KI
  have hg : s.heap.isNs mainGlobals = true := (seen_of KI).gns
  have R0 := recFacts_nil (R := RL.row.records) (h := s.heap) rfl
  refine ⟨s₀, hf, hg0, s, hT, (fun n hn => by obtain rfl := List.mem_singleton.mp (show n ∈ [RL.name] from hn); exact pin0 X), R0.1, R0.2.1, ?_⟩
  obtain ⟨hsame, hu, ha, hap, hm⟩ := frees_parts free0
  refine ClaimW.callFrom_of_specG (c := RL.row.toRowW.claim) hz hgens fun args hpre hlay ord hord => ?_
  obtain ⟨⟨vs, s₁⟩, hlaid⟩ := Option.isSome_iff_exists.mp (layAllW_isSome (P := w.params) (ord := ord) (R := RL.row.records) (cl := classAt s.heap) (fun c hc => nomatch hc) args RL.row.args s (pre_splitW hpre).1)
  have keeps := layAllW_keeps _ _ _ hlaid
  have hal := layAllW_rest _ _ _ hlaid
  obtain ⟨as, hrd, hin, hold⟩ := reads_layAllW hord _ _ _ hlaid hlay s₁.heap (fun _ _ e => e)
  have L : Laid RL.row.records w s s₁ args vs as := ⟨⟨ord, hord, hlaid⟩, hrd, hin, hold, keeps, hal.1.trans hgens, hal.2.2.1⟩
  have hi := ident_freeW hu ha hap
  have KI1 : (KQ w.params).In s₁.heap := fun a o e => keeps _ _ (KI a o e)
  have hwi : RL.row.toRowW.claim.within = [] := rfl
  have hz1 : ∀ a ∈ as, (a == sysModules) = false := fun a ha => beq_eq_false_iff_ne.mpr fun e => by
    have h1 := (hin.2.2 a ha).1
    rw [hsz, e] at h1
    exact absurd h1 (by decide)
  have h := law_call W w s s₁ args vs as KI1 hpre hlay L.gens hrd L.well hz1
  refine ⟨vs, s₁, hlaid, wpAny_bind (wpAny_nsGet (.of_isNs (seen_of KI1).gns) (by
    rw [show s₁.heap.nsMap mainNs RL.row.name = some (.ref 1351) from law_ns KI1]
    exact wpAny_bind (wpAny_mono h (fun v s' g => wpAny_pure ⟨_, rfl, have z := g.laid (c := RL.row.toRowW.claim) hsame hwi hi L; ⟨z.1, z.2.1, z.2.2, fun q => nomatch q⟩⟩) fun e s' g => have z := g.laid (c := RL.row.toRowW.claim) hsame hwi hi L; ⟨z.1, z.2.1, z.2.2, fun q => nomatch q⟩)))⟩
  ) : type_of% ?mG); have _ : True := trivial; type_of% ?mG))
end Mine
end
section
open PySem PySem.W PyProof.Rows PySem.Calls
set_option maxRecDepth 100000
set_option Elab.async false
set_option compiler.extract_closed false
set_option compiler.reuse false
set_option linter.unusedVariables false
namespace Mine
/-- the end of a turn: the iterator and its source stand, and the word holds -/
inductive EndJ (h₀ : Heap) (L I : Addr) (oI : Obj) (src : Led) (J : (Str → Option Value) → Led → Prop) (s₁ s₂ : Shared) : Prop
  | mk h' tk m' news'
    (h0 : s₂ = { s₁ with heap := h', toks := tk })
    (h1 : Fr h₀ L h' m')
    (h2 : News h₀ L h' ((I, oI) :: news'))
    (h3 : (∀ p ∈ news', p.1 ≠ I))
    (h4 : (∀ p ∈ src, p ∈ news'))
    (h5 : J m' news')
theorem EndJ.at_ {h₀ : Heap} {L I : Addr} {oI : Obj} {src : Led} {J : (Str → Option Value) → Led → Prop} {s₁ s₂ : Shared} {h : Heap} {tk : Nat} (z : EndJ h₀ L I oI src J s₁ s₂) : EndJ h₀ L I oI src J { s₁ with heap := h, toks := tk } s₂ := by
  obtain ⟨a1, a2, a3, a4, b1, b2, b3, b4, b5, b6⟩ := z
  exact ⟨a1, a2, a3, a4, b1, b2, b3, b4, b5, b6⟩
noncomputable def TurnJ (h₀ : Heap) (L I : Addr) (oI : Obj) (src : Led) (J : (Str → Option Value) → Led → Prop) (s₁ : Shared) (Q : Flow → Shared → Prop) (f : Flow) (s₂ : Shared) : Prop :=
  match f with
  | .ret v => Q (.ret v) s₂
  | .brk => Q .next s₂
  | _ => EndJ h₀ L I oI src J s₁ s₂
theorem know {h₀ h : Heap} {L : Addr} {m : Str → Option Value} (F : Fr h₀ L h m) {k : Str} {v : Value} (e : m k = some v) : Fr h₀ L h (fun y => if y = k then some v else m y) := by
  have : (fun y => if y = k then some v else m y) = m := funext fun y => by
    by_cases h : y = k
    · rw [if_pos h, h, e]
    · rw [if_neg h]
  rw [this]; exact F
section
variable {prog : Program} {w : World} {A : Around} {E : Value → Shared → Prop} {s : Shared} {env : Env} {h₀ : Heap} {x : Str} {body : List Stmt} {Q : Flow → Shared → Prop}
theorem iterJ {I : Addr} {ob : Obj} {fp : List Addr} {n : Nat} {P : Nat → Value → Prop} {St : Nat → Heap → Prop} {m₀ : Str → Option Value} {news : Led} (src : Led) (J : Nat → (Str → Option Value) → Led → Prop)
    (W : Walks prog w A I fp [I] n P St) (hI : I = s.heap.objs.size) (hIf : I ∈ fp) (hob : ob.isFreed = false)
    (hfp : ∀ b ∈ fp, b = I ∨ (∃ o, (b, o) ∈ src) ∨ ∃ o, h₀.get? b = some o) (hst : St 0 (s.heap.push ob)) (hal : ∀ i h, St i h → ∃ o, h.get? I = some o)
    (F : Fr h₀ env.locals s.heap m₀) (N : News h₀ env.locals s.heap news) (hs : ∀ p ∈ src, p ∈ news) (hj : J 0 m₀ news)
    (turn : ∀ i v m₁ news₁ h tk oI, i < n → P i v → J i m₁ news₁ → (∀ p ∈ news₁, p.1 ≠ I) → (∀ p ∈ src, p ∈ news₁) → Fr h₀ env.locals h (fun y => if y = x then some v else m₁ y) → News h₀ env.locals h ((I, oI) :: news₁) →
      wpAny (model prog w) A (execs body env) (TurnJ h₀ env.locals I oI src (J (i + 1)) { s with heap := h, toks := tk } Q) E { s with heap := h, toks := tk })
    (done : ∀ m₁ news₁ h tk, J n m₁ news₁ → Fr h₀ env.locals h m₁ → News h₀ env.locals h news₁ → Q .next { s with heap := h, toks := tk }) :
    LoopAtV prog w A h₀ env x body Q E (.ref I) { s with heap := s.heap.push ob } := by
  refine ?mG; exact ((by exact ?mB) : (let_mvar% ?mB := (by (
  have hIn : h₀.get? I = none := by rw [hI]; exact next_is_new F
  have hIL : env.locals ≠ I := fun e => absurd F.ns.lt (by rw [e, hI]; exact Nat.lt_irrefl _)
  refine ⟨I, fp, [I], n, P, St, m₀, news, (fun i m nx => (∀ p ∈ src, p ∈ nx) ∧ J i m nx), rfl, W, ?_, ?_, ?_, hst, F.push _, (fun p hp => ⟨Heap.get?_push_of_some _ (N p hp).1, (N p hp).2⟩), ⟨hs, hj⟩, ?_, ?_⟩
  · intro hm
    rcases hfp _ hm with e | ⟨o, e⟩ | ⟨o, e⟩
    · exact hIL e
    · exact (N _ (hs _ e)).2.1 rfl
    · exact absurd (Nat.lt_of_lt_of_le (Heap.lt_size e) F.above) (Nat.lt_irrefl _)
  · intro b hb
    rw [List.mem_singleton.mp hb]; exact hIn
  · intro p hp hm
    exact absurd (Heap.lt_size (N p hp).1) (by rw [List.mem_singleton.mp hm, hI]; exact Nat.lt_irrefl _)
  · rintro i v m₁ news₁ s₁ own ⟨hh', tk', rfl⟩ hin hP ⟨hsr, hJ⟩ hoff hown hget hall hst' F₁ N₁
    obtain ⟨oI, hoI⟩ : ∃ o, (I, o) ∈ own := by
      obtain ⟨o, ho⟩ := hal _ _ hst'
      exact ⟨o, hall I hIf hIn o ho⟩
    have hne : ∀ p ∈ news₁, p.1 ≠ I := fun p hp e => hoff p hp (by rw [e]; exact List.mem_singleton.mpr rfl)
    have N₂ : News h₀ env.locals hh' ((I, oI) :: news₁) := fun p hp => by
      rcases List.mem_cons.mp hp with rfl | hp
      · exact N₁ _ (List.mem_append_left _ hoI)
      · exact N₁ _ (List.mem_append_right _ hp)
    refine wpAny_mono (turn i v m₁ news₁ hh' tk' oI hin hP hJ hne hsr F₁ N₂) (fun f s₂ p => ?_) fun _ _ e => e
    have fin : EndJ h₀ env.locals I oI src (J (i + 1)) { s with heap := hh', toks := tk' } s₂ → LoopStepU h₀ env.locals [I] own (fun m nx => (∀ p ∈ src, p ∈ nx) ∧ J (i + 1) m nx) { s with heap := hh', toks := tk' } .next s₂ := by
      rintro ⟨h', tk, m', news', e, F', N', h1, h2, h3⟩
      refine ⟨rfl, h', tk, m', news', e, F', fun p hp => ?_, fun p hp hq => h1 p hp (List.mem_singleton.mp hq), h2, h3⟩
      rcases List.mem_append.mp hp with h | h
      · rcases hfp _ (hown p h) with e | ⟨o, e⟩ | ⟨o, e⟩
        · have h4 := hget p h
          have h5 := hget _ hoI
          rw [e] at h4
          have h6 : p = (I, oI) := Prod.ext e (Option.some.inj (h4.symm.trans h5))
          rw [h6]; exact N' _ (.head _)
        · have h4 := hget p h
          have h5 := (N₁ _ (List.mem_append_right _ (hsr _ e))).1
          have h6 : p = (p.1, o) := Prod.ext rfl (Option.some.inj (h4.symm.trans h5))
          rw [h6]; exact N' _ (.tail _ (h2 _ e))
        · have h4 := (N₁ _ (List.mem_append_left _ h)).2.2
          rw [e] at h4; cases h4
      · exact N' p (.tail _ h)
    cases f with
    | ret v => exact .ret p
    | brk => exact .brk p
    | next => exact .next (fin p)
    | cont => exact .cont (fin p)
  · rintro h' tk m' news' F' N' _ ⟨_, hJ⟩
    exact done m' news' h' tk hJ F' N'
  ) : type_of% ?mG); have _ : True := trivial; type_of% ?mG))
/-- the walk halts here -/
noncomputable def Hold (p : Prop) : Prop := p
theorem For_hold {m : Str → Option Value} {px pos : Pos} {iter : Expr} (F : Fr h₀ env.locals s.heap m) (hx : env.kindOf x = some .local)
    (hp : (env.scope.kind == .class || (env.scope.kind == .module && env.locals != env.globals)) = false)
    (h : wpAny (model prog w) A (eval iter env) (fun xv s₁ => Hold (wpAny (model prog w) A (pyIter xv) (fun it s₂ => LoopAtV prog w A h₀ env x body Q E it s₂) E s₁)) E s)
    (hs : ∀ x, foldedSetIterable iter env x = pure x := by intro _; rfl)
    (hE : PassesOwn (model prog w) A env E := by passes_own) :
    wpAny (model prog w) A (exec (.For (.Name x px) iter body [] pos) env) Q E s := For_invVF F hx hp h hs hE
theorem iterJ_list {l : Addr} {vs : List Value} {k : Nat} {m₀ : Str → Option Value} {news : Led} (J : Nat → (Str → Option Value) → Led → Prop)
    (hh : A.handled = none) (hm : (l, listOf vs.toArray k) ∈ news)
    (F : Fr h₀ env.locals s.heap m₀) (N : News h₀ env.locals s.heap news) (hj : J 0 m₀ news)
    (turn : ∀ I i v m₁ news₁ h tk oI, (∀ p ∈ news, @LT.lt Nat _ p.1 I) → i < vs.length → vs[i]? = some v → J i m₁ news₁ → (∀ p ∈ news₁, p.1 ≠ I) → (l, listOf vs.toArray k) ∈ news₁ → Fr h₀ env.locals h (fun y => if y = x then some v else m₁ y) → News h₀ env.locals h ((I, oI) :: news₁) →
      wpAny (model prog w) A (execs body env) (TurnJ h₀ env.locals I oI [(l, listOf vs.toArray k)] (J (i + 1)) { s with heap := h, toks := tk } Q) E { s with heap := h, toks := tk })
    (done : ∀ m₁ news₁ h tk, J vs.length m₁ news₁ → Fr h₀ env.locals h m₁ → News h₀ env.locals h news₁ → Q .next { s with heap := h, toks := tk }) :
    wpAny (model prog w) A (pyIter (.ref l)) (fun it s₂ => LoopAtV prog w A h₀ env x body Q E it s₂) E s := by
  refine ?mG; exact ((by exact ?mB) : (let_mvar% ?mB := (by (
  have hls := isL N hm
  have hne : l ≠ s.heap.objs.size := Nat.ne_of_lt (Heap.lt_size (N _ hm).1)
  refine wpAny_pyIter_list hls ?_
  have W := Walks.list (prog := prog) (w := w) hh s.heap.objs.size l hne vs.toArray
  rw [List.size_toArray] at W
  refine iterJ [(l, listOf vs.toArray k)] J W rfl (.head _) rfl ?_ ⟨⟨_, Heap.get?_push_size _ rfl, rfl, rfl⟩, hls.at fun o e => Heap.get?_push_of_some _ e⟩ (fun _ _ h => let ⟨⟨o, ho, _⟩, _⟩ := h; ⟨o, ho⟩) F N (by intro p hp; rw [List.mem_singleton.mp hp]; exact hm) hj ?_ done
  · intro b hb
    rcases List.mem_cons.mp hb with e | hb
    · exact .inl e
    · exact .inr (.inl ⟨_, by rw [List.mem_singleton.mp hb]; exact .head _⟩)
  · intro i v m₁ news₁ h tk oI hi hP hJ h1 h2 F₁ N₁
    exact turn _ i v m₁ news₁ h tk oI (fun p hp => Heap.lt_size (N p hp).1) hi (by simpa using hP) hJ h1 (h2 _ (.head _)) F₁ N₁
  ) : type_of% ?mG); have _ : True := trivial; type_of% ?mG))
theorem iterJ_tuple {l : Addr} {vs : List Value} {k : Nat} {m₀ : Str → Option Value} {news : Led} (J : Nat → (Str → Option Value) → Led → Prop)
    (hh : A.handled = none) (hm : (l, ({ cls := .type "tuple", data := .seq vs.toArray k } : Obj)) ∈ news)
    (F : Fr h₀ env.locals s.heap m₀) (N : News h₀ env.locals s.heap news) (hj : J 0 m₀ news)
    (turn : ∀ I i v m₁ news₁ h tk oI, (∀ p ∈ news, @LT.lt Nat _ p.1 I) → i < vs.length → vs[i]? = some v → J i m₁ news₁ → (∀ p ∈ news₁, p.1 ≠ I) → (l, ({ cls := .type "tuple", data := .seq vs.toArray k } : Obj)) ∈ news₁ → Fr h₀ env.locals h (fun y => if y = x then some v else m₁ y) → News h₀ env.locals h ((I, oI) :: news₁) →
      wpAny (model prog w) A (execs body env) (TurnJ h₀ env.locals I oI [(l, ({ cls := .type "tuple", data := .seq vs.toArray k } : Obj))] (J (i + 1)) { s with heap := h, toks := tk } Q) E { s with heap := h, toks := tk })
    (done : ∀ m₁ news₁ h tk, J vs.length m₁ news₁ → Fr h₀ env.locals h m₁ → News h₀ env.locals h news₁ → Q .next { s with heap := h, toks := tk }) :
    wpAny (model prog w) A (pyIter (.ref l)) (fun it s₂ => LoopAtV prog w A h₀ env x body Q E it s₂) E s := by
  refine ?mG; exact ((by exact ?mB) : (let_mvar% ?mB := (by (
  have hls : s.heap.IsTuple l vs.toArray := ⟨_, N.get hm, rfl, _, rfl⟩
  have hne : l ≠ s.heap.objs.size := Nat.ne_of_lt (Heap.lt_size (N _ hm).1)
  refine wpAny_pyIter_tuple hls ?_
  have W := Walks.tuple (prog := prog) (w := w) hh s.heap.objs.size l hne vs.toArray
  rw [List.size_toArray] at W
  refine iterJ [(l, _)] J W rfl (.head _) rfl ?_ ⟨⟨_, Heap.get?_push_size _ rfl, rfl, rfl⟩, hls.at fun o e => Heap.get?_push_of_some _ e⟩ (fun _ _ h => let ⟨⟨o, ho, _⟩, _⟩ := h; ⟨o, ho⟩) F N (by intro p hp; rw [List.mem_singleton.mp hp]; exact hm) hj ?_ done
  · intro b hb
    rcases List.mem_cons.mp hb with e | hb
    · exact .inl e
    · exact .inr (.inl ⟨_, by rw [List.mem_singleton.mp hb]; exact .head _⟩)
  · intro i v m₁ news₁ h tk oI hi hP hJ h1 h2 F₁ N₁
    exact turn _ i v m₁ news₁ h tk oI (fun p hp => Heap.lt_size (N p hp).1) hi (by simpa using hP) hJ h1 (h2 _ (.head _)) F₁ N₁
  ) : type_of% ?mG); have _ : True := trivial; type_of% ?mG))
theorem iterJ_range {r : Addr} {a₀ b₀ : Int} {t₀ u₀ v₀ : Tok} {n : Nat} {m₀ : Str → Option Value} {news : Led} (J : Nat → (Str → Option Value) → Led → Prop)
    (hh : A.handled = none) (hr : IsRange s.heap r a₀ b₀ 1 t₀ u₀ v₀) (hsmall : Builtin.Range.small a₀ b₀ 1 = true) (hn : Builtin.Range.rangeSize a₀ b₀ 1 = (n : Int))
    (F : Fr h₀ env.locals s.heap m₀) (N : News h₀ env.locals s.heap news) (hj : J 0 m₀ news)
    (turn : ∀ I i t m₁ news₁ h tk oI, (∀ p ∈ news, @LT.lt Nat _ p.1 I) → i < n → J i m₁ news₁ → (∀ p ∈ news₁, p.1 ≠ I) → Fr h₀ env.locals h (fun y => if y = x then some (.int (a₀ + (i : Int)) t) else m₁ y) → News h₀ env.locals h ((I, oI) :: news₁) →
      wpAny (model prog w) A (execs body env) (TurnJ h₀ env.locals I oI [] (J (i + 1)) { s with heap := h, toks := tk } Q) E { s with heap := h, toks := tk })
    (done : ∀ m₁ news₁ h tk, J n m₁ news₁ → Fr h₀ env.locals h m₁ → News h₀ env.locals h news₁ → Q .next { s with heap := h, toks := tk }) :
    wpAny (model prog w) A (pyIter (.ref r)) (fun it s₂ => LoopAtV prog w A h₀ env x body Q E it s₂) E s := by
  refine ?mG; exact ((by exact ?mB) : (let_mvar% ?mB := (by (
  refine wpAny_pyIter_range hr hsmall ?_
  have W := Walks.range (prog := prog) (w := w) hh s.heap.objs.size a₀ 1 n
  refine iterJ [] J W rfl (.head _) rfl ?_ (by show IsRangeIter _ _ _ _ _; rw [hn]; simpa using Heap.get?_push_size _ rfl) (fun _ _ h => ⟨_, h⟩) F N (fun _ h => nomatch h) hj ?_ done
  · intro b hb
    exact .inl (List.mem_singleton.mp hb)
  · rintro i v m₁ news₁ h tk oI hi ⟨t, rfl⟩ hJ h1 h2 F₁ N₁
    rw [Int.mul_one] at F₁
    exact turn _ i t m₁ news₁ h tk oI (fun p hp => Heap.lt_size (N p hp).1) hi hJ h1 F₁ N₁
  ) : type_of% ?mG); have _ : True := trivial; type_of% ?mG))
end
def forS : Mac := `(tactic| (k_here; (try wtm_at "a_open"); (with_reducible rename Fr _ _ _ _ => lF'); (with_unfolding_all refine' For_hold lF' ?k1 ?k2 ?_; (case k1 => exact rfl); (case k2 => exact rfl); k_whole)))
end Mine
end
section
open PySem PySem.W PyProof.Rows PySem.Calls
set_option maxRecDepth 100000
set_option Elab.async false
set_option compiler.extract_closed false
set_option compiler.reuse false
set_option linter.unusedVariables false
namespace Mine
noncomputable abbrev tupN (vs : List Value) (n : Nat) : Obj := { cls := .type "tuple", data := .seq vs.toArray n }
inductive ConsD (l : Led) (vs : List Value) (d : Dat) (ds : List Dat) : Prop
  | mk (v : Value) (r : List Value) (e : vs = v :: r) (h : DatIn l v d) (t : DatAll l r ds)
inductive TupD (l : Led) (v : Value) (ds : List Dat) : Prop
  | mk (a : Addr) (vs : List Value) (n : Nat) (e : v = .ref a) (m : (a, tupN vs n) ∈ l) (t : DatAll l vs ds)
inductive Inv1 (l : Led) (v : Value) (d1 : Dat) : Prop
  | mk (a : Addr) (n : Nat) (v1 : Value) (e : v = .ref a) (m : (a, tupN [v1] n) ∈ l) (h1 : DatIn l v1 d1)
inductive Inv2 (l : Led) (v : Value) (d1 d2 : Dat) : Prop
  | mk (a : Addr) (n : Nat) (v1 v2 : Value) (e : v = .ref a) (m : (a, tupN [v1, v2] n) ∈ l) (h1 : DatIn l v1 d1) (h2 : DatIn l v2 d2)
inductive Inv3 (l : Led) (v : Value) (d1 d2 d3 : Dat) : Prop
  | mk (a : Addr) (n : Nat) (v1 v2 v3 : Value) (e : v = .ref a) (m : (a, tupN [v1, v2, v3] n) ∈ l) (h1 : DatIn l v1 d1) (h2 : DatIn l v2 d2) (h3 : DatIn l v3 d3)
inductive Inv4 (l : Led) (v : Value) (d1 d2 d3 d4 : Dat) : Prop
  | mk (a : Addr) (n : Nat) (v1 v2 v3 v4 : Value) (e : v = .ref a) (m : (a, tupN [v1, v2, v3, v4] n) ∈ l) (h1 : DatIn l v1 d1) (h2 : DatIn l v2 d2) (h3 : DatIn l v3 d3) (h4 : DatIn l v4 d4)
inductive Inv5 (l : Led) (v : Value) (d1 d2 d3 d4 d5 : Dat) : Prop
  | mk (a : Addr) (n : Nat) (v1 v2 v3 v4 v5 : Value) (e : v = .ref a) (m : (a, tupN [v1, v2, v3, v4, v5] n) ∈ l) (h1 : DatIn l v1 d1) (h2 : DatIn l v2 d2) (h3 : DatIn l v3 d3) (h4 : DatIn l v4 d4) (h5 : DatIn l v5 d5)
inductive Inv7 (l : Led) (v : Value) (d1 d2 d3 d4 d5 d6 d7 : Dat) : Prop
  | mk (a : Addr) (n : Nat) (v1 v2 v3 v4 v5 v6 v7 : Value) (e : v = .ref a) (m : (a, tupN [v1, v2, v3, v4, v5, v6, v7] n) ∈ l) (h1 : DatIn l v1 d1) (h2 : DatIn l v2 d2) (h3 : DatIn l v3 d3) (h4 : DatIn l v4 d4) (h5 : DatIn l v5 d5) (h6 : DatIn l v6 d6) (h7 : DatIn l v7 d7)
section
variable {l : Led} {v : Value} {vs : List Value} {d : Dat} {ds : List Dat} {x : Str} {i : Int} {b : Bool}
theorem dA_cons (h : DatAll l vs (d :: ds)) : ConsD l vs d ds := by
  cases h with | cons a b => exact ⟨_, _, rfl, a, b⟩
theorem dA_nil (h : DatAll l vs []) : vs = [] := by cases h; rfl
theorem d_str (h : DatIn l v (.str x)) : ∃ t, v = .str x t := by cases h; exact ⟨_, rfl⟩
theorem d_int (h : DatIn l v (.int i)) : ∃ t, v = .int i t := by cases h; exact ⟨_, rfl⟩
theorem d_none (h : DatIn l v .none) : v = .none := by cases h; rfl
theorem d_bool (h : DatIn l v (.bool b)) : v = .bool b := by cases h; rfl
theorem d_tup (h : DatIn l v (.tuple ds)) : TupD l v ds := by cases h with | tuple m r => exact ⟨_, _, _, rfl, m, r⟩
theorem inv1 {d1 : Dat} (h : DatIn l v (.tuple [d1])) : Inv1 l v d1 := by
  obtain ⟨a, vs, n, rfl, m, r⟩ := d_tup h
  obtain ⟨v1, r1, rfl, h1, q1⟩ := dA_cons r
  obtain rfl := dA_nil q1
  exact ⟨a, n, v1, rfl, m, h1⟩
theorem inv2 {d1 d2 : Dat} (h : DatIn l v (.tuple [d1, d2])) : Inv2 l v d1 d2 := by
  obtain ⟨a, vs, n, rfl, m, r⟩ := d_tup h
  obtain ⟨v1, r1, rfl, h1, q1⟩ := dA_cons r
  obtain ⟨v2, r2, rfl, h2, q2⟩ := dA_cons q1
  obtain rfl := dA_nil q2
  exact ⟨a, n, v1, v2, rfl, m, h1, h2⟩
theorem inv3 {d1 d2 d3 : Dat} (h : DatIn l v (.tuple [d1, d2, d3])) : Inv3 l v d1 d2 d3 := by
  refine ?mG; exact ((by exact ?mB) : (let_mvar% ?mB := (by (
  obtain ⟨a, vs, n, rfl, m, r⟩ := d_tup h
  obtain ⟨v1, r1, rfl, h1, q1⟩ := dA_cons r
  obtain ⟨v2, r2, rfl, h2, q2⟩ := dA_cons q1
  obtain ⟨v3, r3, rfl, h3, q3⟩ := dA_cons q2
  obtain rfl := dA_nil q3
  exact ⟨a, n, v1, v2, v3, rfl, m, h1, h2, h3⟩
  ) : type_of% ?mG); have _ : True := trivial; type_of% ?mG))
theorem inv4 {d1 d2 d3 d4 : Dat} (h : DatIn l v (.tuple [d1, d2, d3, d4])) : Inv4 l v d1 d2 d3 d4 := by
  refine ?mG; exact ((by exact ?mB) : (let_mvar% ?mB := (by (
  obtain ⟨a, vs, n, rfl, m, r⟩ := d_tup h
  obtain ⟨v1, r1, rfl, h1, q1⟩ := dA_cons r
  obtain ⟨v2, r2, rfl, h2, q2⟩ := dA_cons q1
  obtain ⟨v3, r3, rfl, h3, q3⟩ := dA_cons q2
  obtain ⟨v4, r4, rfl, h4, q4⟩ := dA_cons q3
  obtain rfl := dA_nil q4
  exact ⟨a, n, v1, v2, v3, v4, rfl, m, h1, h2, h3, h4⟩
  ) : type_of% ?mG); have _ : True := trivial; type_of% ?mG))
theorem inv5 {d1 d2 d3 d4 d5 : Dat} (h : DatIn l v (.tuple [d1, d2, d3, d4, d5])) : Inv5 l v d1 d2 d3 d4 d5 := by
  refine ?mG; exact ((by exact ?mB) : (let_mvar% ?mB := (by (
  obtain ⟨a, vs, n, rfl, m, r⟩ := d_tup h
  obtain ⟨v1, r1, rfl, h1, q1⟩ := dA_cons r
  obtain ⟨v2, r2, rfl, h2, q2⟩ := dA_cons q1
  obtain ⟨v3, r3, rfl, h3, q3⟩ := dA_cons q2
  obtain ⟨v4, r4, rfl, h4, q4⟩ := dA_cons q3
  obtain ⟨v5, r5, rfl, h5, q5⟩ := dA_cons q4
  obtain rfl := dA_nil q5
  exact ⟨a, n, v1, v2, v3, v4, v5, rfl, m, h1, h2, h3, h4, h5⟩
  ) : type_of% ?mG); have _ : True := trivial; type_of% ?mG))
theorem inv7 {d1 d2 d3 d4 d5 d6 d7 : Dat} (h : DatIn l v (.tuple [d1, d2, d3, d4, d5, d6, d7])) : Inv7 l v d1 d2 d3 d4 d5 d6 d7 := by
  refine ?mG; exact ((by exact ?mB) : (let_mvar% ?mB := (by (
  obtain ⟨a, vs, n, rfl, m, r⟩ := d_tup h
  obtain ⟨v1, r1, rfl, h1, q1⟩ := dA_cons r
  obtain ⟨v2, r2, rfl, h2, q2⟩ := dA_cons q1
  obtain ⟨v3, r3, rfl, h3, q3⟩ := dA_cons q2
  obtain ⟨v4, r4, rfl, h4, q4⟩ := dA_cons q3
  obtain ⟨v5, r5, rfl, h5, q5⟩ := dA_cons q4
  obtain ⟨v6, r6, rfl, h6, q6⟩ := dA_cons q5
  obtain ⟨v7, r7, rfl, h7, q7⟩ := dA_cons q6
  obtain rfl := dA_nil q7
  exact ⟨a, n, v1, v2, v3, v4, v5, v6, v7, rfl, m, h1, h2, h3, h4, h5, h6, h7⟩
  ) : type_of% ?mG); have _ : True := trivial; type_of% ?mG))
end
mutual
noncomputable def noL : Dat → Bool
  | .list _ => false
  | .tuple ds => noLs ds
  | _ => true
noncomputable def noLs : List Dat → Bool
  | [] => true
  | d :: ds => noL d && noLs ds
end
theorem monoT {l l' : Led} (hs : ∀ p ∈ l, p.2.cls = .type "tuple" → p ∈ l') {v : Value} {d : Dat} (h : DatIn l v d) : noL d = true → DatIn l' v d := by
  refine ?mG; exact ((by exact ?mB) : (let_mvar% ?mB := (by (
  refine DatIn.rec (motive_1 := fun v d _ => noL d = true → DatIn l' v d) (motive_2 := fun vs ds _ => noLs ds = true → DatAll l' vs ds) ?_ ?_ ?_ ?_ ?_ ?_ ?_ ?_ ?_ h
  · exact fun _ => .none
  · exact fun b _ => .bool b
  · exact fun i t _ => .int i t
  · exact fun x t _ => .str x t
  · exact fun b t _ => .bytes b t
  · exact fun h r ih e => .tuple (hs _ h rfl) (ih (by rw [noL] at e; exact e))
  · exact fun _ _ _ e => by rw [noL] at e; cases e
  · exact fun _ => .nil
  · exact fun h r ih1 ih2 e => .cons (ih1 (Bool.and_eq_true_iff.mp (by rw [noLs] at e; exact e)).1) (ih2 (Bool.and_eq_true_iff.mp (by rw [noLs] at e; exact e)).2)
  ) : type_of% ?mG); have _ : True := trivial; type_of% ?mG))
theorem monoTs {l l' : Led} (hs : ∀ p ∈ l, p.2.cls = .type "tuple" → p ∈ l') : ∀ {ds : List Dat} {vs : List Value}, DatAll l vs ds → noLs ds = true → DatAll l' vs ds := by
  refine ?mG; exact ((by exact ?mB) : (let_mvar% ?mB := (by (
  intro ds
  induction ds with
  | nil => intro vs h _; cases h; exact .nil
  | cons d r ih =>
    intro vs h e
    rw [noLs] at e
    cases h with
    | cons h1 h2 => exact .cons (monoT hs h1 (Bool.and_eq_true_iff.mp e).1) (ih h2 (Bool.and_eq_true_iff.mp e).2)
  ) : type_of% ?mG); have _ : True := trivial; type_of% ?mG))
theorem It.noL : ∀ it : It, Mine.noL it.dat = true := by
  intro it
  induction it <;> simp_all [It.dat, Mine.noL, noLs, idD, blkD]
theorem It.noLs : ∀ its : List It, Mine.noLs (its.map It.dat) = true := by
  intro its
  induction its with
  | nil => simp [Mine.noLs]
  | cons a r ih => simp [Mine.noLs, a.noL, ih]
theorem It.isRef {l : Led} {v : Value} : ∀ {it : It}, DatIn l v it.dat → ∃ a, v = .ref a := by
  intro it h
  cases it <;> (obtain ⟨a, _, _, rfl, _⟩ := d_tup h; exact ⟨a, rfl⟩)
/-- the items within an item -/
noncomputable def It.subs : It → List It
  | .inst _ => []
  | .init => []
  | .blk o => [o]
  | .gif o => [.blk o]
  | .gif2 o e => [.blk o, e]
  | .gcase o => [o]
  | .gfor o => [.blk o]
noncomputable def It.size : It → Nat
  | .inst _ => 1
  | .init => 1
  | .blk o => o.size + 1
  | .gif o => o.size + 2
  | .gif2 o e => o.size + e.size + 2
  | .gcase o => o.size + 1
  | .gfor o => o.size + 2
theorem lk1110 (P) : (KX P).lookup 1110 = some ⟨.type "function", none, .func f1110, #[]⟩ := by kernel_rfl
end Mine
end
section
open PySem PySem.W PyProof.Rows PySem.Calls
set_option maxRecDepth 100000
set_option Elab.async false
set_option compiler.extract_closed false
set_option compiler.reuse false
set_option linter.unusedVariables false
set_option maxHeartbeats 2000000
namespace Mine
theorem hold_of {p : Prop} (h : Hold p) : p := h
/-- the turn of a while: a smaller word behind it -/
theorem WhileT.intro {h₀ h' : Heap} {L : Addr} {s : Shared} {J : Nat → (Str → Option Value) → Led → Prop} {n n' tk : Nat} {m₂ : Str → Option Value} {news₂ : Led}
    (F : Fr h₀ L h' m₂) (N : News h₀ L h' news₂) (hn : n' < n) (hJ : J n' m₂ news₂) : WhileStep h₀ L s J n .next { s with heap := h', toks := tk } := WhileStep.intro F N hn hJ
theorem tup_extend {prog : Program} {w : World} {A : Around} {E : Value → Shared → Prop} {s : Shared} {h₀ : Heap} {L D b : Addr} {m : Str → Option Value} {news : Led} {g : Obj → Led} {vs us : List Value} {n k : Nat} {Q : Value → Shared → Prop}
    (F : Fr h₀ L s.heap m) (N : News h₀ L s.heap news) (hb : (b, ({ cls := .type "tuple", data := .seq us.toArray k } : Obj)) ∈ news) (U : UpdF D (listOf vs.toArray n) news g) (hz : vs.length + us.length ≤ 16777216)
    (h : ∀ h' n', Fr h₀ L h' m → News h₀ L h' (g (listOf (vs ++ us).toArray n')) → Q .none { s with heap := h' }) : wpAny (model prog w) A (call (.builtin "list.extend") [.ref D, .ref b]) Q E s := by
  refine ?mG; exact ((by exact ?mB) : (let_mvar% ?mB := (by (
  obtain ⟨pre, post, rfl, hg, a, c⟩ := U.split
  have z := N (D, listOf vs.toArray n) (List.mem_append.mpr (.inr (.head _)))
  have hz1 : vs.length + us.length ≤ sizeLine := by rw [PySem.sizeLine_eq]; exact hz
  have hd : ¬(!vs.toArray.isEmpty && Builtin.List.listTooLong (vs.toArray.size + us.toArray.size)) = true := by
    have : Builtin.List.listTooLong (vs.toArray.size + us.toArray.size) = false := by
      unfold Builtin.List.listTooLong
      simp only [List.size_toArray]
      exact decide_eq_false (Nat.not_lt.mpr hz1)
    rw [this, Bool.and_false]; exact Bool.false_ne_true
  by_cases he : us = []
  · subst he
    refine call_meets PySem.F.slot_list_extend ⟨_, z.1, rfl⟩ PySem.F.entry_list_extend (PySem.F.args_list_extend_2 _ _) (PySem.AutoSeq1.list_extend_list_tuple_0 D vs.toArray n b #[] k hd (by simp only [List.size_toArray]; exact Nat.le_trans (Nat.le_add_right _ _) hz1) (by simp only [List.size_toArray]; exact Nat.le_succ_of_le hz1))
      ⟨z.1, (N _ hb).1, h _ n (F.change (Heap.SameBut.update ..) z.2.1 z.2.2) ((hg _).symm ▸ kl_turn0 _ N a c ?_ ?_)⟩
    · simp
    · simp
  · refine call_meets PySem.F.slot_list_extend ⟨_, z.1, rfl⟩ PySem.F.entry_list_extend (PySem.F.args_list_extend_2 _ _) (PySem.AutoSeq1.list_extend_list_tuple_0 D vs.toArray n b us.toArray k hd (by simp only [List.size_toArray]; exact Nat.le_trans (Nat.le_add_right _ _) hz1) (by simp only [List.size_toArray]; exact Nat.le_succ_of_le hz1))
      ⟨z.1, (N _ hb).1, h _ (n + 1) (F.change (Heap.SameBut.update ..) z.2.1 z.2.2) ((hg _).symm ▸ kl_turn _ N a c ?_ ?_)⟩
    · simp
    · simp
      exact he
  ) : type_of% ?mG); have _ : True := trivial; type_of% ?mG))
section
variable {prog : Program} {w : World} {A : Around} {E : Value → Shared → Prop} {s : Shared} {h₀ : Heap} {L : Addr} {m : Str → Option Value} {env : Env}
/-- what a source must bring: its iterator is made here, and it gives the items -/
structure Src (prog : Program) (w : World) (A : Around) (E : Value → Shared → Prop) (h₀ : Heap) (L : Addr) (xv : Value) (s₁ : Shared) (ob : Obj) (fp : List Addr) (n : Nat) (P : Nat → Value → Prop) (St : Nat → Heap → Prop) (S : Led → Prop) : Prop where
  iter : ∀ Q : Value → Shared → Prop, Q (.ref s₁.heap.objs.size) { s₁ with heap := s₁.heap.push ob } → wpAny (model prog w) A (pyIter xv) Q E s₁
  walks : Walks prog w A s₁.heap.objs.size fp [s₁.heap.objs.size] n P St
  size : n ≤ sizeLine
  there : ∀ i h, St i h → ∃ o, h.get? s₁.heap.objs.size = some o
  keep : ∀ i h h' o nw, St i h → h.get? s₁.heap.objs.size = some o → h'.get? s₁.heap.objs.size = some o → (∀ b o, h₀.get? b = some o → h'.get? b = some o) → News h₀ L h' nw → S nw → St i h'
  start : St 0 (s₁.heap.push ob)
  low : ∀ b ∈ fp, b < (s₁.heap.push ob).objs.size
theorem src_tuple {t : Addr} {vs : List Value} {k : Nat} {news : Led} {s₁ : Shared} (hh : A.handled = none) (N : News h₀ L s₁.heap news) (hm : (t, ({ cls := .type "tuple", data := .seq vs.toArray k } : Obj)) ∈ news) (hz : vs.length ≤ sizeLine) :
    Src prog w A E h₀ L (.ref t) s₁ { cls := .type "tuple_iterator", data := .fields #[.ref t, .int 0 0] } [s₁.heap.objs.size, t] vs.length (fun i v => vs[i]? = some v) (fun i h => h.IsTupleIter s₁.heap.objs.size t i ∧ h.IsTuple t vs.toArray)
      (fun nw => (t, ({ cls := .type "tuple", data := .seq vs.toArray k } : Obj)) ∈ nw) where
  iter := fun Q hq => wpAny_pyIter_tuple ⟨_, N.get hm, rfl, _, rfl⟩ hq
  walks := by
    have W := Walks.tuple (prog := prog) (w := w) hh s₁.heap.objs.size t (Nat.ne_of_lt (Heap.lt_size (N _ hm).1)) vs.toArray
    simpa using W
  size := hz
  there := fun _ _ h => let ⟨⟨o, ho, _⟩, _⟩ := h; ⟨o, ho⟩
  keep := fun i h h' o nw st e e' _ N' hS => ⟨by obtain ⟨o', q, r⟩ := st.1; rw [e] at q; cases q; exact ⟨o, e', r⟩, ⟨_, N'.get hS, rfl, _, rfl⟩⟩
  start := ⟨⟨_, Heap.get?_push_size _ rfl, rfl, rfl⟩, ⟨_, Heap.get?_push_of_some _ (N.get hm), rfl, _, rfl⟩⟩
  low := fun b hb => by
    rw [Heap.size_push]
    rcases List.mem_cons.mp hb with rfl | hb
    · exact Nat.lt_succ_self _
    · rw [List.mem_singleton.mp hb]; exact Nat.lt_succ_of_lt (Heap.lt_size (N _ hm).1)
theorem src_list {l : Addr} {vs : List Value} {k : Nat} {news : Led} {s₁ : Shared} (hh : A.handled = none) (N : News h₀ L s₁.heap news) (hm : (l, listOf vs.toArray k) ∈ news) (hz : vs.length ≤ sizeLine) :
    Src prog w A E h₀ L (.ref l) s₁ { cls := .type "list_iterator", data := .fields #[.ref l, .int 0 0] } [s₁.heap.objs.size, l] vs.length (fun i v => vs[i]? = some v) (fun i h => h.IsListIter s₁.heap.objs.size l i ∧ h.IsList l vs.toArray)
      (fun nw => (l, listOf vs.toArray k) ∈ nw) where
  iter := fun Q hq => wpAny_pyIter_list (isL N hm) hq
  walks := by
    have W := Walks.list (prog := prog) (w := w) hh s₁.heap.objs.size l (Nat.ne_of_lt (Heap.lt_size (N _ hm).1)) vs.toArray
    simpa using W
  size := hz
  there := fun _ _ h => let ⟨⟨o, ho, _⟩, _⟩ := h; ⟨o, ho⟩
  keep := fun i h h' o nw st e e' _ N' hS => ⟨by obtain ⟨o', q, r⟩ := st.1; rw [e] at q; cases q; exact ⟨o, e', r⟩, isL N' hS⟩
  start := ⟨⟨_, Heap.get?_push_size _ rfl, rfl, rfl⟩, (isL N hm).at fun o e => Heap.get?_push_of_some _ e⟩
  low := fun b hb => by
    rw [Heap.size_push]
    rcases List.mem_cons.mp hb with rfl | hb
    · exact Nat.lt_succ_self _
    · rw [List.mem_singleton.mp hb]; exact Nat.lt_succ_of_lt (Heap.lt_size (N _ hm).1)
theorem src_range {r : Addr} {a b : Int} {t u v : Tok} {n : Nat} {s₁ : Shared} (hh : A.handled = none) (hr : IsRange s₁.heap r a b 1 t u v) (hsm : Builtin.Range.small a b 1 = true) (hn : Builtin.Range.rangeSize a b 1 = ((n : Nat) : Int)) (hz : n ≤ sizeLine) :
    Src prog w A E h₀ L (.ref r) s₁ { cls := .type "range_iterator", data := .fields #[rawInt a, rawInt (Builtin.Range.rangeSize a b 1), rawInt 1] } [s₁.heap.objs.size] n (fun i v => ∃ t, v = .int (a + (i : Int)) t)
      (fun i h => IsRangeIter h s₁.heap.objs.size (a + (i : Nat) * 1) ((n : Int) - (i : Nat)) 1) (fun _ => True) where
  iter := fun Q hq => wpAny_pyIter_range hr hsm hq
  walks := LCg.range_walks hh a n
  size := hz
  there := fun _ _ h => ⟨_, h⟩
  keep := fun i h h' o nw st e e' k N' _ => LCg.range_st i h h' o nw st e e' k N' trivial
  start := by show IsRangeIter _ _ _ _ _; rw [hn]; simpa using Heap.get?_push_size _ rfl
  low := fun b hb => by rw [List.mem_singleton.mp hb, Heap.size_push]; exact Nat.lt_succ_self _
open LCg in
/-- a turn with a test: both ways end in the word -/
noncomputable abbrev TurnT (prog : Program) (w : World) (A : Around) (h₀ : Heap) (L : Addr) (m : Str → Option Value) (env : Env) (ct elt : Expr) (x : Str) (scope : Scope) (cl : List (Str × Addr)) (s₁ : Shared) (n : Nat) (P : Nat → Value → Prop) (S : Led → Prop) (J : Nat → List Value → Led → Prop) : Prop :=
  ∀ i ys news v I oI C oC D m₂ h tk (E' : Value → Shared → Prop), i < n → J i ys news → S news → P i v → NsObj oC m₂ → m₂ x = some v → Fr h₀ L h m → News h₀ L h ((I, oI) :: (C, oC) :: (D, lst ys) :: news) → Off3 I C D news → ((@Ne Nat I C) ∧ (@Ne Nat I D) ∧ (@Ne Nat C D)) →
      wpAny (model prog w) A (isTrue ct (compEnvC scope cl C env) (eval ct (compEnvC scope cl C env))) (fun ok s' => if ok = true then
        wpAny (model prog w) A (eval elt (compEnvC scope cl C env)) (CompEnd h₀ L m { s₁ with heap := h, toks := tk } I oI C oC D (lst ys) S (fun y news' => J (i + 1) (ys ++ [y]) news')) E' s'
        else CompEnd h₀ L m { s₁ with heap := h, toks := tk } I oI C oC D (lst ys) S (fun _ news' => J (i + 1) ys news') Value.none s') E' { s₁ with heap := h, toks := tk }
open LCg in
theorem restT {ct elt : Expr} {x : Str} {scope : Scope} {cl : List (Str × Addr)} {s₁ : Shared} {n : Nat} {P : Nat → Value → Prop} {S : Led → Prop} {J : Nat → List Value → Led → Prop} {Fin : List Value → Led → Prop} {g : Heap}
    (turn : TurnT prog w A h₀ L m env ct elt x scope cl s₁ n P S J) (done : ∀ ys news, J n ys news → Fin ys news) :
    ∀ k i ys news, i + k = n → J i ys news → S news → LCt.CompRestT prog w A h₀ L m env ct elt x scope cl { s₁ with heap := g } S P Fin k i ys news := by
  refine ?mG; exact ((by exact ?mB) : (let_mvar% ?mB := (by (
  intro k
  induction k with
  | zero =>
    intro i ys news e hj _
    obtain rfl : i = n := by lia
    exact done ys news hj
  | succ k ih =>
    intro i ys news e hj hS
    refine LCt.CompRestT.succ fun v I oI C oC D m₂ h tk E' hv hC hx F N off ne => ?_
    refine wpAny_mono (turn i ys news v I oI C oC D m₂ h tk E' (by lia) hj hS hv hC hx F N off ne) (fun ok s' z => ?_) fun _ _ z => z
    cases ok with
    | true =>
      simp only [if_true] at z ⊢
      refine wpAny_mono z (fun y s'' q => ?_) fun _ _ z => z
      obtain ⟨h', tk', news', e1, F', N', off', hS', hj'⟩ := q
      exact ⟨h', tk', news', e1, F', N', off', hS', ih _ _ _ (by lia) hj' hS'⟩
    | false =>
      simp only [Bool.false_eq_true, if_false] at z ⊢
      obtain ⟨h', tk', news', e1, F', N', off', hS', hj'⟩ := z
      exact ⟨h', tk', news', e1, F', N', off', hS', ih _ _ _ (by lia) hj' hS'⟩
  ) : type_of% ?mG); have _ : True := trivial; type_of% ?mG))
open LCg in
/-- what is to be shown of a list comprehension once its source stands -/
inductive CompJT (prog : Program) (w : World) (A : Around) (E : Value → Shared → Prop) (h₀ : Heap) (L : Addr) (m : Str → Option Value) (env : Env) (ct elt : Expr) (x : Str) (scope : Scope) (cl : List (Str × Addr)) (Q : Value → Shared → Prop) (xv : Value) (s₁ : Shared) : Prop
  | mk ob fp n P St S news J
    (h0 : Fr h₀ L s₁.heap m)
    (h1 : News h₀ L s₁.heap news)
    (h2 : Src prog w A E h₀ L xv s₁ ob fp n P St S)
    (h3 : S news)
    (h4 : J 0 [] news)
    (h5 : TurnT prog w A h₀ L m env ct elt x scope cl s₁ n P S J)
    (h6 : ∀ ys news' D h tk, J n ys news' → Fr h₀ L h m → News h₀ L h ((D, lst ys) :: news') → Off1 D news' → Q (.ref D) { s₁ with heap := h, toks := tk })
open LCg in
theorem ListComp_hold {ct elt iter : Expr} {x : Str} {px : Pos} {scope : Scope} {cl : List (Str × Addr)} {pos : Pos} {Q : Value → Shared → Prop} (F₀ : Fr h₀ L s.heap m)
    (hclos : closureFor scope env = pure cl) (hcell : ∀ y ∈ scope.names, y.2 ≠ .cell) (hkind : scope.kind = .function)
    (hnames : ∀ y ∈ scope.names, y.2 = .local → scope.names.lookup y.1 = some .local) (hx : scope.names.lookup x = some .local)
    (h : wpAny (model prog w) A (eval iter env) (fun xv s₁ => Hold (CompJT prog w A E h₀ L m env ct elt x scope cl Q xv s₁)) E s)
    (hs : ∀ x, foldedSetIterable iter env x = pure x := by intro _; rfl) :
    wpAny (model prog w) A (eval (.ListComp elt [⟨.Name x px, iter, [ct], 0⟩] scope pos) env) Q E s := by
  refine ?mG; exact ((by exact ?mB) : (let_mvar% ?mB := (by (
  rw [eval_ListComp]
  refine wpAny_comprehension_free (use := none) rfl hs hclos hkind hnames (wpAny_mono h (fun xv s₁ h₁ => ?_) fun _ _ e => e)
  obtain ⟨ob, fp, n, P, St, S, news, J, F, N, V, hS, hJ, turn, done⟩ := h₁
  refine V.iter _ ?_
  have up : ∀ b o, s₁.heap.get? b = some o → (s₁.heap.push ob).get? b = some o := fun b o e => Heap.get?_push_of_some _ e
  refine LCt.block_T (s₂ := { s₁ with heap := s₁.heap.push ob }) (Fin := FinE h₀ L m s₁ Q) V.walks V.size V.there V.keep hcell hkind hx V.start V.low (F.keeps up) (N.grown up) (Nat.ne_of_lt F.ns.lt) (next_is_new F) (fun p hp => Nat.ne_of_lt (Heap.lt_size (N p hp).1)) hS
    (restT turn (fun ys news' hj D h tk F' N' o1 => done ys news' D h tk hj F' N' o1) n 0 [] news (by lia) hJ hS) ?_
  intro D C h tk m' ys news' F' N' o1 hn hC₀ hD₀ hCL hDL hCD offC fin
  refine ⟨m', hn, fun h'' hs'' => fin D h'' tk (F'.change hs'' hCL hC₀) (fun p hp => ⟨hs''.extBut _ _ ?_ (N' p hp).1, (N' p hp).2⟩) o1⟩
  rcases List.mem_cons.mp hp with rfl | hp
  · exact Ne.symm hCD
  · exact offC p hp
  ) : type_of% ?mG); have _ : True := trivial; type_of% ?mG))
end
end Mine
end
section
open PySem PySem.W PyProof.Rows PySem.Calls
set_option maxRecDepth 100000
set_option Elab.async false
set_option compiler.extract_closed false
set_option compiler.reuse false
set_option linter.unusedVariables false
namespace Mine
theorem mtail {p q : Addr × Obj} {l : Led} (h : p ∈ l) : p ∈ q :: l := List.Mem.tail _ h
section
variable {prog : Program} {w : World} {A : Around} {E : Value → Shared → Prop} {s : Shared} {h₀ : Heap} {L : Addr} {m : Str → Option Value} {news : Led}
theorem adjust_ab (a b n : Nat) (hab : a ≤ b) (hb : b ≤ n) : Builtin.Slice.sliceAdjust (some (a : Int)) (some (b : Int)) 1 (n : Int) = ((a : Int), (b : Int)) := by
  refine ?mG; exact ((by exact ?mB) : (let_mvar% ?mB := (by (
  unfold Builtin.Slice.sliceAdjust
  have h1 : ¬ ((1 : Int) < 0) := by lia
  have h2 : ¬ ((a : Int) < 0) := by lia
  have h3 : ¬ ((b : Int) < 0) := by lia
  simp only [h1, h2, h3, if_false]
  congr 1 <;> lia
  ) : type_of% ?mG); have _ : True := trivial; type_of% ?mG))
theorem sliceApplied_ab {sl : Addr} {a b n : Nat} {u u2 : Tok} {Q : Int × Int × Nat → Shared → Prop} (hs : s.heap.IsSliceOf sl (.int a u) (.int b u2) .none) (hab : a ≤ b) (hb : b ≤ n) (h : Q ((a : Int), 1, b - a) s) :
    wpAny (model prog w) A (Builtin.Slice.sliceApplied (.ref sl) (pure (n : Int))) Q E s := by
  refine ?mG; exact ((by exact ?mB) : (let_mvar% ?mB := (by (
  obtain ⟨os, hos, hcs, hds⟩ := id hs
  unfold Builtin.Slice.sliceApplied Builtin.Slice.sliceFields
  refine wpAny_bind (wpAny_bind (wpAny_field hos hds (x := .int a u) rfl (wpAny_bind (wpAny_field hos hds (x := .int b u2) rfl (wpAny_bind (wpAny_field hos hds (x := .none) rfl (wpAny_pure ?_)))))))
  refine wpAny_bind (slicePart_none ?_)
  show wpAny _ _ (if ((1 : Int) == 0) = true then _ else _) _ _ s
  rw [if_neg (by decide)]
  refine wpAny_bind (slicePart_int (wpAny_bind (slicePart_int (wpAny_bind (wpAny_pure ?_)))))
  show wpAny _ _ (match Builtin.Slice.sliceAdjust (some (a : Int)) (some (b : Int)) 1 (n : Int) with | (lo, hi) => pure (lo, (1 : Int), Builtin.Slice.slicePlaces lo hi 1)) _ _ s
  rw [adjust_ab a b n hab hb]
  show wpAny _ _ (pure ((a : Int), (1 : Int), Builtin.Slice.slicePlaces (a : Int) (b : Int) 1)) _ _ s
  rw [places_from a b hab]
  exact wpAny_pure h
  ) : type_of% ?mG); have _ : True := trivial; type_of% ?mG))
theorem pick_ab (xs : Array Value) (a b : Nat) (hab : a ≤ b) (hb : b ≤ xs.size) : ((List.range (b - a)).filterMap fun (k : Nat) => xs[((a : Int) + (k : Int) * 1).toNat]?).toArray = ((xs.toList.drop a).take (b - a)).toArray := by
  refine ?mG; exact ((by exact ?mB) : (let_mvar% ?mB := (by (
  have e : (fun (k : Nat) => xs[((a : Int) + (k : Int) * 1).toNat]?) = fun k => xs[a + k]? := by
    funext k
    have : ((a : Int) + (k : Int) * 1).toNat = a + k := by lia
    rw [this]
  rw [e]
  have := pick_run xs a (b - a)
  rw [List.filterMap_map] at this
  have e2 : ((fun x => xs[x]?) ∘ fun x => a + x) = fun k => xs[a + k]? := rfl
  rw [e2] at this
  rw [this]
  ) : type_of% ?mG); have _ : True := trivial; type_of% ?mG))
theorem getItem_tuple_ab {t sl : Addr} {items : Array Value} {a b : Nat} {u u2 : Tok} {Q : Value → Shared → Prop} (ht : IsTup s.heap t items) (hs : s.heap.IsSliceOf sl (.int a u) (.int b u2) .none) (hab : a ≤ b) (hb : b ≤ items.size) (hw : b - a ≠ items.size)
    (h : Q (.ref s.heap.objs.size) { s with heap := s.heap.push { cls := .type "tuple", data := .seq ((items.toList.drop a).take (b - a)).toArray } })
    (hsz : items.size ≤ sizeLine) : wpAny (model prog w) A (getItem (.ref t) (.ref sl)) Q E s := by
  refine ?mG; exact ((by exact ?mB) : (let_mvar% ?mB := (by (
  have hdrop : sizeOk (.seq ((items.toList.drop a).take (b - a)).toArray) := by
    show ((items.toList.drop a).take (b - a)).toArray.size ≤ sizeLine
    rw [List.size_toArray, List.length_take, List.length_drop, Array.length_toList]
    lia
  obtain ⟨os, hos, hcs, hds⟩ := id hs
  have hTs : s.TypeIs (.ref sl) "slice" := ⟨os, hos, hcs⟩
  unfold getItem
  try with_reducible refine wpAny_holding ?_
  first | refine wpAny_bind (wpAny_pure ?_) | skip
  refine wpAny_bind (wpAny_sequenceKey ht.typeIs (by decide) ?_)
  refine wpAny_bind (wpAny_callSpecial?_slot (name := Str.ofString "__getitem__") ht.typeIs slot_tuple_getitem
    (wpAny_call_entry slot_tuple_getitem ht.typeIs entry_tuple_getitem ?_ (args_tuple_getitem _ _)))
  show wpAny _ _ (Builtin.Tuple.tupleItemsOf (.ref t) >>= _) _ _ s
  refine wpAny_bind (tupleItemsOf_ ht ?_)
  refine wpAny_bind (wpAny_typeOf hTs ?_)
  rw [if_pos (by decide)]
  refine wpAny_bind (sliceApplied_ab hs hab hb ?_)
  have hno : ¬ (((a : Int) == 0 && (1 : Int) == 1 && (b - a) == items.size) = true) := by
    have : ((b - a) == items.size) = false := by rw [beq_eq_false_iff_ne]; exact hw
    rw [this]; simp
  show wpAny _ _ (if ((a : Int) == 0 && (1 : Int) == 1 && (b - a) == items.size) = true then _ else _) _ _ s
  rw [if_neg hno, pick_ab items a b hab hb]
  first
    | exact wpAny_bind (m := Builtin.Tuple.tupleExact _) (wpAny_newObj_type (wpAny_pure ⟨_, rfl, wpAny_pure h⟩) hdrop)
    | exact wpAny_bind (m := Builtin.Tuple.tupleExact _) (wpAny_newObj_type (wpAny_bind (wpAny_pure (wpAny_pure ⟨_, rfl, wpAny_pure h⟩))) hdrop)
    | exact wpAny_bind (wpAny_bind (m := Builtin.Tuple.tupleExact _) (wpAny_newObj_type (wpAny_pure (wpAny_pure ⟨_, rfl, wpAny_pure h⟩)) hdrop))
    | exact wpAny_bind (wpAny_bind (m := Builtin.Tuple.tupleExact _) (wpAny_newObj_type (wpAny_pure ⟨_, rfl, wpAny_pure h⟩) hdrop))
  ) : type_of% ?mG); have _ : True := trivial; type_of% ?mG))
theorem slice_tuple_ab {value slice : Expr} {t : Addr} {vs out : List Value} {k : Nat} {a b : Nat} {u u2 : Tok} {Q : Value → Shared → Prop}
    (F : Fr h₀ L s.heap m) (N : News h₀ L s.heap news) (hm : (t, ({ cls := .type "tuple", data := .seq vs.toArray k } : Obj)) ∈ news) (hab : a ≤ b) (hb : b ≤ vs.length) (hw : b - a ≠ vs.length) (ho : (vs.drop a).take (b - a) = out)
    (h : ∀ D h', Fr h₀ L h' m → News h₀ L h' ((D, ({ cls := .type "tuple", data := .seq out.toArray } : Obj)) :: news) → (∀ p ∈ news, p.1 < D) → Q (.ref D) { s with heap := h' })
    (hs : subscripted slice false (.ref t) (.ref s.heap.objs.size) = operate [.ref s.heap.objs.size, .ref t] (getItem (.ref t) (.ref s.heap.objs.size)) := by with_unfolding_all rfl)
    (hg : ∀ r, letTemporaryGo value (.ref t) r = pure () := by intro _; with_unfolding_all rfl)
    (hsz : vs.length ≤ sizeLine := by size_fits) :
    wpAny (model prog w) A (subscriptTail value slice (.ref t) (.ref s.heap.objs.size)) Q E { s with heap := s.heap.push { cls := .type "slice", data := .fields #[.int (a : Int) u, .int (b : Int) u2, .none] } } := by
  refine ?mG; exact ((by exact ?mB) : (let_mvar% ?mB := (by (
  subst ho
  have ht : IsTup s.heap t vs.toArray := ⟨_, N.get hm, rfl, _, rfl⟩
  have ht' : IsTup (s.heap.push { cls := .type "slice", data := .fields #[.int (a : Int) u, .int (b : Int) u2, .none] }) t vs.toArray := ht.keeps fun _ _ e => Heap.get?_push_of_some _ e
  refine subscriptTail_ops (s := { s with heap := s.heap.push { cls := .type "slice", data := .fields #[.int (a : Int) u, .int (b : Int) u2, .none] } }) ht'.typeIs slot_tuple_getitem.lookup
    (getItem_tuple_ab ht' (Heap.IsSliceOf.new ..) hab (by simpa using hb) (by simpa using hw) ?_ (by simpa using hsz)) hs hg
  have N1 := News.push (F.push { cls := .type "slice", data := .fields #[.int (a : Int) u, .int (b : Int) u2, .none] }) (N.grown fun _ _ e => Heap.get?_push_of_some _ e) { cls := .type "tuple", data := .seq ((vs.drop a).take (b - a)).toArray }
  rw [Heap.size_push] at N1
  show Q (.ref (s.heap.push _).objs.size) _
  rw [Heap.size_push]
  exact h _ _ ((F.push _).push _) N1 fun p hp => Nat.lt_succ_of_lt (Heap.lt_size (N p hp).1)
  ) : type_of% ?mG); have _ : True := trivial; type_of% ?mG))
theorem slice_from {value slice : Expr} {t : Addr} {vs out : List Value} {k : Nat} {a : Nat} {u : Tok} {Q : Value → Shared → Prop}
    (F : Fr h₀ L s.heap m) (N : News h₀ L s.heap news) (hm : (t, ({ cls := .type "tuple", data := .seq vs.toArray k } : Obj)) ∈ news) (h1 : 1 ≤ a) (ha : a ≤ vs.length) (ho : vs.drop a = out)
    (h : ∀ D h', Fr h₀ L h' m → News h₀ L h' ((D, ({ cls := .type "tuple", data := .seq out.toArray } : Obj)) :: news) → (∀ p ∈ news, p.1 < D) → Q (.ref D) { s with heap := h' })
    (hs : subscripted slice false (.ref t) (.ref s.heap.objs.size) = operate [.ref s.heap.objs.size, .ref t] (getItem (.ref t) (.ref s.heap.objs.size)) := by with_unfolding_all rfl)
    (hg : ∀ r, letTemporaryGo value (.ref t) r = pure () := by intro _; with_unfolding_all rfl)
    (hsz : vs.length ≤ sizeLine := by size_fits) :
    wpAny (model prog w) A (subscriptTail value slice (.ref t) (.ref s.heap.objs.size)) Q E { s with heap := s.heap.push { cls := .type "slice", data := .fields #[.int (a : Int) u, .none, .none] } } := by
  subst ho
  exact slice_tuple_from (items := vs.toArray) F N ⟨_, N.get hm, rfl, _, rfl⟩ h1 (by simpa using ha) (fun h' F' N' => h _ h' F' N' fun p hp => Nat.lt_succ_of_lt (Heap.lt_size (N p hp).1)) hs hg (by simpa using hsz)
theorem tup_item {value slice : Expr} {a : Addr} {vs : List Value} {n : Nat} {k : Int} {u : Tok} {j : Nat} {x : Value} {Q : Value → Shared → Prop} (N : News h₀ L s.heap news) (hm : (a, ({ cls := .type "tuple", data := .seq vs.toArray n } : Obj)) ∈ news)
    (hlo : -(2 ^ 63) ≤ k) (hhi : k < 2 ^ 63) (hj : seqIndex? k vs.length = some j) (hx : vs[j]? = some x) (h : Q x s)
    (hs : subscripted slice false (.ref a) (.int k u) = operate [.ref a, .int k u] (getItem (.ref a) (.int k u)) := by with_unfolding_all rfl) :
    wpAny (model prog w) A (subscriptTail value slice (.ref a) (.int k u)) Q E s :=
  item_tupleT ⟨_, N.get hm, rfl, _, rfl⟩ hlo hhi hj hx h hs
theorem tup_item0 {value slice : Expr} {a : Addr} {vs : List Value} {n : Nat} {u : Tok} {x : Value} {Q : Value → Shared → Prop} (N : News h₀ L s.heap news) (hm : (a, ({ cls := .type "tuple", data := .seq (x :: vs).toArray n } : Obj)) ∈ news) (h : Q x s)
    (hs : subscripted slice false (.ref a) (.int 0 u) = operate [.ref a, .int 0 u] (getItem (.ref a) (.int 0 u)) := by with_unfolding_all rfl) :
    wpAny (model prog w) A (subscriptTail value slice (.ref a) (.int 0 u)) Q E s :=
  item_tupleT (l := x :: vs) (j := 0) ⟨_, N.get hm, rfl, _, rfl⟩ (by decide) (by decide) (by simp [seqIndex?]) rfl h hs
end
end Mine
end
section
open PySem PySem.W PyProof.Rows PySem.Calls
set_option maxRecDepth 100000
set_option maxHeartbeats 0
set_option Elab.async false
set_option compiler.extract_closed false
set_option compiler.reuse false
set_option linter.unusedVariables false
namespace Mine
theorem fill : (fun (_ : Params → Frag) (_ : OpenLaw) => True) KX PySem.Challenge.rw_ok0100_01 := by k_fill; trivial
local macro_rules | `(tactic| k_all) => `(tactic| with_reducible assumption)
local macro_rules | `(tactic| kpa_ne) => `(tactic| exact len_pos (by with_reducible assumption) (by with_reducible assumption))
local macro_rules | `(tactic| wtm_at "conj") => conjS
local macro_rules | `(tactic| wtm_at "ne1") => neS
local macro_rules | `(tactic| k_ne) => `(tactic| ((try dsimp only); first | with_reducible assumption | exact Ne.symm (by with_reducible assumption) | (refine neN ?_; wtm_at "ne1")))
local macro_rules | `(tactic| ktr_room) => roomsS true
local macro_rules | `(tactic| ktr_units) => roomsS false
local macro_rules | `(tactic| wtm_at "q_let") => do let q := Lean.mkIdent (Lean.Name.mkSimple s!"qz{← Lean.MonadQuotation.getCurrMacroScope}"); `(tactic| ((fail_if_success (fail_if_success k_fold)); refine qlet ?_; intro $q:ident))
local macro_rules | `(tactic| wtm_at "a_let") => letS `az "az" ``Around ``alet false
local macro_rules | `(tactic| wtm_at "s_let") => letS `sz "sz" ``Shared ``slet true
local macro_rules | `(tactic| wtm_at "ks") => `(tactic| (repeat' (first | (k_unfold; (try dsimp only [List.nil_append, List.cons_append])) | (k_end; wrow_close) | ((with_reducible show wpAny _ _ _ _ _ _); (try wtm_at "a_let"); (try wtm_at "s_let"); (try wtm_at "q_let"); walk1) | walk1 | (dsimp only; walk1) | (leave1; walk_say "STEP leave1"; try dsimp only) | fail "no step")))
local macro_rules | `(tactic| k_in) => `(tactic| first | with_reducible assumption | exact Frag.In.keeps (by with_reducible assumption) (Fr.keep (by with_reducible assumption)))
local macro_rules | `(tactic| units_room) => `(tactic| ((first | dsimp +zetaDelta only | fail "no az"); units_room))
local macro_rules | `(tactic| wtm_at "a_open") => `(tactic| first | show wpAny _ (Around.deeper _ _) _ _ _ _ | show wpAny _ (ktrTop _ _ _ _ _ _ _ _ _ _) _ _ _ _)
local macro_rules | `(tactic| wtm_at "om") => omS
section
open PySem PySem.W PyProof.Rows PySem.Calls
set_option maxRecDepth 100000
set_option maxHeartbeats 0
set_option Elab.async false
set_option compiler.extract_closed false
set_option compiler.reuse false
set_option linter.unusedVariables false
set_option pp.deepTerms false
section
variable {w : World} {mean : ExcName → Option Value} {mg mb : Str → Option Value} {dp un : Nat} {gd : Option (List Code)} {cn : Str} {cs : Scope} {a : Addr} {ccd : Value} {cl : List (Str × Addr)} {A₀ : Around} {outer : List Env} {base h₀ : Heap} {L : Addr} {m : Str → Option Value} {s : Shared} {Q E : Value → Shared → Prop}
theorem next_t {row : Addr} {us : List Value} {ns : List Int} {n : Nat} {rest : Led}
    (B : Below A₀ base outer h₀) (F : Fr h₀ L s.heap m) (X : (KX w.params).In h₀) (N : News h₀ L s.heap ((row, listOf us.toArray n) :: rest)) (T : TopM mean mg mb h₀)
    (hk : cs.kind = .function) (hd : dp + 4 < recursionLimit) (hu : un + 200 < cLine)
    (hi : IntsAre us ns) (hl : us.length ≤ 200) (ho : ∀ p ∈ rest, p.1 ≠ row)
    (ret : ∀ t us' n' h' tk', Fr h₀ L h' m → News h₀ L h' ((row, listOf us'.toArray n') :: rest) → IntsAre us' ns.dropLast → Q (.int (ns.getLastD 0) t) { s with heap := h', toks := tk' }) :
    wpAny (model pwO w) (ktrTop dp un gd cn cs L a ccd cl outer) (call (.ref 1325) [.ref row]) Q E s := by
  refine ?mG; exact ((by exact ?mB) : (let_mvar% ?mB := (by (
  refine wpAny_call ?_
  refine' code_def (binds := [(S "row", Value.ref row)]) B F X N T rfl rfl hk (lk1325 _) ?k7 ?k8 (BindsTo.of_eq rfl) (locs rfl) ?_ rfl rfl rfl (by decide)
  case k7 => k_is
  case k8 => ktr_room
  k_whole
  intro g' L' h' FG' F' N' B' X' T'
  (try dsimp only)
  k_fold
  wtm_at "ks"
  · rename_i h1 F1 N1 l1 e1 F2 N2 T2 X2
    obtain rfl := of_decide_eq_true e1
    cases hi
    exact ret _ [] _ _ _ F2 (nsub N2 fun p hp => .tail _ hp) .nil
  · rename_i h1 F1 N1 l1 e1 h2 t2 F2 N2 i2 F3 N3 T3 X3
    exact ret t2 _ _ _ _ F3 (nsub N3 fun p hp => .tail _ hp) i2
  ) : type_of% ?mG); have _ : True := trivial; type_of% ?mG))
theorem next_u {row : Addr} {us : List Value} {ns : List Int} {n : Nat} {news : Led} {g : Obj → Led}
    (B : Below A₀ base outer h₀) (F : Fr h₀ L s.heap m) (X : (KX w.params).In h₀) (N : News h₀ L s.heap news) (T : TopM mean mg mb h₀)
    (hk : cs.kind = .function) (hd : dp + 4 < recursionLimit) (hu : un + 200 < cLine)
    (U : UpdF row (listOf us.toArray n) news g) (hi : IntsAre us ns) (hl : us.length ≤ 200)
    (ret : ∀ t us' n' h' tk', Fr h₀ L h' m → News h₀ L h' (g (listOf us'.toArray n')) → IntsAre us' ns.dropLast → us'.length ≤ 200 → Q (.int (nextV ns) t) { s with heap := h', toks := tk' }) :
    wpAny (model pwO w) (ktrTop dp un gd cn cs L a ccd cl outer) (call (.ref 1325) [.ref row]) Q E s := by
  refine ?mG; exact ((by exact ?mB) : (let_mvar% ?mB := (by (
  obtain ⟨r, s1, s2, s3⟩ := updF_perm U
  refine next_t B F X (nsub N fun p hp => (s1 p).mp hp) T hk hd hu hi hl s2 fun t us' n' h' tk' F' N' hi' => ret t us' n' h' tk' F' (nsub N' (s3 _)) hi' ?_
  have h1 := IntsAre.length hi
  have h2 := IntsAre.length hi'
  rw [List.length_dropLast] at h2
  wtm_at "om"
  ) : type_of% ?mG); have _ : True := trivial; type_of% ?mG))
local macro_rules | `(tactic| walk_at "call ref") => ct ``next_u "aaaaaeRVUrr_" 9
theorem number_t {row : Addr} {us : List Value} {ns : List Int} {n : Nat} {rest : Led}
    (B : Below A₀ base outer h₀) (F : Fr h₀ L s.heap m) (X : (KX w.params).In h₀) (N : News h₀ L s.heap ((row, listOf us.toArray n) :: rest)) (T : TopM mean mg mb h₀)
    (hk : cs.kind = .function) (hd : dp + 8 < recursionLimit) (hu : un + 300 < cLine)
    (hi : IntsAre us ns) (hl : us.length ≤ 200) (ho : ∀ p ∈ rest, p.1 ≠ row)
    (ret : ∀ D1 D2 t0 t1 t2 t3 t4 wd vl sg us' ns' n' h' tk', Fr h₀ L h' m → News h₀ L h' ((D2, numO t0 t1 D1 sg) :: (D1, vecO t2 wd t3 vl t4) :: (row, listOf us'.toArray n') :: rest) → (∀ p ∈ (row, listOf us.toArray n) :: rest, p.1 < D1) → D1 < D2 →
      1 ≤ wd → wd ≤ 5 → 0 ≤ vl → vl < 2 ^ wd.toNat → IntsAre us' ns' → us'.length ≤ 200 → Q (.ref D2) { s with heap := h', toks := tk' }) :
    wpAny (model pwO w) (ktrTop dp un gd cn cs L a ccd cl outer) (call (.ref 1332) [.ref row]) Q E s := by
  refine ?mG; exact ((by exact ?mB) : (let_mvar% ?mB := (by (
  refine wpAny_call ?_
  refine' code_def (binds := [(S "row", Value.ref row)]) B F X N T rfl rfl hk (lk1332 _) ?k7 ?k8 (BindsTo.of_eq rfl) (locs rfl) ?_ rfl rfl rfl (by decide)
  case k7 => k_is
  case k8 => ktr_room
  k_whole
  intro g' L' h' FG' F' N' B' X' T'
  (try dsimp only)
  k_fold
  wtm_at "ks"
  rename_i lo hi2 D1 h3 l1 t us3 n3 h4 tk3 i3 l3 D2 h5 F5 N5 l2 F6 N6 T6 X6
  refine ret D1 D2 _ _ _ _ _ _ _ _ us3 _ n3 _ _ F6 N6 (fun p hp => ?_) l2.1 (by wtm_at "om") (by wtm_at "om") (fmod_lo _ (two_pow_pos _)) (fmod_hi _ (two_pow_pos _)) i3 l3
  rcases List.mem_cons.mp hp with rfl | hp
  · exact l1.1
  · exact of_allLt l1.2 p hp
  ) : type_of% ?mG); have _ : True := trivial; type_of% ?mG))
theorem number_u {row : Addr} {us : List Value} {ns : List Int} {n : Nat} {news : Led} {g : Obj → Led}
    (B : Below A₀ base outer h₀) (F : Fr h₀ L s.heap m) (X : (KX w.params).In h₀) (N : News h₀ L s.heap news) (T : TopM mean mg mb h₀)
    (hk : cs.kind = .function) (hd : dp + 8 < recursionLimit) (hu : un + 300 < cLine)
    (U : UpdF row (listOf us.toArray n) news g) (hi : IntsAre us ns) (hl : us.length ≤ 200)
    (ret : ∀ D ent wd vl sg us' ns' n' h' tk', Fr h₀ L h' m → News h₀ L h' (g (listOf us'.toArray n') ++ ent) → (∀ p ∈ news, ∀ q ∈ ent, p.1 < q.1) → DatIn ent (.ref D) (numD wd vl sg) →
      1 ≤ wd → wd ≤ 5 → 0 ≤ vl → vl < 2 ^ wd.toNat → IntsAre us' ns' → us'.length ≤ 200 → Q (.ref D) { s with heap := h', toks := tk' }) :
    wpAny (model pwO w) (ktrTop dp un gd cn cs L a ccd cl outer) (call (.ref 1332) [.ref row]) Q E s := by
  refine ?mG; exact ((by exact ?mB) : (let_mvar% ?mB := (by (
  obtain ⟨r, s1, s2, s3⟩ := updF_perm U
  refine number_t B F X (nsub N fun p hp => (s1 p).mp hp) T hk hd hu hi hl s2 fun D1 D2 t0 t1 t2 t3 t4 wd vl sg us' ns' n' h' tk' F' N' f1 f2 e1 e2 e3 e4 i' l' => ?_
  refine ret D2 [(D2, numO t0 t1 D1 sg), (D1, vecO t2 wd t3 vl t4)] wd vl sg us' ns' n' h' tk' F' (nsub N' fun p hp => ?_) (fun p hp q hq => ?_) ?_ e1 e2 e3 e4 i' l'
  · rcases List.mem_append.mp hp with hp | hp
    · exact .tail _ (.tail _ (s3 _ p hp))
    · rcases List.mem_cons.mp hp with rfl | hp
      · exact .head _
      · rcases List.mem_cons.mp hp with rfl | hp
        · exact .tail _ (.head _)
        · cases hp
  · have h1 := f1 p ((s1 p).mpr hp)
    rcases List.mem_cons.mp hq with rfl | hq
    · exact Nat.lt_trans h1 f2
    · rcases List.mem_cons.mp hq with rfl | hq
      · exact h1
      · cases hq
  · exact .tuple (.head _) (.cons (.str _ _) (.cons (.int _ _) (.cons (.tuple mm1 (.cons (.int _ _) (.cons (.int _ _) (.cons (.int _ _) .nil)))) (.cons (.bool _) (.cons (.bool _) .nil)))))
  ) : type_of% ?mG); have _ : True := trivial; type_of% ?mG))
end
end
section
open PySem PySem.W PyProof.Rows PySem.Calls
set_option maxRecDepth 100000
set_option maxHeartbeats 0
set_option Elab.async false
set_option compiler.extract_closed false
set_option compiler.reuse false
set_option linter.unusedVariables false
set_option pp.deepTerms false
section
variable {w : World} {mean : ExcName → Option Value} {mg mb : Str → Option Value} {dp un : Nat} {gd : Option (List Code)} {cn : Str} {cs : Scope} {a : Addr} {ccd : Value} {cl : List (Str × Addr)} {A₀ : Around} {outer : List Env} {base h₀ : Heap} {L : Addr} {m : Str → Option Value} {s : Shared} {Q E : Value → Shared → Prop}
local macro_rules | `(tactic| walk_at "mine no such key") => `(tactic| skip)
local macro_rules | `(tactic| walk_at "call ref") => ct ``next_u "aaaaaeRVUrr_" 9

theorem item_0 : ItemC w 0 := by
  refine ?mG; exact ((by exact ?mB) : (let_mvar% ?mB := (by (
  intro mean mg mb dp un gd cn cs a ccd cl A₀ outer base h₀ L m s Q E row used us ns n n2 vs xs d' t mo rest B F X N T hk hd hu hdd hi hl hv hvl hru hoff ret
  have hmr := hoff.1
  have hmu := hoff.2.1
  have hv9 : vs.length ≤ 900 := Nat.le_trans (Nat.le_add_right _ _) hvl
  subst hdd
  refine wpAny_call ?_
  refine' code_def (binds := [(S "row", Value.ref row), (S "deep", Value.int 0 t), (S "used", .ref used)]) B F X N T rfl rfl hk (lk1339 _) ?k7 ?k8 (BindsTo.of_eq rfl) (locs rfl) ?_ rfl rfl rfl (by decide)
  case k7 => k_is
  case k8 => ktr_room
  k_whole
  intro g' L' h' FG' F' N' B' X' T'
  (try dsimp only)
  k_fold
  wtm_at "ks"
  · (with_reducible rename News _ _ _ _ => N2)
    have q := fm (nextV ns.dropLast) 7 (by decide)
    refine pick_str (xs := mNames) N2 (.head _) ?_ q.1 q.2 (by decide) ?_
    · exact .cons (.str _ _) (.cons (.str _ _) (.cons (.str _ _) (.cons (.str _ _) (.cons (.str _ _) (.cons (.str _ _) (.cons (.str _ _) .nil))))))
    intro x tx hx
    wtm_at "ks"
    (with_reducible rename Fr _ _ _ _ => F2)
    (with_reducible rename News _ _ _ _ => N2)
    (with_reducible rename IntsAre _ _ => I2)
    (with_reducible rename List.length _ ≤ 200 => L2)
    (with_reducible rename _ ∧ _ ∧ _ ∧ AllLt _ _ => q1)
    (with_reducible rename _ ∧ _ ∧ _ ∧ _ ∧ AllLt _ _ => q2)
    (with_reducible rename _ ∧ _ ∧ _ ∧ _ ∧ _ ∧ AllLt _ _ => q3)
    rw [List.push_toArray] at N2
    exact ret _ _ _ _ _ _ _ (.inst x) _ _ F2 (nsub (nsub N2 skip3) put_back) (fun p hp => List.mem_append_right _ hp) (item_fin hoff (List.forall_mem_cons.mpr ⟨⟨q3.2.2.2.1, q3.2.2.2.2.1, moLt q3.2.2.2.2.2⟩, List.forall_mem_cons.mpr ⟨⟨q2.2.2.1, q2.2.2.2.1, moLt q2.2.2.2.2⟩, List.forall_mem_cons.mpr ⟨⟨q1.2.1, q1.2.2.1, moLt q1.2.2.2⟩, List.forall_mem_nil _⟩⟩⟩)) (dat_inst (.head _) mm1 mm2) hx (Int.le_refl 0) I2 L2 (used_put hv)
  · (with_reducible rename Fr _ _ _ _ => F2)
    (with_reducible rename News _ _ _ _ => N2)
    (with_reducible rename IntsAre _ _ => I2)
    (with_reducible rename List.length _ ≤ 200 => L2)
    (with_reducible rename _ ∧ _ ∧ AllLt _ _ => q1)
    exact ret _ _ _ _ _ _ _ .init _ _ F2 (nsub N2 put_back) (fun p hp => List.mem_append_right _ hp) (item_fin hoff (List.forall_mem_cons.mpr ⟨⟨q1.1, q1.2.1, moLt q1.2.2⟩, List.forall_mem_nil _⟩)) (dat_init (.head _)) trivial (Int.le_refl 0) I2 L2 (by rw [show It.names .init = [] from rfl, List.append_nil]; exact hv)
  · exfalso
    have q := fm (nextV ns) 2 (by decide)
    wtm_at "om"
  ) : type_of% ?mG); have _ : True := trivial; type_of% ?mG))
end
end
section
open PySem PySem.W PyProof.Rows PySem.Calls
set_option maxRecDepth 100000
set_option maxHeartbeats 0
set_option Elab.async false
set_option compiler.extract_closed false
set_option compiler.reuse false
set_option linter.unusedVariables false
set_option pp.deepTerms false
section
variable {w : World} {mean : ExcName → Option Value} {mg mb : Str → Option Value} {dp un : Nat} {gd : Option (List Code)} {cn : Str} {cs : Scope} {a : Addr} {ccd : Value} {cl : List (Str × Addr)} {A₀ : Around} {outer : List Env} {base h₀ : Heap} {L : Addr} {m : Str → Option Value} {s : Shared} {Q E : Value → Shared → Prop}
local macro_rules | `(tactic| walk_at "mine no such key") => `(tactic| skip)
theorem hp_two {row used D2 D1 : Addr} {o2 o1 : Obj} {mo r2 r1 : Led} {A : Prop} (q2 : A ∧ @LT.lt Nat _ row D2 ∧ @LT.lt Nat _ used D2 ∧ AllLt D2 (mo ++ r2)) (q1 : @LT.lt Nat _ row D1 ∧ @LT.lt Nat _ used D1 ∧ AllLt D1 (mo ++ r1)) :
    ∀ z ∈ [(D2, o2), (D1, o1)], @LT.lt Nat _ row z.1 ∧ @LT.lt Nat _ used z.1 ∧ ∀ p ∈ mo, @LT.lt Nat _ p.1 z.1 :=
  allHn q2.2.1 q2.2.2.1 (moLt q2.2.2.2) (allHn q1.1 q1.2.1 (moLt q1.2.2) (List.forall_mem_nil _))
local macro_rules | `(tactic| walk_at "call ref") => ct ``next_u "aaaaaeRVUrr_" 9

local macro_rules | `(tactic| walk_at "call ref") => do
  let (as, cs) ← holes "aaaaaeqqorrrorr"
  let one ← rfT (← `(item_p IH [] $as* (List.forall_mem_nil _) ?_)) cs
  let hp ← `(tactic| (case hp => exact hp_two (by with_reducible assumption) (by with_reducible assumption)))
  let two ← rfT (← `(item_p IH [(_, _), (_, _)] $as* ?hp ?_)) (cs.push hp)
  `(tactic| (k_here; (with_reducible rename ItemC _ _ => IH); k_dflt $(← firstOf #[one, two]):tactic; k_whole; intro _ _ _ _ _ _ _ _ _ _ _ N' _ o' _ _ _ _ _ _ _; (have oa' := And.left o'); (have ob' := And.left (And.right o')); (try dsimp only); (try simp only [List.cons_append, List.nil_append] at N')))
theorem item_s {d : Int} (h0 : 0 ≤ d) (IH : ItemC w d) : ItemC w (d + 1) := by
  refine ?mG; exact ((by exact ?mB) : (let_mvar% ?mB := (by (
  intro mean mg mb dp un gd cn cs a ccd cl A₀ outer base h₀ L m s Q E row used us ns n n2 vs xs d' t mo rest B F X N T hk hd hu hdd hi hl hv hvl hru hoff ret
  have hmr := hoff.1
  have hmu := hoff.2.1
  have hv9 : vs.length ≤ 900 := Nat.le_trans (Nat.le_add_right _ _) hvl
  subst hdd
  have hpw : 2 ^ (d + 1).toNat = 2 * 2 ^ d.toNat := by rw [show (d + 1).toNat = d.toNat + 1 by omega, Nat.pow_succ, Nat.mul_comm]
  rw [hpw] at hvl
  have hdn : (d + 1).toNat = d.toNat + 1 := by omega
  have hdS : dp + 1 + 8 + 2 * d.toNat < recursionLimit := by rw [hdn] at hd; omega
  have huS : un + 3 + 300 + 20 * d.toNat < cLine := by rw [hdn] at hu; omega
  have hdL : dp + 8 < recursionLimit := Nat.lt_of_le_of_lt (Nat.le_add_right _ _) hd
  have huL : un + 300 < cLine := Nat.lt_of_le_of_lt (Nat.le_add_right _ _) hu
  have hd1 : 0 < d + 1 := by omega
  have hds : d + 1 - 1 = d := by omega
  have hv1 : vs.length + 2 ^ d.toNat ≤ 900 := by omega
  refine wpAny_call ?_
  refine' code_def (binds := [(S "row", Value.ref row), (S "deep", Value.int (d + 1) t), (S "used", .ref used)]) B F X N T rfl rfl hk (lk1339 _) ?k7 ?k8 (BindsTo.of_eq rfl) (locs rfl) ?_ rfl rfl rfl (by decide)
  case k7 => k_is
  case k8 => ktr_room
  k_whole
  intro g' L' h' FG' F' N' B' X' T'
  (try dsimp only)
  k_fold
  wtm_at "ks"
  · (with_reducible rename News _ _ _ _ => N2)
    have q := fm (nextV ns.dropLast) 7 (by decide)
    refine pick_str (xs := mNames) N2 (.head _) ?_ q.1 q.2 (by decide) ?_
    · exact .cons (.str _ _) (.cons (.str _ _) (.cons (.str _ _) (.cons (.str _ _) (.cons (.str _ _) (.cons (.str _ _) (.cons (.str _ _) .nil))))))
    intro x tx hx
    wtm_at "ks"
    (with_reducible rename Fr _ _ _ _ => F2)
    (with_reducible rename News _ _ _ _ => N2)
    (with_reducible rename IntsAre _ _ => I2)
    (with_reducible rename List.length _ ≤ 200 => L2)
    (with_reducible rename _ ∧ _ ∧ _ ∧ AllLt _ _ => q1)
    (with_reducible rename _ ∧ _ ∧ _ ∧ _ ∧ AllLt _ _ => q2)
    (with_reducible rename _ ∧ _ ∧ _ ∧ _ ∧ _ ∧ AllLt _ _ => q3)
    rw [List.push_toArray] at N2
    exact ret _ _ _ _ _ _ _ (.inst x) _ _ F2 (nsub (nsub N2 skip3) put_back) (fun p hp => List.mem_append_right _ hp) (item_fin hoff (List.forall_mem_cons.mpr ⟨⟨q3.2.2.2.1, q3.2.2.2.2.1, moLt q3.2.2.2.2.2⟩, List.forall_mem_cons.mpr ⟨⟨q2.2.2.1, q2.2.2.2.1, moLt q2.2.2.2.2⟩, List.forall_mem_cons.mpr ⟨⟨q1.2.1, q1.2.2.1, moLt q1.2.2.2⟩, List.forall_mem_nil _⟩⟩⟩)) (dat_inst (.head _) mm1 mm2) hx (Int.add_nonneg h0 (by decide)) I2 L2 (used_put hv)
  · (with_reducible rename Fr _ _ _ _ => F2)
    (with_reducible rename News _ _ _ _ => N2)
    (with_reducible rename IntsAre _ _ => I2)
    (with_reducible rename List.length _ ≤ 200 => L2)
    (with_reducible rename _ ∧ _ ∧ AllLt _ _ => q1)
    exact ret _ _ _ _ _ _ _ .init _ _ F2 (nsub N2 put_back) (fun p hp => List.mem_append_right _ hp) (item_fin hoff (List.forall_mem_cons.mpr ⟨⟨q1.1, q1.2.1, moLt q1.2.2⟩, List.forall_mem_nil _⟩)) (dat_init (.head _)) trivial (Int.add_nonneg h0 (by decide)) I2 L2 (by rw [show It.names .init = [] from rfl, List.append_nil]; exact hv)
  · (with_reducible rename Fr _ _ _ _ => F2)
    (with_reducible rename News _ _ _ _ => N2)
    (with_reducible rename IntsAre _ _ => I2)
    (with_reducible rename List.length _ ≤ 200 => L2)
    (with_reducible rename _ ∧ _ ∧ AllLt _ _ => q1)
    (with_reducible rename _ ∧ _ ∧ _ ∧ AllLt _ _ => q2)
    (with_reducible rename OffP _ _ _ _ => o2)
    (with_reducible rename DatIn _ _ (It.dat _) => hD1)
    (with_reducible rename It.ok _ => ok1)
    (with_reducible rename Nat.cast (It.deep _) ≤ _ => dp1)
    (with_reducible rename DatAll _ _ (List.map _ (_ ++ It.names _)) => hv2)
    (with_reducible rename ∀ p ∈ rest, p ∈ _ => hs1)
    exact ret _ _ _ _ _ _ _ (.blk _) _ _ F2 (nsub N2 (put_back (new := [(_, _), (_, _)]))) (fun p hp => List.mem_append_right _ (hs1 p hp)) (item_fin o2 (allHn q2.2.1 q2.2.2.1 (moLt q2.2.2.2) (allHn q1.1 q1.2.1 (moLt q1.2.2) (List.forall_mem_nil _)))) (dat_blk (.head _) mm1 (dat_up hD1)) ok1 (by show ((It.deep _ + 1 : Nat) : Int) ≤ _; omega) I2 L2 hv2
  · (with_reducible rename Fr _ _ _ _ => F2)
    (with_reducible rename News _ _ _ _ => N2)
    (with_reducible rename IntsAre _ _ => I2)
    (with_reducible rename List.length _ ≤ 200 => L2)
    (with_reducible rename _ ∧ _ ∧ AllLt _ _ => q1)
    (with_reducible rename _ ∧ _ ∧ _ ∧ AllLt _ _ => q2)
    (with_reducible rename _ ∧ _ ∧ _ ∧ _ ∧ AllLt _ _ => q3)
    (with_reducible rename _ ∧ _ ∧ _ ∧ _ ∧ _ ∧ AllLt _ _ => q4)
    (with_reducible rename OffP _ _ _ _ => o2)
    (with_reducible rename DatIn _ _ (It.dat _) => hD2)
    (with_reducible rename It.ok _ => ok2)
    (with_reducible rename Nat.cast (It.deep _) ≤ _ => dp2)
    (with_reducible rename DatAll _ _ (List.map _ (_ ++ It.names _)) => hv2)
    (with_reducible rename ∀ p ∈ rest, p ∈ _ => hs1)
    (with_reducible rename ∀ p ∈ _, p ∈ _ => hs2)
    exact ret _ _ _ _ _ _ _ (.gif2 _ _) _ _ F2 (nsub N2 (put_back (new := [(_, _), (_, _), (_, _), (_, _)]))) (fun p hp => List.mem_append_right _ (hs2 p (hs1 p hp))) (item_fin o2 (allHn q4.2.2.2.1 q4.2.2.2.2.1 (moLt q4.2.2.2.2.2) (allHn q3.2.2.1 q3.2.2.2.1 (moLt q3.2.2.2.2) (allHn q2.2.1 q2.2.2.1 (moLt q2.2.2.2) (allHn q1.1 q1.2.1 (moLt q1.2.2) (List.forall_mem_nil _)))))) (dat_gif2 (.head _) (dat_id mm1) (dat_blk mm2 mm3 (dat_up (DatIn.mono hs2 (by with_reducible assumption)))) (dat_up hD2)) ⟨by with_reducible assumption, ok2⟩ (by show ((max (It.deep _) (It.deep _) + 1 : Nat) : Int) ≤ _; omega) I2 L2 (by rw [show ∀ a b, It.names (.gif2 a b) = a.names ++ b.names from fun _ _ => rfl, ← List.append_assoc]; exact hv2)
  · (with_reducible rename Fr _ _ _ _ => F2)
    (with_reducible rename News _ _ _ _ => N2)
    (with_reducible rename IntsAre _ _ => I2)
    (with_reducible rename List.length _ ≤ 200 => L2)
    (with_reducible rename _ ∧ _ ∧ AllLt _ _ => q1)
    (with_reducible rename _ ∧ _ ∧ _ ∧ AllLt _ _ => q2)
    (with_reducible rename _ ∧ _ ∧ _ ∧ _ ∧ AllLt _ _ => q3)
    (with_reducible rename _ ∧ _ ∧ _ ∧ _ ∧ _ ∧ AllLt _ _ => q4)
    (with_reducible rename OffP _ _ _ _ => o2)
    (with_reducible rename DatIn _ _ (It.dat _) => hD1)
    (with_reducible rename It.ok _ => ok1)
    (with_reducible rename Nat.cast (It.deep _) ≤ _ => dp1)
    (with_reducible rename DatAll _ _ (List.map _ (_ ++ It.names _)) => hv2)
    (with_reducible rename ∀ p ∈ rest, p ∈ _ => hs1)
    exact ret _ _ _ _ _ _ _ (.gif _) _ _ F2 (nsub N2 (put_back (new := [(_, _), (_, _), (_, _), (_, _)]))) (fun p hp => List.mem_append_right _ (hs1 p hp)) (item_fin o2 (allHn q4.2.2.2.1 q4.2.2.2.2.1 (moLt q4.2.2.2.2.2) (allHn q3.2.2.1 q3.2.2.2.1 (moLt q3.2.2.2.2) (allHn q2.2.1 q2.2.2.1 (moLt q2.2.2.2) (allHn q1.1 q1.2.1 (moLt q1.2.2) (List.forall_mem_nil _)))))) (dat_gif (.head _) (dat_id mm1) (dat_blk mm2 mm3 (dat_up hD1))) ok1 (by show ((It.deep _ + 1 : Nat) : Int) ≤ _; omega) I2 L2 hv2
  · (with_reducible rename Fr _ _ _ _ => F2)
    (with_reducible rename News _ _ _ _ => N2)
    (with_reducible rename IntsAre _ _ => I2)
    (with_reducible rename List.length _ ≤ 200 => L2)
    (with_reducible rename _ ∧ _ ∧ AllLt _ _ => q1)
    (with_reducible rename _ ∧ _ ∧ _ ∧ AllLt _ _ => q2)
    (with_reducible rename _ ∧ _ ∧ _ ∧ _ ∧ AllLt _ _ => q3)
    (with_reducible rename _ ∧ _ ∧ _ ∧ _ ∧ _ ∧ AllLt _ _ => q4)
    (with_reducible rename _ ∧ _ ∧ _ ∧ _ ∧ _ ∧ _ ∧ AllLt _ _ => q5)
    (with_reducible rename _ ∧ _ ∧ _ ∧ _ ∧ _ ∧ _ ∧ _ ∧ AllLt _ _ => q6)
    (with_reducible rename _ ∧ _ ∧ _ ∧ _ ∧ _ ∧ _ ∧ _ ∧ _ ∧ AllLt _ _ => q7)
    (with_reducible rename _ ∧ _ ∧ _ ∧ _ ∧ _ ∧ _ ∧ _ ∧ _ ∧ _ ∧ AllLt _ _ => q8)
    (with_reducible rename _ ∧ _ ∧ _ ∧ _ ∧ _ ∧ _ ∧ _ ∧ _ ∧ _ ∧ _ ∧ AllLt _ _ => q9)
    (with_reducible rename OffP _ _ _ _ => o2)
    (with_reducible rename DatIn _ _ (It.dat _) => hD1)
    (with_reducible rename It.ok _ => ok1)
    (with_reducible rename Nat.cast (It.deep _) ≤ _ => dp1)
    (with_reducible rename DatAll _ _ (List.map _ (_ ++ It.names _)) => hv2)
    (with_reducible rename ∀ p ∈ rest, p ∈ _ => hs1)
    exact ret _ _ _ _ _ _ _ (.gcase _) _ _ F2 (nsub N2 (put_back (new := [(_, _), (_, _), (_, _), (_, _), (_, _), (_, _), (_, _), (_, _), (_, _)]))) (fun p hp => List.mem_append_right _ (hs1 p hp)) (item_fin o2 (allHn q9.2.2.2.2.2.2.2.2.1 q9.2.2.2.2.2.2.2.2.2.1 (moLt q9.2.2.2.2.2.2.2.2.2.2) (allHn q8.2.2.2.2.2.2.2.1 q8.2.2.2.2.2.2.2.2.1 (moLt q8.2.2.2.2.2.2.2.2.2) (allHn q7.2.2.2.2.2.2.1 q7.2.2.2.2.2.2.2.1 (moLt q7.2.2.2.2.2.2.2.2) (allHn q6.2.2.2.2.2.1 q6.2.2.2.2.2.2.1 (moLt q6.2.2.2.2.2.2.2) (allHn q5.2.2.2.2.1 q5.2.2.2.2.2.1 (moLt q5.2.2.2.2.2.2) (allHn q4.2.2.2.1 q4.2.2.2.2.1 (moLt q4.2.2.2.2.2) (allHn q3.2.2.1 q3.2.2.2.1 (moLt q3.2.2.2.2) (allHn q2.2.1 q2.2.2.1 (moLt q2.2.2.2) (allHn q1.1 q1.2.1 (moLt q1.2.2) (List.forall_mem_nil _))))))))))) (dat_gcase (.head _) (dat_id mm6) mm1 mm3 mm4 (dat_id mm5) mm2 (dat_up hD1)) ok1 (by show ((It.deep _ + 1 : Nat) : Int) ≤ _; omega) I2 L2 hv2
  · (with_reducible rename Fr _ _ _ _ => F2)
    (with_reducible rename News _ _ _ _ => N2)
    (with_reducible rename IntsAre _ _ => I2)
    (with_reducible rename List.length _ ≤ 200 => L2)
    (with_reducible rename _ ∧ _ ∧ AllLt _ _ => q1)
    (with_reducible rename _ ∧ _ ∧ _ ∧ AllLt _ _ => q2)
    (with_reducible rename _ ∧ _ ∧ _ ∧ _ ∧ AllLt _ _ => q3)
    (with_reducible rename _ ∧ _ ∧ _ ∧ _ ∧ _ ∧ AllLt _ _ => q4)
    (with_reducible rename _ ∧ _ ∧ _ ∧ _ ∧ _ ∧ _ ∧ AllLt _ _ => q5)
    (with_reducible rename _ ∧ _ ∧ _ ∧ _ ∧ _ ∧ _ ∧ _ ∧ AllLt _ _ => q6)
    (with_reducible rename OffP _ _ _ _ => o2)
    (with_reducible rename DatIn _ _ (It.dat _) => hD1)
    (with_reducible rename It.ok _ => ok1)
    (with_reducible rename Nat.cast (It.deep _) ≤ _ => dp1)
    (with_reducible rename DatAll _ _ (List.map _ (_ ++ It.names _)) => hv2)
    (with_reducible rename ∀ p ∈ rest, p ∈ _ => hs1)
    exact ret _ _ _ _ _ _ _ (.gfor _) _ _ F2 (nsub N2 (put_back (new := [(_, _), (_, _), (_, _), (_, _), (_, _), (_, _)]))) (fun p hp => List.mem_append_right _ (hs1 p hp)) (item_fin o2 (allHn q6.2.2.2.2.2.1 q6.2.2.2.2.2.2.1 (moLt q6.2.2.2.2.2.2.2) (allHn q5.2.2.2.2.1 q5.2.2.2.2.2.1 (moLt q5.2.2.2.2.2.2) (allHn q4.2.2.2.1 q4.2.2.2.2.1 (moLt q4.2.2.2.2.2) (allHn q3.2.2.1 q3.2.2.2.1 (moLt q3.2.2.2.2) (allHn q2.2.1 q2.2.2.1 (moLt q2.2.2.2) (allHn q1.1 q1.2.1 (moLt q1.2.2) (List.forall_mem_nil _)))))))) (dat_gfor (.head _) (dat_id mm3) (dat_id mm2) (dat_id mm1) (dat_blk mm4 mm5 (dat_up hD1))) ok1 (by show ((It.deep _ + 1 : Nat) : Int) ≤ _; omega) I2 L2 hv2
  ) : type_of% ?mG); have _ : True := trivial; type_of% ?mG))
end
end
section
open PySem PySem.W PyProof.Rows PySem.Calls
set_option maxRecDepth 100000
set_option maxHeartbeats 0
set_option Elab.async false
set_option compiler.extract_closed false
set_option compiler.reuse false
set_option linter.unusedVariables false
local macro_rules | `(tactic| walk_at "exec For Name Subscript cons nil") => forS
local macro_rules | `(tactic| walk_at "exec For Name Name cons nil") => forS
local macro_rules | `(tactic| walk_at "exec For Name Call cons nil") => forS
local macro_rules | `(tactic| walk_at "exec For Name BinOp cons nil") => forS
local macro_rules | `(tactic| walk_at "exec For Name Attribute cons nil") => forS
set_option pp.deepTerms false
section
variable {w : World} {mean : ExcName → Option Value} {mg mb : Str → Option Value} {dp un : Nat} {gd : Option (List Code)} {cn : Str} {cs : Scope} {a : Addr} {ccd : Value} {cl : List (Str × Addr)} {A₀ : Around} {outer : List Env} {base h₀ : Heap} {L : Addr} {m : Str → Option Value} {s : Shared} {Q E : Value → Shared → Prop}

inductive RowJ (l D : Addr) (ws : List Value) (news : Led) (i : Nat) (m : Str → Option Value) (nx : Led) : Prop
  | mk us n ns'
    (h0 : nx = (D, listOf ws.toArray 0) :: (l, listOf us.toArray n) :: news)
    (h1 : IntsAre us ns')
    (h2 : us.length ≤ 31 * i)
    (h3 : m (S "row") = some (.ref l))
inductive RowJ2 (l D : Addr) (ws : List Value) (news : Led) (I : Addr) (oI : Obj) (b : Nat) (i : Nat) (m : Str → Option Value) (nx : Led) : Prop
  | mk us n ns' k t
    (h0 : nx = (I, oI) :: (D, listOf ws.toArray 0) :: (l, listOf us.toArray n) :: news)
    (h1 : IntsAre us ns')
    (h2 : us.length ≤ b + i)
    (h3 : m (S "row") = some (.ref l))
    (h4 : m (S "number") = some (.int k t))
theorem IntsAre.snoc {us : List Value} {ns : List Int} {k : Int} {t : Tok} (h : IntsAre us ns) : IntsAre (us ++ [.int k t]) (ns ++ [k]) := by
  induction h with
  | nil => exact .cons _ _ .nil
  | cons a b _ ih => exact .cons a b ih
theorem IntsAre.rev {us : List Value} {ns : List Int} (h : IntsAre us ns) : IntsAre us.reverse ns.reverse := by
  induction h with
  | nil => exact .nil
  | cons a b _ ih => rw [List.reverse_cons, List.reverse_cons]; exact IntsAre.snoc ih
theorem intsAre_at {vs : List Value} {ns : List Int} (h : IntsAre vs ns) {i : Nat} {v : Value} (e : vs[i]? = some v) : ∃ c t, v = .int c t := by
  refine ?mG; exact ((by exact ?mB) : (let_mvar% ?mB := (by (
  have hl := h.length
  have hi : i < vs.length := by
    by_cases hh : i < vs.length
    · exact hh
    · rw [List.getElem?_eq_none (Nat.le_of_not_lt hh)] at e; cases e
  obtain ⟨t, hx⟩ := h.get i ns[i] (by rw [List.getElem?_eq_getElem])
  rw [hx] at e
  exact ⟨_, t, (Option.some.inj e).symm⟩
  ) : type_of% ?mG); have _ : True := trivial; type_of% ?mG))
theorem lk1318 (P) : (KX P).lookup 1318 = some ⟨.type "function", none, .func f1318, #[]⟩ := by kernel_rfl
/-- how the number stands behind its statement: the two ways meet here -/
inductive NumQ (h₀ : Heap) (L : Addr) (m : Str → Option Value) (news : Led) (s₀ : Shared) : Flow → Shared → Prop
  | mk (h' : Heap) (tk : Nat) (k : Int) (t : Tok) (F : Fr h₀ L h' (fun y => if y = S "number" then some (.int k t) else m y)) (N : News h₀ L h' news) : NumQ h₀ L m news s₀ .next { s₀ with heap := h', toks := tk }
theorem num_join {M : Model} {A : Around} {c : Sem Flow} {Q : Flow → Shared → Prop} {E : Value → Shared → Prop} {s : Shared} {h₀ : Heap} {L : Addr} {m : Str → Option Value} {news : Led} (F : Fr h₀ L s.heap m) (N : News h₀ L s.heap news)
    (one : wpAny M A c (NumQ h₀ L m news s) E s) (two : ∀ h' tk k t, Fr h₀ L h' (fun y => if y = S "number" then some (.int k t) else m y) → News h₀ L h' news → Q .next { s with heap := h', toks := tk }) : wpAny M A c Q E s :=
  wpAny_mono one (fun f s' z => by
    cases z with
    | mk h' tk k t F N => exact two h' tk k t F N) fun _ _ e => e
local macro_rules | `(tactic| walk_at "exec Assign cons IfExp") => holdS
theorem row_t {sc : Addr} {vs : List Value} {zs : List Int} {news : Led}
    (B : Below A₀ base outer h₀) (F : Fr h₀ L s.heap m) (X : (KX w.params).In h₀) (N : News h₀ L s.heap news) (T : TopM mean mg mb h₀)
    (hk : cs.kind = .function) (hd : dp + 8 < recursionLimit) (hu : un + 300 < cLine)
    (hs : base.IsList sc vs.toArray) (hi : IntsAre vs zs) (hl : vs.length ≤ 63)
    (ret : ∀ r us n ns h' tk', Fr h₀ L h' m → News h₀ L h' ((r, listOf us.toArray n) :: news) → (∀ p ∈ news, @LT.lt Nat _ p.1 r) → IntsAre us ns → us.length ≤ 160 → Q (.ref r) { s with heap := h', toks := tk' }) :
    wpAny (model pwO w) (ktrTop dp un gd cn cs L a ccd cl outer) (call (.ref 1318) [.ref sc]) Q E s := by
  refine ?mG; exact ((by exact ?mB) : (let_mvar% ?mB := (by (
  refine wpAny_call ?_
  refine' code_def (binds := [(S "script", Value.ref sc)]) B F X N T rfl rfl hk (lk1318 _) ?k7 ?k8 (BindsTo.of_eq rfl) (locs rfl) ?_ rfl rfl rfl (by decide)
  case k7 => k_is
  case k8 => ktr_room
  k_whole
  intro g' L' h' FG' F' N' B' X' T'
  (try dsimp only)
  k_lift B'
  k_fold
  wtm_at "ks"
  have hzl := IntsAre.length hi
  rename_i l hx1 l1 hx2 D ws hx3 F1 N1 hI hC hL l2
  show wpAny _ _ _ _ _ _
  have hnl : ∀ p ∈ news, p.1 ≠ l := fun p hp => Nat.ne_of_lt (l1 p hp)
  refine iterJ_list (vs := ws) (k := 0) (RowJ l D ws news) rfl (.head _) F1 N1 ⟨[], 0, [], rfl, .nil, Nat.zero_le _, rfl⟩ ?_ ?_
  · rintro I i v m₁ _ h tk oI hlt hi hv ⟨us, n, ns', rfl, hus, hlen, hm⟩ hne hsrc F2 N2
    obtain ⟨c, t, rfl⟩ := intsAre_at hI hv
    have F3 := know F2 (k := S "row") (v := .ref l) (by rw [if_neg (by decide)]; exact hm)
    replace F3 : Fr g' L' h _ := F3
    replace N2 : News g' L' h _ := N2
    clear F2 F1 N1
    k_lt hlt
    have hws : ws.length ≤ 40 := by have := IntsAre.length hI; wtm_at "om"
    have hlen2 : us.length ≤ 5000 := by wtm_at "om"
    wtm_at "ks"
    (with_reducible rename Fr _ _ _ _ => FA)
    (with_reducible rename News _ _ _ _ => NA)
    show wpAny _ _ _ _ _ _
    refine num_join FA NA ?one fun hh2 tk9 kk tt F9 N9 => ?_
    case one =>
      refine wpAny_Assign_Name ?_
      wtm_at "ks"
      all_goals (
        (with_reducible rename Fr _ _ _ _ => F1)
        (with_reducible rename News _ _ _ _ => N1)
        exact .mk _ _ _ _ F1 N1)
    clear FA NA
    (try dsimp only)
    wtm_at "ks"
    all_goals (
      rename_i R _ _ _ _ hR F4 N4 _
      (show wpAny _ _ _ _ _ _)
      rw [List.push_toArray] at N4
      refine iterJ_range (n := 30) (RowJ2 l D ws news I oI (us.length + 1)) rfl hR (by decide) (by decide) F4 N4 ⟨_, _, _, _, _, rfl, IntsAre.snoc hus, by simp, rfl, rfl⟩ ?_ ?_
      · rintro I2 i2 t2 m₂ _ h2 tk2 oI2 hlt2 hi2 ⟨us2, n2, ns2, k2, tk3, rfl, hus2, hlen3, hm2, hm3⟩ hne2 F5 N5
        have F6 := know F5 (k := S "row") (v := .ref l) (by rw [if_neg (by decide)]; exact hm2)
        have F7 := know F6 (k := S "number") (v := .int k2 tk3) (by rw [if_neg (by decide), if_neg (by decide)]; exact hm3)
        replace F7 : Fr g' L' h2 _ := F7
        replace N5 : News g' L' h2 _ := N5
        clear F6 F5 F4 N4
        k_lt hlt2
        have hlen4 : us2.length ≤ 5000 := by wtm_at "om"
        wtm_at "ks"
        · (with_reducible rename Fr _ _ _ _ => F8)
          (with_reducible rename News _ _ _ _ => N8)
          rw [List.push_toArray] at N8
          exact ⟨_, _, _, _, rfl, F8, N8, List.forall_mem_cons.mpr ⟨Nat.ne_of_lt hlt2.1, List.forall_mem_cons.mpr ⟨Nat.ne_of_lt hlt2.2.1, List.forall_mem_cons.mpr ⟨Nat.ne_of_lt hlt2.2.2.1, fun p hp => Nat.ne_of_lt (of_allLt hlt2.2.2.2 p hp)⟩⟩⟩, fun _ h => (nomatch h), _, _, _, _, _, rfl, IntsAre.snoc hus2, by rw [List.length_append, List.length_singleton]; wtm_at "om", rfl, rfl⟩
        · exact ⟨h2, _, _, _, rfl, F7, N5, List.forall_mem_cons.mpr ⟨Nat.ne_of_lt hlt2.1, List.forall_mem_cons.mpr ⟨Nat.ne_of_lt hlt2.2.1, List.forall_mem_cons.mpr ⟨Nat.ne_of_lt hlt2.2.2.1, fun p hp => Nat.ne_of_lt (of_allLt hlt2.2.2.2 p hp)⟩⟩⟩, fun _ h => (nomatch h), us2, n2, ns2, _, _, rfl, hus2, by wtm_at "om", rfl, rfl⟩
      · rintro m₂ _ h2 tk2 ⟨us2, n2, ns2, k2, tk3, rfl, hus2, hlen3, hm2, hm3⟩ F5 N5
        (try dsimp only)
        wtm_at "ks"
        exact ⟨h2, _, m₂, _, rfl, F5, N5, List.forall_mem_cons.mpr ⟨Nat.ne_of_lt hlt.1, List.forall_mem_cons.mpr ⟨Nat.ne_of_lt hlt.2.1, fun p hp => Nat.ne_of_lt (of_allLt hlt.2.2 p hp)⟩⟩, fun p hp => by rw [List.mem_singleton.mp hp]; exact .head _, us2, n2, ns2, rfl, hus2, by wtm_at "om", hm2⟩)
  · rintro m₁ _ h tk ⟨us, n, ns', rfl, hus, hlen, hm⟩ F2 N2
    have F3 := know F2 (k := S "row") (v := .ref l) hm
    replace F3 : Fr g' L' h _ := F3
    replace N2 : News g' L' h _ := N2
    clear F2 F1 N1
    have hws : ws.length ≤ 40 := by have := IntsAre.length hI; wtm_at "om"
    have hlen2 : us.length ≤ 5000 := by wtm_at "om"
    (try dsimp only)
    wtm_at "ks"
    rename_i D2 ws2 hx5 hI2 hC2 hL2 l3 hx6 F4 N4
    have e2 := IntsAre.length hI2
    refine kl_reverse F4 N4 rfl (Upd.head (fun p hp => ?_)) ?_ fun h7 F5 N5 => ?_
    · rcases List.mem_cons.mp hp with rfl | hp
      · exact Nat.ne_of_lt l3.1
      · rcases List.mem_cons.mp hp with rfl | hp
        · exact Nat.ne_of_lt l3.2.1
        · exact Nat.ne_of_lt (of_allLt l3.2.2 p hp)
    · rw [PySem.sizeLine_eq]
      show ws2.length ≤ _
      wtm_at "om"
    (try dsimp only)
    wtm_at "ks"
    rename_i F6 N6 _ _
    refine ret D2 ws2.reverse 0 _ h7 _ F6 (nsub N6 fun p hp => ?_) (of_allLt l3.2.2) (IntsAre.rev hI2) (by rw [List.length_reverse]; wtm_at "om")
    rcases List.mem_cons.mp hp with rfl | hp
    · exact .head _
    · exact .tail _ (.tail _ (.tail _ hp))
  ) : type_of% ?mG); have _ : True := trivial; type_of% ?mG))
end
end
local macro_rules | `(tactic| k_mem) => do memS #[← `(tactic| ktr_member), ← `(tactic| (refine mtail ?_; k_mem))]
local macro_rules | `(tactic| walk_at "subscriptTail Name Slice ref ref") => sliceAB 3 5
local macro_rules | `(tactic| walk_at "subscriptTail Name Constant ref int") => plainS (rf ``tup_item "amddee_w")
section
open PySem PySem.W PyProof.Rows PySem.Calls
set_option maxRecDepth 100000
set_option maxHeartbeats 0
set_option Elab.async false
set_option compiler.extract_closed false
set_option compiler.reuse false
set_option linter.unusedVariables false
local macro_rules | `(tactic| walk_at "eval ListComp") => compS none ``ListComp_hold "awdfdf_"
set_option pp.deepTerms false
section
variable {w : World} {mean : ExcName → Option Value} {mg mb : Str → Option Value} {dp un : Nat} {gd : Option (List Code)} {cn : Str} {cs : Scope} {a : Addr} {ccd : Value} {cl : List (Str × Addr)} {A₀ : Around} {outer : List Env} {base h₀ : Heap} {L : Addr} {m : Str → Option Value} {s : Shared} {Q E : Value → Shared → Prop}

noncomputable def notNone : Value → Bool
  | .none => false
  | _ => true
noncomputable def JPart (nx0 : Led) (vs : List Value) (i : Nat) (ys : List Value) (nx : Led) : Prop := nx = nx0 ∧ ys = (vs.take i).filter notNone
theorem inner_inst {v : Value} {x : Str} {news : Led}
    (B : Below A₀ base outer h₀) (F : Fr h₀ L s.heap m) (X : (KX w.params).In h₀) (N : News h₀ L s.heap news) (T : TopM mean mg mb h₀)
    (hk : cs.kind = .function) (hd : dp + 8 < recursionLimit) (hu : un + 300 < cLine) (hD : DatIn news v (It.dat (.inst x)))
    (ret : ∀ r ent h' tk', Fr h₀ L h' m → News h₀ L h' (ent ++ news) → (∀ p ∈ news, ∀ q ∈ ent, @LT.lt Nat _ p.1 q.1) → DatIn (ent ++ news) r (.tuple ((It.inst x : It).subs.map It.dat)) → Q r { s with heap := h', toks := tk' }) :
    wpAny (model pwO w) (ktrTop dp un gd cn cs L a ccd cl outer) (call (.ref 1110) [v]) Q E s := by
  refine ?mG; exact ((by exact ?mB) : (let_mvar% ?mB := (by (
  obtain ⟨a1, n1, v1, v2, v3, v4, v5, v6, v7, rfl, m1, e1, e2, e3, e4, e5, e6, e7⟩ := inv7 hD
  obtain ⟨t1, rfl⟩ := d_str e1
  refine wpAny_call ?_
  refine' code_def (binds := [(S "item", Value.ref a1)]) B F X N T rfl rfl hk (lk1110 _) ?k7 ?k8 (BindsTo.of_eq rfl) (locs rfl) ?_ rfl rfl rfl (by decide)
  case k7 => k_is
  case k8 => ktr_room
  k_whole
  intro g' L' h' FG' F' N' B' X' T'
  (try dsimp only)
  k_fold
  wtm_at "ks"
  rename_i D h1 F1 N1 l1 F2 N2 _ _
  exact ret _ [(D, _)] _ _ F2 N2 (fun p hp q hq => by rw [List.mem_singleton.mp hq]; exact l1 p hp) (.tuple (.head _) .nil)
  ) : type_of% ?mG); have _ : True := trivial; type_of% ?mG))
theorem inner_init {v : Value}  {news : Led}
    (B : Below A₀ base outer h₀) (F : Fr h₀ L s.heap m) (X : (KX w.params).In h₀) (N : News h₀ L s.heap news) (T : TopM mean mg mb h₀)
    (hk : cs.kind = .function) (hd : dp + 8 < recursionLimit) (hu : un + 300 < cLine) (hD : DatIn news v (It.dat (.init)))
    (ret : ∀ r ent h' tk', Fr h₀ L h' m → News h₀ L h' (ent ++ news) → (∀ p ∈ news, ∀ q ∈ ent, @LT.lt Nat _ p.1 q.1) → DatIn (ent ++ news) r (.tuple ((It.init : It).subs.map It.dat)) → Q r { s with heap := h', toks := tk' }) :
    wpAny (model pwO w) (ktrTop dp un gd cn cs L a ccd cl outer) (call (.ref 1110) [v]) Q E s := by
  refine ?mG; exact ((by exact ?mB) : (let_mvar% ?mB := (by (
  obtain ⟨a1, n1, v1, v2, v3, rfl, m1, e1, e2, e3⟩ := inv3 hD
  obtain ⟨t1, rfl⟩ := d_str e1
  refine wpAny_call ?_
  refine' code_def (binds := [(S "item", Value.ref a1)]) B F X N T rfl rfl hk (lk1110 _) ?k7 ?k8 (BindsTo.of_eq rfl) (locs rfl) ?_ rfl rfl rfl (by decide)
  case k7 => k_is
  case k8 => ktr_room
  k_whole
  intro g' L' h' FG' F' N' B' X' T'
  (try dsimp only)
  k_fold
  wtm_at "ks"
  rename_i D h1 F1 N1 l1 F2 N2 _ _
  exact ret _ [(D, _)] _ _ F2 N2 (fun p hp q hq => by rw [List.mem_singleton.mp hq]; exact l1 p hp) (.tuple (.head _) .nil)
  ) : type_of% ?mG); have _ : True := trivial; type_of% ?mG))
theorem inner_blk {v : Value} {o : It} {news : Led}
    (B : Below A₀ base outer h₀) (F : Fr h₀ L s.heap m) (X : (KX w.params).In h₀) (N : News h₀ L s.heap news) (T : TopM mean mg mb h₀)
    (hk : cs.kind = .function) (hd : dp + 8 < recursionLimit) (hu : un + 300 < cLine) (hD : DatIn news v (It.dat (.blk o)))
    (ret : ∀ r ent h' tk', Fr h₀ L h' m → News h₀ L h' (ent ++ news) → (∀ p ∈ news, ∀ q ∈ ent, @LT.lt Nat _ p.1 q.1) → DatIn (ent ++ news) r (.tuple ((It.blk o : It).subs.map It.dat)) → Q r { s with heap := h', toks := tk' }) :
    wpAny (model pwO w) (ktrTop dp un gd cn cs L a ccd cl outer) (call (.ref 1110) [v]) Q E s := by
  refine ?mG; exact ((by exact ?mB) : (let_mvar% ?mB := (by (
  obtain ⟨a1, n1, v1, v2, v3, v4, rfl, m1, e1, e2, e3, e4⟩ := inv4 hD
  obtain ⟨t1, rfl⟩ := d_str e1
  refine wpAny_call ?_
  refine' code_def (binds := [(S "item", Value.ref a1)]) B F X N T rfl rfl hk (lk1110 _) ?k7 ?k8 (BindsTo.of_eq rfl) (locs rfl) ?_ rfl rfl rfl (by decide)
  case k7 => k_is
  case k8 => ktr_room
  k_whole
  intro g' L' h' FG' F' N' B' X' T'
  (try dsimp only)
  k_fold
  wtm_at "ks"
  rename_i F2 N2 _ _
  exact ret _ [] _ _ F2 N2 (fun _ _ _ h => nomatch h) e4
  ) : type_of% ?mG); have _ : True := trivial; type_of% ?mG))
theorem inner_gfor {v : Value} {o : It} {news : Led}
    (B : Below A₀ base outer h₀) (F : Fr h₀ L s.heap m) (X : (KX w.params).In h₀) (N : News h₀ L s.heap news) (T : TopM mean mg mb h₀)
    (hk : cs.kind = .function) (hd : dp + 8 < recursionLimit) (hu : un + 300 < cLine) (hD : DatIn news v (It.dat (.gfor o)))
    (ret : ∀ r ent h' tk', Fr h₀ L h' m → News h₀ L h' (ent ++ news) → (∀ p ∈ news, ∀ q ∈ ent, @LT.lt Nat _ p.1 q.1) → DatIn (ent ++ news) r (.tuple ((It.gfor o : It).subs.map It.dat)) → Q r { s with heap := h', toks := tk' }) :
    wpAny (model pwO w) (ktrTop dp un gd cn cs L a ccd cl outer) (call (.ref 1110) [v]) Q E s := by
  refine ?mG; exact ((by exact ?mB) : (let_mvar% ?mB := (by (
  obtain ⟨a1, n1, v1, v2, v3, v4, v5, v6, v7, rfl, m1, e1, e2, e3, e4, e5, e6, e7⟩ := inv7 hD
  obtain ⟨t1, rfl⟩ := d_str e1
  refine wpAny_call ?_
  refine' code_def (binds := [(S "item", Value.ref a1)]) B F X N T rfl rfl hk (lk1110 _) ?k7 ?k8 (BindsTo.of_eq rfl) (locs rfl) ?_ rfl rfl rfl (by decide)
  case k7 => k_is
  case k8 => ktr_room
  k_whole
  intro g' L' h' FG' F' N' B' X' T'
  (try dsimp only)
  k_fold
  wtm_at "ks"
  rename_i D h1 F1 N1 l1 F2 N2 _ _
  exact ret _ [(D, _)] _ _ F2 N2 (fun p hp q hq => by rw [List.mem_singleton.mp hq]; exact l1 p hp) (.tuple (.head _) (.cons (e7.mono fun p hp => .tail _ hp) .nil))
  ) : type_of% ?mG); have _ : True := trivial; type_of% ?mG))
theorem inner_gif {v : Value} {o : It} {news : Led}
    (B : Below A₀ base outer h₀) (F : Fr h₀ L s.heap m) (X : (KX w.params).In h₀) (N : News h₀ L s.heap news) (T : TopM mean mg mb h₀)
    (hk : cs.kind = .function) (hd : dp + 8 < recursionLimit) (hu : un + 300 < cLine) (hD : DatIn news v (It.dat (.gif o)))
    (ret : ∀ r ent h' tk', Fr h₀ L h' m → News h₀ L h' (ent ++ news) → (∀ p ∈ news, ∀ q ∈ ent, @LT.lt Nat _ p.1 q.1) → DatIn (ent ++ news) r (.tuple ((It.gif o : It).subs.map It.dat)) → Q r { s with heap := h', toks := tk' }) :
    wpAny (model pwO w) (ktrTop dp un gd cn cs L a ccd cl outer) (call (.ref 1110) [v]) Q E s := by
  refine ?mG; exact ((by exact ?mB) : (let_mvar% ?mB := (by (
  obtain ⟨a1, n1, v1, v2, v3, v4, v5, rfl, m1, e1, e2, e3, e4, e5⟩ := inv5 hD
  obtain ⟨t1, rfl⟩ := d_str e1
  obtain ⟨a4, rfl⟩ := It.isRef (it := .blk o) e4
  obtain rfl := d_none e5
  refine wpAny_call ?_
  refine' code_def (binds := [(S "item", Value.ref a1)]) B F X N T rfl rfl hk (lk1110 _) ?k7 ?k8 (BindsTo.of_eq rfl) (locs rfl) ?_ rfl rfl rfl (by decide)
  case k7 => k_is
  case k8 => ktr_room
  k_whole
  intro g' L' h' FG' F' N' B' X' T'
  (try dsimp only)
  k_fold
  wtm_at "ks"
  rename_i D1 h1 F1 N1 l1
  refine ⟨_, _, _, _, _, _, _, JPart _ [.ref a4, .none], F1, N1, src_tuple rfl N1 (.head _) (Nat.le_of_ble_eq_true rfl), .head _, ⟨rfl, rfl⟩, ?_, ?_⟩
  · intro i ys nx v I oI C oC D m₂ h tk E' hi hJ hS hv hC hx F2 N2 off ne
    obtain ⟨rfl, rfl⟩ := hJ
    rcases i with _ | _ | i
    · obtain rfl := Option.some.inj hv
      wtm_at "ks"
      exact ⟨h, _, _, rfl, F2, N2, off, hS, rfl, rfl⟩
    · obtain rfl := Option.some.inj hv
      wtm_at "ks"
      exact ⟨h, _, _, rfl, F2, N2, off, hS, rfl, rfl⟩
    · exact absurd (show i + 1 + 1 < 2 from hi) (by wtm_at "om")
  · rintro ys nx D h tk ⟨rfl, rfl⟩ F2 N2 o1
    wtm_at "ks"
    (with_reducible rename Fr _ _ _ _ => F3)
    (with_reducible rename News _ _ _ _ => N3)
    (with_reducible rename _ ∧ _ ∧ AllLt _ _ => l2)
    exact ret _ [(_, _)] _ _ F3 (nsub N3 fun p hp => by
      rcases List.mem_cons.mp hp with rfl | hp
      · exact .head _
      · exact .tail _ (.tail _ (.tail _ hp))) (fun p hp q hq => by rw [List.mem_singleton.mp hq]; exact of_allLt l2.2.2 p hp) (.tuple (.head _) (.cons (DatIn.mono (fun p hp => .tail _ hp) e4) .nil))
  ) : type_of% ?mG); have _ : True := trivial; type_of% ?mG))
theorem inner_gif2 {v : Value} {o e : It} {news : Led}
    (B : Below A₀ base outer h₀) (F : Fr h₀ L s.heap m) (X : (KX w.params).In h₀) (N : News h₀ L s.heap news) (T : TopM mean mg mb h₀)
    (hk : cs.kind = .function) (hd : dp + 8 < recursionLimit) (hu : un + 300 < cLine) (hD : DatIn news v (It.dat (.gif2 o e)))
    (ret : ∀ r ent h' tk', Fr h₀ L h' m → News h₀ L h' (ent ++ news) → (∀ p ∈ news, ∀ q ∈ ent, @LT.lt Nat _ p.1 q.1) → DatIn (ent ++ news) r (.tuple ((It.gif2 o e : It).subs.map It.dat)) → Q r { s with heap := h', toks := tk' }) :
    wpAny (model pwO w) (ktrTop dp un gd cn cs L a ccd cl outer) (call (.ref 1110) [v]) Q E s := by
  refine ?mG; exact ((by exact ?mB) : (let_mvar% ?mB := (by (
  obtain ⟨a1, n1, v1, v2, v3, v4, v5, rfl, m1, e1, e2, e3, e4, e5⟩ := inv5 hD
  obtain ⟨t1, rfl⟩ := d_str e1
  obtain ⟨a4, rfl⟩ := It.isRef (it := .blk o) e4
  obtain ⟨a5, rfl⟩ := It.isRef e5
  refine wpAny_call ?_
  refine' code_def (binds := [(S "item", Value.ref a1)]) B F X N T rfl rfl hk (lk1110 _) ?k7 ?k8 (BindsTo.of_eq rfl) (locs rfl) ?_ rfl rfl rfl (by decide)
  case k7 => k_is
  case k8 => ktr_room
  k_whole
  intro g' L' h' FG' F' N' B' X' T'
  (try dsimp only)
  k_fold
  wtm_at "ks"
  rename_i D1 h1 F1 N1 l1
  refine ⟨_, _, _, _, _, _, _, JPart _ [.ref a4, .ref a5], F1, N1, src_tuple rfl N1 (.head _) (Nat.le_of_ble_eq_true rfl), .head _, ⟨rfl, rfl⟩, ?_, ?_⟩
  · intro i ys nx v I oI C oC D m₂ h tk E' hi hJ hS hv hC hx F2 N2 off ne
    obtain ⟨rfl, rfl⟩ := hJ
    rcases i with _ | _ | i
    · obtain rfl := Option.some.inj hv
      wtm_at "ks"
      exact ⟨h, _, _, rfl, F2, N2, off, hS, rfl, rfl⟩
    · obtain rfl := Option.some.inj hv
      wtm_at "ks"
      exact ⟨h, _, _, rfl, F2, N2, off, hS, rfl, rfl⟩
    · exact absurd (show i + 1 + 1 < 2 from hi) (by wtm_at "om")
  · rintro ys nx D h tk ⟨rfl, rfl⟩ F2 N2 o1
    wtm_at "ks"
    (with_reducible rename Fr _ _ _ _ => F3)
    (with_reducible rename News _ _ _ _ => N3)
    (with_reducible rename _ ∧ _ ∧ AllLt _ _ => l2)
    exact ret _ [(_, _)] _ _ F3 (nsub N3 fun p hp => by
      rcases List.mem_cons.mp hp with rfl | hp
      · exact .head _
      · exact .tail _ (.tail _ (.tail _ hp))) (fun p hp q hq => by rw [List.mem_singleton.mp hq]; exact of_allLt l2.2.2 p hp) (.tuple (.head _) (.cons (DatIn.mono (fun p hp => .tail _ hp) e4) (.cons (DatIn.mono (fun p hp => .tail _ hp) e5) .nil)))
  ) : type_of% ?mG); have _ : True := trivial; type_of% ?mG))
end
end
section
open PySem PySem.W PyProof.Rows PySem.Calls
set_option maxRecDepth 100000
set_option maxHeartbeats 0
set_option Elab.async false
set_option compiler.extract_closed false
set_option compiler.reuse false
set_option linter.unusedVariables false
local macro_rules | `(tactic| walk_at "mine no such key") => `(tactic| skip)
local macro_rules | `(tactic| walk_at "eval ListComp") => compS none ``ListComp_hold "awdfdf_"
set_option pp.deepTerms false
section
variable {w : World} {mean : ExcName → Option Value} {mg mb : Str → Option Value} {dp un : Nat} {gd : Option (List Code)} {cn : Str} {cs : Scope} {a : Addr} {ccd : Value} {cl : List (Str × Addr)} {A₀ : Around} {outer : List Env} {base h₀ : Heap} {L : Addr} {m : Str → Option Value} {s : Shared} {Q E : Value → Shared → Prop}

theorem inner_gcase {v : Value} {o : It} {news : Led}
    (B : Below A₀ base outer h₀) (F : Fr h₀ L s.heap m) (X : (KX w.params).In h₀) (N : News h₀ L s.heap news) (T : TopM mean mg mb h₀)
    (hk : cs.kind = .function) (hd : dp + 8 < recursionLimit) (hu : un + 300 < cLine) (hD : DatIn news v (It.dat (.gcase o)))
    (ret : ∀ r ent h' tk', Fr h₀ L h' m → News h₀ L h' (ent ++ news) → (∀ p ∈ news, ∀ q ∈ ent, @LT.lt Nat _ p.1 q.1) → DatIn (ent ++ news) r (.tuple ((It.gcase o : It).subs.map It.dat)) → Q r { s with heap := h', toks := tk' }) :
    wpAny (model pwO w) (ktrTop dp un gd cn cs L a ccd cl outer) (call (.ref 1110) [v]) Q E s := by
  refine ?mG; exact ((by exact ?mB) : (let_mvar% ?mB := (by (
  obtain ⟨a1, n1, v1, v2, v3, v4, rfl, m1, e1, e2, e3, e4⟩ := inv4 hD
  obtain ⟨t1, rfl⟩ := d_str e1
  obtain ⟨a4, n4, w1, w2, rfl, m4, f1, f2⟩ := inv2 e4
  obtain ⟨b1, k1, y1, y2, rfl, m5, g1, g2⟩ := inv2 f1
  obtain ⟨b2, k2, z1, z2, rfl, m6, i1, i2⟩ := inv2 f2
  obtain rfl := d_none g2
  obtain ⟨r, rfl⟩ := It.isRef i2
  refine wpAny_call ?_
  refine' code_def (binds := [(S "item", Value.ref a1)]) B F X N T rfl rfl hk (lk1110 _) ?k7 ?k8 (BindsTo.of_eq rfl) (locs rfl) ?_ rfl rfl rfl (by decide)
  case k7 => k_is
  case k8 => ktr_room
  k_whole
  intro g' L' h' FG' F' N' B' X' T'
  (try dsimp only)
  k_fold
  wtm_at "ks"
  refine ⟨_, _, _, _, _, _, _, (fun i ys nx => nx = news ∧ ys = if i ≤ 1 then [] else [.ref r]), F', N', src_tuple rfl N' m4 (Nat.le_of_ble_eq_true rfl), m4, ⟨rfl, rfl⟩, ?_, ?_⟩
  · intro i ys nx v I oI C oC D m₂ h tk E' hi hJ hS hv hC hx F2 N2 off ne
    obtain ⟨rfl, rfl⟩ := hJ
    rcases i with _ | _ | i
    · obtain rfl := Option.some.inj hv
      wtm_at "ks"
      exact ⟨h, _, _, rfl, F2, N2, off, hS, rfl, rfl⟩
    · obtain rfl := Option.some.inj hv
      wtm_at "ks"
      exact ⟨h, _, _, rfl, F2, N2, off, hS, rfl, rfl⟩
    · exact absurd (show i + 1 + 1 < 2 from hi) (by wtm_at "om")
  · rintro ys nx D h tk ⟨rfl, rfl⟩ F2 N2 o1
    wtm_at "ks"
    (with_reducible rename Fr _ _ _ _ => F3)
    (with_reducible rename News _ _ _ _ => N3)
    (with_reducible rename _ ∧ AllLt _ _ => l2)
    exact ret _ [(_, _)] _ _ F3 (nsub N3 fun p hp => by
      rcases List.mem_cons.mp hp with rfl | hp
      · exact .head _
      · exact .tail _ (.tail _ hp)) (fun p hp q hq => by rw [List.mem_singleton.mp hq]; exact of_allLt l2.2 p hp) (.tuple (.head _) (.cons (DatIn.mono (fun p hp => .tail _ hp) i2) .nil))
  ) : type_of% ?mG); have _ : True := trivial; type_of% ?mG))
theorem inner_t {v : Value} {it : It} {news : Led}
    (B : Below A₀ base outer h₀) (F : Fr h₀ L s.heap m) (X : (KX w.params).In h₀) (N : News h₀ L s.heap news) (T : TopM mean mg mb h₀)
    (hk : cs.kind = .function) (hd : dp + 8 < recursionLimit) (hu : un + 300 < cLine) (hD : DatIn news v it.dat)
    (ret : ∀ r ent h' tk', Fr h₀ L h' m → News h₀ L h' (ent ++ news) → (∀ p ∈ news, ∀ q ∈ ent, @LT.lt Nat _ p.1 q.1) → DatIn (ent ++ news) r (.tuple (it.subs.map It.dat)) → Q r { s with heap := h', toks := tk' }) :
    wpAny (model pwO w) (ktrTop dp un gd cn cs L a ccd cl outer) (call (.ref 1110) [v]) Q E s := by
  refine ?mG; exact ((by exact ?mB) : (let_mvar% ?mB := (by (
  cases it with
  | inst x => exact inner_inst B F X N T hk hd hu hD ret
  | init => exact inner_init B F X N T hk hd hu hD ret
  | blk o => exact inner_blk B F X N T hk hd hu hD ret
  | gif o => exact inner_gif B F X N T hk hd hu hD ret
  | gif2 o e => exact inner_gif2 B F X N T hk hd hu hD ret
  | gcase o => exact inner_gcase B F X N T hk hd hu hD ret
  | gfor o => exact inner_gfor B F X N T hk hd hu hD ret
  ) : type_of% ?mG); have _ : True := trivial; type_of% ?mG))
end
end
local macro_rules | `(tactic| walk_at "subscriptTail Name Constant ref int") => plainS (rf ``tup_item0 "am_w")
local macro_rules | `(tactic| walk_at "exec While Compare cons nil") => holdS
local macro_rules | `(tactic| walk_at "subscriptTail Name Constant ref int") => plainS (rf ``tup_item "amddee_w")
section
open PySem PySem.W PyProof.Rows PySem.Calls
set_option maxRecDepth 100000
set_option maxHeartbeats 0
set_option Elab.async false
set_option compiler.extract_closed false
set_option compiler.reuse false
set_option linter.unusedVariables false
local macro_rules | `(tactic| walk_at "eval ListComp") => compS none ``ListComp_hold "awdfdf_"
set_option pp.deepTerms false
section
variable {w : World} {mean : ExcName → Option Value} {mg mb : Str → Option Value} {dp un : Nat} {gd : Option (List Code)} {cn : Str} {cs : Scope} {a : Addr} {ccd : Value} {cl : List (Str × Addr)} {A₀ : Around} {outer : List Env} {base h₀ : Heap} {L : Addr} {m : Str → Option Value} {s : Shared} {Q E : Value → Shared → Prop}

inductive InstJ (w : World) (D fd : Addr) (news : Led) (its : List It) (k : Nat) (m : Str → Option Value) (nx : Led) : Prop
  | mk (ent : Led) (us : List Value) (c : Nat) (stk : List It) (kvs : List (Str × Value)) (o : Obj)
    (h0 : nx = (D, listOf us.toArray c) :: (fd, o) :: (ent ++ news))
    (h1 : DatAll (ent ++ news) us (stk.map It.dat))
    (h2 : Obj.IsDictOf (PySem.strKind pwO w) o kvs)
    (h3 : (∀ p ∈ ent, p.1 ≠ D ∧ p.1 ≠ fd))
    (h4 : m (S "stack") = some (.ref D))
    (h5 : m (S "found") = some (.ref fd))
    (h6 : k = (stk.map It.size).sum)
    (h7 : (∀ x, (x ∈ kvs.map Prod.fst ∨ x ∈ stk.flatMap It.names) ↔ x ∈ its.flatMap It.names))
    (h8 : kvs.length + (stk.map It.size).sum ≤ (its.map It.size).sum)
theorem It.inst_or (it : It) : (∃ x, it = .inst x) ∨ (∀ x, it ≠ .inst x) ∧ ∀ (l : Led) (v : Value), DatIn l v it.dat → ∃ a vs n tag t, v = .ref a ∧ (a, tupN (.str tag t :: vs) n) ∈ l ∧ (tag == S "inst") = false := by
  refine ?mG; exact ((by exact ?mB) : (let_mvar% ?mB := (by (
  cases it with
  | inst x => exact .inl ⟨x, rfl⟩
  | init =>
    refine .inr ⟨fun _ h => (nomatch h), fun l v h => ?_⟩
    obtain ⟨a, n, v1, v2, v3, rfl, m, e1, _⟩ := inv3 h
    obtain ⟨t, rfl⟩ := d_str e1
    exact ⟨a, _, n, _, t, rfl, m, by decide⟩
  | blk o =>
    refine .inr ⟨fun _ h => (nomatch h), fun l v h => ?_⟩
    obtain ⟨a, n, v1, v2, v3, v4, rfl, m, e1, _⟩ := inv4 h
    obtain ⟨t, rfl⟩ := d_str e1
    exact ⟨a, _, n, _, t, rfl, m, by decide⟩
  | gif o =>
    refine .inr ⟨fun _ h => (nomatch h), fun l v h => ?_⟩
    obtain ⟨a, n, v1, v2, v3, v4, v5, rfl, m, e1, _⟩ := inv5 h
    obtain ⟨t, rfl⟩ := d_str e1
    exact ⟨a, _, n, _, t, rfl, m, by decide⟩
  | gif2 o e =>
    refine .inr ⟨fun _ h => (nomatch h), fun l v h => ?_⟩
    obtain ⟨a, n, v1, v2, v3, v4, v5, rfl, m, e1, _⟩ := inv5 h
    obtain ⟨t, rfl⟩ := d_str e1
    exact ⟨a, _, n, _, t, rfl, m, by decide⟩
  | gcase o =>
    refine .inr ⟨fun _ h => (nomatch h), fun l v h => ?_⟩
    obtain ⟨a, n, v1, v2, v3, v4, rfl, m, e1, _⟩ := inv4 h
    obtain ⟨t, rfl⟩ := d_str e1
    exact ⟨a, _, n, _, t, rfl, m, by decide⟩
  | gfor o =>
    refine .inr ⟨fun _ h => (nomatch h), fun l v h => ?_⟩
    obtain ⟨a, n, v1, v2, v3, v4, v5, v6, v7, rfl, m, e1, _⟩ := inv7 h
    obtain ⟨t, rfl⟩ := d_str e1
    exact ⟨a, _, n, _, t, rfl, m, by decide⟩
  ) : type_of% ?mG); have _ : True := trivial; type_of% ?mG))
theorem It.subs_size (it : It) : (it.subs.map It.size).sum < it.size := by
  cases it <;> simp [It.subs, It.size] <;> wtm_at "om"
theorem It.subs_names (it : It) (h : ∀ x, it ≠ .inst x) : it.subs.flatMap It.names = it.names := by
  cases it with
  | inst x => exact absurd rfl (h x)
  | _ => simp [It.subs, It.names]
theorem stk_snoc {l : Led} {us : List Value} {v : Value} {stk : List It} (h : DatAll l (us ++ [v]) (stk.map It.dat)) : ∃ stk' it, stk = stk' ++ [it] ∧ DatAll l us (stk'.map It.dat) ∧ DatIn l v it.dat := by
  refine ?mG; exact ((by exact ?mB) : (let_mvar% ?mB := (by (
  rcases List.eq_nil_or_concat stk with rfl | ⟨stk', it, rfl⟩
  · have := h.length
    simp at this
  · obtain ⟨es, d, e, h1, h2⟩ := h.snoc
    rw [List.concat_eq_append, List.map_append] at e
    obtain ⟨e1, e2⟩ := List.append_inj' e rfl
    cases e2
    exact ⟨stk', it, List.concat_eq_append, e1 ▸ h1, h2⟩
  ) : type_of% ?mG); have _ : True := trivial; type_of% ?mG))
theorem keysS : ∀ {kvs : List (Str × Value)} {C : List Value → Prop}, (∀ vs, DatAll [] vs ((kvs.map Prod.fst).map Dat.str) → C vs) → KdlKeysS kvs C := by
  intro kvs
  induction kvs with
  | nil => intro C h; exact h [] .nil
  | cons p r ih => intro C h; exact fun t => ih fun vs hv => h _ (.cons (.str _ t) hv)
theorem stored_keys {kvs : List (Str × Value)} {x : Str} {v : Value} {y : Str} : y ∈ (stored kvs x v).map Prod.fst ↔ y ∈ kvs.map Prod.fst ∨ y = x := by
  refine ?mG; exact ((by exact ?mB) : (let_mvar% ?mB := (by (
  unfold stored
  split
  · rename_i h
    obtain ⟨q, hq, e⟩ := List.any_eq_true.mp h
    have hx : x ∈ kvs.map Prod.fst := List.mem_map.mpr ⟨q, hq, by simpa using e⟩
    have e2 : (kvs.map fun kv => if kv.1 = x then (kv.1, v) else kv).map Prod.fst = kvs.map Prod.fst := by
      rw [List.map_map]
      refine List.map_congr_left fun p _ => ?_
      show (if p.1 = x then (p.1, v) else p).1 = p.1
      split <;> rfl
    rw [e2]
    constructor
    · exact .inl
    · rintro (h | rfl)
      · exact h
      · exact hx
  · simp
  ) : type_of% ?mG); have _ : True := trivial; type_of% ?mG))
theorem stored_len (kvs : List (Str × Value)) (x : Str) (v : Value) : (stored kvs x v).length ≤ kvs.length + 1 := by
  unfold stored
  split
  · rw [List.length_map]; wtm_at "om"
  · rw [List.length_append]; exact Nat.le_refl _
theorem It.size_pos : ∀ it : It, 1 ≤ it.size := by
  intro it
  cases it <;> (simp only [It.size]; wtm_at "om")
theorem size_le : ∀ stk : List It, stk.length ≤ (stk.map It.size).sum := by
  refine ?mG; exact ((by exact ?mB) : (let_mvar% ?mB := (by (
  intro stk
  induction stk with
  | nil => exact Nat.le_refl _
  | cons a r ih =>
    have := a.size_pos
    simp only [List.map_cons, List.sum_cons, List.length_cons]
    wtm_at "om"
  ) : type_of% ?mG); have _ : True := trivial; type_of% ?mG))
theorem lk1117 (P) : (KX P).lookup 1117 = some ⟨.type "function", none, .func f1117, #[]⟩ := by kernel_rfl
theorem inst_t {a1 : Addr} {vs : List Value} {n1 : Nat} {its : List It} {news : Led}
    (B : Below A₀ base outer h₀) (F : Fr h₀ L s.heap m) (X : (KX w.params).In h₀) (N : News h₀ L s.heap news) (T : TopM mean mg mb h₀)
    (hk : cs.kind = .function) (hd : dp + 12 < recursionLimit) (hu : un + 400 < cLine) (hm : (a1, tupN vs n1) ∈ news) (hD : DatAll news vs (its.map It.dat)) (hl : its.length ≤ 100) (hK : (its.map It.size).sum ≤ 10000)
    (ret : ∀ (r : Addr) (us : List Value) (n : Nat) (names : List Str) h' tk', Fr h₀ L h' m → News h₀ L h' ((r, listOf us.toArray n) :: news) → (∀ p ∈ news, @LT.lt Nat _ p.1 r) → DatAll [] us (names.map Dat.str) → (∀ x, x ∈ names ↔ x ∈ its.flatMap It.names) → names.length ≤ 10000 → Q (.ref r) { s with heap := h', toks := tk' }) :
    wpAny (model pwO w) (ktrTop dp un gd cn cs L a ccd cl outer) (call (.ref 1117) [.ref a1]) Q E s := by
  refine ?mG; exact ((by exact ?mB) : (let_mvar% ?mB := (by (
  refine wpAny_call ?_
  refine' code_def (binds := [(S "items", Value.ref a1)]) B F X N T rfl rfl hk (lk1117 _) ?k7 ?k8 (BindsTo.of_eq rfl) (locs rfl) ?_ rfl rfl rfl (by decide)
  case k7 => k_is
  case k8 => ktr_room
  k_whole
  intro g' L' h' FG' F' N' B' X' T'
  (try dsimp only)
  k_fold
  wtm_at "ks"
  rename_i fd hx1 o1 l1 lo1 hs1 fs1 hi1 fi1 hx2 F1 N1
  clear hi1 fi1 fs1
  refine kup_listOfT F1 N1 (.tail _ hm) rfl (fun D c h2 F2 N2 l2 => ?_) ?_
  rotate_left
  · have := hD.length
    rw [List.length_map] at this
    show vs.length ≤ _
    rw [PySem.sizeLine_eq]; wtm_at "om"
  k_lt l2
  (try dsimp only)
  wtm_at "ks"
  (with_reducible rename Fr _ _ _ _ => F3)
  (with_reducible rename News _ _ _ _ => N3)
  have hfd : ∀ p ∈ news, p.1 ≠ fd := fun p hp => Nat.ne_of_lt (l1 p hp)
  have hDn : ∀ p ∈ news, p.1 ≠ D := fun p hp => Nat.ne_of_lt (of_allLt l2.2 p hp)
  show wpAny _ _ _ _ _ _
  refine While_inv (InstJ w D fd news its) F3 N3 ⟨[], vs, c, its, [], o1, rfl, hD, hs1, (fun _ h => nomatch h), rfl, rfl, rfl, fun x => by simp, by simp⟩ ?_
  rintro k m1 _ h4 tk4 F4 N4 ⟨ent, us, c2, stk, kvs, o, rfl, hUs, hO, hent, hm1, hm2, rfl, hset, hcnt⟩
  have F5 := know F4 (k := S "found") (v := .ref fd) hm2
  have F6 := know F5 (k := S "stack") (v := .ref D) (by rw [if_neg (by decide)]; exact hm1)
  replace F6 : Fr g' L' h4 _ := F6
  clear F5 F4 F3 N3
  have hue : ∀ p ∈ ent ++ news, p.1 ≠ D := fun p hp => (List.mem_append.mp hp).elim (fun h => (hent p h).1) (hDn p)
  have huf : ∀ p ∈ ent ++ news, p.1 ≠ fd := fun p hp => (List.mem_append.mp hp).elim (fun h => (hent p h).2) (hfd p)
  have hDfd : D ≠ fd := Nat.ne_of_gt l2.1
  have hul := hUs.length
  rw [List.length_map] at hul
  have hle := size_le stk
  wtm_at "ks"
  refine kst_len N4 (.head _) rfl (by wtm_at "om") ?_
  wtm_at "ks"
  · rcases List.eq_nil_or_concat us with rfl | ⟨us', v, hus'⟩
    · exfalso; simp at *
    rw [List.concat_eq_append] at hus'
    subst hus'
    obtain ⟨stk', it, rfl, hU1, hV⟩ := stk_snoc hUs
    refine kl_pop F6 N4 (by simpa using kpa_last v us') (Upd.head (List.forall_mem_cons.mpr ⟨Ne.symm hDfd, hue⟩)) (by rw [PySem.sizeLine_eq]; simp only [List.length_append, List.length_singleton] at *; wtm_at "om") fun h5 F7 N7 => ?_
    (try dsimp only)
    rcases it.inst_or with ⟨x, rfl⟩ | ⟨hnx, hni⟩
    · obtain ⟨a, n, v1, v2, v3, v4, v5, v6, v7, rfl, hmA, e1, e2, e3, e4, e5, e6, e7⟩ := inv7 (show DatIn (ent ++ news) v (.tuple [_, _, _, _, _, _, _]) from hV)
      obtain ⟨t1, rfl⟩ := d_str e1
      obtain ⟨t3, rfl⟩ := d_str e3
      wtm_at "ks"
      (with_reducible rename Fr _ _ _ _ => FA)
      (with_reducible rename News _ _ _ _ => NA)
      refine kda_set FA NA (UpdF.tail hDfd (UpdF.head huf)) hO (strKind_is _ _ _ _) (by rw [PySem.sizeLine_eq]; simp only [List.length_append, List.length_singleton, List.map_append, List.sum_append] at hcnt; wtm_at "om") fun hA o2 FB NB hO2 => ?_
      (try dsimp only)
      wtm_at "ks"
      (with_reducible rename Fr _ _ _ _ => F8)
      (with_reducible rename News _ _ _ _ => N8)
      refine inner_t (it := .inst x) B' F8 X' N8 T' rfl (by ktr_room) (by ktr_units) (hV.mono fun p hp => .tail _ (.tail _ hp)) fun r ent2 h6 tk6 F9 N9 hfr hR => ?_
      obtain ⟨b, us2, kb, rfl, hmB, hU2⟩ := d_tup hR
      have hsz := (It.inst x).subs_size
      have hl2 := hU2.length
      rw [List.length_map] at hl2
      have hle2 := size_le (It.inst x).subs
      simp only [List.length_append, List.length_singleton, List.map_append, List.sum_append, List.map_cons, List.map_nil, List.sum_cons, List.sum_nil] at hul hle hcnt
      have hE : ∀ p ∈ ent2, p.1 ≠ D ∧ p.1 ≠ fd := fun p hp => ⟨Nat.ne_of_gt (hfr _ (.head _) p hp), Nat.ne_of_gt (hfr _ mm1 p hp)⟩
      have N10 := nsub N9 (l' := (D, listOf us'.toArray (c2 + 1)) :: (fd, o2) :: ((ent2 ++ ent) ++ news)) fun p hp => by
        simp only [List.mem_cons, List.mem_append] at hp ⊢
        rcases hp with h | h | (h | h) | h
        · exact .inr (.inl h)
        · exact .inr (.inr (.inl h))
        · exact .inl h
        · exact .inr (.inr (.inr (.inl h)))
        · exact .inr (.inr (.inr (.inr h)))
      obtain ⟨_, _, hex, _⟩ := id hO2
      have hmono : ∀ p ∈ ent2 ++ (D, listOf us'.toArray (c2 + 1)) :: (fd, o2) :: (ent ++ news), p.2.cls = .type "tuple" → p ∈ (ent2 ++ ent) ++ news := fun p hp hc => by
        simp only [List.mem_cons, List.mem_append] at hp ⊢
        rcases hp with h | h | h | h | h
        · exact .inl (.inl h)
        · rw [h] at hc
          exact absurd hc (by simp [W.listOf])
        · rw [h] at hc
          exact absurd (hex.1.symm.trans hc) (by simp)
        · exact .inl (.inr h)
        · exact .inr h
      have hU3 := monoTs hmono hU2 (It.noLs _)
      have hoffD : ∀ p ∈ (fd, o2) :: ((ent2 ++ ent) ++ news), p.1 ≠ D := List.forall_mem_cons.mpr ⟨Ne.symm hDfd, fun p hp => by
        rcases List.mem_append.mp hp with h | h
        · exact (List.mem_append.mp h).elim (fun h => (hE p h).1) fun h => (hent p h).1
        · exact hDn p h⟩
      (try dsimp only)
      wtm_at "ks"
      refine tup_extend F9 N10 (.tail _ (.tail _ (hmono _ hmB rfl))) (UpdF.head hoffD) (by wtm_at "om") fun h7 n7 F10 N11 => ?_
      (try dsimp only)
      wtm_at "ks"
      refine WhileT.intro (n' := ((stk' ++ (It.inst x).subs).map It.size).sum) F10 N11 ?_ ⟨ent2 ++ ent, us' ++ us2, n7, stk' ++ (It.inst x).subs, stored kvs x (.bool true), o2, rfl, ?_, hO2, ?_, rfl, rfl, rfl, fun y => ?_, ?_⟩
      · simp only [List.map_append, List.sum_append, List.map_cons, List.map_nil, List.sum_cons, List.sum_nil]; wtm_at "om"
      · rw [List.map_append]
        exact (hU1.mono fun p hp => by
          rcases List.mem_append.mp hp with h | h
          · exact List.mem_append_left _ (List.mem_append_right _ h)
          · exact List.mem_append_right _ h).append hU3
      · exact fun p hp => (List.mem_append.mp hp).elim (hE p) (hent p)
      · rw [← hset y, stored_keys]
        simp [It.subs, It.names, or_assoc, or_comm, or_left_comm]
      · have := stored_len kvs x (Value.bool true)
        have hz : (It.inst x).size = 1 := rfl
        have hz2 : ((It.inst x).subs.map It.size).sum = 0 := rfl
        simp only [List.map_append, List.sum_append]; wtm_at "om"
    · obtain ⟨a, ws, n, tag, t, rfl, hmA, htag⟩ := hni _ _ hV
      wtm_at "ks"
      (with_reducible rename Fr _ _ _ _ => F8)
      (with_reducible rename News _ _ _ _ => N8)
      refine inner_t (it := it) B' F8 X' N8 T' rfl (by ktr_room) (by ktr_units) (hV.mono fun p hp => .tail _ (.tail _ hp)) fun r ent2 h6 tk6 F9 N9 hfr hR => ?_
      obtain ⟨b, us2, kb, rfl, hmB, hU2⟩ := d_tup hR
      have hsz := it.subs_size
      have hl2 := hU2.length
      rw [List.length_map] at hl2
      have hle2 := size_le it.subs
      simp only [List.length_append, List.length_singleton, List.map_append, List.sum_append, List.map_cons, List.map_nil, List.sum_cons, List.sum_nil] at hul hle hcnt
      have hE : ∀ p ∈ ent2, p.1 ≠ D ∧ p.1 ≠ fd := fun p hp => ⟨Nat.ne_of_gt (hfr _ (.head _) p hp), Nat.ne_of_gt (hfr _ mm1 p hp)⟩
      have N10 := nsub N9 (l' := (D, listOf us'.toArray (c2 + 1)) :: (fd, o) :: ((ent2 ++ ent) ++ news)) fun p hp => by
        simp only [List.mem_cons, List.mem_append] at hp ⊢
        rcases hp with h | h | (h | h) | h
        · exact .inr (.inl h)
        · exact .inr (.inr (.inl h))
        · exact .inl h
        · exact .inr (.inr (.inr (.inl h)))
        · exact .inr (.inr (.inr (.inr h)))
      obtain ⟨_, _, hex, _⟩ := id hO
      have hmono : ∀ p ∈ ent2 ++ (D, listOf us'.toArray (c2 + 1)) :: (fd, o) :: (ent ++ news), p.2.cls = .type "tuple" → p ∈ (ent2 ++ ent) ++ news := fun p hp hc => by
        simp only [List.mem_cons, List.mem_append] at hp ⊢
        rcases hp with h | h | h | h | h
        · exact .inl (.inl h)
        · rw [h] at hc
          exact absurd hc (by simp [W.listOf])
        · rw [h] at hc
          exact absurd (hex.1.symm.trans hc) (by simp)
        · exact .inl (.inr h)
        · exact .inr h
      have hU3 := monoTs hmono hU2 (It.noLs _)
      have hoffD : ∀ p ∈ (fd, o) :: ((ent2 ++ ent) ++ news), p.1 ≠ D := List.forall_mem_cons.mpr ⟨Ne.symm hDfd, fun p hp => by
        rcases List.mem_append.mp hp with h | h
        · exact (List.mem_append.mp h).elim (fun h => (hE p h).1) fun h => (hent p h).1
        · exact hDn p h⟩
      (try dsimp only)
      wtm_at "ks"
      refine tup_extend F9 N10 (.tail _ (.tail _ (hmono _ hmB rfl))) (UpdF.head hoffD) (by wtm_at "om") fun h7 n7 F10 N11 => ?_
      (try dsimp only)
      wtm_at "ks"
      refine WhileT.intro (n' := ((stk' ++ it.subs).map It.size).sum) F10 N11 ?_ ⟨ent2 ++ ent, us' ++ us2, n7, stk' ++ it.subs, kvs, o, rfl, ?_, hO, ?_, rfl, rfl, rfl, fun x => ?_, ?_⟩
      · simp only [List.map_append, List.sum_append, List.map_cons, List.map_nil, List.sum_cons, List.sum_nil]; wtm_at "om"
      · rw [List.map_append]
        exact (hU1.mono fun p hp => by
          rcases List.mem_append.mp hp with h | h
          · exact List.mem_append_left _ (List.mem_append_right _ h)
          · exact List.mem_append_right _ h).append hU3
      · exact fun p hp => (List.mem_append.mp hp).elim (hE p) (hent p)
      · rw [← hset x]
        simp only [List.flatMap_append, List.mem_append, List.flatMap_cons, List.flatMap_nil, List.append_nil, it.subs_names hnx]
      · simp only [List.map_append, List.sum_append]; wtm_at "om"
  · have hu0 : us.length = 0 := by wtm_at "om"
    obtain rfl : us = [] := List.eq_nil_of_length_eq_zero hu0
    obtain rfl : stk = [] := List.eq_nil_of_length_eq_zero (by rw [← hul]; rfl)
    refine kdl_list_keysS rfl F6 N4 mm1 hO lo1 (by wtm_at "om") fun B1 c3 h5 tk5 => keysS fun vs5 hV5 F7 N7 hB1 => ?_
    (try dsimp only)
    wtm_at "ks"
    rename_i F8 N8 _ _
    exact ret B1 vs5 c3 (kvs.map Prod.fst) _ _ F8 (nsub N8 fun p hp => by
      rcases List.mem_cons.mp hp with rfl | hp
      · exact .head _
      · exact .tail _ (.tail _ (.tail _ (List.mem_append_right _ hp)))) (fun p hp => hB1 p (.tail _ (.tail _ (List.mem_append_right _ hp)))) hV5 (fun x => by rw [← hset x]; simp) (by rw [List.length_map]; wtm_at "om")
  ) : type_of% ?mG); have _ : True := trivial; type_of% ?mG))
end
end
local macro_rules | `(tactic| walk_at "exec For Name Subscript cons nil") => forS
local macro_rules | `(tactic| walk_at "exec For Name Name cons nil") => forS
local macro_rules | `(tactic| walk_at "exec For Name Call cons nil") => forS
local macro_rules | `(tactic| walk_at "exec For Name BinOp cons nil") => forS
local macro_rules | `(tactic| walk_at "exec For Name Attribute cons nil") => forS
section
open PySem PySem.W PyProof.Rows PySem.Calls
set_option maxRecDepth 100000
set_option maxHeartbeats 0
set_option Elab.async false
set_option compiler.extract_closed false
set_option compiler.reuse false
set_option linter.unusedVariables false
local macro_rules | `(tactic| walk_at "eval ListComp") => compS none ``ListComp_hold "awdfdf_"
set_option pp.deepTerms false
section
variable {w : World} {mean : ExcName → Option Value} {mg mb : Str → Option Value} {dp un : Nat} {gd : Option (List Code)} {cn : Str} {cs : Scope} {a : Addr} {ccd : Value} {cl : List (Str × Addr)} {A₀ : Around} {outer : List Env} {base h₀ : Heap} {L : Addr} {m : Str → Option Value} {s : Shared} {Q E : Value → Shared → Prop}

theorem lk1131 (P) : (KX P).lookup 1131 = some ⟨.type "function", none, .func f1131, #[]⟩ := by kernel_rfl
theorem lk1136 (P) : (KX P).lookup 1136 = some ⟨.type "function", none, .func f1136, #[]⟩ := by kernel_rfl
theorem lk1124 (P) : (KX P).lookup 1124 = some ⟨.type "function", none, .func f1124, #[]⟩ := by kernel_rfl
inductive Sr where
  | mod (nm : Str) (its : List It)
  | prim
noncomputable def Sr.names : Sr → List Str
  | .mod _ its => its.flatMap It.names
  | .prim => []
noncomputable def Sr.size : Sr → Nat
  | .mod _ its => (its.map It.size).sum
  | .prim => 0
noncomputable def Sr.len : Sr → Nat
  | .mod _ its => its.length
  | .prim => 0
noncomputable def modD (nm : Str) (its : List It) : Dat := .tuple [dS "module", .int 0, .str nm, .tuple [], .tuple [], .tuple (its.map It.dat), dS "wire"]
noncomputable abbrev primEs (h1 h2 h3 h4 h5 h6 h7 : Int) (k1 k2 k3 k4 k5 k6 k7 t1 t2 t3 t6 : Tok) (v4 v7 : Value) : List DictEntry :=
  [⟨h1, .str (Str.ofString "name") k1, .str (Str.ofString "u") t1⟩, ⟨h2, .str (Str.ofString "at") k2, .int 0 t2⟩, ⟨h3, .str (Str.ofString "output") k3, .str (Str.ofString "y") t3⟩, ⟨h4, .str (Str.ofString "inputs") k4, v4⟩,
   ⟨h5, .str (Str.ofString "sequential") k5, .bool false⟩, ⟨h6, .str (Str.ofString "init") k6, .int 3 t6⟩, ⟨h7, .str (Str.ofString "rows") k7, v7⟩]
inductive PrimIn (l : Led) (v : Value) : Prop
  | mk a dx h1 h2 h3 h4 h5 h6 h7 k1 k2 k3 k4 k5 k6 k7 t1 t2 t3 t6 v4 v7 (e : v = .ref a) (m1 : (a, instObj 1307 dx) ∈ l) (m2 : (dx, dictOf (primEs h1 h2 h3 h4 h5 h6 h7 k1 k2 k3 k4 k5 k6 k7 t1 t2 t3 t6 v4 v7) 7) ∈ l)
noncomputable def SrIn (l : Led) (v : Value) : Sr → Prop
  | .mod nm its => DatIn l v (modD nm its)
  | .prim => PrimIn l v
theorem SrIn.mono {l l' : Led} (s : ∀ p ∈ l, p ∈ l') {v : Value} : ∀ {r : Sr}, SrIn l v r → SrIn l' v r := by
  refine ?mG; exact ((by exact ?mB) : (let_mvar% ?mB := (by (
  intro r h
  cases r with
  | mod nm its => exact DatIn.mono s h
  | prim =>
    obtain ⟨a, dx, h1, h2, h3, h4, h5, h6, h7, k1, k2, k3, k4, k5, k6, k7, t1, t2, t3, t6, v4, v7, e, m1, m2⟩ := h
    exact ⟨a, dx, h1, h2, h3, h4, h5, h6, h7, k1, k2, k3, k4, k5, k6, k7, t1, t2, t3, t6, v4, v7, e, s _ m1, s _ m2⟩
  ) : type_of% ?mG); have _ : True := trivial; type_of% ?mG))
noncomputable def SrAll (l : Led) (vs : List Value) (srs : List Sr) : Prop := vs.length = srs.length ∧ ∀ (i : Nat) (v : Value) (r : Sr), vs[i]? = some v → srs[i]? = some r → SrIn l v r
inductive TopJ (w : World) (l d : Addr) (news : Led) (srs : List Sr) (i : Nat) (m : Str → Option Value) (nx : Led) : Prop
  | mk (o : Obj) (kvs : List (Str × Value))
    (h0 : nx = (d, o) :: news)
    (h1 : Obj.IsDictOf (PySem.strKind pwO w) o kvs)
    (h2 : (∀ x, x ∈ kvs.map Prod.fst ↔ x ∈ (srs.take i).flatMap Sr.names))
    (h3 : m (S "used") = some (.ref d))
    (h4 : m (S "modules") = some (.ref l))
    (h5 : kvs.length ≤ 10000 * i)
inductive TopJ2 (w : World) (l d I r : Addr) (oI R : Obj) (news : Led) (keys : Str → Prop) (names : List Str) (b : Nat) (i : Nat) (m : Str → Option Value) (nx : Led) : Prop
  | mk (o : Obj) (kvs : List (Str × Value))
    (h0 : nx = (r, R) :: (I, oI) :: (d, o) :: news)
    (h1 : Obj.IsDictOf (PySem.strKind pwO w) o kvs)
    (h2 : (∀ x, x ∈ kvs.map Prod.fst ↔ keys x ∨ x ∈ names.take i))
    (h3 : m (S "used") = some (.ref d))
    (h4 : m (S "modules") = some (.ref l))
    (h5 : kvs.length ≤ b + i)
open Classical in
noncomputable def keptOf (srs : List Sr) : Sr → Option Str
  | .mod nm _ => if nm ∈ srs.flatMap Sr.names then none else some nm
  | .prim => none
inductive TopJ3 (l d nl : Addr) (o : Obj) (news : Led) (srs : List Sr) (i : Nat) (m : Str → Option Value) (nx : Led) : Prop
  | mk (us : List Value) (n : Nat)
    (h0 : nx = (nl, listOf us.toArray n) :: (d, o) :: news)
    (h1 : DatAll [] us (((srs.take i).filterMap (keptOf srs)).map Dat.str))
    (h2 : m (S "used") = some (.ref d))
    (h3 : m (S "names") = some (.ref nl))
    (h4 : m (S "modules") = some (.ref l))
    (h5 : us.length ≤ i)
theorem valueAt_mem {kvs : List (Str × Value)} {k : Str} : (valueAt kvs k).isSome = decide (k ∈ kvs.map Prod.fst) := by
  refine ?mG; exact ((by exact ?mB) : (let_mvar% ?mB := (by (
  unfold valueAt
  rw [Option.isSome_map, Bool.eq_iff_iff, List.find?_isSome, decide_eq_true_iff]
  constructor
  · rintro ⟨q, hq, e⟩
    exact List.mem_map.mpr ⟨q, hq, by simpa using e⟩
  · intro h
    obtain ⟨q, hq, e⟩ := List.mem_map.mp h
    exact ⟨q, hq, by simpa using e⟩
  ) : type_of% ?mG); have _ : True := trivial; type_of% ?mG))
/-- a source of the law's list: a module with its place and its items, or the primitive -/
theorem tops_t {l : Addr} {vs : List Value} {n1 : Nat} {news : Led}
    (B : Below A₀ base outer h₀) (F : Fr h₀ L s.heap m) (X : (KX w.params).In h₀) (N : News h₀ L s.heap news) (T : TopM mean mg mb h₀)
    (hk : cs.kind = .function) (hd : dp + 16 < recursionLimit) (hu : un + 500 < cLine) (hm : (l, listOf vs.toArray n1) ∈ news) (hl : vs.length ≤ 100) {srs : List Sr} (hS : SrAll news vs srs) (hb : ∀ r ∈ srs, r.size ≤ 10000 ∧ r.len ≤ 100)
    (ret : ∀ (r : Addr) (us : List Value) (n : Nat) h' tk', Fr h₀ L h' m → News h₀ L h' ((r, listOf us.toArray n) :: news) → (∀ p ∈ news, @LT.lt Nat _ p.1 r) → DatAll [] us ((srs.filterMap (keptOf srs)).map Dat.str) → us.length ≤ 100 → Q (.ref r) { s with heap := h', toks := tk' }) :
    wpAny (model pwO w) (ktrTop dp un gd cn cs L a ccd cl outer) (call (.ref 1124) [.ref l]) Q E s := by
  refine ?mG; exact ((by exact ?mB) : (let_mvar% ?mB := (by (
  refine wpAny_call ?_
  refine' code_def (binds := [(S "modules", Value.ref l)]) B F X N T rfl rfl hk (lk1124 _) ?k7 ?k8 (BindsTo.of_eq rfl) (locs rfl) ?_ rfl rfl rfl (by decide)
  case k7 => k_is
  case k8 => ktr_room
  k_whole
  intro g' L' h' FG' F' N' B' X' T'
  (try dsimp only)
  k_fold
  wtm_at "ks"
  rename_i d hx1 o1 l1 lo1 hs1 fs1 hi1 fi1 hx2 F1 N1
  clear hi1 fi1 fs1
  have hnd : ∀ p ∈ news, p.1 ≠ d := fun p hp => Nat.ne_of_lt (l1 p hp)
  show wpAny _ _ _ _ _ _
  refine iterJ_list (vs := vs) (k := n1) (TopJ w l d news srs) rfl (.tail _ hm) F1 N1 ⟨o1, [], rfl, hs1, (fun x => by simp), rfl, rfl, Nat.zero_le _⟩ ?_ ?_
  · rintro I i v m₁ _ h tk oI hlt hi hv ⟨o, kvs, rfl, hO, hkeys, hm1, hm2, hlen⟩ hne hsrc F2 N2
    have F3 := know F2 (k := S "used") (v := .ref d) (by rw [if_neg (by decide)]; exact hm1)
    have F4 := know F3 (k := S "modules") (v := .ref l) (by rw [if_neg (by decide), if_neg (by decide)]; exact hm2)
    replace F4 : Fr g' L' h _ := F4
    replace N2 : News g' L' h _ := N2
    clear F3 F2
    obtain ⟨sr, hsr⟩ : ∃ sr, srs[i]? = some sr := ⟨srs[i]'(hS.1 ▸ hi), List.getElem?_eq_getElem _⟩
    have hV := hS.2 i v sr hv hsr
    cases sr with
    | mod nm its =>
      obtain ⟨a2, n2, v1, v2, v3, v4, v5, v6, v7, rfl, hmA, e1, e2, e3, e4, e5, e6, e7⟩ := inv7 hV
      obtain ⟨b2, ws, k2, rfl, hmB, hW⟩ := d_tup e6
      wtm_at "ks"
      (with_reducible rename Fr _ _ _ _ => F5)
      (with_reducible rename News _ _ _ _ => N5)
      refine inst_t (its := its) B' F5 X' N5 T' rfl (by ktr_room) (by ktr_units) (.tail _ (.tail _ hmB)) (hW.mono fun p hp => .tail _ (.tail _ hp)) (hb _ (List.mem_of_getElem? hsr)).2 (hb _ (List.mem_of_getElem? hsr)).1 fun r us n3 names h6 tk6 F6 N6 hr hU hnm hnl => ?_
      (try dsimp only)
      show wpAny _ _ _ _ _ _
      k_lt hr
      k_lt hlt
      refine iterJ_list (vs := us) (k := n3) (TopJ2 w l d I r oI (listOf us.toArray n3) news (fun x => x ∈ kvs.map Prod.fst) names kvs.length) rfl (.head _) F6 N6 ⟨o, kvs, rfl, hO, (fun x => by simp), rfl, rfl, Nat.le_refl _⟩ ?_ ?_
      · rintro I2 i2 v2 m₂ _ h7 tk7 oI2 hlt2 hi2 hv2 ⟨o2, kvs2, rfl, hO2, hkeys2, hn1, hn2, hlen2⟩ hne2 hsrc2 F7 N7
        have F8 := know F7 (k := S "used") (v := .ref d) (by rw [if_neg (by decide)]; exact hn1)
        have F9 := know F8 (k := S "modules") (v := .ref l) (by rw [if_neg (by decide), if_neg (by decide)]; exact hn2)
        replace F9 : Fr g' L' h7 _ := F9
        replace N7 : News g' L' h7 _ := N7
        clear F8 F7
        k_lt hlt2
        have hul := hU.length
        rw [List.length_map] at hul
        obtain ⟨v', hv3, hv4⟩ := hU.get (k := i2) (by rw [List.length_map, ← hul]; exact hi2)
        rw [hv2] at hv3
        obtain rfl := Option.some.inj hv3
        rw [List.getElem_map] at hv4
        obtain ⟨t9, rfl⟩ := d_str hv4
        wtm_at "ks"
        (with_reducible rename Fr _ _ _ _ => FB)
        (with_reducible rename News _ _ _ _ => NB)
        refine kda_set FB NB (UpdF.tail (Nat.ne_of_gt hlt2.2.2.1) (UpdF.tail (Nat.ne_of_gt hr.2.1) (UpdF.tail (Nat.ne_of_gt hlt.1) (UpdF.head hnd)))) hO2 (strKind_is _ _ _ _) (by rw [PySem.sizeLine_eq]; wtm_at "om") fun hA o3 FA NA hO3 => ?_
        (try dsimp only)
        wtm_at "ks"
        refine ⟨_, _, _, _, rfl, FA, NA, List.forall_mem_cons.mpr ⟨Nat.ne_of_lt hlt2.1, List.forall_mem_cons.mpr ⟨Nat.ne_of_lt hlt2.2.1, List.forall_mem_cons.mpr ⟨Nat.ne_of_lt hlt2.2.2.1, fun p hp => Nat.ne_of_lt (of_allLt hlt2.2.2.2 p hp)⟩⟩⟩, (fun p hp => by rw [List.mem_singleton.mp hp]; exact .head _), o3, _, rfl, hO3, (fun x => ?_), rfl, rfl, ?_⟩
        · rw [stored_keys, hkeys2, List.take_add_one, List.getElem?_eq_getElem (by rw [← hul]; exact hi2)]
          simp only [Option.toList_some, List.mem_append, List.mem_singleton, or_assoc]
        · have := stored_len kvs2 (names[i2]'(by rw [← hul]; exact hi2)) (Value.bool true)
          wtm_at "om"
      · rintro m₂ _ h7 tk7 ⟨o2, kvs2, rfl, hO2, hkeys2, hn1, hn2, hlen2⟩ F7 N7
        have F8 := know F7 (k := S "used") (v := .ref d) hn1
        have F9 := know F8 (k := S "modules") (v := .ref l) (by rw [if_neg (by decide)]; exact hn2)
        replace F9 : Fr g' L' h7 _ := F9
        (try dsimp only)
        wtm_at "ks"
        have hul := hU.length
        rw [List.length_map] at hul
        refine ⟨_, _, _, _, rfl, F9, nsub N7 (fun p hp => .tail _ hp), List.forall_mem_cons.mpr ⟨Nat.ne_of_lt hlt.1, fun p hp => Nat.ne_of_lt (of_allLt hlt.2 p hp)⟩, (fun p hp => by rw [List.mem_singleton.mp hp]; exact .tail _ hm), o2, kvs2, rfl, hO2, (fun x => ?_), rfl, rfl, by wtm_at "om"⟩
        rw [hkeys2]
        show (x ∈ kvs.map Prod.fst) ∨ _ ↔ _
        rw [hkeys, hul, List.take_length, hnm, List.take_add_one, hsr]
        simp [Sr.names]
    | prim =>
      obtain ⟨a2, dx, _, _, _, _, _, _, _, _, _, _, _, _, _, _, _, _, _, _, _, _, rfl, hmA, hmB⟩ := hV
      wtm_at "ks"
      refine ⟨_, _, _, _, rfl, F4, N2, hne, (fun p hp => by rw [List.mem_singleton.mp hp]; exact .tail _ hm), o, kvs, rfl, hO, (fun x => ?_), rfl, rfl, by wtm_at "om"⟩
      rw [hkeys, List.take_add_one, hsr]
      simp [Sr.names]
  · rintro m₁ _ h tk ⟨o, kvs, rfl, hO, hkeys, hm1, hm2, hlen⟩ F2 N2
    have F3 := know F2 (k := S "used") (v := .ref d) hm1
    have F4 := know F3 (k := S "modules") (v := .ref l) (by rw [if_neg (by decide)]; exact hm2)
    replace F4 : Fr g' L' h _ := F4
    replace N2 : News g' L' h _ := N2
    clear F3 F2
    (try dsimp only)
    wtm_at "ks"
    rename_i nl hx9 l9 hx10 F5 N5
    have hkeyall : ∀ x, x ∈ kvs.map Prod.fst ↔ x ∈ srs.flatMap Sr.names := fun x => by rw [hkeys, hS.1, List.take_length]
    show wpAny _ _ _ _ _ _
    refine iterJ_list (vs := vs) (k := n1) (TopJ3 l d nl o news srs) rfl (.tail _ (.tail _ hm)) F5 N5 ⟨[], 0, rfl, .nil, rfl, rfl, rfl, Nat.zero_le _⟩ ?_ ?_
    · rintro I i v m₁ _ h tk oI hlt hi hv ⟨us, n, rfl, hU, hm1, hm2, hm3, hul⟩ hne hsrc F2 N2
      have F3 := know F2 (k := S "used") (v := .ref d) (by rw [if_neg (by decide)]; exact hm1)
      have F4 := know F3 (k := S "names") (v := .ref nl) (by rw [if_neg (by decide), if_neg (by decide)]; exact hm2)
      have F6 := know F4 (k := S "modules") (v := .ref l) (by rw [if_neg (by decide), if_neg (by decide), if_neg (by decide)]; exact hm3)
      replace F6 : Fr g' L' h _ := F6
      replace N2 : News g' L' h _ := N2
      clear F4 F3 F2
      k_lt hlt
      obtain ⟨sr, hsr⟩ : ∃ sr, srs[i]? = some sr := ⟨srs[i]'(hS.1 ▸ hi), List.getElem?_eq_getElem _⟩
      have hV := hS.2 i v sr hv hsr
      cases sr with
      | mod nm its =>
        obtain ⟨a2, n2, v1, v2, v3, v4, v5, v6, v7, rfl, hmA, e1, e2, e3, e4, e5, e6, e7⟩ := inv7 hV
        obtain ⟨t3, rfl⟩ := d_str e3
        wtm_at "ks"
        (with_reducible rename Fr _ _ _ _ => F7)
        (with_reducible rename News _ _ _ _ => N7)
        have hus9 : us.length ≤ 900 := by wtm_at "om"
        have hnn : ∀ p ∈ (d, o) :: news, p.1 ≠ nl := List.forall_mem_cons.mpr ⟨Nat.ne_of_lt l9.1, fun p hp => Nat.ne_of_lt (of_allLt l9.2 p hp)⟩
        by_cases hx : nm ∈ srs.flatMap Sr.names
        · refine kdg_notin N7 mm2 hO lo1 (strKind_is _ _ _ _) true (by rw [valueAt_mem]; exact decide_eq_true ((hkeyall nm).mpr hx)) ?_
          wtm_at "ks"
          refine ⟨_, _, _, _, rfl, F7, N7, hne, (fun p hp => by rw [List.mem_singleton.mp hp]; exact .tail _ (.tail _ hm)), us, n, rfl, ?_, rfl, rfl, rfl, by wtm_at "om"⟩
          rw [List.take_add_one, hsr, List.filterMap_append, List.map_append]
          have e : List.map Dat.str (List.filterMap (keptOf srs) (some (Sr.mod nm its)).toList) = [] := by
            simp only [Option.toList_some, List.filterMap_cons, keptOf, if_pos hx, List.filterMap_nil, List.map_nil]
          rw [e, List.append_nil]; exact hU
        · refine kdg_notin N7 mm2 hO lo1 (strKind_is _ _ _ _) false (by rw [valueAt_mem]; exact decide_eq_false fun h => hx ((hkeyall nm).mp h)) ?_
          wtm_at "ks"
          (with_reducible rename Fr _ _ _ _ => F8)
          (with_reducible rename News _ _ _ _ => N8)
          rw [List.push_toArray] at N8
          refine ⟨_, _, _, _, rfl, F8, N8, List.forall_mem_cons.mpr ⟨Nat.ne_of_lt hlt.1, List.forall_mem_cons.mpr ⟨Nat.ne_of_lt hlt.2.1, fun p hp => Nat.ne_of_lt (of_allLt hlt.2.2 p hp)⟩⟩, (fun p hp => by rw [List.mem_singleton.mp hp]; exact .tail _ (.tail _ hm)), us ++ [.str nm t3], _, rfl, ?_, rfl, rfl, rfl, by rw [List.length_append, List.length_singleton]; wtm_at "om"⟩
          rw [List.take_add_one, hsr, List.filterMap_append, List.map_append]
          have e : List.map Dat.str (List.filterMap (keptOf srs) (some (Sr.mod nm its)).toList) = [Dat.str nm] := by
            simp only [Option.toList_some, List.filterMap_cons, keptOf, if_neg hx, List.filterMap_nil, List.map_nil, List.map_cons]
          rw [e]
          exact hU.append (.one (.str _ _))
      | prim =>
        obtain ⟨a2, dx, _, _, _, _, _, _, _, _, _, _, _, _, _, _, _, _, _, _, _, _, rfl, hmA, hmB⟩ := hV
        wtm_at "ks"
        refine ⟨_, _, _, _, rfl, F6, N2, hne, (fun p hp => by rw [List.mem_singleton.mp hp]; exact .tail _ (.tail _ hm)), us, n, rfl, ?_, rfl, rfl, rfl, by wtm_at "om"⟩
        rw [List.take_add_one, hsr, List.filterMap_append, List.map_append]
        have e : List.map Dat.str (List.filterMap (keptOf srs) (some Sr.prim).toList) = [] := rfl
        rw [e, List.append_nil]; exact hU
    · rintro m₁ _ h tk ⟨us, n, rfl, hU, hm1, hm2, hm3, hul⟩ F2 N2
      have F4 := know F2 (k := S "names") (v := .ref nl) hm2
      replace F4 : Fr g' L' h _ := F4
      replace N2 : News g' L' h _ := N2
      (try dsimp only)
      wtm_at "ks"
      rename_i F8 N8 _ _
      exact ret nl us n _ _ F8 (nsub N8 fun p hp => by
        rcases List.mem_cons.mp hp with rfl | hp
        · exact .head _
        · exact .tail _ (.tail _ hp)) (of_allLt l9.2) (by rw [hS.1, List.take_length] at hU; exact hU) (by wtm_at "om")
  ) : type_of% ?mG); have _ : True := trivial; type_of% ?mG))
end
end
local macro_rules | `(tactic| walk_at "subscriptTail Name Slice ref ref") => do let (as, cs) ← holes "aamdlk_wgl"; sliceS (← `(slice_from (a := 1) $as*)) cs
local macro_rules | `(tactic| k_room) => `(tactic| ktr_room)
local macro_rules | `(tactic| walk_at "subscriptTail Name Slice ref ref") => sliceAB 3 5
section
open PySem PySem.W PyProof.Rows PySem.Calls
set_option maxRecDepth 100000
set_option maxHeartbeats 0
set_option Elab.async false
set_option compiler.extract_closed false
set_option compiler.reuse false
set_option linter.unusedVariables false
local macro_rules | `(tactic| walk_at "eval ListComp") => compS none ``ListComp_hold "awdfdf_"
set_option pp.deepTerms false
section
variable {w : World} {mean : ExcName → Option Value} {mg mb : Str → Option Value} {dp un : Nat} {gd : Option (List Code)} {cn : Str} {cs : Scope} {a : Addr} {ccd : Value} {cl : List (Str × Addr)} {A₀ : Around} {outer : List Env} {base h₀ : Heap} {L : Addr} {m : Str → Option Value} {s : Shared} {Q E : Value → Shared → Prop}

theorem lk1088 (P) : (KX P).lookup 1088 = some ⟨.type "function", none, .func f1088, #[]⟩ := by kernel_rfl
theorem keep2_5 {a b c d e f g : Addr × Obj} {l : Led} : ∀ p ∈ [a, b] ++ l, p ∈ a :: b :: c :: d :: e :: f :: g :: l := by
  refine ?mG; exact ((by exact ?mB) : (let_mvar% ?mB := (by (
  intro p hp
  rcases List.mem_cons.mp hp with rfl | hp
  · exact .head _
  · rcases List.mem_cons.mp hp with rfl | hp
    · exact .tail _ (.head _)
    · exact .tail _ (.tail _ (.tail _ (.tail _ (.tail _ (.tail _ (.tail _ hp))))))
  ) : type_of% ?mG); have _ : True := trivial; type_of% ?mG))
theorem and_mask {wd vl : Int} (h1 : 1 ≤ wd) (h2 : wd ≤ 5) (h3 : 0 ≤ vl) (h4 : vl < 2 ^ wd.toNat) : Builtin.bitAnd vl (1 * 2 ^ wd.toNat - 1) = vl ∧ Builtin.bitAnd 0 (1 * 2 ^ wd.toNat - 1) = 0 := by
  refine ?mG; exact ((by exact ?mB) : (let_mvar% ?mB := (by (
  have all : ∀ k : Fin 6, ∀ n : Fin 32, n.val < 2 ^ k.val → (Builtin.bitAnd (n.val : Int) (1 * 2 ^ k.val - 1) = (n.val : Int) ∧ Builtin.bitAnd 0 (1 * 2 ^ k.val - 1) = 0) := by decide +kernel
  have hk : wd.toNat < 6 := by wtm_at "om"
  have hp : (2 : Int) ^ wd.toNat = ((2 ^ wd.toNat : Nat) : Int) := by push_cast; rfl
  have h5 : vl.toNat < 2 ^ wd.toNat := by rw [hp] at h4; wtm_at "om"
  have h6 : 2 ^ wd.toNat ≤ 2 ^ 5 := Nat.pow_le_pow_right (by decide) (by wtm_at "om")
  have := all ⟨wd.toNat, hk⟩ ⟨vl.toNat, by wtm_at "om"⟩ h5
  have e : ((vl.toNat : Nat) : Int) = vl := Int.toNat_of_nonneg h3
  simp only [e] at this
  exact this
  ) : type_of% ?mG); have _ : True := trivial; type_of% ?mG))
/-- how fill stands behind its statement: the two ways meet here -/
inductive FillQ (h₀ : Heap) (L : Addr) (m : Str → Option Value) (news : Led) (b : Bool) (s₀ : Shared) : Flow → Shared → Prop
  | mk (h' : Heap) (tk : Nat) (c : Bool) (e : c = b) (F : Fr h₀ L h' (fun y => if y = S "fill" then some (.bool c) else m y)) (N : News h₀ L h' news) : FillQ h₀ L m news b s₀ .next { s₀ with heap := h', toks := tk }
theorem fill_join {M : Model} {A : Around} {c : Sem Flow} {Q : Flow → Shared → Prop} {E : Value → Shared → Prop} {s : Shared} {h₀ : Heap} {L : Addr} {m : Str → Option Value} {news : Led} (F : Fr h₀ L s.heap m) (N : News h₀ L s.heap news) (b : Bool)
    (one : wpAny M A c (FillQ h₀ L m news b s) E s) (two : ∀ h' tk, Fr h₀ L h' (fun y => if y = S "fill" then some (.bool b) else m y) → News h₀ L h' news → Q .next { s with heap := h', toks := tk }) : wpAny M A c Q E s :=
  wpAny_mono one (fun f s' z => by
    cases z with
    | mk h' tk c e F N => cases e; exact two h' tk F N) fun _ _ e => e
theorem bool_nt {b : Bool} (h : ¬ b = true) : false = b := by
  cases b
  · rfl
  · exact absurd rfl h
local macro_rules | `(tactic| walk_at "exec Assign cons BoolOp") => holdS
theorem const_num {sc : Value} {v : Value} {wd vl : Int} {sg : Bool} {news : Led}
    (B : Below A₀ base outer h₀) (F : Fr h₀ L s.heap m) (X : (KX w.params).In h₀) (N : News h₀ L s.heap news) (T : TopM mean mg mb h₀)
    (hk : cs.kind = .function) (hd : dp + 16 < recursionLimit) (hu : un + 500 < cLine) (hD : DatIn news v (numD wd vl sg)) (h1 : 1 ≤ wd) (h2 : wd ≤ 5) (h3 : 0 ≤ vl) (h4 : vl < 2 ^ wd.toNat) (hsc : handedIn sc = true)
    (ret : ∀ r ent h' tk', Fr h₀ L h' m → News h₀ L h' (ent ++ news) → (∀ p ∈ news, ∀ q ∈ ent, @LT.lt Nat _ p.1 q.1) → DatIn ent r (.tuple [.tuple [.int wd, .int vl, .int 0], .bool sg]) → Q r { s with heap := h', toks := tk' }) :
    wpAny (model pwO w) (ktrTop dp un gd cn cs L a ccd cl outer) (call (.ref 1088) [sc, v]) Q E s := by
  refine ?mG; exact ((by exact ?mB) : (let_mvar% ?mB := (by (
  obtain ⟨a1, n1, v1, v2, v3, v4, v5, rfl, m1, e1, e2, e3, e4, e5⟩ := inv5 hD
  obtain ⟨t1, rfl⟩ := d_str e1
  obtain ⟨t2, rfl⟩ := d_int e2
  obtain ⟨a3, n3, y1, y2, y3, rfl, m3, g1, g2, g3⟩ := inv3 e3
  obtain ⟨t3, rfl⟩ := d_int g1
  obtain ⟨t4, rfl⟩ := d_int g2
  obtain ⟨t5, rfl⟩ := d_int g3
  obtain rfl := d_bool e4
  obtain rfl := d_bool e5
  refine wpAny_call ?_
  refine' code_def (binds := [(S "scope", sc), (S "e", Value.ref a1)]) B F X N T rfl rfl hk (lk1088 _) ?k7 ?k8 (BindsTo.of_eq rfl) (locs rfl) ?_ rfl rfl rfl (by decide)
  case k7 => k_is
  case k8 => ktr_room
  k_whole
  intro g' L' h' FG' F' N' B' X' T'
  (try dsimp only)
  k_fold
  wtm_at "ks"
  (with_reducible rename Fr _ _ _ _ => FA)
  (with_reducible rename News _ _ _ _ => NA)
  show wpAny _ _ _ _ _ _
  refine fill_join FA NA sg ?one fun hh2 tk2 F2 N2 => ?_
  case one =>
    refine wpAny_Assign_Name ?_
    wtm_at "ks"
    · (with_reducible rename Fr _ _ _ _ => F1)
      (with_reducible rename News _ _ _ _ => N1)
      exact .mk _ _ _ rfl F1 N1
    · (with_reducible rename Fr _ _ _ _ => F1)
      (with_reducible rename News _ _ _ _ => N1)
      exact .mk _ _ _ (Eq.symm (show sg = false by with_reducible assumption)) F1 N1
  clear FA NA
  (try dsimp only)
  wtm_at "ks"
  all_goals (
    (with_reducible rename Fr _ _ _ _ => F9)
    (with_reducible rename News _ _ _ _ => N9)
    (with_reducible rename _ ∧ _ ∧ _ ∧ _ ∧ _ ∧ _ ∧ AllLt _ _ => q7)
    (with_reducible rename _ ∧ _ ∧ _ ∧ _ ∧ _ ∧ AllLt _ _ => q6)
    rw [(and_mask h1 h2 h3 h4).1, (and_mask h1 h2 h3 h4).2] at N9
    refine ret _ _ _ _ F9 (nsub N9 keep2_5) (fun p hp q hq => ?_) (.tuple (.head _) (.cons (.tuple mm1 (.cons (.int _ _) (.cons (.int _ _) (.cons (.int _ _) .nil)))) (.cons (.bool _) .nil)))
    · rcases List.mem_cons.mp hq with rfl | hq
      · exact of_allLt q7.2.2.2.2.2.2 p hp
      · rw [List.mem_singleton.mp hq]
        exact of_allLt q6.2.2.2.2.2 p hp)
  ) : type_of% ?mG); have _ : True := trivial; type_of% ?mG))
end
end
section
open PySem PySem.W PyProof.Rows PySem.Calls
set_option maxRecDepth 100000
set_option Elab.async false
set_option compiler.extract_closed false
set_option compiler.reuse false
set_option linter.unusedVariables false
section
variable {prog : Program} {w : World} {A : Around} {E : Value → Shared → Prop} {s : Shared} {h₀ : Heap} {L : Addr} {m : Str → Option Value} {news : Led}
theorem tup_same {a : Addr} {vs : List Value} {n : Nat} {Q : Value → Shared → Prop} (N : News h₀ L s.heap news) (hm : (a, tupN vs n) ∈ news) (h : Q (.ref a) s) : wpAny (model prog w) A (call (.type "tuple") [.ref a]) Q E s :=
  call_tuple_tup ⟨_, N.get hm, rfl, _, rfl⟩ h
theorem tup_add {a b : Addr} {vs ws : List Value} {n k : Nat} {Q : Value → Shared → Prop} (F : Fr h₀ L s.heap m) (N : News h₀ L s.heap news) (ha : (a, tupN vs n) ∈ news) (hb : (b, tupN ws k) ∈ news) (hz : vs.length + ws.length ≤ sizeLine)
    (h : ∀ D c ent h', Fr h₀ L h' m → News h₀ L h' (ent ++ news) → (∀ p ∈ news, ∀ q ∈ ent, @LT.lt Nat _ p.1 q.1) → (D, tupN (vs ++ ws) c) ∈ ent ++ news → Q (.ref D) { s with heap := h' }) :
    wpAny (model prog w) A (binaryOp .Add (.ref a) (.ref b)) Q E s := by
  refine ?mG; exact ((by exact ?mB) : (let_mvar% ?mB := (by (
  have ht : IsTup s.heap a vs.toArray := ⟨_, N.get ha, rfl, _, rfl⟩
  have hb' : IsTup s.heap b ws.toArray := ⟨_, N.get hb, rfl, _, rfl⟩
  refine add_tuples F N ht hb' (fun q => ?_) (fun q1 q2 => ?_) (fun _ _ h' F' N' => ?_) hz
  · subst q
    exact h b k [] s.heap F N (fun _ _ _ h => nomatch h) hb
  · subst q2
    exact h a n [] s.heap F N (fun _ _ _ h => nomatch h) (by rw [List.append_nil]; exact ha)
  · exact h _ _ [(_, _)] h' F' N' (fun p hp q hq => by rw [List.mem_singleton.mp hq]; exact Heap.lt_size (N p hp).1) (.head _)
  ) : type_of% ?mG); have _ : True := trivial; type_of% ?mG))
end
end
local macro_rules | `(tactic| walk_at "call type:tuple") => plainS (rf ``tup_same "am_")
section
open PySem PySem.W PyProof.Rows PySem.Calls
set_option maxRecDepth 100000
set_option maxHeartbeats 0
set_option Elab.async false
set_option compiler.extract_closed false
set_option compiler.reuse false
set_option linter.unusedVariables false
local macro_rules | `(tactic| walk_at "mine no such key") => `(tactic| skip)
local macro_rules | `(tactic| walk_at "eval ListComp") => compS none ``ListComp_hold "awdfdf_"
set_option pp.deepTerms false
section
variable {w : World} {mean : ExcName → Option Value} {mg mb : Str → Option Value} {dp un : Nat} {gd : Option (List Code)} {cn : Str} {cs : Scope} {a : Addr} {ccd : Value} {cl : List (Str × Addr)} {A₀ : Around} {outer : List Env} {base h₀ : Heap} {L : Addr} {m : Str → Option Value} {s : Shared} {Q E : Value → Shared → Prop}

/-- an item of the second source -/
inductive Pm where
  | init
  | par (lap : Int) (word nm : Str) (num : Dat)
noncomputable def Pm.dat : Pm → Dat
  | .init => .tuple [dS "initial", .int 0, .none]
  | .par lap word nm num => .tuple [dS "param", .int lap, .str word, .bool false, .none, .str nm, num]
noncomputable def Pm.free : Pm → Option Str
  | .init => none
  | .par _ word nm _ => if word = S "parameter" then some nm else none
noncomputable def srcD (hs bs : List Pm) : Dat := .tuple [dS "module", .int 0, dS "x", .tuple (hs.map Pm.dat), .tuple [], .tuple (bs.map Pm.dat), dS "wire"]
inductive PnJ (nl D : Addr) (news1 : Led) (pms : List Pm) (i : Nat) (m : Str → Option Value) (nx : Led) : Prop
  | mk (us : List Value) (n : Nat)
    (h0 : nx = (nl, listOf us.toArray n) :: news1)
    (h1 : DatAll [] us (((pms.take i).filterMap Pm.free).map Dat.str))
    (h2 : m (S "names") = some (.ref nl))
    (h3 : us.length ≤ i)
theorem pnames_t {v : Value} {hs bs : List Pm} {news : Led}
    (B : Below A₀ base outer h₀) (F : Fr h₀ L s.heap m) (X : (KX w.params).In h₀) (N : News h₀ L s.heap news) (T : TopM mean mg mb h₀)
    (hk : cs.kind = .function) (hd : dp + 16 < recursionLimit) (hu : un + 500 < cLine) (hD : DatIn news v (srcD hs bs)) (hl1 : hs.length ≤ 100) (hl2 : bs.length ≤ 100)
    (ret : ∀ (r : Addr) (us : List Value) (n : Nat) h' tk', Fr h₀ L h' m → News h₀ L h' ((r, listOf us.toArray n) :: news) → (∀ p ∈ news, @LT.lt Nat _ p.1 r) →
      DatAll [] us (((hs ++ bs).filterMap Pm.free).map Dat.str) → us.length ≤ 200 → Q (.ref r) { s with heap := h', toks := tk' }) :
    wpAny (model pwO w) (ktrTop dp un gd cn cs L a ccd cl outer) (call (.ref 1131) [v]) Q E s := by
  refine ?mG; exact ((by exact ?mB) : (let_mvar% ?mB := (by (
  obtain ⟨a1, n1, v1, v2, v3, v4, v5, v6, v7, rfl, m1, e1, e2, e3, e4, e5, e6, e7⟩ := inv7 hD
  obtain ⟨a4, vs4, n4, rfl, m4, hH⟩ := d_tup e4
  obtain ⟨a6, vs6, n6, rfl, m6, hB⟩ := d_tup e6
  have hL4 := hH.length
  have hL6 := hB.length
  rw [List.length_map] at hL4 hL6
  refine wpAny_call ?_
  refine' code_def (binds := [(S "module", Value.ref a1)]) B F X N T rfl rfl hk (lk1131 _) ?k7 ?k8 (BindsTo.of_eq rfl) (locs rfl) ?_ rfl rfl rfl (by decide)
  case k7 => k_is
  case k8 => ktr_room
  k_whole
  intro g' L' h' FG' F' N' B' X' T'
  (try dsimp only)
  k_fold
  wtm_at "ks"
  rename_i nl h1 l1 h2 F1 N1
  refine tup_add F1 N1 (mtail m4) (mtail m6) (by rw [PySem.sizeLine_eq]; wtm_at "om") fun D c ent h3 F2 N2 lt2 hD2 => ?_
  show wpAny _ _ _ _ _ _
  have hne : ∀ p ∈ ent ++ news, p.1 ≠ nl := fun p hp => (List.mem_append.mp hp).elim (fun h => Nat.ne_of_gt (lt2 _ (.head _) p h)) fun h => Nat.ne_of_lt (l1 p h)
  have N3 := nsub N2 (l' := (nl, W.listOf #[] 0) :: (ent ++ news)) fun p hp => by
    simp only [List.mem_cons, List.mem_append] at hp ⊢
    rcases hp with h | h | h
    · exact .inr (.inl h)
    · exact .inl h
    · exact .inr (.inr h)
  have hD3 : (D, tupN (vs4 ++ vs6) c) ∈ ent ++ news := by
    rcases List.mem_append.mp hD2 with h | h
    · exact List.mem_append_left _ h
    · rcases List.mem_cons.mp h with h | h
      · exact absurd (congrArg (fun p => p.2.cls) h) (by simp [W.listOf])
      · exact List.mem_append_right _ h
  have hAll : DatAll (ent ++ news) (vs4 ++ vs6) ((hs ++ bs).map Pm.dat) := by
    rw [List.map_append]
    exact DatAll.append (hH.mono fun p hp => List.mem_append_right _ hp) (hB.mono fun p hp => List.mem_append_right _ hp)
  clear hD2 N2
  have hz : (vs4 ++ vs6).length = (hs ++ bs).length := by rw [List.length_append, List.length_append, hL4, hL6]
  have hz2 : (hs ++ bs).length ≤ 200 := by rw [List.length_append]; wtm_at "om"
  refine iterJ_tuple (vs := vs4 ++ vs6) (k := c) (PnJ nl D (ent ++ news) (hs ++ bs)) rfl (.tail _ hD3) F2 N3 ⟨[], 0, rfl, .nil, rfl, Nat.zero_le _⟩ ?_ ?_
  · rintro I i v m₁ _ h tk oI hlt hi hv ⟨us, n, rfl, hU, hm1, hul⟩ hne9 hsrc F4 N4
    have F5 := know F4 (k := S "names") (v := .ref nl) (by rw [if_neg (by decide)]; exact hm1)
    replace F5 : Fr g' L' h _ := F5
    replace N4 : News g' L' h _ := N4
    clear F4 F2 N3
    k_lt hlt
    have hi2 : i < (hs ++ bs).length := by rw [← hz]; exact hi
    have hV : DatIn (ent ++ news) v (((hs ++ bs)[i]'hi2).dat) := by
      obtain ⟨v', h1, h2⟩ := hAll.get (k := i) (by rw [List.length_map]; exact hi2)
      rw [hv] at h1
      obtain rfl := Option.some.inj h1
      rw [List.getElem_map] at h2
      exact h2
    have hus9 : us.length ≤ 900 := by wtm_at "om"
    have tk1 : (hs ++ bs).take (i + 1) = (hs ++ bs).take i ++ [(hs ++ bs)[i]'hi2] := by rw [List.take_add_one, List.getElem?_eq_getElem hi2]; rfl
    generalize (hs ++ bs)[i]'hi2 = pm at hV tk1
    cases pm with
    | init =>
      obtain ⟨b1, k1, w1, w2, w3, rfl, hmA, f1, f2, f3⟩ := inv3 hV
      obtain ⟨t1, rfl⟩ := d_str f1
      wtm_at "ks"
      refine ⟨_, _, _, _, rfl, F5, N4, hne9, (fun p hp => by rw [List.mem_singleton.mp hp]; exact .tail _ hD3), us, n, rfl, ?_, rfl, by wtm_at "om"⟩
      rw [tk1, List.filterMap_append]
      show DatAll [] us ((_ ++ []).map Dat.str)
      rw [List.append_nil]; exact hU
    | par lap word nm num =>
      obtain ⟨b1, k1, w1, w2, w3, w4, w5, w6, w7, rfl, hmA, f1, f2, f3, f4, f5, f6, f7⟩ := inv7 hV
      obtain ⟨t1, rfl⟩ := d_str f1
      obtain ⟨t3, rfl⟩ := d_str f3
      obtain ⟨t6, rfl⟩ := d_str f6
      by_cases hw : word = S "parameter"
      · subst hw
        wtm_at "ks"
        (with_reducible rename Fr _ _ _ _ => F8)
        (with_reducible rename News _ _ _ _ => N8)
        rw [List.push_toArray] at N8
        refine ⟨_, _, _, _, rfl, F8, N8, List.forall_mem_cons.mpr ⟨Nat.ne_of_lt hlt.1, fun p hp => Nat.ne_of_lt (of_allLt hlt.2 p hp)⟩, (fun p hp => by rw [List.mem_singleton.mp hp]; exact .tail _ hD3), us ++ [.str nm t6], _, rfl, ?_, rfl, by rw [List.length_append, List.length_singleton]; wtm_at "om"⟩
        rw [tk1, List.filterMap_append, List.map_append]
        exact hU.append (.one (.str _ _))
      · have hw2 : (word == S "parameter") = false := beq_eq_false_iff_ne.mpr hw
        wtm_at "ks"
        refine ⟨_, _, _, _, rfl, F5, N4, hne9, (fun p hp => by rw [List.mem_singleton.mp hp]; exact .tail _ hD3), us, n, rfl, ?_, rfl, by wtm_at "om"⟩
        rw [tk1, List.filterMap_append]
        have e : List.filterMap Pm.free [Pm.par lap word nm num] = [] := by simp [Pm.free, hw]
        rw [e, List.append_nil]; exact hU
  · rintro m₁ _ h tk ⟨us, n, rfl, hU, hm1, hul⟩ F4 N4
    have F5 := know F4 (k := S "names") (v := .ref nl) hm1
    replace F5 : Fr g' L' h _ := F5
    replace N4 : News g' L' h _ := N4
    (try dsimp only)
    wtm_at "ks"
    rename_i F8 N8 _ _
    exact ret nl us n _ _ F8 (nsub N8 fun p hp => by
      rcases List.mem_cons.mp hp with rfl | hp
      · exact .head _
      · exact .tail _ (List.mem_append_right _ hp)) l1 (by rw [hz, List.take_length] at hU; exact hU) (by wtm_at "om")
  ) : type_of% ?mG); have _ : True := trivial; type_of% ?mG))
end
end
section
open PySem PySem.W PyProof.Rows PySem.Calls
set_option maxRecDepth 100000
set_option Elab.async false
set_option compiler.extract_closed false
set_option compiler.reuse false
set_option linter.unusedVariables false
set_option maxHeartbeats 2000000
section
variable {prog : Program} {w : World} {A : Around} {E : Value → Shared → Prop} {s : Shared} {h₀ : Heap} {L : Addr} {m : Str → Option Value} {env : Env}
open LCg in
/-- a turn without a test -/
noncomputable abbrev TurnU (prog : Program) (w : World) (A : Around) (h₀ : Heap) (L : Addr) (m : Str → Option Value) (env : Env) (elt : Expr) (x : Str) (scope : Scope) (cl : List (Str × Addr)) (s₁ : Shared) (n : Nat) (P : Nat → Value → Prop) (S : Led → Prop) (J : Nat → List Value → Led → Prop) : Prop :=
  ∀ i ys news v I oI C oC D m₂ h tk (E' : Value → Shared → Prop), i < n → J i ys news → S news → P i v → NsObj oC m₂ → m₂ x = some v → Fr h₀ L h m → News h₀ L h ((I, oI) :: (C, oC) :: (D, lst ys) :: news) → Off3 I C D news → ((@Ne Nat I C) ∧ (@Ne Nat I D) ∧ (@Ne Nat C D)) →
      wpAny (model prog w) A (eval elt (compEnvC scope cl C env)) (CompEnd h₀ L m { s₁ with heap := h, toks := tk } I oI C oC D (lst ys) S (fun y news' => J (i + 1) (ys ++ [y]) news')) E' { s₁ with heap := h, toks := tk }
open LCg in
theorem restU {elt : Expr} {x : Str} {scope : Scope} {cl : List (Str × Addr)} {s₁ : Shared} {n : Nat} {P : Nat → Value → Prop} {S : Led → Prop} {J : Nat → List Value → Led → Prop} {Fin : List Value → Led → Prop} {g : Heap}
    (turn : TurnU prog w A h₀ L m env elt x scope cl s₁ n P S J) (done : ∀ ys news, J n ys news → Fin ys news) :
    ∀ k i ys news, i + k = n → J i ys news → S news → CompRest prog w A h₀ L m env elt x scope cl { s₁ with heap := g } S P Fin k i ys news := by
  refine ?mG; exact ((by exact ?mB) : (let_mvar% ?mB := (by (
  intro k
  induction k with
  | zero =>
    intro i ys news e hj _
    obtain rfl : i = n := by lia
    exact done ys news hj
  | succ k ih =>
    intro i ys news e hj hS
    refine CompRest.succ fun v I oI C oC D m₂ h tk E' hv hC hx F N off ne => ?_
    refine wpAny_mono (turn i ys news v I oI C oC D m₂ h tk E' (by lia) hj hS hv hC hx F N off ne) (fun y s'' q => ?_) fun _ _ z => z
    obtain ⟨h', tk', news', e1, F', N', off', hS', hj'⟩ := q
    exact ⟨h', tk', news', e1, F', N', off', hS', ih _ _ _ (by lia) hj' hS'⟩
  ) : type_of% ?mG); have _ : True := trivial; type_of% ?mG))
open LCg in
inductive CompJU (prog : Program) (w : World) (A : Around) (E : Value → Shared → Prop) (h₀ : Heap) (L : Addr) (m : Str → Option Value) (env : Env) (elt : Expr) (x : Str) (scope : Scope) (cl : List (Str × Addr)) (Q : Value → Shared → Prop) (xv : Value) (s₁ : Shared) : Prop
  | mk ob fp n P St S news J
    (h0 : Fr h₀ L s₁.heap m)
    (h1 : News h₀ L s₁.heap news)
    (h2 : Src prog w A E h₀ L xv s₁ ob fp n P St S)
    (h3 : S news)
    (h4 : J 0 [] news)
    (h5 : TurnU prog w A h₀ L m env elt x scope cl s₁ n P S J)
    (h6 : ∀ ys news' D h tk, J n ys news' → Fr h₀ L h m → News h₀ L h ((D, lst ys) :: news') → Off1 D news' → Q (.ref D) { s₁ with heap := h, toks := tk })
open LCg in
inductive CompAT (prog : Program) (w : World) (A : Around) (E : Value → Shared → Prop) (h₀ : Heap) (L : Addr) (m : Str → Option Value) (env : Env) (ct elt : Expr) (x : Str) (scope : Scope) (cl : List (Str × Addr)) (z : Str) (Q : Flow → Shared → Prop) (xv : Value) (s₁ : Shared) : Prop
  | mk ob fp n P St S news J
    (h0 : Fr h₀ L s₁.heap m)
    (h1 : News h₀ L s₁.heap news)
    (h2 : Src prog w A E h₀ L xv s₁ ob fp n P St S)
    (h3 : S news)
    (h4 : J 0 [] news)
    (h5 : TurnT prog w A h₀ L m env ct elt x scope cl s₁ n P S J)
    (h6 : ∀ ys news' D h tk, J n ys news' → Fr h₀ L h (fun y => if y = z then some (.ref D) else m y) → News h₀ L h ((D, lst ys) :: news') → Off1 D news' → Q .next { s₁ with heap := h, toks := tk })
open LCg in
theorem ListComp_holdU {elt iter : Expr} {x : Str} {px : Pos} {scope : Scope} {cl : List (Str × Addr)} {pos : Pos} {Q : Value → Shared → Prop} (F₀ : Fr h₀ L s.heap m)
    (hclos : closureFor scope env = pure cl) (hcell : ∀ y ∈ scope.names, y.2 ≠ .cell) (hkind : scope.kind = .function)
    (hnames : ∀ y ∈ scope.names, y.2 = .local → scope.names.lookup y.1 = some .local) (hx : scope.names.lookup x = some .local)
    (h : wpAny (model prog w) A (eval iter env) (fun xv s₁ => Hold (CompJU prog w A E h₀ L m env elt x scope cl Q xv s₁)) E s)
    (hs : ∀ x, foldedSetIterable iter env x = pure x := by intro _; rfl) :
    wpAny (model prog w) A (eval (.ListComp elt [⟨.Name x px, iter, [], 0⟩] scope pos) env) Q E s := by
  refine ?mG; exact ((by exact ?mB) : (let_mvar% ?mB := (by (
  rw [eval_ListComp]
  refine wpAny_comprehension_free (use := none) rfl hs hclos hkind hnames (wpAny_mono h (fun xv s₁ h₁ => ?_) fun _ _ e => e)
  obtain ⟨ob, fp, n, P, St, S, news, J, F, N, V, hS, hJ, turn, done⟩ := h₁
  refine V.iter _ ?_
  have up : ∀ b o, s₁.heap.get? b = some o → (s₁.heap.push ob).get? b = some o := fun b o e => Heap.get?_push_of_some _ e
  refine block_U (s₂ := { s₁ with heap := s₁.heap.push ob }) (Fin := FinE h₀ L m s₁ Q) V.walks V.size V.there V.keep hcell hkind hx V.start V.low (F.keeps up) (N.grown up) (Nat.ne_of_lt F.ns.lt) (next_is_new F) (fun p hp => Nat.ne_of_lt (Heap.lt_size (N p hp).1)) hS
    (restU turn (fun ys news' hj D h tk F' N' o1 => done ys news' D h tk hj F' N' o1) n 0 [] news (by lia) hJ hS) ?_
  intro D C h tk m' ys news' F' N' o1 hn hC₀ hD₀ hCL hDL hCD offC fin
  refine ⟨m', hn, fun h'' hs'' => fin D h'' tk (F'.change hs'' hCL hC₀) (fun p hp => ⟨hs''.extBut _ _ ?_ (N' p hp).1, (N' p hp).2⟩) o1⟩
  rcases List.mem_cons.mp hp with rfl | hp
  · exact Ne.symm hCD
  · exact offC p hp
  ) : type_of% ?mG); have _ : True := trivial; type_of% ?mG))
open LCg in
theorem Assign_holdT {ct elt iter : Expr} {x y : Str} {px py : Pos} {scope : Scope} {cl : List (Str × Addr)} {pos spos : Pos} {Q : Flow → Shared → Prop} (F₀ : Fr h₀ L s.heap m) (hLe : env.locals = L)
    (hsw : swapsWith (.ListComp elt [⟨.Name x px, iter, [ct], 0⟩] scope pos) (some (.Name y py)) spos.line env = pure true)
    (hclos : closureFor scope env = pure cl) (hcell : ∀ z ∈ scope.names, z.2 ≠ .cell) (hkind : scope.kind = .function)
    (hnames : ∀ z ∈ scope.names, z.2 = .local → scope.names.lookup z.1 = some .local) (hx : scope.names.lookup x = some .local)
    (hy : env.kindOf y = some .local) (hp : (env.scope.kind == .class || (env.scope.kind == .module && env.locals != env.globals)) = false)
    (h : wpAny (model prog w) A (eval iter env) (fun xv s₁ => Hold (CompAT prog w A E h₀ L m env ct elt x scope cl y Q xv s₁)) E s)
    (hs : ∀ x, foldedSetIterable iter env x = pure x := by intro _; rfl) :
    wpAny (model prog w) A (exec (.Assign [.Name y py] (.ListComp elt [⟨.Name x px, iter, [ct], 0⟩] scope pos) spos) env) Q E s := by
  refine ?mG; exact ((by exact ?mB) : (let_mvar% ?mB := (by (
  subst hLe
  rw [exec_Assign_Name_used _ _ _ _ hsw]
  refine wpAny_bind (wpAny_standAt (wpAny_bind ?_))
  show wpAny _ A (do let _ ← comprehension (.ListComp elt [⟨.Name x px, iter, [ct], 0⟩] scope pos) scope env _ (newList []) false (eval iter env) (some (assign (.Name y py) env))) _ _ s
  refine wpAny_bind (wpAny_mono (wpAny_comprehension_free (use := some (assign (.Name y py) env)) (Q := fun _ s' => Q .next s') rfl hs hclos hkind hnames
    (wpAny_mono h (fun xv s₁ h₁ => ?_) fun _ _ e => e)) (fun _ s' hq => wpAny_pure (wpAny_pure hq)) fun _ _ e => e)
  obtain ⟨ob, fp, n, P, St, S, news, J, F, N, V, hS, hJ, turn, done⟩ := h₁
  refine V.iter _ ?_
  have up : ∀ b o, s₁.heap.get? b = some o → (s₁.heap.push ob).get? b = some o := fun b o e => Heap.get?_push_of_some _ e
  refine LCt.block_T (s₂ := { s₁ with heap := s₁.heap.push ob }) (Fin := FinA h₀ env.locals m s₁ y Q) V.walks V.size V.there V.keep hcell hkind hx V.start V.low (F.keeps up) (N.grown up) (Nat.ne_of_lt F.ns.lt) (next_is_new F) (fun p hp => Nat.ne_of_lt (Heap.lt_size (N p hp).1)) hS
    (restT turn (fun ys news' hj D h tk F' N' o1 => done ys news' D h tk hj F' N' o1) n 0 [] news (by lia) hJ hS) ?_
  intro D C h' tk m' ys news' F' N' o1 hn hC₀ hD₀ hCL hDL hCD offC fin
  show wpAny _ A (assign (.Name y py) env (.ref D)) _ _ _
  refine wpAny_assign_Name (wpAny_storeName_local hy F'.ns (fun h₂ hn₂ hs₂ => ?_) hp)
  have hL₀ : h₀.get? env.locals = none := Heap.get?_none_of_le F'.above
  have F₂ : Fr h₀ env.locals h₂ (fun z => if z = y then some (.ref D) else m z) := ⟨hn₂, fun b o e => hs₂.extBut b o (fun q => by rw [q, hL₀] at e; cases e) (F'.keep b o e), F'.above⟩
  refine ⟨m', hn.sameBut hs₂ hCL, fun h'' hs'' => fin D h'' _ (F₂.change hs'' hCL hC₀) (fun p hp => ?_) o1⟩
  have z : h₂.get? p.1 = some p.2 := hs₂.extBut _ _ (N' p hp).2.1 (N' p hp).1
  refine ⟨hs''.extBut _ _ ?_ z, (N' p hp).2⟩
  rcases List.mem_cons.mp hp with rfl | hp
  · exact Ne.symm hCD
  · exact offC p hp
  ) : type_of% ?mG); have _ : True := trivial; type_of% ?mG))
end
end
local macro_rules | `(tactic| walk_at "eval ListComp") => do compS (some (← `((eval (Expr.ListComp _ [⟨_, _, [_], _⟩] _ _) _)))) ``ListComp_hold "awdfdf_"
local macro_rules | `(tactic| walk_at "eval ListComp") => do compS (some (← `((eval (Expr.ListComp _ [⟨_, _, [], _⟩] _ _) _)))) ``ListComp_holdU "awdfdf_"
local macro_rules | `(tactic| walk_at "exec Assign cons ListComp") => do compS (some (← `((exec (Stmt.Assign _ (Expr.ListComp _ [⟨_, _, [_], _⟩] _ _) _) _)))) ``Assign_holdT "afwwdfdfff_"
local macro_rules | `(tactic| walk_at "call ref") => do heldAt (← refsAt [1131, 1136, 1088, 1110, 1117, 1124, 1318, 1325, 1332, 1339, 1346, 1143, 1150, 1100, 1105])
section
open PySem PySem.W PyProof.Rows PySem.Calls
set_option maxRecDepth 100000
set_option maxHeartbeats 0
set_option Elab.async false
set_option compiler.extract_closed false
set_option compiler.reuse false
set_option linter.unusedVariables false
set_option pp.deepTerms false
section
variable {w : World} {mean : ExcName → Option Value} {mg mb : Str → Option Value} {dp un : Nat} {gd : Option (List Code)} {cn : Str} {cs : Scope} {a : Addr} {ccd : Value} {cl : List (Str × Addr)} {A₀ : Around} {outer : List Env} {base h₀ : Heap} {L : Addr} {m : Str → Option Value} {s : Shared} {Q E : Value → Shared → Prop}

theorem off1_mem {D : Addr} : ∀ {l : Led}, LCg.Off1 D l → ∀ p ∈ l, p.1 ≠ D := by
  refine ?mG; exact ((by exact ?mB) : (let_mvar% ?mB := (by (
  intro l
  induction l with
  | nil => intro _ p hp; cases hp
  | cons q r ih =>
    intro h p hp
    rcases List.mem_cons.mp hp with rfl | hp
    · exact h.1
    · exact ih h.2 p hp
  ) : type_of% ?mG); have _ : True := trivial; type_of% ?mG))
/-- the parameters by place: the head's, else all -/
noncomputable def ordX (hs bs : List Pm) : List Str := if hs.filterMap Pm.free ≠ [] then hs.filterMap Pm.free else (hs ++ bs).filterMap Pm.free
theorem oparams_t {v : Value} {hs bs : List Pm} {news : Led}
    (B : Below A₀ base outer h₀) (F : Fr h₀ L s.heap m) (X : (KX w.params).In h₀) (N : News h₀ L s.heap news) (T : TopM mean mg mb h₀)
    (hk : cs.kind = .function) (hd : dp + 24 < recursionLimit) (hu : un + 600 < cLine) (hD : DatIn news v (srcD hs bs)) (hl1 : hs.length ≤ 100) (hl2 : bs.length ≤ 100)
    (ret : ∀ (r : Addr) (us : List Value) (n : Nat) h' tk', Fr h₀ L h' m → News h₀ L h' ((r, listOf us.toArray n) :: news) → (∀ p ∈ news, p.1 ≠ r) →
      DatAll [] us ((ordX hs bs).map Dat.str) → us.length ≤ 200 → Q (.ref r) { s with heap := h', toks := tk' }) :
    wpAny (model pwO w) (ktrTop dp un gd cn cs L a ccd cl outer) (call (.ref 1136) [v]) Q E s := by
  refine ?mG; exact ((by exact ?mB) : (let_mvar% ?mB := (by (
  obtain ⟨a1, n1, v1, v2, v3, v4, v5, v6, v7, rfl, m1, e1, e2, e3, e4, e5, e6, e7⟩ := inv7 hD
  obtain ⟨a4, vs4, n4, rfl, m4, hH⟩ := d_tup e4
  have hL4 := hH.length
  rw [List.length_map] at hL4
  refine wpAny_call ?_
  refine' code_def (binds := [(S "module", Value.ref a1)]) B F X N T rfl rfl hk (lk1136 _) ?k7 ?k8 (BindsTo.of_eq rfl) (locs rfl) ?_ rfl rfl rfl (by decide)
  case k7 => k_is
  case k8 => ktr_room
  k_whole
  intro g' L' h' FG' F' N' B' X' T'
  (try dsimp only)
  k_fold
  wtm_at "ks"
  refine ⟨_, _, _, _, _, _, _, (fun i ys nx => nx = news ∧ DatAll [] ys (((hs.take i).filterMap Pm.free).map Dat.str)), F', N', src_tuple rfl N' m4 (by rw [PySem.sizeLine_eq]; wtm_at "om"), m4, ⟨rfl, .nil⟩, ?_, ?_⟩
  · intro i ys nx v I oI C oC D m₂ h tk E' hi hJ hS hv hC hx F2 N2 off ne
    obtain ⟨rfl, hY⟩ := hJ
    have hi2 : i < hs.length := by rw [← hL4]; exact hi
    have hV : DatIn nx v ((hs[i]'hi2).dat) := by
      obtain ⟨v', h1, h2⟩ := hH.get (k := i) (by rw [List.length_map]; exact hi2)
      rw [hv] at h1
      obtain rfl := Option.some.inj h1
      rw [List.getElem_map] at h2
      exact h2
    have tk1 : hs.take (i + 1) = hs.take i ++ [hs[i]'hi2] := by rw [List.take_add_one, List.getElem?_eq_getElem hi2]; rfl
    generalize hs[i]'hi2 = pm at hV tk1
    cases pm with
    | init =>
      obtain ⟨b1, k1, w1, w2, w3, rfl, hmA, f1, f2, f3⟩ := inv3 hV
      obtain rfl := d_none f3
      wtm_at "ks"
      refine ⟨h, _, _, rfl, F2, N2, off, hS, rfl, ?_⟩
      rw [tk1, List.filterMap_append]
      show DatAll [] ys ((_ ++ []).map Dat.str)
      rw [List.append_nil]; exact hY
    | par lap word nm num =>
      obtain ⟨b1, k1, w1, w2, w3, w4, w5, w6, w7, rfl, hmA, f1, f2, f3, f4, f5, f6, f7⟩ := inv7 hV
      obtain ⟨t3, rfl⟩ := d_str f3
      obtain ⟨t6, rfl⟩ := d_str f6
      by_cases hw : word = S "parameter"
      · subst hw
        wtm_at "ks"
        refine ⟨h, _, _, rfl, F2, N2, off, hS, rfl, ?_⟩
        rw [tk1, List.filterMap_append, List.map_append]
        exact hY.append (.one (.str _ _))
      · have hw2 : (word == S "parameter") = false := beq_eq_false_iff_ne.mpr hw
        wtm_at "ks"
        refine ⟨h, _, _, rfl, F2, N2, off, hS, rfl, ?_⟩
        rw [tk1, List.filterMap_append]
        have e : List.filterMap Pm.free [Pm.par lap word nm num] = [] := by simp [Pm.free, hw]
        rw [e, List.append_nil]; exact hY
  · rintro ys nx D h tk ⟨rfl, hY⟩ F2 N2 o1
    wtm_at "ks"
    have hYl := hY.length
    rw [List.length_map] at hYl
    have hfl : (List.filterMap Pm.free (hs.take vs4.length)).length ≤ 100 := Nat.le_trans (List.length_filterMap_le _ _) (by rw [List.length_take]; wtm_at "om")
    rw [hL4, List.take_length] at hYl hY hfl
    refine kst_len N2 (.head _) rfl (by wtm_at "om") ?_
    wtm_at "ks"
    · (with_reducible rename Fr _ _ _ _ => F8)
      (with_reducible rename News _ _ _ _ => N8)
      have hne : hs.filterMap Pm.free ≠ [] := fun e => by rw [e] at hYl; simp at hYl; simp_all
      refine ret D ys ys.length _ _ F8 N8 (off1_mem o1) (by unfold ordX; rw [if_pos hne]; exact hY) (by wtm_at "om")
    · have he : hs.filterMap Pm.free = [] := by
        refine List.eq_nil_of_length_eq_zero ?_
        wtm_at "om"
      (with_reducible rename Fr _ _ _ _ => F8)
      (with_reducible rename News _ _ _ _ => N8)
      show wpAny _ _ _ _ _ _
      refine pnames_t B' F8 X' N8 T' rfl (by ktr_room) (by ktr_units) (DatIn.mono (fun p hp => .tail _ hp) hD) hl1 hl2 fun r us n h' tk' F9 N9 l9 hU hl => ?_
      (try dsimp only)
      wtm_at "ks"
      (with_reducible rename Fr _ _ _ _ => FA)
      (with_reducible rename News _ _ _ _ => NA)
      refine ret r us n _ _ FA (nsub NA fun p hp => ?_) (fun p hp => Nat.ne_of_lt (l9 p (.tail _ hp))) (by unfold ordX; rw [if_neg (by simp [he])]; exact hU) hl
      rcases List.mem_cons.mp hp with rfl | hp
      · exact .head _
      · exact .tail _ (.tail _ hp)
  ) : type_of% ?mG); have _ : True := trivial; type_of% ?mG))
end
end
section
open PySem PySem.W PySem.Calls
open PySem.Builtin.ObjectAttr
set_option maxRecDepth 100000
set_option Elab.async false
set_option compiler.extract_closed false
set_option compiler.reuse false
set_option linter.unusedVariables false
set_option maxHeartbeats 2000000
/-- the mro behind DesignError -/
noncomputable abbrev bm52 : List Value := [.ref 39, .type "Exception", .type "BaseException", .type "object"]
noncomputable abbrev cls52 (P : Params) : Obj := excClassObj (S "DesignError") (S "DesignError") 52 51 [.ref 39] bm52 true [] [] false none none (some (.ref 43)) none (some (.str (S "DesignError") 232)) (some (.str (S "DesignError") 240)) (some (.bool true)) "Exception.__new__"
theorem lk52 (P) : (KX P).lookup 52 = some (cls52 P) := by kernel_rfl
noncomputable abbrev excO (t : Addr) : Obj := { cls := .ref 52, data := .fields #[.ref t, .none, .none, .none, .bool false, .none] }
noncomputable abbrev tupR (vs : List Value) : Obj := { cls := .type "tuple", data := .seq vs.toArray }
theorem hcB : (Value.ref 52 :: bm52).contains (.type "Exception") = true := by decide +kernel
theorem hcA : (Value.ref 52 :: bm52).contains (.type "AttributeError") = false := by decide +kernel
theorem hcN : (Value.ref 52 :: bm52).contains (.type "NameError") = false := by decide +kernel
section
variable {prog : Program} {w : World} {A : Around} {R : Result → Shared → Prop} {E : Value → Shared → Prop} {h : Heap} {g : Array GenState} {d : Drawn} {t : Nat} {os : OsState}
theorem exc_check {rest : List Value} {Q : Unit → Shared → Prop} (hC : h.get? 52 = some (cls52 w.params)) (hq : Q () ⟨h, g, d, t, os⟩) :
    wpAny (model prog w) A (checkBuiltinCall "Exception.__new__" ⟨.ref 52 :: rest, []⟩) Q E ⟨h, g, d, t, os⟩ := by
  have F := PySem.F.excBase_Exception
  have hstar := F.noStar
  simp only [checkBuiltinCall, F.newKind, F.newSplit, F.newRow]
  repeat (first | refine wpAny_loadPart_at hC ?_ | (refine wpAny_isSubtype_exc hC ?_; rw [hcB]) | refine wpAny_staticBase_exc hC ?_ | refine wpAny_madeBy_exc hC ?_ | simp only [bne_self_eq_false, Bool.false_eq_true, if_false] | wp_step)
  exact hq
theorem exc_new {rest : List Value} (hC : h.get? 52 = some (cls52 w.params))
    (hq : R (.ok (.ret (.ref (h.objs.size + 1)))) ⟨(h.push (tupR rest)).push (excO h.objs.size), g, d, t, os⟩) (hrest : rest.length ≤ sizeLine) :
    codeAny (model prog w) A (.builtin "Exception.__new__" ⟨.ref 52 :: rest, []⟩) R ⟨h, g, d, t, os⟩ := by
  refine ?mG; exact ((by exact ?mB) : (let_mvar% ?mB := (by (
  have F := PySem.F.excBase_Exception
  have hends := F.ends
  refine codeAny_builtinAt F.entry ?_
  unfold Builtin.«BaseException.__new__»
  refine PySem.wpAt_bind ?_
  show PySem.wpAt _ _ _ (stack >>= _) _ _ _
  refine PySem.wpAt_bind (PySem.wpAt_stack fun p below => PySem.wpAt_of_wpAny ?_)
  wp_walk
  refine PySem.wpAt_of_wpAny ?_
  rw [F.owner]
  repeat (first | with_reducible refine wpAny_madeHere_exc F.canon hC ?_ | with_reducible refine wpAny_loadPart_at hC ?_ | (with_reducible refine wpAny_isSubtype_exc hC ?_; first | rw [hcB] | rw [hcA] | rw [hcN]) | wp_step)
  show R _ _
  rw [Heap.size_push]
  exact hq
  ) : type_of% ?mG); have _ : True := trivial; type_of% ?mG))
theorem exc_type_call {rest : List Value} {Q : Fin → Shared → Prop} (X : (KX w.params).In h) (hC : h.get? 52 = some (cls52 w.params))
    (hq : wpAny (model prog w) A (call (.ref 36) (.ref (h.objs.size + 1) :: rest)) (fun r s' => r = .none ∧ Q (.done (.ret (.ref (h.objs.size + 1)))) s') E ⟨(h.push (tupR rest)).push (excO h.objs.size), g, d, t, os⟩) (hrest : rest.length ≤ sizeLine) :
    wpAny (model prog w) A (Builtin.«type.__call__» ⟨.ref 52 :: rest, []⟩) Q E ⟨h, g, d, t, os⟩ := by
  refine ?mG; exact ((by exact ?mB) : (let_mvar% ?mB := (by (
  have F := PySem.F.excBase_Exception
  repeat (first | with_reducible refine wpAny_loadPart_at hC ?_ | with_reducible refine wpAny_madeBy_exc hC ?_ | wp_step)
  refine codeAny_call_builtin_code (Code.quiet_builtin _ F.quiet) (exc_check hC ?_)
  refine exc_new hC ?_ hrest
  show wpAny _ _ _ _ _ _
  have k : ∀ b o, h.get? b = some o → ((h.push (tupR rest)).push (excO h.objs.size)).get? b = some o := fun b o e => Heap.get?_push_of_some _ (Heap.get?_push_of_some _ e)
  have hC₁ := k _ _ hC
  have X₁ : (KX w.params).In ((h.push (tupR rest)).push (excO h.objs.size)) := X.keeps k
  have hget : ((h.push (tupR rest)).push (excO h.objs.size)).get? (h.objs.size + 1) = some (excO h.objs.size) := by heap_get
  have hcC : (Value.ref 52 :: bm52).contains (.ref 52) = true := by decide +kernel
  unfold isInstance
  repeat (first | with_reducible refine wpAny_loadPart_at hget ?_ | (with_reducible refine wpAny_isSubtype_exc hC₁ ?_; rw [hcC]) | wp_step)
  show wpAny _ _ (typeLookup (.ref 52) _) _ _ _
  refine (looks_findIn (M := model prog w) X₁ (r := some (.ref 36)) (by kernel_rfl)).at ?_
  refine wpAny_holding (wpAny_bind ?_)
  refine (bind_fn (M := model prog w) (f := 36) X₁ _ (by kernel_rfl)).at ?_
  refine wpAny_bind (wpAny_mono hq (fun r s' hr => ?_) fun _ _ x => x)
  obtain ⟨rfl, hQ⟩ := hr
  wp_walk
  exact hQ
  ) : type_of% ?mG); have _ : True := trivial; type_of% ?mG))
theorem exc_call {s : Shared} {h₀ : Heap} {L : Addr} {m : Str → Option Value} {news : Led} {rest : List Value} {Q : Value → Shared → Prop} (F : PyProof.Rows.Fr h₀ L s.heap m) (X₀ : (KX w.params).In h₀) (N : PyProof.Rows.News h₀ L s.heap news) (hrest : rest.length ≤ sizeLine)
    (hq : ∀ e t h', PyProof.Rows.Fr h₀ L h' m → PyProof.Rows.News h₀ L h' ((e, excO t) :: (t, tupR rest) :: news) → (∀ p ∈ news, @LT.lt Nat _ p.1 t) → @LT.lt Nat _ t e →
      wpAny (model prog w) (A.under (.builtin "type.__call__" ⟨.ref 52 :: rest, []⟩)) (call (.ref 36) (.ref e :: rest)) (fun r s' => r = .none ∧ Q (.ref e) s') E { s with heap := h' }) :
    wpAny (model prog w) A (call (.ref 52) rest) Q E s := by
  refine ?mG; exact ((by exact ?mB) : (let_mvar% ?mB := (by (
  have X : (KX w.params).In s.heap := X₀.keeps F.keep
  have hC : s.heap.get? 52 = some (cls52 w.params) := X 52 _ (lk52 _)
  obtain ⟨h, g, d, t, os⟩ := s
  have f1 := tc_lookup
  have f2 := tc_bind (.ref 52)
  have hT : (⟨h, g, d, t, os⟩ : Shared).TypeIs (.ref 52) "type" := ⟨_, hC, rfl⟩
  refine wpAny_call (codeAny_of_tree ?_)
  show wpAny _ _ (callAny (.ref 52) _) _ _ _
  repeat (any_goals (first | assumption | with_reducible refine wpAny_loadPart_at hC ?_ | wp_step))
  refine ⟨rfl, ?_⟩
  refine codeAny_call_builtin_at (Code.quiet_builtin _ (by decide +kernel)) entry_typeCall (wpAny_check_type_call_sub hC (exc_type_call X hC ?_ hrest))
  have N2 := (N.push F (tupR rest)).push (F.push _) (excO h.objs.size)
  rw [Heap.size_push] at N2
  exact hq _ _ _ ((F.push _).push _) N2 (fun p hp => Heap.lt_size (N p hp).1) (Nat.lt_succ_self _)
  ) : type_of% ?mG); have _ : True := trivial; type_of% ?mG))
/-- an exception of ours with its dict -/
noncomputable abbrev excD (d t : Addr) : Obj := { cls := .ref 52, dict := some d, data := .fields #[.ref t, .none, .none, .none, .bool false, .none] }
theorem osa52 {s : Shared} {e : Addr} {ox : Obj} {od : Option Obj} {name : Str} {tk : Tok} {v : Value} (X : (KX w.params).In s.heap) (I : InstAt s.heap e ox 52 od) (ht : findIn (KX w.params) (.ref 52) name = some none)
    (h : wpAny (model prog w) A.in1 (storeInOwnDict (.ref e) (.ref 52) (.str name tk) name v false)
      (fun fin s' => match fin with | .done f => R (.ok f) s' | .again c' => c'.quiet = true ∧ codeAny (model prog w) A c' R s') (fun e s' => R (.error e) s') s) :
    codeAny (model prog w) A (.call (.builtin "object.__setattr__") ⟨[.ref e, .str name tk, v], []⟩) R s := by
  refine ?mG; exact ((by exact ?mB) : (let_mvar% ?mB := (by (
  have SF := PySem.F.store_object
  have hc : clsIn (KX w.params) 52 = some { name := S "DesignError", bases := [.ref 39], mro := .ref 52 :: bm52, ns := 51, qualname := S "DesignError", hasDict := true, slotNames := [], subclasses := [], abstract := false, collection := none, hasDel := false } := by kernel_rfl
  have sub : Looks (model prog w) s.heap (isInstance (.ref e) (.type "object")) true := I.type.andThen (looks_mroIn X (by kernel_rfl))
  refine codeAny_call_builtin SF.slot.plain SF.entry (@check_slot (model prog w) _ _ s "object.__setattr__" "object" "__setattr__" (.ref e) [.str name tk, v] [] _ SF.kind SF.split sub (SF.args (.ref e) (.str name tk) v) ?_)
  have hm : Looks (model prog w) s.heap (mroOf (.ref 52)) (.ref 52 :: bm52) := (looks_clsIn X hc).andThen .now
  rw [osa_eq, refuse_eq]
  refine wpAny_bind (wpAny_bind (I.type.here (wpAny_bind (hm.here ?_))))
  rw [refuseLoop_ref, refuseLoop_ref, PySem.F.store_Exception.passes]
  refine wpAny_pure (wpAny_bind (I.type.here (wpAny_bind ((looks_findIn X ht).here (wpAny_bind (wpAny_pure ?_))))))
  exact h
  ) : type_of% ?mG); have _ : True := trivial; type_of% ?mG))
/-- the first store upon an exception makes its dict -/
theorem set52_new {s : Shared} {h₀ : Heap} {L : Addr} {m : Str → Option Value} {news : Led} {e tt : Addr} {name : Str} {v : Value} {Q : Unit → Shared → Prop} (F : PyProof.Rows.Fr h₀ L s.heap m) (X₀ : (KX w.params).In h₀) (N : PyProof.Rows.News h₀ L s.heap ((e, excO tt) :: news)) (hne : ∀ p ∈ news, p.1 ≠ e)
    (ht : findIn (KX w.params) (.ref 52) name = some none)
    (h : ∀ d h', PyProof.Rows.Fr h₀ L h' m → PyProof.Rows.News h₀ L h' ((d, dictOf [⟨PyData.keyHash w.params name, .str name (s.toks + 1), v⟩] 1) :: (e, excD d tt) :: news) → (∀ p ∈ (e, excO tt) :: news, @LT.lt Nat _ p.1 d) → Q () { s with heap := h', toks := s.toks + 2 }) :
    wpAny (model prog w) A (setAttr (.ref e) name v) Q E s := by
  refine ?mG; exact ((by exact ?mB) : (let_mvar% ?mB := (by (
  have X : (KX w.params).In s.heap := X₀.keeps F.keep
  have hc : clsIn (KX w.params) 52 = some { name := S "DesignError", bases := [.ref 39], mro := .ref 52 :: bm52, ns := 51, qualname := S "DesignError", hasDict := true, slotNames := [], subclasses := [], abstract := false, collection := none, hasDel := false } := by kernel_rfl
  have I : InstAt s.heap e (excO tt) 52 none := ⟨(N _ (.head _)).1, rfl, rfl, trivial⟩
  refine set_plain X I (by kernel_rfl) (osa52 (s := { s with toks := s.toks + 1 }) X I ht ?_)
  have hx := (N _ (.head _)).1
  have Fp := F.push emptyDict
  have Np := N.push F emptyDict
  have hde : s.heap.objs.size ≠ e := Nat.ne_of_gt (Heap.lt_size hx)
  have lt1 : ∀ p ∈ (e, excO tt) :: news, @LT.lt Nat _ p.1 s.heap.objs.size := fun p hp => Heap.lt_size (N p hp).1
  obtain ⟨U1, U2⟩ := news_upd (pre := [(s.heap.objs.size, emptyDict)]) (d := e) (o := excO tt) (o' := excD s.heap.objs.size tt) (post := news) (f := fun o => { o with dict := some s.heap.objs.size }) Fp Np (fun p hp => by rw [List.mem_singleton.mp hp]; exact hde) hne rfl rfl
  obtain ⟨V1, V2⟩ := news_upd (pre := []) (d := s.heap.objs.size) (o := emptyDict) (o' := dictOf [⟨PyData.keyHash w.params name, .str name (s.toks + 1), v⟩] 1) (post := (e, excD s.heap.objs.size tt) :: news) (f := Obj.putName name (PyData.keyHash w.params name) (.str name (s.toks + 1)) v) U1 U2 (fun _ h => nomatch h)
    (fun p hp => by
      rcases List.mem_cons.mp hp with rfl | hp
      · exact Ne.symm hde
      · exact Nat.ne_of_lt (lt1 p (.tail _ hp))) (putName_dict name _ _ _ [] 0) rfl
  refine wpAny_bind (wpAny_pure (wpAny_bind (wpAny_bind (wpAny_loadPart hx (wpAny_bind ((looks_clsIn X hc).at ?_))))))
  dsimp only
  show wpAny _ _ (alloc emptyDict >>= _) _ _ _
  refine wpAny_bind (wpAny_alloc (wpAny_bind (PySem.wpAny_update (Np _ mm1).1 ?_)))
  refine wpAny_pure ?_
  show wpAny _ _ (storeInDict _ _ _ _) _ _ _
  refine wpAny_bind (wpAny_pure (wpAny_bind ?_))
  unfold nsSet
  have D := (U2 (s.heap.objs.size, emptyDict) (.head _)).1
  refine wpAny_bind (wpAny_bind (wpAny_askSetting (wpAny_pure (wpAny_bind (wpAny_mkText (wpAny_bind (wpAny_loadPart D ?_)))))))
  dsimp only
  have c : (!(#[] : Array DictEntry).any (·.key.isStr name) && (#[] : Array DictEntry).any (·.refKey)) = false := by simp
  rw [aRefKeyMayBeTheName_at, c]
  refine wpAny_updatePart D ?_
  refine wpAny_bind (wpAny_lookBehind (V2 _ (.head _)).1 (pastItsLine_dict (by rw [sizeLine_eq]; exact Nat.le_of_ble_eq_true rfl)) ?_)
  exact wpAny_pure (h _ _ V1 V2 lt1)
  ) : type_of% ?mG); have _ : True := trivial; type_of% ?mG))
theorem set52_old {s : Shared} {h₀ : Heap} {L : Addr} {m : Str → Option Value} {news : Led} {e d tt : Addr} {es es' : List DictEntry} {n n' : Nat} {name : Str} {v : Value} {Q : Unit → Shared → Prop} (F : PyProof.Rows.Fr h₀ L s.heap m) (X₀ : (KX w.params).In h₀) (N : PyProof.Rows.News h₀ L s.heap ((d, dictOf es n) :: (e, excD d tt) :: news)) (hde : d ≠ e) (hne : ∀ p ∈ news, p.1 ≠ d)
    (ht : findIn (KX w.params) (.ref 52) name = some none) (hl : (getL name es).isSome = true) (he : (putL name (PyData.keyHash w.params name) (.str name (s.toks + 1)) v es, putN name es n) = (es', n')) (hz : es'.length ≤ 1000)
    (h : ∀ h', PyProof.Rows.Fr h₀ L h' m → PyProof.Rows.News h₀ L h' ((d, dictOf es' n') :: (e, excD d tt) :: news) → Q () { s with heap := h', toks := s.toks + 2 }) :
    wpAny (model prog w) A (setAttr (.ref e) name v) Q E s := by
  refine ?mG; exact ((by exact ?mB) : (let_mvar% ?mB := (by (
  obtain ⟨e1, e2⟩ := Prod.mk.inj he
  have X : (KX w.params).In s.heap := X₀.keeps F.keep
  have hc : clsIn (KX w.params) 52 = some { name := S "DesignError", bases := [.ref 39], mro := .ref 52 :: bm52, ns := 51, qualname := S "DesignError", hasDict := true, slotNames := [], subclasses := [], abstract := false, collection := none, hasDel := false } := by kernel_rfl
  have D := (N (d, dictOf es n) (.head _)).1
  have I : InstAt s.heap e (excD d tt) 52 (some (dictOf es n)) := ⟨(N _ mm1).1, rfl, rfl, D⟩
  refine set_plain X I (by kernel_rfl) (osa52 (s := { s with toks := s.toks + 1 }) X I ht ?_)
  have hx := (N _ mm1).1
  obtain ⟨V1, V2⟩ := news_upd (pre := []) (d := d) (o := dictOf es n) (o' := dictOf es' n') (post := (e, excD d tt) :: news) (f := Obj.putName name (PyData.keyHash w.params name) (.str name (s.toks + 1)) v) F N (fun _ h => nomatch h)
    (fun p hp => by
      rcases List.mem_cons.mp hp with rfl | hp
      · exact Ne.symm hde
      · exact hne p hp) (by rw [putName_dict, e1, e2]) rfl
  refine wpAny_bind (wpAny_pure (wpAny_bind (wpAny_bind (wpAny_loadPart hx (wpAny_bind ((looks_clsIn X hc).at ?_))))))
  dsimp only
  refine wpAny_pure (a := some d) (wpAny_bind (wpAny_pure (wpAny_bind ?_)))
  unfold nsSet
  refine wpAny_bind (wpAny_bind (wpAny_askSetting (wpAny_pure (wpAny_bind (wpAny_mkText (wpAny_bind (wpAny_loadPart D ?_)))))))
  dsimp only
  have c : (!(es.toArray).any (·.key.isStr name) && (es.toArray).any (·.refKey)) = false := by
    rw [← Array.any_toList, ← Array.any_toList]
    show (!es.any _ && es.any _) = false
    unfold getL at hl
    split at hl
    · rename_i en hen
      rw [List.any_eq_true.mpr ⟨en, List.mem_of_find?_eq_some hen, List.find?_some hen⟩]; rfl
    · split at hl
      · cases hl
      · rename_i z; rw [Bool.not_eq_true] at z; rw [z, Bool.and_false]
  rw [aRefKeyMayBeTheName_at, c]
  refine wpAny_updatePart D ?_
  refine wpAny_bind (wpAny_lookBehind (V2 _ (.head _)).1 (pastItsLine_dict (by rw [List.size_toArray, sizeLine_eq]; lia)) ?_)
  exact wpAny_pure (h _ V1 V2)
  ) : type_of% ?mG); have _ : True := trivial; type_of% ?mG))
end
end
section
open PySem PySem.W PySem.Calls
set_option maxRecDepth 100000
set_option Elab.async false
set_option compiler.extract_closed false
set_option compiler.reuse false
set_option linter.unusedVariables false
set_option maxHeartbeats 2000000
theorem dict_mapFields (f : Array Value → Array Value) (o : Obj) : (Obj.mapFields f o).dict = o.dict := by
  obtain ⟨c, d, dt, sl⟩ := o
  cases dt <;> rfl
/-- the newest traceback entry of an exception: none, or one that holds the frame fl -/
noncomputable def HeadAt (base h : Heap) (e : Addr) (fl hd : Value) : Prop :=
  ∃ T oT ts, hd = .ref T ∧ base.get? T = none ∧ T ≠ e ∧ h.get? T = some oT ∧ oT.data = .fields ts ∧ ts[3]? = some fl
/-- an exception of ours in flight: its class, its dict and its newest entry -/
noncomputable def OursAt (h : Heap) (e : Addr) (od : Option Addr) (hd : Value) : Prop :=
  ∃ oe vs, h.get? e = some oe ∧ oe.cls = .ref 52 ∧ oe.dict = od ∧ oe.data = .fields vs ∧ vs[1]? = some hd
noncomputable def Fly (base : Heap) (l : List Env) (e : Addr) (od : Option Addr) (fl : Value) (h : Heap) : Prop :=
  base.StaysIn h ∧ base.get? e = none ∧ h.FunFrames base l ∧ ∃ hd, OursAt h e od hd ∧ HeadAt base h e fl hd
section
variable {M : Model} {A : Around} {E : Value → Shared → Prop} {s : Shared}
theorem entry_on {base : Heap} {env : Env} {outer : List Env} {L e : Addr} {od : Option Addr} {head : Value} {hadNext : Bool} {Q : Unit → Shared → Prop}
    (hfr : A.frames = some (env :: outer)) (hl : s.heap.FunFrames base (env :: outer)) (hf : env.frame = some L) (hkb : base.StaysIn s.heap) (hen : base.get? e = none) (hx : OursAt s.heap e od head)
    (h : ∀ h', Fly base (env :: outer) e od (rawInt L) h' → s.heap.UpToSlots h' → Q () { s with heap := h' }) :
    wpAny M A (do let a ← frameOf env; let pl ← entryPlaceOf L hadNext; let b ← EntryCells.newEntry head a .none (rawInt L) .none pl; setField (.ref e) 1 b) Q E s := by
  refine ?mG; exact ((by exact ?mB) : (let_mvar% ?mB := (by (
  obtain ⟨oe, vs, he, hc, hod, hd, h1⟩ := hx
  have hsz : 1 < vs.size := (Array.getElem?_eq_some_iff.mp h1).1
  have notE : ∀ b o, s.heap.get? b = some o → (∀ ws, o.data ≠ .fields ws) → b ≠ e := fun b o hb hn q => by
    rw [q, he] at hb
    cases hb
    exact hn vs hd
  have eOut : e ∉ (env :: outer).filterMap (·.frame) := fun hm => by
    obtain ⟨_, o, ho, hnf⟩ := hl.mem hm
    exact notE e o ho hnf rfl
  refine wpAny_bind (wpAny_frameOf_fun hfr hl hf fun h₁ S₁ => wpAny_bind (wpAny_entryPlaceOf fun pl hpl => ?_))
  unfold EntryCells.newEntry newFields
  refine wpAny_bind (wpAny_newObj_type ?_ (hpl.sizeOk5 _ _ _ _ _))
  generalize hT : ({ cls := .type "traceback", dict := none, data := .fields ([head, .ref L, .none, rawInt L, .none] ++ (if pl.isEmpty then List.replicate 6 Value.none else pl)).toArray } : Obj) = tb
  have he₁ : h₁.get? e = some oe := (S₁.2.1 e eOut).trans he
  have he₂ : (h₁.push tb).get? e = some oe := Heap.get?_push_of_some _ he₁
  refine wpAny_setField he₂ hd hsz (h _ ?_ ?_)
  all_goals
    have ne : h₁.objs.size ≠ e := Nat.ne_of_gt (Heap.lt_size he₁)
    have same : ∀ b o, b ≠ e → h₁.get? b = some o → ((h₁.push tb).update e (Obj.mapFields (·.setIfInBounds 1 (.ref h₁.objs.size)))).get? b = some o := fun b o hb hq => by
      rw [Heap.get?_update_other _ _ (Ne.symm hb)]
      exact Heap.get?_push_of_some _ hq
  · have kb₁ : base.StaysIn h₁ := fun b o hb => (S₁.2.1 b fun hm => by rw [(hl.mem hm).1] at hb; cases hb).trans (hkb b o hb)
    have hd₃ := Obj.data_mapFields hd (·.setIfInBounds 1 (Value.ref h₁.objs.size))
    refine ⟨fun b o hb => same b o (fun q => by rw [q, hen] at hb; cases hb) (kb₁ b o hb), hen, hl.of_keeps fun b o hb hnf => ?_, .ref h₁.objs.size, ⟨_, _, Heap.get?_update_self _ he₂ (Obj.isFreed_of_fields hd₃), (Obj.cls_mapFields _ _).trans hc, (dict_mapFields _ _).trans hod, hd₃, by simp [hsz]⟩, h₁.objs.size, tb, _, rfl, kb₁.fresh, ne, ?_, by rw [← hT], ?_⟩
    · obtain ⟨sl, hs⟩ := S₁.2.2 b o hb
      exact ⟨_, same b _ (notE b o hb hnf) hs, rfl⟩
    · rw [Heap.get?_update_other _ _ (Ne.symm ne)]
      exact Heap.get?_push_size _ (by rw [← hT]; rfl)
    · simp
  · intro b o hb hnf
    obtain ⟨sl, hs⟩ := S₁.2.2 b o hb
    exact ⟨sl, same b _ (notE b o hb hnf) hs⟩
  ) : type_of% ?mG); have _ : True := trivial; type_of% ?mG))
theorem note_new {base : Heap} {env : Env} {outer : List Env} {L e : Addr} {od : Option Addr} {Q : Unit → Shared → Prop}
    (hfr : A.frames = some (env :: outer)) (hl : s.heap.FunFrames base (env :: outer)) (hf : env.frame = some L) (hkb : base.StaysIn s.heap) (hen : base.get? e = none) (hx : OursAt s.heap e od .none)
    (h : ∀ h', Fly base (env :: outer) e od (rawInt L) h' → s.heap.UpToSlots h' → Q () { s with heap := h' }) : wpAny M A (noteFrame (.ref e) env) Q E s := by
  refine ?mG; exact ((by exact ?mB) : (let_mvar% ?mB := (by (
  have hx' := hx
  obtain ⟨oe, vs, he, hc, hod, hd, h1⟩ := hx'
  unfold noteFrame
  simp only [hf]
  refine wpAny_bind (wpAny_field he hd h1 ?_)
  rw [if_neg (by decide)]
  exact entry_on hfr hl hf hkb hen hx h
  ) : type_of% ?mG); have _ : True := trivial; type_of% ?mG))
theorem note_on {base : Heap} {env : Env} {outer : List Env} {L e : Addr} {od : Option Addr} {Q : Unit → Shared → Prop} (hfr : A.frames = some (env :: outer)) (hf : env.frame = some L) (hy : Fly base (env :: outer) e od .none s.heap)
    (h : ∀ h', Fly base (env :: outer) e od (rawInt L) h' → s.heap.UpToSlots h' → Q () { s with heap := h' }) : wpAny M A (noteFrame (.ref e) env) Q E s := by
  refine ?mG; exact ((by exact ?mB) : (let_mvar% ?mB := (by (
  obtain ⟨hkb, hen, hl, hd₀, ⟨oe, vs, he, hc, hod, hd, h1⟩, T, oT, ts, rfl, hTb, hTe, hT, hdT, h3⟩ := hy
  unfold noteFrame
  simp only [hf]
  refine wpAny_bind (wpAny_field he hd h1 ?_)
  rw [if_pos (show (Value.ref T != Value.none) = true from by simp)]
  refine wpAny_bind (wpAny_field hT hdT h3 ?_)
  rw [if_neg (show ¬ ((Value.none == rawInt L) = true) from by simp [rawInt])]
  refine wpAny_bind (wpAny_setField hT hdT (Array.getElem?_eq_some_iff.mp h3).1 ?_)
  have other : ∀ b, b ≠ T → (s.heap.update T (Obj.mapFields (·.setIfInBounds 3 Value.none))).get? b = s.heap.get? b := fun b hb => Heap.get?_update_other _ _ (Ne.symm hb)
  have notT : ∀ b o, s.heap.get? b = some o → (∀ ws, o.data ≠ .fields ws) → b ≠ T := fun b o hb hn q => by
    rw [q, hT] at hb
    cases hb
    exact hn ts hdT
  have keep : ∀ b o, s.heap.get? b = some o → (∀ ws, o.data ≠ .fields ws) → (s.heap.update T (Obj.mapFields (·.setIfInBounds 3 Value.none))).get? b = some o := fun b o hb hn => (other b (notT b o hb hn)).trans hb
  refine entry_on hfr (hl.of_keeps fun b o hb hn => ⟨o, keep b o hb hn, rfl⟩) hf (fun b o hb => (other b fun q => by rw [q, hTb] at hb; cases hb).trans (hkb b o hb)) hen
    ⟨oe, vs, (other e (Ne.symm hTe)).trans he, hc, hod, hd, h1⟩ fun h' hy hs => h h' hy fun b o hb hn => hs b o (keep b o hb hn) hn
  ) : type_of% ?mG); have _ : True := trivial; type_of% ?mG))
theorem land {base : Heap} {l : List Env} {e : Addr} {od : Option Addr} {fl : Value} {Q : Unit → Shared → Prop} (hy : Fly base l e od fl s.heap)
    (h : ∀ h', Fly base l e od .none h' → s.heap.UpToSlots h' → Q () { s with heap := h' }) : wpAny M A (setFlight (.ref e) none) Q E s := by
  refine ?mG; exact ((by exact ?mB) : (let_mvar% ?mB := (by (
  obtain ⟨hkb, hen, hl, hd₀, ⟨oe, vs, he, hc, hod, hd, h1⟩, T, oT, ts, rfl, hTb, hTe, hT, hdT, h3⟩ := hy
  have hsz : 3 < ts.size := (Array.getElem?_eq_some_iff.mp h3).1
  have other : ∀ b, b ≠ T → (s.heap.update T (Obj.mapFields (·.setIfInBounds 3 ((none : Option Addr).elim Value.none fun f => rawInt f)))).get? b = s.heap.get? b := fun b hb => Heap.get?_update_other _ _ (Ne.symm hb)
  have keep : ∀ b o, s.heap.get? b = some o → (∀ ws, o.data ≠ .fields ws) → (s.heap.update T (Obj.mapFields (·.setIfInBounds 3 ((none : Option Addr).elim Value.none fun f => rawInt f)))).get? b = some o := fun b o hb hn =>
    (other b fun q => by
      rw [q, hT] at hb
      cases hb
      exact hn ts hdT).trans hb
  unfold setFlight
  refine wpAny_bind (wpAny_field he hd h1 ?_)
  rw [if_pos (show (Value.ref T != Value.none) = true from by simp)]
  refine wpAny_setField hT hdT hsz (h _ ⟨fun b o hb => (other b fun q => by rw [q, hTb] at hb; cases hb).trans (hkb b o hb), hen, hl.of_keeps fun b o hb hn => ⟨o, keep b o hb hn, rfl⟩, .ref T,
    ⟨oe, vs, (other e (Ne.symm hTe)).trans he, hc, hod, hd, h1⟩, T, _, _, rfl, hTb, hTe, Heap.get?_update_self _ hT (Obj.isFreed_of_fields (Obj.data_mapFields hdT _)), Obj.data_mapFields hdT _, by simp [hsz]⟩ fun b o hb hn => ⟨o.slots, keep b o hb hn⟩)
  ) : type_of% ?mG); have _ : True := trivial; type_of% ?mG))
theorem Fly.tail {base h : Heap} {env : Env} {outer : List Env} {e : Addr} {od : Option Addr} {fl : Value} (x : Fly base (env :: outer) e od fl h) : Fly base outer e od fl h :=
  ⟨x.1, x.2.1, x.2.2.1.2.2, x.2.2.2⟩
theorem leave_new {base : Heap} {env : Env} {outer : List Env} {L e : Addr} {od : Option Addr} {Q : Unit → Shared → Prop}
    (hfr : A.frames = some (env :: outer)) (hl : s.heap.FunFrames base (env :: outer)) (hf : env.frame = some L) (hkb : base.StaysIn s.heap) (hen : base.get? e = none) (hx : OursAt s.heap e od .none)
    (h : ∀ h', Fly base outer e od .none h' → s.heap.UpToSlots h' → Q () { s with heap := h' }) : wpAny M A (leaving env (.ref e)) Q E s := by
  unfold leaving
  exact wpAny_bind (note_new hfr hl hf hkb hen hx fun h₁ y₁ s₁ => land y₁ fun h₂ y₂ s₂ => h h₂ y₂.tail (s₁.trans s₂))
theorem leave_on {base : Heap} {env : Env} {outer : List Env} {L e : Addr} {od : Option Addr} {Q : Unit → Shared → Prop} (hfr : A.frames = some (env :: outer)) (hf : env.frame = some L) (hy : Fly base (env :: outer) e od .none s.heap)
    (h : ∀ h', Fly base outer e od .none h' → s.heap.UpToSlots h' → Q () { s with heap := h' }) : wpAny M A (leaving env (.ref e)) Q E s := by
  unfold leaving
  exact wpAny_bind (note_on hfr hf hy fun h₁ y₁ s₁ => land y₁ fun h₂ y₂ s₂ => h h₂ y₂.tail (s₁.trans s₂))
end
end
section
open PySem PySem.W PyProof.Rows PySem.Calls
set_option maxRecDepth 100000
set_option Elab.async false
set_option compiler.extract_closed false
set_option compiler.reuse false
set_option linter.unusedVariables false
set_option maxHeartbeats 2000000
/-- an exception of ours comes out of a frame: what stands behind it -/
noncomputable def RaisedX (base G : Heap) (l : List Env) (e d : Addr) (news : Led) (h : Heap) : Prop :=
  ∃ B, base.StaysIn B ∧ (∀ b o, G.get? b = some o → b ∉ l.filterMap (·.frame) → B.get? b = some o) ∧ (∀ q ∈ news, B.get? q.1 = some q.2 ∧ G.get? q.1 = none ∧ base.get? q.1 = none) ∧ Fly B l e (some d) .none h
theorem memX {env : Env} {L b : Addr} {outer : List Env} (hf : env.frame = some L) (hm : b ∈ (env :: outer).filterMap (·.frame)) : b = L ∨ b ∈ outer.filterMap (·.frame) := by
  obtain ⟨env', he, hf'⟩ := List.mem_filterMap.mp hm
  rcases List.mem_cons.mp he with rfl | he
  · rw [hf] at hf'
    exact .inl (Option.some.inj hf').symm
  · exact .inr (List.mem_filterMap.mpr ⟨env', he, hf'⟩)
section
variable {M : Model} {A : Around} {E : Value → Shared → Prop} {s' : Shared} {base g g₂ : Heap} {outer : List Env} {L e d : Addr} {m : Str → Option Value} {env : Env} {Q : Unit → Shared → Prop} {news : Led}
theorem leave_newX {oe : Obj} {vs : Array Value} (K : Below A base outer g) (F : Fr g L s'.heap m) (N : News g L s'.heap ((e, oe) :: news)) (off : ∀ p ∈ news, p.1 ≠ e) (hf : env.frame = some L) (hk : env.scope.kind = .function)
    (hc : oe.cls = .ref 52) (hd : oe.dict = some d) (hv : oe.data = .fields vs) (h1 : vs[1]? = some .none)
    (hQ : ∀ h', RaisedX base g outer e d news h' → g.UpToSlots h' → Q () { s' with heap := h' }) :
    wpAny M (A.deeper env) (leaving env (.ref e)) Q E s' := by
  refine ?mG; exact ((by exact ?mB) : (let_mvar% ?mB := (by (
  have K' := pushX K F hf hk
  have he := N _ (.head _)
  have hin : ∀ env' ∈ (env :: outer), ∀ b, env'.frame = some b → b ∈ (e :: (env :: outer).filterMap (·.frame)) := fun env' he' b hb => .tail _ (List.mem_filterMap.mpr ⟨env', he', hb⟩)
  have eOut : ∀ b o, g.get? b = some o → b ≠ e := fun b o q z => by
    rw [z, he.2.2] at q
    cases q
  have stg : ∀ b o, g.get? b = some o → b ∉ outer.filterMap (·.frame) → (hideAll s'.heap (e :: (env :: outer).filterMap (·.frame))).get? b = some o := fun b o q nm => hideAll_get _ (F.keep b o q) fun hm => by
    rcases List.mem_cons.mp hm with z | hm
    · exact eOut b o q z
    · rcases memX hf hm with z | z
      · rw [z, kts_self F] at q
        cases q
      · exact nm z
  have st : base.StaysIn (hideAll s'.heap (e :: (env :: outer).filterMap (·.frame))) := fun b o q => stg b o (K.stays b o q) fun hm => by
    rw [(K.frames.mem hm).1] at q
    cases q
  have hl : ∀ q ∈ news, (hideAll s'.heap (e :: (env :: outer).filterMap (·.frame))).get? q.1 = some q.2 ∧ g.get? q.1 = none ∧ base.get? q.1 = none := fun q hq => by
    have n := N q (.tail _ hq)
    refine ⟨hideAll_get _ n.1 fun hm => ?_, n.2.2, fresh_of_stays K.stays n.2.2⟩
    rcases List.mem_cons.mp hm with z | hm
    · exact off q hq z
    · rcases memX hf hm with z | z
      · exact n.2.1 z
      · obtain ⟨o, ho, _⟩ := (K.frames.mem z).2
        rw [n.2.2] at ho
        cases ho
  exact leave_new (Around.frames_deeper K.stack) (funFrames_hide K'.frames hin) hf (fun b o q => of_hideAll _ q) (hideAll_none _ (.head _)) ⟨oe, vs, he.1, hc, hd, hv, h1⟩ fun h' y sm =>
    hQ h' ⟨_, st, stg, hl, y⟩ ((Heap.UpToSlots.of_keeps F.keep).trans sm)
  ) : type_of% ?mG); have _ : True := trivial; type_of% ?mG))
theorem leave_onX (K : Below A base outer g) (F : Fr g L g₂ m) (R : RaisedX base g₂ (env :: outer) e d news s'.heap) (hsm : g₂.UpToSlots s'.heap) (hf : env.frame = some L)
    (hQ : ∀ h', RaisedX base g outer e d news h' → g.UpToSlots h' → Q () { s' with heap := h' }) :
    wpAny M (A.deeper env) (leaving env (.ref e)) Q E s' := by
  refine ?mG; exact ((by exact ?mB) : (let_mvar% ?mB := (by (
  obtain ⟨B, hB, hBG, hl, hy⟩ := R
  exact leave_on (Around.frames_deeper K.stack) hf hy fun h' y sm => hQ h' ⟨B, hB, fun b o q nm => hBG b o (F.keep b o q) (fun hm => by
    rcases memX hf hm with z | z
    · rw [z, kts_self F] at q
      cases q
    · exact nm z), fun q hq => ⟨(hl q hq).1, kts_none F.keep (hl q hq).2.1, (hl q hq).2.2⟩, y⟩ ((Heap.UpToSlots.of_keeps F.keep).trans (hsm.trans sm))
  ) : type_of% ?mG); have _ : True := trivial; type_of% ?mG))
end
section
variable {prog : Program} {w : World} {A₀ : Around} {E : Value → Shared → Prop} {s' : Shared} {base g G : Heap} {outer : List Env} {L a e d : Addr} {m : Str → Option Value} {name : Str} {scope : Scope} {cd : Value}
  {n : Str} {b₀ : Stmt} {suite : List Stmt} {pos np : Pos} {rest : List ExceptHandler} {Q : Flow → Shared → Prop} {news : Led} {mean : ExcName → Option Value} {mg mb : Str → Option Value} {x : Str}
theorem caught_X (R : RaisedX base G (envOf name scope L a cd :: outer) e d news s'.heap) (F : Fr g L G m) (K : Below A₀ base outer g) (hsm : G.UpToSlots s'.heap) (XB : (KX w.params).In base) (TB : TopM mean mg mb base)
    (ex : nsIn (KX w.params) mainGlobals x = some (some (.ref 52)))
    (k : ∀ h' g' oe ws tk, KtsTurn (outer.filterMap (·.frame)) g g' → Fr g' L h' (fun y => if y = n then some (.ref e) else m y) → News g' L h' ((e, oe) :: news) → (∀ p ∈ news, p.1 ≠ e) → oe.cls = .ref 52 → oe.dict = some d → oe.data = .fields ws → Below A₀ base outer g' →
      wpAny (model prog w) ((A₀.deeper (envOf name scope L a cd)).mark (some (.ref e))) (execs (b₀ :: suite) (envOf name scope L a cd))
        (fun f s₄ => wpAny (model prog w) (A₀.deeper (envOf name scope L a cd)) (do bindName (envOf name scope L a cd) n .none; unbindBehindTheSuite (envOf name scope L a cd) n pos) (fun _ s₅ => Q f s₅) E s₄)
        (AsSuiteRaised (model prog w) ((A₀.deeper (envOf name scope L a cd)).mark (some (.ref e))) (envOf name scope L a cd) n pos (notedBy (model prog w) ((A₀.deeper (envOf name scope L a cd)).mark (some (.ref e))) (envOf name scope L a cd) (cameBackBy (model prog w) (A₀.deeper (envOf name scope L a cd)) (envOf name scope L a cd) E)))
        { s' with heap := h', toks := tk })
    (hk : scope.kind = .function := by rfl) (hlo : (envOf name scope L a cd).kindOf n = some .local := by rfl) (hx : (envOf name scope L a cd).kindOf x = some .globalImplicit := by rfl) (hd : (x == ("__debug__" : Str)) = false := by decide) :
    wpAny (model prog w) (A₀.deeper (envOf name scope L a cd)) (noteFrame (.ref e) (envOf name scope L a cd))
      (fun _ s₂ => wpAny (model prog w) (A₀.deeper (envOf name scope L a cd)) (setFlight (.ref e) none) (fun _ s₃ =>
        wpAny (model prog w) (A₀.deeper (envOf name scope L a cd)) (handleBy (.ref e) (envOf name scope L a cd) (.ExceptHandler (some (.Name x np)) (some n) (b₀ :: suite) pos :: rest)) Q E s₃) E s₂) E s' := by
  refine ?mG; exact ((by exact ?mB) : (let_mvar% ?mB := (by (
  obtain ⟨B, hB, hBG, hl, hy⟩ := R
  have hL : B.get? L = none := by
    obtain ⟨_, ⟨L', _, hf, hn', _⟩, _⟩ := hy.2.2.1
    obtain rfl : L = L' := Option.some.inj hf
    exact hn'
  refine note_on (Around.frames_deeper K.stack) rfl hy fun h₄ y₄ sm₄ => ?_
  refine land y₄ fun h₅ y₅ sm₅' => ?_
  have sm₅ := sm₄.trans sm₅'
  obtain ⟨g₅, T₅, F₅, K₅⟩ := kts_ground K F hBG y₅.1 (hsm.trans sm₅)
  have X₅ : (KX w.params).In g₅ := XB.keeps K₅.stays
  have P₅ := topRead_of (TB.keeps K₅.stays)
  obtain ⟨hd₀, ⟨ob, ws, hob, hobc, _⟩, _⟩ := y₅.2.2.2
  refine wpAny_handleBy_cons (codeAny_handlers_test (name_K F₅ X₅ P₅ ex ?_ hk hx hd)) (by intro q; cases q)
  have hC : h₅.get? 52 = some (cls52 w.params) := F₅.keep _ _ (X₅ 52 _ (lk52 _))
  refine wpAny_excMatches_sub_self hC hob hobc (by decide +kernel) (codeAny_handlers_suite_as ?_)
  refine land y₅ fun h₆ y₆ sm₆ => ?_
  obtain ⟨g₆, T₆, F₆, K₆⟩ := kts_ground K F hBG y₆.1 ((hsm.trans sm₅).trans sm₆)
  obtain ⟨hd₁, ⟨oe, vs, hoe, hoec, hoed, hoev, _⟩, _⟩ := y₆.2.2.2
  have ne₆ : g₆.get? e = none := T₆.none_ _ (kts_fresh F hBG y₆.2.1 fun o ho mm => by
    obtain ⟨_, o', ho', hd⟩ := K.frames.mem mm
    rw [ho] at ho'
    cases ho'
    obtain ⟨sl, hs⟩ := ((hsm.trans sm₅).trans sm₆) _ _ (F.keep _ _ ho) hd
    rw [hoe] at hs
    cases hs
    exact hd _ hoev)
  have Nl : News g₆ L h₆ news := fun q hq => ⟨y₆.1 _ _ (hl q hq).1, (fun z => by have := (hl q hq).1; rw [z, hL] at this; cases this), T₆.none_ _ (kts_none F.keep (hl q hq).2.1)⟩
  have off : ∀ p ∈ news, p.1 ≠ e := fun p hp z => by
    have := (hl p hp).1
    rw [z, y₆.2.1] at this
    cases this
  have N₆ := News.more F₆ Nl hoe (fun es n q => by rw [hoev] at q; cases q) ne₆
  refine stN F₆ N₆ (fun h₇ F₇ N₇ => ?_) hk hlo
  exact k h₇ g₆ oe vs _ T₆ F₇ N₇ off hoec hoed hoev K₆
  ) : type_of% ?mG); have _ : True := trivial; type_of% ?mG))
end
section
variable {prog : Program} {w : World} {A : Around} {E : Value → Shared → Prop} {s : Shared} {env : Env} {Q : Flow → Shared → Prop}
theorem raiseStmt_X {x : Sem Value} (hh : A.handled = none)
    (h : wpAny (model prog w) A x (fun v s₁ => ∃ e d t, v = .ref e ∧ s₁.heap.get? 52 = some (cls52 w.params) ∧ s₁.heap.get? e = some (excD d t) ∧ E (.ref e) s₁) E s) :
    wpAny (model prog w) A (raiseStmt env (some x) none) Q E s := by
  refine ?mG; exact ((by exact ?mB) : (let_mvar% ?mB := (by (
  have hcB : (Value.ref 52 :: bm52).contains (.type "BaseException") = true := by decide +kernel
  unfold raiseStmt
  refine wpAny_bind (wpAny_mono h (fun v s₁ h₁ => ?_) fun _ _ x => x)
  obtain ⟨e, d, t, rfl, hC, he, hE⟩ := h₁
  obtain ⟨hp, g, dr, tk, os⟩ := s₁
  repeat (first | with_reducible refine wpAny_loadPart_at he ?_ | with_reducible refine wpAny_loadPart_at hC ?_ | (with_reducible refine wpAny_isSubtype_exc hC ?_; rw [hcB]) | wp_step)
  exact wpAny_raiseNew_none hh hE
  ) : type_of% ?mG); have _ : True := trivial; type_of% ?mG))
theorem Raise_X {call : Expr} {pos : Pos} (hh : A.handled = none)
    (h : wpAny (model prog w) A (eval call env) (fun v s₁ => ∃ e d t, v = .ref e ∧ s₁.heap.get? 52 = some (cls52 w.params) ∧ s₁.heap.get? e = some (excD d t) ∧ E (.ref e) s₁) E s) :
    wpAny (model prog w) A (exec (.Raise (some call) none pos) env) Q E s := by
  rw [arm_exec_Raise]
  refine wpAny_bind (wpAny_standAt (raiseStmt_X hh ?_))
  exact wpAny_bind (wpAny_mono h (fun v s₁ z => wpAny_bind (wpAny_standAt (wpAny_pure z))) fun _ _ z => z)
end
end
section
open PySem PySem.W PyProof.Rows PySem.Calls
set_option maxRecDepth 100000
set_option maxHeartbeats 0
set_option Elab.async false
set_option compiler.extract_closed false
set_option compiler.reuse false
set_option linter.unusedVariables false
set_option pp.deepTerms false
section
variable {w : World} {mean : ExcName → Option Value} {mg mb : Str → Option Value} {dp un : Nat} {gd : Option (List Code)} {cn : Str} {cs : Scope} {a : Addr} {ccd : Value} {cl : List (Str × Addr)} {A₀ : Around} {outer : List Env} {base h₀ : Heap} {L : Addr} {m : Str → Option Value} {s : Shared} {Q E : Value → Shared → Prop}

local macro_rules | `(tactic| walk_at "setAttr ref") => holdS
theorem swap3 {a b c : Addr × Obj} {l : Led} : ∀ p ∈ a :: b :: l, p ∈ b :: a :: c :: l := by
  refine ?mG; exact ((by exact ?mB) : (let_mvar% ?mB := (by (
  intro p hp
  rcases List.mem_cons.mp hp with rfl | hp
  · exact .tail _ (.head _)
  · rcases List.mem_cons.mp hp with rfl | hp
    · exact .head _
    · exact .tail _ (.tail _ (.tail _ hp))
  ) : type_of% ?mG); have _ : True := trivial; type_of% ?mG))
theorem lk36 (P) : (KX P).lookup 36 = some ⟨.type "function", none, .func f36, #[]⟩ := by kernel_rfl
noncomputable abbrev excEs (h1 h2 h3 : Int) (k1 k2 k3 : Tok) (kd : Str) (t1 : Tok) (at_ : Int) (t2 : Tok) (v3 : Value) : List DictEntry :=
  [⟨h1, .str (S "kind") k1, .str kd t1⟩, ⟨h2, .str (S "at") k2, .int at_ t2⟩, ⟨h3, .str (S "detail") k3, v3⟩]
theorem design2_t {kd : Str} {t1 t2 : Tok} {at_ : Int} {news : Led}
    (B : Below A₀ base outer h₀) (F : Fr h₀ L s.heap m) (X : (KX w.params).In h₀) (N : News h₀ L s.heap news) (T : TopM mean mg mb h₀)
    (hk : cs.kind = .function) (hd : dp + 12 < recursionLimit) (hu : un + 400 < cLine)
    (ret : ∀ e d t h1 h2 h3 k1 k2 k3 v3 h' tk', Fr h₀ L h' m → News h₀ L h' ((e, excD d t) :: (d, dictOf (excEs h1 h2 h3 k1 k2 k3 kd t1 at_ t2 v3) 3) :: news) → (∀ p ∈ news, @LT.lt Nat _ p.1 e) → @LT.lt Nat _ e d → Q (.ref e) { s with heap := h', toks := tk' }) :
    wpAny (model pwO w) (ktrTop dp un gd cn cs L a ccd cl outer) (call (.ref 52) [.str kd t1, .int at_ t2]) Q E s := by
  refine ?mG; exact ((by exact ?mB) : (let_mvar% ?mB := (by (
  refine exc_call F X N (Nat.le_of_ble_eq_true rfl) fun e t h1 F1 N1 l1 l2 => ?_
  refine wpAny_call ?_
  refine' code_def (binds := [(S "self", Value.ref e), (S "kind", .str kd t1), (S "at", .int at_ t2), (S "detail", .str (S "") 210)]) B F1 X N1 T rfl rfl hk (lk36 _) ?k7 ?k8 ?k9 (locs rfl) ?_ rfl rfl rfl (by decide)
  case k7 => k_is
  case k8 => ktr_room
  case k9 => exact binds_K (by k_in) rfl (by k_is) rfl rfl rfl
  k_whole
  intro g' L' h' FG' F' N' B' X' T'
  (try dsimp only)
  k_fold
  wtm_at "ks"
  have off : ∀ p ∈ ((t, tupR [.str kd t1, .int at_ t2]) :: news : Led), p.1 ≠ e := List.forall_mem_cons.mpr ⟨Nat.ne_of_lt l2, fun p hp => Nat.ne_of_lt (Nat.lt_trans (l1 p hp) l2)⟩
  show wpAny _ _ _ _ _ _
  refine set52_new F' X' N' off (by kernel_rfl) fun d h2 F2 N2 l3 => ?_
  have hde : d ≠ e := Nat.ne_of_gt (l3 _ (.head _))
  have offd : ∀ p ∈ ((t, tupR [.str kd t1, .int at_ t2]) :: news : Led), p.1 ≠ d := fun p hp => Nat.ne_of_lt (l3 p (.tail _ hp))
  (try dsimp only)
  wtm_at "ks"
  show wpAny _ _ _ _ _ _
  refine set52_old (es' := [⟨_, .str (S "kind") _, .str kd t1⟩, ⟨_, .str (S "at") _, .int at_ t2⟩]) (n' := 2) F2 X' N2 hde offd (by kernel_rfl) (by rfl) rfl (Nat.le_of_ble_eq_true rfl) fun h3 F3 N3 => ?_
  (try dsimp only)
  wtm_at "ks"
  show wpAny _ _ _ _ _ _
  refine set52_old (es' := excEs _ _ _ _ _ _ kd t1 at_ t2 (.str (S "") 210)) (n' := 3) F3 X' N3 hde offd (by kernel_rfl) (by rfl) rfl (Nat.le_of_ble_eq_true rfl) fun h4 F4 N4 => ?_
  (try dsimp only)
  wtm_at "ks"
  (with_reducible rename Fr _ _ _ _ => F9)
  (with_reducible rename News _ _ _ _ => N9)
  refine ret e d t _ _ _ _ _ _ _ _ _ F9 (nsub N9 swap3) (fun p hp => Nat.lt_trans (l1 p hp) l2) (l3 _ (.head _))
  ) : type_of% ?mG); have _ : True := trivial; type_of% ?mG))
theorem design3_t {kd : Str} {t1 t2 : Tok} {at_ : Int} {x : Str} {t3 : Tok} {news : Led}
    (B : Below A₀ base outer h₀) (F : Fr h₀ L s.heap m) (X : (KX w.params).In h₀) (N : News h₀ L s.heap news) (T : TopM mean mg mb h₀)
    (hk : cs.kind = .function) (hd : dp + 12 < recursionLimit) (hu : un + 400 < cLine)
    (ret : ∀ e d t h1 h2 h3 k1 k2 k3 v3 h' tk', Fr h₀ L h' m → News h₀ L h' ((e, excD d t) :: (d, dictOf (excEs h1 h2 h3 k1 k2 k3 kd t1 at_ t2 v3) 3) :: news) → (∀ p ∈ news, @LT.lt Nat _ p.1 e) → @LT.lt Nat _ e d → Q (.ref e) { s with heap := h', toks := tk' }) :
    wpAny (model pwO w) (ktrTop dp un gd cn cs L a ccd cl outer) (call (.ref 52) [.str kd t1, .int at_ t2, .str x t3]) Q E s := by
  refine ?mG; exact ((by exact ?mB) : (let_mvar% ?mB := (by (
  refine exc_call F X N (Nat.le_of_ble_eq_true rfl) fun e t h1 F1 N1 l1 l2 => ?_
  refine wpAny_call ?_
  refine' code_def (binds := [(S "self", Value.ref e), (S "kind", .str kd t1), (S "at", .int at_ t2), (S "detail", .str x t3)]) B F1 X N1 T rfl rfl hk (lk36 _) ?k7 ?k8 ?k9 (locs rfl) ?_ rfl rfl rfl (by decide)
  case k7 => k_is
  case k8 => ktr_room
  case k9 => exact binds_K (by k_in) rfl (by k_is) rfl rfl rfl
  k_whole
  intro g' L' h' FG' F' N' B' X' T'
  (try dsimp only)
  k_fold
  wtm_at "ks"
  have off : ∀ p ∈ ((t, tupR [.str kd t1, .int at_ t2, .str x t3]) :: news : Led), p.1 ≠ e := List.forall_mem_cons.mpr ⟨Nat.ne_of_lt l2, fun p hp => Nat.ne_of_lt (Nat.lt_trans (l1 p hp) l2)⟩
  show wpAny _ _ _ _ _ _
  refine set52_new F' X' N' off (by kernel_rfl) fun d h2 F2 N2 l3 => ?_
  have hde : d ≠ e := Nat.ne_of_gt (l3 _ (.head _))
  have offd : ∀ p ∈ ((t, tupR [.str kd t1, .int at_ t2, .str x t3]) :: news : Led), p.1 ≠ d := fun p hp => Nat.ne_of_lt (l3 p (.tail _ hp))
  (try dsimp only)
  wtm_at "ks"
  show wpAny _ _ _ _ _ _
  refine set52_old (es' := [⟨_, .str (S "kind") _, .str kd t1⟩, ⟨_, .str (S "at") _, .int at_ t2⟩]) (n' := 2) F2 X' N2 hde offd (by kernel_rfl) (by rfl) rfl (Nat.le_of_ble_eq_true rfl) fun h3 F3 N3 => ?_
  (try dsimp only)
  wtm_at "ks"
  show wpAny _ _ _ _ _ _
  refine set52_old (es' := excEs _ _ _ _ _ _ kd t1 at_ t2 (.str x t3)) (n' := 3) F3 X' N3 hde offd (by kernel_rfl) (by rfl) rfl (Nat.le_of_ble_eq_true rfl) fun h4 F4 N4 => ?_
  (try dsimp only)
  wtm_at "ks"
  (with_reducible rename Fr _ _ _ _ => F9)
  (with_reducible rename News _ _ _ _ => N9)
  refine ret e d t _ _ _ _ _ _ _ _ _ F9 (nsub N9 swap3) (fun p hp => Nat.lt_trans (l1 p hp) l2) (l3 _ (.head _))
  ) : type_of% ?mG); have _ : True := trivial; type_of% ?mG))
end
end
section
open PySem PySem.W PyProof.Rows PySem.Calls
set_option maxRecDepth 100000
set_option Elab.async false
set_option compiler.extract_closed false
set_option compiler.reuse false
set_option linter.unusedVariables false
set_option maxHeartbeats 2000000
theorem strsAre_of {l : Led} : ∀ {xs : List Str} {vs : List Value}, DatAll l vs (xs.map Dat.str) → StrsAre vs xs := by
  refine ?mG; exact ((by exact ?mB) : (let_mvar% ?mB := (by (
  intro xs
  induction xs with
  | nil => intro vs h; obtain rfl := dA_nil h; exact .nil
  | cons x r ih =>
    intro vs h
    obtain ⟨v, r', rfl, h1, h2⟩ := dA_cons (show DatAll l vs (.str x :: r.map Dat.str) from h)
    obtain ⟨t, rfl⟩ := d_str h1
    exact .cons _ _ (ih h2)
  ) : type_of% ?mG); have _ : True := trivial; type_of% ?mG))
section
variable {prog : Program} {w : World} {A : Around} {E : Value → Shared → Prop} {s : Shared} {env : Env} {h₀ : Heap} {x : Str} {body : List Stmt} {Q : Flow → Shared → Prop} {L : Addr}
theorem iterJ_dict {d : Addr} {o : Obj} {kvs : List (Str × Value)} {m₀ : Str → Option Value} {news : Led} (J : Nat → (Str → Option Value) → Led → Prop)
    (hh : A.handled = none) (hm : (d, o) ∈ news) (hd : o.IsDictOf (PySem.strKind prog w) kvs) (lo : (d == sysModules) = false)
    (F : Fr h₀ env.locals s.heap m₀) (N : News h₀ env.locals s.heap news) (hj : J 0 m₀ news)
    (turn : ∀ I i k v t m₁ news₁ h tk oI, (∀ p ∈ news, @LT.lt Nat _ p.1 I) → i < kvs.length → kvs[i]? = some (k, v) → J i m₁ news₁ → (∀ p ∈ news₁, p.1 ≠ I) → (d, o) ∈ news₁ → Fr h₀ env.locals h (fun y => if y = x then some (.str k t) else m₁ y) → News h₀ env.locals h ((I, oI) :: news₁) →
      wpAny (model prog w) A (execs body env) (TurnJ h₀ env.locals I oI [(d, o)] (J (i + 1)) { s with heap := h, toks := tk } Q) E { s with heap := h, toks := tk })
    (done : ∀ m₁ news₁ h tk, J kvs.length m₁ news₁ → Fr h₀ env.locals h m₁ → News h₀ env.locals h news₁ → Q .next { s with heap := h, toks := tk }) :
    wpAny (model prog w) A (pyIter (.ref d)) (fun it s₂ => LoopAtV prog w A h₀ env x body Q E it s₂) E s := by
  refine ?mG; exact ((by exact ?mB) : (let_mvar% ?mB := (by (
  obtain ⟨ep, ha⟩ := KdkAt.of hd
  have hD := ha.dictAt (N _ hm).1
  have hne : d ≠ s.heap.objs.size := Nat.ne_of_lt (Heap.lt_size (N _ hm).1)
  refine wpAny_pyIter_dict lo hD ?_
  refine iterJ [(d, o)] J (Walks.dictKeys (knd := PySem.strKind prog w) hh s.heap.objs.size d hne kvs ep) rfl (.head _) rfl ?_ ⟨⟨_, Heap.get?_push_size _ rfl, rfl, rfl⟩, hD.push _⟩ (fun _ _ h => let ⟨⟨o, ho, _⟩, _⟩ := h; ⟨o, ho⟩) F N (by intro p hp; rw [List.mem_singleton.mp hp]; exact hm) hj ?_ done
  · intro b hb
    rcases List.mem_cons.mp hb with e | hb
    · exact .inl e
    · exact .inr (.inl ⟨_, by rw [List.mem_singleton.mp hb]; exact .head _⟩)
  · rintro i v m₁ news₁ h tk oI hi ⟨k, y, hk, hv⟩ hJ h1 h2 F₁ N₁
    obtain ⟨t, rfl⟩ := Value.isStrOf_shape hv
    exact turn _ i k y t m₁ news₁ h tk oI (fun p hp => Heap.lt_size (N p hp).1) hi hk hJ h1 (h2 _ (.head _)) F₁ N₁
  ) : type_of% ?mG); have _ : True := trivial; type_of% ?mG))
theorem src_dict {d : Addr} {o : Obj} {kvs : List (Str × Value)} {m : Str → Option Value} {news : Led} {s₁ : Shared} (hh : A.handled = none) (N : News h₀ L s₁.heap news) (hm : (d, o) ∈ news) (hd : o.IsDictOf (PySem.strKind prog w) kvs) (lo : (d == sysModules) = false) (hz : kvs.length ≤ sizeLine) :
    ∃ ep : Nat, Src prog w A E h₀ L (.ref d) s₁ { cls := .type "dict_keyiterator", data := .fields #[.ref d, .int 0 0, .int kvs.length 0, .int ep 0] } [s₁.heap.objs.size, d] kvs.length (fun i v => ∃ k x, kvs[i]? = some (k, x) ∧ (PySem.strKind prog w).is k v = true) (fun i h => h.IsKeyIter s₁.heap.objs.size d i kvs.length ep ∧ h.DictAt (PySem.strKind prog w) d kvs ep)
      (fun nw => (d, o) ∈ nw) := by
  refine ?mG; exact ((by exact ?mB) : (let_mvar% ?mB := (by (
  obtain ⟨ep, ha⟩ := KdkAt.of hd
  have hD := ha.dictAt (N _ hm).1
  have hne : d ≠ s₁.heap.objs.size := Nat.ne_of_lt (Heap.lt_size (N _ hm).1)
  exact ⟨ep, {
    iter := fun Q hq => wpAny_pyIter_dict lo hD hq
    walks := Walks.dictKeys (knd := PySem.strKind prog w) hh s₁.heap.objs.size d hne kvs ep
    size := hz
    there := fun _ _ h => let ⟨⟨o, ho, _⟩, _⟩ := h; ⟨o, ho⟩
    keep := fun i h h' oo nw st e e' _ N' hS => ⟨by obtain ⟨o', q, r⟩ := st.1; rw [e] at q; cases q; exact ⟨oo, e', r⟩, ha.dictAt (N' _ hS).1⟩
    start := ⟨⟨_, Heap.get?_push_size _ rfl, rfl, rfl⟩, hD.push _⟩
    low := fun b hb => by
      rw [Heap.size_push]
      rcases List.mem_cons.mp hb with rfl | hb
      · exact Nat.lt_succ_self _
      · rw [List.mem_singleton.mp hb]; exact Nat.lt_succ_of_lt (Heap.lt_size (N _ hm).1) }⟩
  ) : type_of% ?mG); have _ : True := trivial; type_of% ?mG))
end
end
local macro_rules | `(tactic| walk_at "exec Raise some none") => `(tactic| (k_here; k_dflt (refine Raise_X rfl ?_)))
local macro_rules | `(tactic| walk_at "call ref") => do heldAt (← refsAt [52])
section
open PySem PySem.W PyProof.Rows PySem.Calls
set_option maxRecDepth 100000
set_option maxHeartbeats 0
set_option Elab.async false
set_option compiler.extract_closed false
set_option compiler.reuse false
set_option linter.unusedVariables false
local macro_rules | `(tactic| walk_at "setAttr ref") => holdS
set_option pp.deepTerms false
section
variable {w : World} {mean : ExcName → Option Value} {mg mb : Str → Option Value} {dp un : Nat} {gd : Option (List Code)} {cn : Str} {cs : Scope} {a : Addr} {ccd : Value} {cl : List (Str × Addr)} {A₀ : Around} {outer : List Env} {base h₀ : Heap} {L : Addr} {m : Str → Option Value} {s : Shared} {Q E : Value → Shared → Prop}

theorem raisedX_sub {base G h : Heap} {l : List Env} {e d : Addr} {news news' : Led} (R : RaisedX base G l e d news h) (hs : ∀ p ∈ news', p ∈ news) : RaisedX base G l e d news' h := by
  obtain ⟨B, a, b, c, y⟩ := R
  exact ⟨B, a, b, fun q hq => c q (hs q hq), y⟩
theorem keep1_2 {a b c : Addr × Obj} {l : Led} : ∀ p ∈ a :: l, p ∈ a :: b :: c :: l := by
  intro p hp
  rcases List.mem_cons.mp hp with rfl | hp
  · exact .head _
  · exact .tail _ (.tail _ (.tail _ hp))
theorem lk1150 (P) : (KX P).lookup 1150 = some ⟨.type "function", none, .func f1150, #[]⟩ := by kernel_rfl
/-- what is told of an exception's end: the caller's frame in the ground behind it -/
noncomputable abbrev ExcQ (w : World) (A₀ : Around) (base h₀ : Heap) (L : Addr) (m : Str → Option Value) (env : Env) (outer : List Env) (news : Led) (kd : Str) (at_ : Int) (s : Shared) (E : Value → Shared → Prop) : Prop :=
  ∀ e d h1 h2 h3 k1 k2 k3 t1 t2 v3 g h' tk', Fr h₀ L g m → RaisedX base g (env :: outer) e d ((d, dictOf (excEs h1 h2 h3 k1 k2 k3 kd t1 at_ t2 v3) 3) :: news) h' → g.UpToSlots h' → (∀ p ∈ news, p.1 ≠ d) → E (.ref e) { s with heap := h', toks := tk' }
noncomputable def CkJ (r : Addr) (us : List Value) (n : Nat) (news : Led) (ok : Nat → Prop) (i : Nat) (m : Str → Option Value) (nx : Led) : Prop := nx = (r, listOf us.toArray n) :: news ∧ m (S "names") = some (.ref r) ∧ (∃ t, m (S "at") = some (.int 7 t)) ∧ ok i
theorem check_t {v : Value} {hs bs : List Pm} {d : Addr} {o : Obj} {kvs : List (Str × Value)} {t7 : Tok} {news : Led}
    (B : Below A₀ base outer h₀) (F : Fr h₀ L s.heap m) (X : (KX w.params).In h₀) (N : News h₀ L s.heap news) (T : TopM mean mg mb h₀)
    (hk : cs.kind = .function) (hd : dp + 28 < recursionLimit) (hu : un + 700 < cLine) (hD : DatIn news v (srcD hs bs)) (hl1 : hs.length ≤ 100) (hl2 : bs.length ≤ 100)
    (hm : (d, o) ∈ news) (hO : o.IsDictOf (PySem.strKind pwO w) kvs) (lo : (d == sysModules) = false)
    (ret : (∀ x ∈ kvs.map Prod.fst, x ∈ (hs ++ bs).filterMap Pm.free) → ∀ h' tk', Fr h₀ L h' m → News h₀ L h' news → Q .none { s with heap := h', toks := tk' })
    (exc : (∃ x ∈ kvs.map Prod.fst, x ∉ (hs ++ bs).filterMap Pm.free) → ExcQ w A₀ base h₀ L m (envX cn cs L a ccd cl) outer news (S "unknown_parameter") 7 s E) :
    wpAny (model pwO w) (ktrTop dp un gd cn cs L a ccd cl outer) (call (.ref 1150) [v, .ref d, .int 7 t7]) Q E s := by
  refine ?mG; exact ((by exact ?mB) : (let_mvar% ?mB := (by (
  obtain ⟨a1, vs1, n1, rfl, m1, r1⟩ := d_tup hD
  refine wpAny_call ?_
  refine' code_def (binds := [(S "module", Value.ref a1), (S "given", .ref d), (S "at", .int 7 t7)]) B F X N T rfl rfl hk (lk1150 _) ?k7 ?k8 (BindsTo.of_eq rfl) (locs rfl) ?_ rfl rfl rfl (by decide)
  case k7 => k_is
  case k8 => ktr_room
  k_whole
  intro g' L' h' FG' F' N' B' X' T'
  (try dsimp only)
  k_fold
  wtm_at "ks"
  show wpAny _ _ _ _ _ _
  refine pnames_t B' F' X' N' T' rfl (by ktr_room) (by ktr_units) hD hl1 hl2 fun r us n h5 tk5 F5 N5 l5 hU hl => ?_
  (try dsimp only)
  wtm_at "ks"
  (with_reducible rename Fr _ _ _ _ => F6)
  (with_reducible rename News _ _ _ _ => N6)
  show wpAny _ _ _ _ _ _
  have hUl := hU.length
  rw [List.length_map] at hUl
  have hnr : ∀ p ∈ news, p.1 ≠ r := fun p hp => Nat.ne_of_lt (l5 p hp)
  refine iterJ_dict (d := d) (o := o) (kvs := kvs) (CkJ r us n news (fun i => ∀ x ∈ (kvs.take i).map Prod.fst, x ∈ (hs ++ bs).filterMap Pm.free)) rfl (.tail _ hm) hO lo F6 N6 ⟨rfl, rfl, ⟨t7, rfl⟩, fun x hx => by simp at hx⟩ ?_ ?_
  · rintro I i k y t m₁ _ h tk oI hlt hi hk' ⟨rfl, hm1, ⟨t8, hm2⟩, hok⟩ hne9 hsrc F7 N7
    have F8 := know F7 (k := S "names") (v := .ref r) (by rw [if_neg (by decide)]; exact hm1)
    have F9 := know F8 (k := S "at") (v := .int 7 t8) (by rw [if_neg (by decide), if_neg (by decide)]; exact hm2)
    replace F9 : Fr g' L' h _ := F9
    replace N7 : News g' L' h _ := N7
    clear F7 F8 F6 N6
    k_lt hlt
    have hkm : k ∈ kvs.map Prod.fst := List.mem_map.mpr ⟨(k, y), List.mem_of_getElem? hk', rfl⟩
    by_cases hx : k ∈ (hs ++ bs).filterMap Pm.free
    · have hany : ((hs ++ bs).filterMap Pm.free).any (· == k) = true := List.any_eq_true.mpr ⟨k, hx, beq_self_eq_true k⟩
      wtm_at "ks"
      refine notin_list_strs (isL N7 mm1) (strsAre_of hU) ?_
      (try dsimp only)
      simp only [hany, Bool.not_true]
      wtm_at "ks"
      refine ⟨_, _, _, _, rfl, F9, N7, hne9, (fun p hp => by rw [List.mem_singleton.mp hp]; exact .tail _ hm), rfl, rfl, ⟨_, rfl⟩, fun z hz => ?_⟩
      rw [List.take_add_one, hk', List.map_append] at hz
      rcases List.mem_append.mp hz with hz | hz
      · exact hok z hz
      · simp at hz
        rw [hz]; exact hx
    · have hany : ((hs ++ bs).filterMap Pm.free).any (· == k) = false := by
        rw [Bool.eq_false_iff]
        intro h
        obtain ⟨z, hz, e⟩ := List.any_eq_true.mp h
        exact hx (beq_iff_eq.mp e ▸ hz)
      wtm_at "ks"
      refine notin_list_strs (isL N7 mm1) (strsAre_of hU) ?_
      (try dsimp only)
      simp only [hany, Bool.not_false]
      wtm_at "ks"
      (with_reducible rename Fr _ _ _ _ => FA)
      (with_reducible rename News _ _ _ _ => NA)
      show wpAny _ _ _ _ _ _
      refine design3_t B' FA X' NA T' rfl (by ktr_room) (by ktr_units) fun e d2 t9 h1 h2 h3 k1 k2 k3 v3 h9 tk9 F10 N10 l9 l10 => ?_
      refine ⟨e, d2, t9, rfl, F10.keep _ _ (X' 52 _ (lk52 _)), (N10 _ (.head _)).1, ?_⟩
      refine leave_newX B' F10 N10 (List.forall_mem_cons.mpr ⟨Nat.ne_of_gt l10, fun p hp => Nat.ne_of_lt (l9 p hp)⟩) rfl rfl rfl rfl rfl rfl fun h' R sm => ?_
      refine exc ⟨k, hkm, hx⟩ e d2 h1 h2 h3 k1 k2 k3 _ _ v3 g' h' _ FG' (raisedX_sub R keep1_2) sm fun p hp => Nat.ne_of_lt (Nat.lt_trans (l9 p (.tail _ (.tail _ hp))) l10)
  · rintro m₁ _ h tk ⟨rfl, hm1, ⟨t8, hm2⟩, hok⟩ F7 N7
    (try dsimp only)
    wtm_at "ks"
    (with_reducible rename Fr _ _ _ _ => F8)
    (with_reducible rename News _ _ _ _ => N8)
    exact ret (fun x hx => hok x (by rw [List.take_length]; exact hx)) _ _ F8 (nsub N8 fun p hp => .tail _ hp)
  ) : type_of% ?mG); have _ : True := trivial; type_of% ?mG))
end
end
section
open PySem PySem.W PyProof.Rows PySem.Calls
set_option maxRecDepth 100000
set_option Elab.async false
set_option compiler.extract_closed false
set_option compiler.reuse false
set_option linter.unusedVariables false
@[reducible] noncomputable def restOf {l : List Stmt} {a : Stmt} {r : List Stmt} (_ : l = a :: r) : List Stmt := r
@[reducible] noncomputable def law1 : List Stmt := restOf (show lawBd = _ from rfl)
@[reducible] noncomputable def law2 : List Stmt := restOf (show law1 = _ from rfl)
@[reducible] noncomputable def law3 : List Stmt := restOf (show law2 = _ from rfl)
@[reducible] noncomputable def law4 : List Stmt := restOf (show law3 = _ from rfl)
@[reducible] noncomputable def law5 : List Stmt := restOf (show law4 = _ from rfl)
@[reducible] noncomputable def law6 : List Stmt := restOf (show law5 = _ from rfl)
@[reducible] noncomputable def law7 : List Stmt := restOf (show law6 = _ from rfl)
@[reducible] noncomputable def law8 : List Stmt := restOf (show law7 = _ from rfl)
@[reducible] noncomputable def law9 : List Stmt := restOf (show law8 = _ from rfl)
@[reducible] noncomputable def law10 : List Stmt := restOf (show law9 = _ from rfl)
@[reducible] noncomputable def law11 : List Stmt := restOf (show law10 = _ from rfl)
@[reducible] noncomputable def law12 : List Stmt := restOf (show law11 = _ from rfl)
@[reducible] noncomputable def law13 : List Stmt := restOf (show law12 = _ from rfl)
@[reducible] noncomputable def law14 : List Stmt := restOf (show law13 = _ from rfl)
@[reducible] noncomputable def law15 : List Stmt := restOf (show law14 = _ from rfl)
@[reducible] noncomputable def law16 : List Stmt := restOf (show law15 = _ from rfl)
@[reducible] noncomputable def law17 : List Stmt := restOf (show law16 = _ from rfl)
@[reducible] noncomputable def law18 : List Stmt := restOf (show law17 = _ from rfl)
@[reducible] noncomputable def law19 : List Stmt := restOf (show law18 = _ from rfl)
@[reducible] noncomputable def law20 : List Stmt := restOf (show law19 = _ from rfl)
@[reducible] noncomputable def law21 : List Stmt := restOf (show law20 = _ from rfl)
@[reducible] noncomputable def law22 : List Stmt := restOf (show law21 = _ from rfl)
@[reducible] noncomputable def law23 : List Stmt := restOf (show law22 = _ from rfl)
@[reducible] noncomputable def law24 : List Stmt := restOf (show law23 = _ from rfl)
@[reducible] noncomputable def law25 : List Stmt := restOf (show law24 = _ from rfl)
@[reducible] noncomputable def law26 : List Stmt := restOf (show law25 = _ from rfl)
@[reducible] noncomputable def law27 : List Stmt := restOf (show law26 = _ from rfl)
@[reducible] noncomputable def law28 : List Stmt := restOf (show law27 = _ from rfl)
@[reducible] noncomputable def law29 : List Stmt := restOf (show law28 = _ from rfl)
@[reducible] noncomputable def law30 : List Stmt := restOf (show law29 = _ from rfl)
set_option pp.deepTerms false
set_option pp.maxSteps 600
noncomputable abbrev lawE (L : Addr) : Env := envX (S "law") lawSc L 1351 (.ref 1350) (lawCl L)
noncomputable abbrev lawA (dp un : Nat) (gd : Option (List Code)) (L : Addr) : Around := ktrTop dp un gd (S "law") lawSc L 1351 (.ref 1350) (lawCl L) []
end
section
open PySem PySem.W PyProof.Rows PySem.Calls
set_option maxRecDepth 100000
set_option maxHeartbeats 0
set_option Elab.async false
set_option compiler.extract_closed false
set_option compiler.reuse false
set_option linter.unusedVariables false
set_option pp.deepTerms false
section
variable {w : World} {mean : ExcName → Option Value} {mg mb : Str → Option Value} {dp un : Nat} {gd : Option (List Code)} {A₀ : Around} {base h₀ : Heap} {L : Addr} {m : Str → Option Value} {s : Shared} {Q : Flow → Shared → Prop} {E : Value → Shared → Prop}

noncomputable abbrev desEs (w : World) (k1 k2 k3 k4 k5 k6 k7 k8 k9 k10 k11 : Tok) (l1 l2 l3 l4 l5 l6 l7 l8 l9 dd : Addr) : List DictEntry := [⟨PyData.keyHash w.params (Str.ofString "signals"), .str (Str.ofString "signals") k1, (.ref l1)⟩, ⟨PyData.keyHash w.params (Str.ofString "assigns"), .str (Str.ofString "assigns") k2, (.ref l2)⟩, ⟨PyData.keyHash w.params (Str.ofString "gates"), .str (Str.ofString "gates") k3, (.ref l3)⟩, ⟨PyData.keyHash w.params (Str.ofString "udps"), .str (Str.ofString "udps") k4, (.ref l4)⟩, ⟨PyData.keyHash w.params (Str.ofString "processes"), .str (Str.ofString "processes") k5, (.ref l5)⟩, ⟨PyData.keyHash w.params (Str.ofString "routines"), .str (Str.ofString "routines") k6, (.ref l6)⟩, ⟨PyData.keyHash w.params (Str.ofString "scopes"), .str (Str.ofString "scopes") k7, (.ref l7)⟩, ⟨PyData.keyHash w.params (Str.ofString "tops"), .str (Str.ofString "tops") k8, (.ref l8)⟩, ⟨PyData.keyHash w.params (Str.ofString "ports"), .str (Str.ofString "ports") k9, (.ref l9)⟩, ⟨PyData.keyHash w.params (Str.ofString "maker"), .str (Str.ofString "maker") k10, .none⟩, ⟨PyData.keyHash w.params (Str.ofString "by_path"), .str (Str.ofString "by_path") k11, (.ref dd)⟩]
noncomputable abbrev scEs (w : World) (k1 k2 k3 k4 k5 k6 k7 k8 k9 t1 t2 t3 t4 : Tok) (x en : Addr) : List DictEntry := [⟨PyData.keyHash w.params (Str.ofString "design"), .str (Str.ofString "design") k1, .ref x⟩, ⟨PyData.keyHash w.params (Str.ofString "name"), .str (Str.ofString "name") k2, .str (Str.ofString "top") t1⟩, ⟨PyData.keyHash w.params (Str.ofString "parent"), .str (Str.ofString "parent") k3, .none⟩, ⟨PyData.keyHash w.params (Str.ofString "kind"), .str (Str.ofString "kind") k4, .str (Str.ofString "module") t2⟩, ⟨PyData.keyHash w.params (Str.ofString "path"), .str (Str.ofString "path") k5, .str (Str.ofString "top") t1⟩, ⟨PyData.keyHash w.params (Str.ofString "nettype"), .str (Str.ofString "nettype") k6, .str (Str.ofString "wire") t3⟩, ⟨PyData.keyHash w.params (Str.ofString "module_name"), .str (Str.ofString "module_name") k7, .none⟩, ⟨PyData.keyHash w.params (Str.ofString "entries"), .str (Str.ofString "entries") k8, .ref en⟩, ⟨PyData.keyHash w.params (Str.ofString "number"), .str (Str.ofString "number") k9, .int 0 t4⟩]
local macro_rules | `(tactic| walk_at "mine no such key") => `(tactic| skip)
local macro_rules | `(tactic| walk_at "mine no such key") => `(tactic| skip)
theorem subDes {x dx b1 b2 b3 b4 b5 b6 b7 b8 b9 bd : Addr × Obj} {l : Led} : ∀ p ∈ x :: dx :: b7 :: l, p ∈ bd :: b9 :: b8 :: b7 :: b6 :: b5 :: b4 :: b3 :: b2 :: b1 :: x :: dx :: l := by
  intro p hp
  simp only [List.mem_cons] at hp ⊢
  rcases hp with h | h | h | h <;> simp [h]
theorem design_t {news : Led} {Q : Value → Shared → Prop}
    (B : Below A₀ base [] h₀) (F : Fr h₀ L s.heap m) (X : (KX w.params).In h₀) (N : News h₀ L s.heap news) (T : TopM mean mg mb h₀)
    (hd : dp + 60 < recursionLimit) (hu : un + 1200 < cLine)
    (ret : ∀ x dx k1 k2 k3 k4 k5 k6 k7 k8 k9 k10 k11 l1 l2 l3 l4 l5 l6 l7 l8 l9 dd h' tk', Fr h₀ L h' m → News h₀ L h' ((x, instObj 1209 dx) :: (dx, dictOf (desEs w k1 k2 k3 k4 k5 k6 k7 k8 k9 k10 k11 l1 l2 l3 l4 l5 l6 l7 l8 l9 dd) 11) :: (l7, W.listOf #[] 0) :: news) → (∀ p ∈ news, @LT.lt Nat _ p.1 dx) → @LT.lt Nat _ dx x → @LT.lt Nat _ x l7 → Q (.ref x) { s with heap := h', toks := tk' }) :
    wpAny (model pwO w) (lawA dp un gd L) (call (.ref 1209) []) Q E s := by
  refine ?mG; exact ((by exact ?mB) : (let_mvar% ?mB := (by (
  dsimp only [lawE, lawA]
  wtm_at "ks"
  (with_reducible rename Fr _ _ _ _ => F9)
  (with_reducible rename News _ _ _ _ => N9)
  (with_reducible rename _ ∧ _ ∧ _ ∧ _ ∧ _ ∧ _ ∧ _ ∧ _ ∧ AllLt _ _ => q7)
  exact ret _ _ _ _ _ _ _ _ _ _ _ _ _ _ _ _ _ _ _ _ _ _ _ _ _ F9 (nsub N9 subDes) (by assumption) (by assumption) q7.2.2.2.2.2.2.1
  ) : type_of% ?mG); have _ : True := trivial; type_of% ?mG))
local macro_rules | `(tactic| walk_at "call ref") => do heldAt (← refsAt [1178])
theorem lk1178 (P) : (KX P).lookup 1178 = some ⟨.type "function", none, .func f1178, #[]⟩ := by kernel_rfl
theorem subSc {y dy en x dx b7 : Addr × Obj} {l : Led} : ∀ p ∈ y :: dy :: en :: l, p ∈ en :: y :: dy :: x :: dx :: b7 :: l := by
  intro p hp
  simp only [List.mem_cons] at hp ⊢
  rcases hp with h | h | h | h <;> simp [h]
theorem scope_t {news : Led} {Q : Value → Shared → Prop} {x dx : Addr} {k1 k2 k3 k4 k5 k6 k7 k8 k9 k10 k11 : Tok} {l1 l2 l3 l4 l5 l6 l7 l8 l9 dd : Addr} {t1 t2 : Tok}
    (B : Below A₀ base [] h₀) (F : Fr h₀ L s.heap m) (X : (KX w.params).In h₀) (N : News h₀ L s.heap ((x, instObj 1209 dx) :: (dx, dictOf (desEs w k1 k2 k3 k4 k5 k6 k7 k8 k9 k10 k11 l1 l2 l3 l4 l5 l6 l7 l8 l9 dd) 11) :: (l7, W.listOf #[] 0) :: news)) (T : TopM mean mg mb h₀)
    (hd : dp + 60 < recursionLimit) (hu : un + 1200 < cLine) (lt1 : ∀ p ∈ news, @LT.lt Nat _ p.1 dx) (lt2 : @LT.lt Nat _ dx x) (lt3 : @LT.lt Nat _ x l7)
    (ret : ∀ y dy en o k1 k2 k3 k4 k5 k6 k7 k8 k9 t3 t4 h' tk', Fr h₀ L h' m → News h₀ L h' ((y, instObj 1286 dy) :: (dy, dictOf (scEs w k1 k2 k3 k4 k5 k6 k7 k8 k9 t1 t2 t3 t4 x en) 9) :: (en, o) :: news) → o.IsDictOf (PySem.strKind pwO w) [] → (en == sysModules) = false → (∀ p ∈ news, @LT.lt Nat _ p.1 dy) → @LT.lt Nat _ dy y → @LT.lt Nat _ y en → Q (.ref y) { s with heap := h', toks := tk' }) :
    wpAny (model pwO w) (lawA dp un gd L) (call (.ref 1286) [.ref x, .str (Str.ofString "top") t1, .none, .str (Str.ofString "module") t2]) Q E s := by
  refine ?mG; exact ((by exact ?mB) : (let_mvar% ?mB := (by (
  dsimp only [lawE, lawA]
  have n1 : ∀ p ∈ news, p.1 ≠ l7 := fun p hp => Nat.ne_of_lt (Nat.lt_trans (lt1 p hp) (Nat.lt_trans lt2 lt3))
  have n2 : x ≠ l7 := Nat.ne_of_lt lt3
  have n3 : dx ≠ l7 := Nat.ne_of_lt (Nat.lt_trans lt2 lt3)
  wtm_at "ks"
  (with_reducible rename Fr _ _ _ _ => F9)
  (with_reducible rename News _ _ _ _ => N9)
  (with_reducible rename Below _ _ _ _ => B9)
  (with_reducible rename Top _ _ _ _ _ _ => T9)
  (with_reducible rename Frag.In _ _ => X9)
  show wpAny _ _ _ _ _ _
  refine wpAny_call ?_
  refine' code_def (binds := [(S "self", Value.ref x), (S "path", .str (Str.ofString "top") t1)]) B9 F9 X9 N9 T9 rfl rfl rfl (lk1178 _) ?k7 ?k8 (BindsTo.of_eq rfl) (locs rfl) ?_ rfl rfl rfl (by decide)
  case k7 => k_is
  case k8 => ktr_room
  k_whole
  intro g' L' h' FG' F' N' B' X' T'
  (try dsimp only)
  k_fold
  wtm_at "ks"
  (with_reducible rename Fr _ _ _ _ => FA)
  (with_reducible rename News _ _ _ _ => NA)
  (with_reducible rename _ ∧ _ ∧ _ ∧ AllLt _ _ => q1)
  (with_reducible rename _ ∧ _ ∧ _ ∧ _ ∧ _ ∧ AllLt _ _ => q2)
  (with_reducible rename Obj.IsDictOf (PySem.strKind _ _) _ _ => hO)
  exact ret _ _ _ _ _ _ _ _ _ _ _ _ _ _ _ _ _ FA (nsub NA subSc) hO (by assumption) (of_allLt q1.2.2.2) (by assumption) q2.1
  ) : type_of% ?mG); have _ : True := trivial; type_of% ?mG))
end
end
section
open PySem PySem.W PyProof.Rows PySem.Calls
set_option maxRecDepth 100000
set_option maxHeartbeats 0
set_option Elab.async false
set_option compiler.extract_closed false
set_option compiler.reuse false
set_option linter.unusedVariables false
local macro_rules | `(tactic| walk_at "mine no such key") => `(tactic| skip)
local macro_rules | `(tactic| walk_at "mine no such key") => `(tactic| skip)
local macro_rules | `(tactic| walk_at "call ref") => do heldAt (← refsAt [1209, 1286, 1178, 1241, 1307])
set_option pp.deepTerms false
section
variable {w : World} {mean : ExcName → Option Value} {mg mb : Str → Option Value} {dp un : Nat} {gd : Option (List Code)} {A₀ : Around} {base h₀ : Heap} {L : Addr} {m : Str → Option Value} {s : Shared} {Q : Flow → Shared → Prop} {E : Value → Shared → Prop}

local macro_rules | `(tactic| walk_at "execs cons") => do heldAt [← `((execs (Stmt.Assign [Expr.Name (Str.ofString "overrides") _] _ _ :: _) _))]
theorem lk1241 (P) : (KX P).lookup 1241 = some ⟨.type "function", none, .func f1241, #[]⟩ := by kernel_rfl
/-- the outer scope: one entry, the parameter n -/
inductive ScopeIn (w : World) (l : Led) (sc : Addr) : Prop
  | mk sx en o tp tv x n1 n2 k1 k2 k3 k4 k5 k6 k7 k8 k9 t1 t2 t3 t4 t5 t6 t7 t8
    (h0 : (sc, instObj 1286 sx) ∈ l)
    (h1 : (sx, dictOf (scEs w k1 k2 k3 k4 k5 k6 k7 k8 k9 t1 t2 t3 t4 x en) 9) ∈ l)
    (h2 : (en, o) ∈ l)
    (h3 : o.IsDictOf (PySem.strKind pwO w) [(S "n", .ref tp)])
    (h4 : (en == sysModules) = false)
    (h5 : (tp, tupN [.str (S "param") t5, .ref tv, .bool true] n1) ∈ l)
    (h6 : (tv, tupN [.int 3 t6, .int 5 t7, .int 0 t8] n2) ∈ l)
theorem seg20sub {c a1 a2 a3 a4 a5 : Addr × Obj} {l : Led} : ∀ p ∈ c :: ([a1, a2, a3, a4, a5] ++ l), p ∈ a1 :: a2 :: a3 :: a4 :: a5 :: c :: l := by
  intro p hp
  simp only [List.mem_cons, List.cons_append, List.nil_append] at hp ⊢
  rcases hp with h | h | h | h | h | h | h <;> simp [h]
theorem seg20 {news : Led} {oc : Obj} {ov : Option Value}
    (B : Below A₀ base [] h₀) (F : Fr h₀ L s.heap m) (X : (KX w.params).In h₀) (N : News h₀ L s.heap ((L + 7, oc) :: news)) (T : TopM mean mg mb h₀) (hoc : oc.data = .cell ov) (hne : ∀ p ∈ news, p.1 ≠ L + 7)
    (hd : dp + 60 < recursionLimit) (hu : un + 1200 < cLine)
    (next : ∀ sc oc' ent h' tk', Fr h₀ L h' m → News h₀ L h' ((L + 7, oc') :: (ent ++ news)) → oc'.data = .cell (some (.ref sc)) → ScopeIn w ent sc → (∀ p ∈ ent, @LT.lt Nat _ (L + 7) p.1 ∧ ∀ q ∈ news, @LT.lt Nat _ q.1 p.1) →
      wpAny (model pwO w) (lawA dp un gd L) (execs law22 (lawE L)) Q E { s with heap := h', toks := tk' }) :
    wpAny (model pwO w) (lawA dp un gd L) (execs law20 (lawE L)) Q E s := by
  refine ?mG; exact ((by exact ?mB) : (let_mvar% ?mB := (by (
  dsimp only [law20, restOf, lawE, lawA]
  wtm_at "ks"
  show wpAny _ _ _ _ _ _
  refine design_t B F X N T hd hu fun x dx a1 a2 a3 a4 a5 a6 a7 a8 a9 a10 a11 b1 b2 b3 b4 b5 b6 b7 b8 b9 dd h1 tk1 F1 N1 l1 l2 l3 => ?_
  (try dsimp only)
  wtm_at "ks"
  show wpAny _ _ _ _ _ _
  refine scope_t B F1 X N1 T hd hu l1 l2 l3 fun y dy en o k1 k2 k3 k4 k5 k6 k7 k8 k9 t3 t4 h2 tk2 F2 N2 hO lo l4 l5 l6 => ?_
  (try dsimp only)
  have c7 : @LT.lt Nat _ (L + 1 + 1 + 1 + 1 + 1 + 1 + 1) dy := l4 _ (.head _)
  have n7 : @Ne Addr (L + 1 + 1 + 1 + 1 + 1 + 1 + 1) en := Nat.ne_of_lt (Nat.lt_trans c7 (Nat.lt_trans l5 l6))
  have d7 : ∀ p ∈ news, @LT.lt Nat _ p.1 dy := fun p hp => l4 p (.tail _ hp)
  have nn7 : ∀ p ∈ news, p.1 ≠ en := fun p hp => Nat.ne_of_lt (Nat.lt_trans (d7 p hp) (Nat.lt_trans l5 l6))
  k_lt l4
  wtm_at "ks"
  (with_reducible rename _ ∧ _ ∧ _ ∧ _ ∧ AllLt _ _ => z1)
  (with_reducible rename _ ∧ _ ∧ _ ∧ _ ∧ _ ∧ AllLt _ _ => z2)
  (with_reducible rename Fr _ _ _ _ => F3)
  (with_reducible rename News _ _ _ _ => N3)
  show wpAny _ _ _ _ _ _
  refine wpAny_call ?_
  refine' code_def (binds := [(S "self", Value.ref y), (S "name", .str (Str.ofString "n") _), (S "entry", .ref _), (S "at", .int (-1) _)]) B F3 X N3 T rfl rfl rfl (lk1241 _) ?k7 ?k8 (BindsTo.of_eq rfl) (locs rfl) ?_ rfl rfl rfl (by decide)
  case k7 => k_is
  case k8 => ktr_room
  k_whole
  intro g' L' h' FG' F' N' B' X' T'
  (try dsimp only)
  k_fold
  wtm_at "ks"
  (with_reducible rename Fr _ _ _ _ => FB)
  (with_reducible rename News _ _ _ _ => NB)
  (with_reducible rename Obj.IsDictOf (PySem.strKind _ _) _ [_] => hOA)
  refine next y _ [(_, _), (_, _), (y, _), (dy, _), (en, _)] _ _ FB (nsub NB seg20sub) (by assumption) ⟨dy, en, _, _, _, x, 0, 0, k1, k2, k3, k4, k5, k6, k7, k8, k9, _, _, t3, t4, _, _, _, _, .tail _ mm1, .tail _ mm2, .tail _ mm3, hOA, lo, .head _, .tail _ (.head _)⟩ ?_
  have b1 : ∀ {z : Nat}, @LT.lt Nat _ dy z → @LT.lt Nat _ (L + 7) z ∧ ∀ q ∈ news, @LT.lt Nat _ q.1 z := fun h => ⟨Nat.lt_trans c7 h, fun q hq => Nat.lt_trans (d7 q hq) h⟩
  exact List.forall_mem_cons.mpr ⟨b1 z2.2.2.1, List.forall_mem_cons.mpr ⟨b1 z1.2.1, List.forall_mem_cons.mpr ⟨b1 l5, List.forall_mem_cons.mpr ⟨⟨c7, d7⟩, List.forall_mem_cons.mpr ⟨b1 (Nat.lt_trans l5 l6), fun _ h => nomatch h⟩⟩⟩⟩⟩
  ) : type_of% ?mG); have _ : True := trivial; type_of% ?mG))
end
end
section
open PySem PySem.W PyProof.Rows PySem.Calls
set_option maxRecDepth 100000
set_option maxHeartbeats 0
set_option Elab.async false
set_option compiler.extract_closed false
set_option compiler.reuse false
set_option linter.unusedVariables false
set_option pp.deepTerms false
section
variable {w : World} {mean : ExcName → Option Value} {mg mb : Str → Option Value} {dp un : Nat} {gd : Option (List Code)} {A₀ : Around} {base h₀ : Heap} {L : Addr} {m : Str → Option Value} {s : Shared} {Q : Flow → Shared → Prop} {E : Value → Shared → Prop}

theorem prim_t {news : Led} {Q : Value → Shared → Prop} {t1 t2 t3 t6 : Tok} {v4 v7 : Addr}
    (B : Below A₀ base [] h₀) (F : Fr h₀ L s.heap m) (X : (KX w.params).In h₀) (N : News h₀ L s.heap news) (T : TopM mean mg mb h₀)
    (hd : dp + 60 < recursionLimit) (hu : un + 1200 < cLine)
    (ret : ∀ x dx k1 k2 k3 k4 k5 k6 k7 h' tk', Fr h₀ L h' m → News h₀ L h' ((x, instObj 1307 dx) :: (dx, dictOf (primEs (PyData.keyHash w.params (Str.ofString "name")) (PyData.keyHash w.params (Str.ofString "at")) (PyData.keyHash w.params (Str.ofString "output")) (PyData.keyHash w.params (Str.ofString "inputs")) (PyData.keyHash w.params (Str.ofString "sequential")) (PyData.keyHash w.params (Str.ofString "init")) (PyData.keyHash w.params (Str.ofString "rows")) k1 k2 k3 k4 k5 k6 k7 t1 t2 t3 t6 (.ref v4) (.ref v7)) 7) :: news) → (∀ p ∈ news, @LT.lt Nat _ p.1 dx) → @LT.lt Nat _ dx x → Q (.ref x) { s with heap := h', toks := tk' }) :
    wpAny (model pwO w) (lawA dp un gd L) (call (.ref 1307) [.str (Str.ofString "u") t1, .int 0 t2, .str (Str.ofString "y") t3, .ref v4, .bool false, .int 3 t6, .ref v7]) Q E s := by
  dsimp only [lawE, lawA]
  wtm_at "ks"
  (with_reducible rename Fr _ _ _ _ => F9)
  (with_reducible rename News _ _ _ _ => N9)
  exact ret _ _ _ _ _ _ _ _ _ _ _ F9 N9 (by assumption) (by assumption)
end
end
section
open PySem PySem.W PyProof.Rows PySem.Calls
set_option maxRecDepth 100000
set_option Elab.async false
set_option compiler.extract_closed false
set_option compiler.reuse false
set_option linter.unusedVariables false
set_option maxHeartbeats 2000000
section
variable {prog : Program} {w : World} {A : Around} {E : Value → Shared → Prop} {s : Shared} {h₀ : Heap} {L : Addr} {m : Str → Option Value} {env : Env}
theorem loop_dictT {kx vx iter : Expr} {elts : List Expr} {x1} {tp : Pos} {scope : Scope} {pos : Pos} {it : Value} {D : Addr} {env : Env} {R : Result → Shared → Prop} (I : Nat → Shared → Prop)
    (turn : ∀ n s, I n s → wpAny (model prog w) A (pyNext it) (fun r s₁ => match r with
      | none => R (.ok .next) s₁
      | some v => wpAny (model prog w) A (letOwnedTupleGo (.Tuple elts x1 tp) it v) (fun _ s₁' => wpAny (model prog w) A (assign (.Tuple elts x1 tp) env v) (fun _ s₂ =>
          wpAny (model prog w) A (eval kx env) (fun kv s₄ => wpAny (model prog w) A (eval vx env) (fun vv s₅ =>
              wpAny (model prog w) A (dictSet D kv vv) (fun _ s₆ => ∃ m, m < n ∧ I m s₆) (notedBy (model prog w) A env fun e s' => R (.error e) s') s₅) (notedBy (model prog w) A env fun e s' => R (.error e) s') s₄) (notedBy (model prog w) A env fun e s' => R (.error e) s') s₂)
          (notedBy (model prog w) A env fun e s' => R (.error e) s') s₁') (notedBy (model prog w) A env fun e s' => R (.error e) s') s₁) (notedBy (model prog w) A env fun e s' => R (.error e) s') s)
    (n : Nat) (h : I n s) : codeAny (model prog w) A (.compLoop (.DictComp kx vx [⟨.Tuple elts x1 tp, iter, [], 0⟩] scope pos) 0 it (.ref D) env) R s := by
  refine ?mG; exact ((by exact ?mB) : (let_mvar% ?mB := (by (
  refine codeAny_loop rfl I (fun n s hI => ?_) n h
  show wpAny _ A ((compTurn (.DictComp kx vx [⟨.Tuple elts x1 tp, iter, [], 0⟩] scope pos) 0 it (.ref D) env).onRaise (fun x => do noteFrame x env; theTreesLotGoes x)) _ _ s
  refine wpAny_noted ?_
  rw [compTurn_dict]
  refine wpAny_bind (wpAny_standAt (wpAny_bind (wpAny_mono (turn n s hI) (fun r s₁ h₁ => ?_) fun _ _ h' => h')))
  cases r with
  | none => exact wpAny_pure h₁
  | some v =>
    refine wpAny_bind (wpAny_mono h₁ (fun _ s₁' h₁' => ?_) fun _ _ h' => h')
    refine wpAny_bind (wpAny_mono h₁' (fun _ s₂ h₂ => wpAny_bind (wpAny_mono (wpAny_tests_nil (Q := fun ok s₃ => ok = true ∧ s₃ = s₂) ⟨rfl, rfl⟩) (fun ok s₃ h₃ => ?_) fun _ _ h' => h')) fun _ _ h' => h')
    obtain ⟨rfl, rfl⟩ := h₃
    exact wpAny_bind (wpAny_bind (wpAny_mono h₂ (fun kv s₄ h₄ => wpAny_bind (wpAny_holding (wpAny_mono h₄ (fun vv s₅ h₅ => wpAny_bind (wpAny_standAt (wpAny_holding (wpAny_mono h₅ (fun _ s₆ h₆ => wpAny_pure ⟨rfl, h₆⟩) fun _ _ h' => h')))) fun _ _ h' => h'))) fun _ _ h' => h'))
  ) : type_of% ?mG); have _ : True := trivial; type_of% ?mG))
open LCg in
/-- a dict comprehension with two targets: what is to be shown once its source stands -/
inductive CompZ (prog : Program) (w : World) (A : Around) (h₀ : Heap) (L : Addr) (m : Str → Option Value) (env : Env) (kx vx : Expr) (x y : Str) (scope : Scope) (cl : List (Str × Addr)) (Q : Value → Shared → Prop) (xv : Value) (s₁ : Shared) : Prop
  | mk (I : Addr) (fp wr : List Addr) (n : Nat) (Pt : Nat → Array Value → Prop) (St : Nat → Heap → Prop) (Mid : Nat → Addr → Heap → Prop) (P2 : Nat → Value → Value → Prop) (news : Led) (J : Nat → List (Str × Value) → Prop)
    (h0 : xv = .ref I)
    (h1 : WalksT prog w A I fp wr n Pt St Mid)
    (h2 : (∀ i vals, Pt i vals → ∃ v0 v1, vals = #[v0, v1] ∧ P2 i v0 v1))
    (h3 : n ≤ sizeLine)
    (h4 : A.handled = none)
    (h5 : (∀ b ∈ fp, b < s₁.heap.objs.size))
    (h6 : (∀ b ∈ wr, h₀.get? b = none ∧ b ≠ L))
    (h7 : (∀ p ∈ news, p.1 ∉ wr))
    (h8 : St 0 s₁.heap)
    (h9 : Fr h₀ L s₁.heap m)
    (h10 : News h₀ L s₁.heap news)
    (h11 : J 0 [])
    (h12 : (∀ i kvs, J i kvs → kvs.length ≤ i))
    (h13 : (∀ C oC v0 v1 s₃ m₃ E', NsObj oC m₃ → m₃ x = some v0 → m₃ y = some v1 → Fr h₀ L s₃.heap m → News h₀ L s₃.heap ((C, oC) :: news) → (∀ p ∈ news, p.1 ≠ C) → wpAny (model prog w) A (eval kx (compEnvC scope cl C env)) (fun key s₄ => Hold (key = v0 ∧ Keeps s₃ s₄)) E' s₃))
    (h14 : (∀ C oC v0 v1 s₃ m₃ E', NsObj oC m₃ → m₃ x = some v0 → m₃ y = some v1 → Fr h₀ L s₃.heap m → News h₀ L s₃.heap ((C, oC) :: news) → (∀ p ∈ news, p.1 ≠ C) → wpAny (model prog w) A (eval vx (compEnvC scope cl C env)) (fun val s₄ => Hold (val = v1 ∧ Keeps s₃ s₄)) E' s₃))
    (h15 : (∀ i v0 v1, i < n → P2 i v0 v1 → ∃ k, (PySem.strKind prog w).is k v0 = true ∧ ∀ kvs, J i kvs → J (i + 1) (stored kvs k v1)))
    (h16 : (∀ (kvs : List (Str × Value)) D o h tk, J n kvs → Fr h₀ L h m → News h₀ L h ((D, o) :: news) → o.IsDictOf (PySem.strKind prog w) kvs → (∀ q ∈ news, @LT.lt Nat _ q.1 D) → @LT.lt Nat _ L D → Q (.ref D) { s₁ with heap := h, toks := tk }))
/-- between two turns -/
inductive ZipJ (prog : Program) (w : World) (s₁ : Shared) (D C : Addr) (wr : List Addr) (n : Nat) (St : Nat → Heap → Prop) (J : Nat → List (Str × Value) → Prop) (k : Nat) (s' : Shared) : Prop
  | mk (h' : Heap) (tk i : Nat) (kvs : List (Str × Value)) (m' : Str → Option Value) (e : s' = { s₁ with heap := h', toks := tk }) (hi : i ≤ n) (hk : k = n + 1 - i) (hst : St i h') (hacc : h'.DictOf (PySem.strKind prog w) D kvs) (hn : h'.Ns C m') (hJ : J i kvs)
    (hkeep : ∀ b o, b ≠ C → b ∉ wr → b ≠ D → s₁.heap.get? b = some o → h'.get? b = some o) : ZipJ prog w s₁ D C wr n St J k s'
open LCg in
theorem DictComp_zip {kx vx iter : Expr} {x y : Str} {px py tp : Pos} {x1} {scope : Scope} {cl : List (Str × Addr)} {pos : Pos} {Q : Value → Shared → Prop} (F₀ : Fr h₀ L s.heap m)
    (hclos : closureFor scope env = pure cl) (hcell : ∀ y ∈ scope.names, y.2 ≠ .cell) (hkind : scope.kind = .function)
    (hnames : ∀ y ∈ scope.names, y.2 = .local → scope.names.lookup y.1 = some .local) (hx : scope.names.lookup x = some .local) (hy : scope.names.lookup y = some .local) (hxy : x ≠ y)
    (h : wpAny (model prog w) A (eval iter env) (fun xv s₁ => Hold (CompZ prog w A h₀ L m env kx vx x y scope cl Q xv s₁)) E s)
    (hs : ∀ x, foldedSetIterable iter env x = pure x := by intro _; rfl) :
    wpAny (model prog w) A (eval (.DictComp kx vx [⟨.Tuple [.Name x px, .Name y py] x1 tp, iter, [], 0⟩] scope pos) env) Q E s := by
  refine ?mG; exact ((by exact ?mB) : (let_mvar% ?mB := (by (
  rw [arm_eval_DictComp]
  refine wpAny_comprehension_free (use := none) rfl hs hclos hkind hnames (wpAny_mono h (fun xv s₁ h₁ => ?_) fun _ _ e => e)
  obtain ⟨I, fp, wr, n, Pt, St, Mid, P2, news, J, rfl, W, h2, hz, hh, hlow0, hwr, hnw, hst0, F, N, hJ0, hJl, hkey, hval, hstep, done⟩ := h₁
  refine W.self 0 _ _ _ hst0 ?_
  refine wpAny_newObj_type (wpAny_newFunctionEnv hcell (by intro y hy; simp at hy) (fun h₁ hns₁ hsb₁ => ?_) hkind)
  dsimp only at hns₁ hsb₁ ⊢
  have hnew : (s₁.heap.push { cls := .type "dict", dict := none, data := .dict #[] }).DictOf (PySem.strKind prog w) s₁.heap.objs.size [] := Heap.DictOf.new s₁.heap
  generalize hH2 : s₁.heap.push { cls := .type "dict", dict := none, data := .dict #[] } = H2 at hns₁ hsb₁ hnew ⊢
  have hz2 : H2.objs.size = s₁.heap.objs.size + 1 := by rw [← hH2, Heap.size_push]
  have hDC : s₁.heap.objs.size ≠ H2.objs.size := Nat.ne_of_lt (by rw [hz2]; exact Nat.lt_succ_self _)
  have ltC : ∀ b, b < s₁.heap.objs.size → b < H2.objs.size := fun b hb => Nat.lt_trans hb (by rw [hz2]; exact Nat.lt_succ_self _)
  have old : ∀ b o, s₁.heap.get? b = some o → h₁.get? b = some o := fun b o e => hsb₁.extBut b o (Nat.ne_of_lt (ltC b (Heap.lt_size e))) (Heap.get?_push_of_some _ (hH2 ▸ Heap.get?_push_of_some _ e))
  have hacc : h₁.DictOf (PySem.strKind prog w) s₁.heap.objs.size [] := hnew.at fun o e => hsb₁.extBut _ _ hDC (Heap.get?_push_of_some _ e)
  have hDf : s₁.heap.objs.size ∉ fp := fun hm => Nat.lt_irrefl _ (hlow0 _ hm)
  have hCf : H2.objs.size ∉ fp := fun hm => Nat.lt_irrefl _ (Nat.lt_trans (hlow0 _ hm) (by rw [hz2]; exact Nat.lt_succ_self _))
  have hDw : s₁.heap.objs.size ∉ wr := fun hm => hDf (W.sub _ hm)
  have hCw : H2.objs.size ∉ wr := fun hm => hCf (W.sub _ hm)
  have hst₁ : St 0 h₁ := W.frame _ _ _ hst0 fun b _ o e => old b o e
  have hLlt : L < s₁.heap.objs.size := F.ns.lt
  have hLw : L ∉ wr := fun hm => (hwr _ hm).2 rfl
  have hCL : H2.objs.size ≠ L := Nat.ne_of_gt (ltC _ hLlt)
  have none₀ : ∀ a, s₁.heap.objs.size ≤ a → h₀.get? a = none := fun a ha => by
    cases e : h₀.get? a with
    | none => rfl
    | some o' => exact absurd (Heap.lt_size (F.keep a o' e)) (Nat.not_lt.mpr ha)
  have hC₀ : h₀.get? H2.objs.size = none := none₀ _ (by rw [hz2]; exact Nat.le_succ _)
  have hD₀ : h₀.get? s₁.heap.objs.size = none := none₀ _ (Nat.le_refl _)
  have nC : ∀ p ∈ news, p.1 ≠ H2.objs.size := fun p hp => Nat.ne_of_lt (ltC _ (Heap.lt_size (N p hp).1))
  have keepF : ∀ hh : Heap, (∀ b o, b ≠ H2.objs.size → b ∉ wr → b ≠ s₁.heap.objs.size → s₁.heap.get? b = some o → hh.get? b = some o) → Fr h₀ L hh m := fun hh hk =>
    ⟨F.ns.at' fun o e => hk L o (Ne.symm hCL) hLw (Nat.ne_of_lt hLlt) e, fun b o e => hk b o (fun q => by rw [q, hC₀] at e; cases e) (fun q => by rw [(hwr b q).1] at e; cases e) (fun q => by rw [q, hD₀] at e; cases e) (F.keep b o e), F.above⟩
  have keepN : ∀ hh : Heap, (∀ b o, b ≠ H2.objs.size → b ∉ wr → b ≠ s₁.heap.objs.size → s₁.heap.get? b = some o → hh.get? b = some o) → News h₀ L hh news := fun hh hk p hp =>
    ⟨hk _ _ (nC p hp) (hnw p hp) (Nat.ne_of_lt (Heap.lt_size (N p hp).1)) (N p hp).1, (N p hp).2⟩
  have newsC : ∀ hh oC, hh.get? H2.objs.size = some oC → News h₀ L hh news → News h₀ L hh ((H2.objs.size, oC) :: news) := fun hh oC e k q hq => by
    rcases List.mem_cons.mp hq with rfl | hq
    · exact ⟨e, hCL, hC₀⟩
    · exact k q hq
  have hxC : (compEnvC scope cl H2.objs.size env).kindOf x = some .local := lookup_relabel_local hx
  have hyC : (compEnvC scope cl H2.objs.size env).kindOf y = some .local := lookup_relabel_local hy
  have loop : ∀ s₃ : Shared, s₃ = { s₁ with heap := h₁, toks := s₁.toks + ([] : List (Str × Value)).length } →
      codeAny (model prog w) A (.compLoop (.DictComp kx vx [⟨.Tuple [.Name x px, .Name y py] x1 tp, iter, [], 0⟩] scope pos) 0 (.ref I) (.ref s₁.heap.objs.size) (compEnvC scope cl H2.objs.size env)) (compPost (model prog w) A E none Q (.ref s₁.heap.objs.size) H2.objs.size) s₃ := by
    rintro s₃ rfl
    refine loop_dictT
      (ZipJ prog w s₁ s₁.heap.objs.size H2.objs.size wr n St J) ?_ (n + 1)
      ⟨h₁, _, 0, [], _, rfl, Nat.zero_le _, rfl, hst₁, hacc, hns₁, hJ0, fun b o _ _ _ e => old b o e⟩
    rintro k s' ⟨H, tk, i, kvs, m', rfl, hi, rfl, hst', hacc', hn', hJ, hk⟩
    by_cases hlt : i < n
    · refine W.item i _ _ _ hlt hst' fun T vals h₂ tk₂ hPt hle hT hMid hk₂ => ?_
      obtain ⟨v0, v1, rfl, hP2⟩ := h2 i vals hPt
      refine W.go _ x1 tp i T _ _ _ hMid fun h₃ hst₃ hk₃ => ?_
      have ht₃ : h₃.IsTuple T #[v0, v1] := hT.at fun o e => hk₃ T o (W.apart i T h₂ hMid) e
      refine wpAny_assign_Tuple hh ht₃ rfl rfl fun h₄ hx₄ => ?_
      replace hx₄ : Heap.ExtBut h₃.objs.size h₃ h₄ := hx₄
      have up₄ : ∀ b o, b ∉ wr → H.get? b = some o → h₄.get? b = some o := fun b o hb e => by
        have e3 := hk₃ b o hb (hk₂ b o hb e)
        exact hx₄ b o (Nat.ne_of_lt (Heap.lt_size e3)) e3
      have hst₄ : St (i + 1) h₄ := W.frame _ _ _ hst₃ fun b hb o e => hx₄ b o (Nat.ne_of_lt (Heap.lt_size e)) e
      have hn₄ : h₄.Ns H2.objs.size m' := hn'.at' fun o e => up₄ _ o hCw e
      show wpAny _ A (do holding [v1] (assign (.Name x px) (compEnvC scope cl H2.objs.size env) v0); do holding [] (assign (.Name y py) (compEnvC scope cl H2.objs.size env) v1); pure ()) _ _ _
      refine wpAny_bind (wpAny_holding (wpAny_assign_Name (wpAny_storeName_local hxC hn₄ (fun h₅ hn₅ hs₅ => ?_) (by simp [compEnvC, relabel, hkind]))))
      replace hs₅ : Heap.SameBut H2.objs.size h₄ h₅ := hs₅
      refine wpAny_bind (wpAny_holding (wpAny_assign_Name (wpAny_storeName_local hyC hn₅ (fun h₆ hn₆ hs₆ => wpAny_pure ?_) (by simp [compEnvC, relabel, hkind]))))
      replace hs₆ : Heap.SameBut H2.objs.size h₅ h₆ := hs₆
      have up₆ : ∀ b o, b ≠ H2.objs.size → b ∉ wr → H.get? b = some o → h₆.get? b = some o := fun b o hb hbw e => hs₆.extBut b o hb (hs₅.extBut b o hb (up₄ b o hbw e))
      have hst₆ : St (i + 1) h₆ := W.frame _ _ _ hst₄ fun b hb o e => hs₆.extBut b o (fun q => hCf (q ▸ hb)) (hs₅.extBut b o (fun q => hCf (q ▸ hb)) e)
      have hk₆ : ∀ b o, b ≠ H2.objs.size → b ∉ wr → b ≠ s₁.heap.objs.size → s₁.heap.get? b = some o → h₆.get? b = some o := fun b o hb hbw hbD e => up₆ b o hb hbw (hk b o hb hbw hbD e)
      have hacc₆ := hacc'.at fun o e => up₆ _ o hDC hDw e
      obtain ⟨kk, hkk, hJ'⟩ := hstep i v0 v1 hlt hP2
      obtain ⟨oC, eC, hoC⟩ := ns_obj hn₆
      refine wpAny_mono (hkey _ oC v0 v1 _ _ _ hoC (by simp [hxy]) (by simp) (keepF _ hk₆) (newsC _ _ eC (keepN _ hk₆)) nC) (fun key s₄ z => ?_) fun _ _ e => e
      obtain ⟨rfl, h₇, tk₇, rfl, hk₇⟩ := z
      refine wpAny_mono (hval _ oC key v1 _ _ _ hoC (by simp [hxy]) (by simp) (keepF _ fun b o a1 a2 a3 e => hk₇ b o (hk₆ b o a1 a2 a3 e)) (newsC _ _ (hk₇ _ _ eC) (keepN _ fun b o a1 a2 a3 e => hk₇ b o (hk₆ b o a1 a2 a3 e))) nC) (fun val s₅ z => ?_) fun _ _ e => e
      obtain ⟨rfl, h₈, tk₈, rfl, hk₈⟩ := z
      have hkl := hJl i kvs hJ
      refine wpAny_dictSet_pairs (hsz := by lia) hkk (hacc₆.at fun o e => hk₈ _ o (hk₇ _ o e)) fun h₉ hl₉ hs₉ => ?_
      refine ⟨n + 1 - (i + 1), by lia, h₉, _, i + 1, stored kvs kk val, _, rfl, by lia, rfl, ?_, hl₉, ((hn₆.keeps hk₇).keeps hk₈).sameBut hs₉ (Ne.symm hDC), hJ' _ hJ, fun b o a1 a2 a3 e => hs₉.extBut b o a3 (hk₈ b o (hk₇ b o (hk₆ b o a1 a2 a3 e)))⟩
      exact W.frame _ _ _ hst₆ fun b hb o e => hs₉.extBut b o (fun q => hDf (q ▸ hb)) (hk₈ b o (hk₇ b o e))
    · have hin : i = n := by lia
      subst hin
      refine W.done _ _ _ hst' fun h₂ tk₂ hk₂ => ?_
      refine ⟨m', hn'.at' fun o e => hk₂ _ o hCw e, fun h'' hs'' => ?_⟩
      have hk₃ : ∀ b o, b ≠ H2.objs.size → b ∉ wr → b ≠ s₁.heap.objs.size → s₁.heap.get? b = some o → h''.get? b = some o := fun b o a1 a2 a3 e => hs''.extBut b o a1 (hk₂ b o a2 (hk b o a1 a2 a3 e))
      obtain ⟨o, ho, hO⟩ := Heap.dictOf_iff.mp ((hacc'.at fun o e => hk₂ _ o hDw e).extBut hs''.extBut hDC)
      refine done kvs s₁.heap.objs.size o h'' tk₂ hJ (keepF _ hk₃) (fun q hq => ?_) hO (fun q hq => Heap.lt_size (N q hq).1) hLlt
      rcases List.mem_cons.mp hq with rfl | hq
      · exact ⟨ho, Nat.ne_of_gt hLlt, hD₀⟩
      · exact keepN _ hk₃ q hq
  exact codeAny_compStart_dict (loop _ rfl) (W.self 0 _ _ _ hst₁ (loop _ rfl))
  ) : type_of% ?mG); have _ : True := trivial; type_of% ?mG))
end
end
section
open PySem PySem.W PyProof.Rows PySem.Calls
open PySem.Builtin.ObjectAttr
set_option maxRecDepth 100000
set_option Elab.async false
set_option compiler.extract_closed false
set_option compiler.reuse false
set_option linter.unusedVariables false
set_option maxHeartbeats 2000000
section
variable {prog : Program} {w : World} {A : Around} {R : Result → Shared → Prop} {E : Value → Shared → Prop} {h : Heap} {g : Array GenState} {d : Drawn} {t : Nat} {os : OsState} {e : Addr} {ox : Obj} {od : Option Obj} {name : Str} {tk : Tok} {v : Value}
theorem check52 {M : Model} {nameV : Value} {Q : Unit → Shared → Prop} (X : (KX w.params).In h) (I : InstAt h e ox 52 od) (hq : Q () ⟨h, g, d, t, os⟩) : wpAny M A (checkBuiltinCall "BaseException.__getattribute__" ⟨[.ref e, nameV], []⟩) Q E ⟨h, g, d, t, os⟩ := by
  refine ?mG; exact ((by exact ?mB) : (let_mvar% ?mB := (by (
  have hC : h.get? 52 = some (cls52 w.params) := X 52 _ (lk52 _)
  have hk : builtinKind "BaseException.__getattribute__" = some .slot := by decide +kernel
  have hsplit : splitId "BaseException.__getattribute__" = some ("BaseException", "__getattribute__") := by decide +kernel
  have hcB : (Value.ref 52 :: bm52).contains (.type "BaseException") = true := by decide +kernel
  have ha := PySem.F.args_bexc_ga (.ref e) nameV
  simp only [checkBuiltinCall, hk, hsplit]
  refine wpAny_bind ?_
  · unfold isInstance
    repeat (first | (with_reducible refine wpAny_loadPart_at I.at_ ?_; rw [I.cls]) | (with_reducible refine wpAny_isSubtype_exc hC ?_; rw [hcB]) | wp_step)
    exact hq
  ) : type_of% ?mG); have _ : True := trivial; type_of% ?mG))
theorem call52 (X : (KX w.params).In h) (I : InstAt h e ox 52 od) (hf : findObj (KX w.params) 52 od name = some (.value v)) (hq : R (.ok (.ret v)) ⟨h, g, d, t, os⟩) :
    codeAny (model prog w) A (.call (.builtin "BaseException.__getattribute__") ⟨[.ref e, .str name tk], []⟩) R ⟨h, g, d, t, os⟩ := by
  refine codeAny_call_builtin PySem.F.attrBase_Exception.ga.plain PySem.F.entry_bexc_ga (check52 X I ?_)
  have L0 := I.type (M := model prog w)
  have L1 := looks_find (M := model prog w) X I hf
  refine wpAny_bind (wpAny_pure (wpAny_bind (wpAny_pure (wpAny_bind (L0.at (wpAny_bind (L1.at ?_)))))))
  exact wpAny_pure hq
theorem get52 {s : Shared} {expr : Bool} {Q : Value → Shared → Prop} (X : (KX w.params).In s.heap) (I : InstAt s.heap e ox 52 od) (hf : findObj (KX w.params) 52 od name = some (.value v)) (hh : handedIn v = true) (hq : Q v { s with toks := s.toks + 1 }) :
    wpAny (model prog w) A (getAttr (.ref e) name expr) Q E s := by
  refine ?mG; exact ((by exact ?mB) : (let_mvar% ?mB := (by (
  obtain ⟨h, g, d, t, os⟩ := s
  have L0 := I.type (M := model prog w)
  have L1 := looks_findIn (M := model prog w) X (r := some (.builtin "BaseException.__getattribute__")) (t := .ref 52) (name := "__getattribute__") (by kernel_rfl)
  have L2 := looks_findIn (M := model prog w) X (r := none) (t := .ref 52) (name := "__getattr__") (by kernel_rfl)
  have f3 := PySem.F.attrBase_Exception.ga.bind (.ref e)
  have hx0 : (expr && onTheHeap (Value.builtin "BaseException.__getattribute__")) = false := by cases expr <;> rfl
  have hx2 : (Value.builtin "BaseException.__getattribute__" == Value.builtin "object.__getattribute__") = false := by decide +kernel
  have hx1 : (onTheHeap (Value.ref 52) && Value.builtin "BaseException.__getattribute__" == Value.builtin "object.__getattribute__") = false := by rw [hx2]; rfl
  unfold getAttr getAttrBy
  refine wpAny_bind (wpAny_mkText (wpAny_holding (wpAny_bind (L0.at (wpAny_bind (L1.at ?_))))))
  dsimp only
  rw [hx1]
  unfold getAttrByItsOwn hookBefore callGetattribute
  rw [hx0]
  rw [if_neg (by decide)]
  refine wpAny_bind ?_
  rw [if_pos (by rfl)]
  refine L2.at (wpAny_bind (wpAny_attempt (wpAny_holding ?_)))
  rw [if_neg (by decide)]
  repeat (any_goals (first | assumption | wp_step))
  refine call52 X I hf ?_
  repeat (any_goals (first | assumption | wp_step))
  show wpAny _ _ (handedOut v) _ _ _
  rw [handedOut_of hh]; exact wpAny_pure hq
  ) : type_of% ?mG); have _ : True := trivial; type_of% ?mG))
/-- the same, told by the ledger -/
theorem get52_K {s : Shared} {h₀ : Heap} {L : Addr} {m : Str → Option Value} {news : Led} {expr : Bool} {Q : Value → Shared → Prop} {dx : Addr} {o : Obj} {ws : Array Value} (F : Fr h₀ L s.heap m) (X₀ : (KX w.params).In h₀) (N : News h₀ L s.heap news) (me : (e, ox) ∈ news) (md : (dx, o) ∈ news) (hc : ox.cls = .ref 52) (hd : ox.dict = some dx) (hv : ox.data = .fields ws)
    (hf : findObj (KX w.params) 52 (some o) name = some (.value v)) (hh : handedIn v = true) (hq : Q v { s with toks := s.toks + 1 }) :
    wpAny (model prog w) A (getAttr (.ref e) name expr) Q E s := by
  refine get52 (X₀.keeps F.keep) (ox := ox) (od := some o) ⟨(N _ me).1, hc, ?_, ?_⟩ hf hh hq
  · unfold notCls; rw [hv]
  · rw [hd]; exact (N _ md).1
end
section
variable {prog : Program} {w : World} {A₀ A : Around} {s : Shared} {base h₀ : Heap} {L : Addr} {m : Str → Option Value} {news : List (Addr × Obj)} {K : Frag} {p : Program} {loose : List Str} {mean : ExcName → Option Value} {mg mb : Str → Option Value}
    {R : Result → Shared → Prop} {name qual : Str} {params : Arguments} {body : List Stmt} {scope : Scope} {dV kV doc pm cdv ct oc : Value} {an od : Option Addr} {osl : Array (Option Value)} {f : Addr} {args : Args} {binds : List (Str × Value)} {env : Env}
/-- a called def that may catch, from a frame with cells -/
theorem code_defX0 (B : Below A₀ base [] h₀) (F : Fr h₀ L s.heap m) (X₀ : K.In h₀) (N : News h₀ L s.heap news) (T : Top p loose mean mg mb h₀) (hA : A.frames = some [env]) (hf : env.frame = some L) (hke : env.scope.kind = .function)
    (ho : K.lookup f = some ⟨oc, od, .func (fnOf name qual params body scope dV kV doc pm an cdv ct), osl⟩) (hcd : codeIn K cdv qual = true) (hroom : A.depth < recursionLimit)
    (hbind : BindsTo s (fnOf name qual params body scope dV kV doc pm an cdv ct) args binds) (hloc : ∀ y ∈ binds, scope.names.lookup y.1 = some .local)
    (h : ∀ g L' h₁, Fr h₀ L g m → Fr g L' h₁ (fun y => binds.reverse.lookup y) → News g L' h₁ news → Below A base [env] g → K.In g → Top p loose mean mg mb g →
      wpAny (model prog w) (A.deeper (envOf qual scope L' f cdv)) (execs body (envOf qual scope L' f cdv))
        (fun fl s' => LeaveS0 [L] h₀ L m g R (match fl with | .ret v => v | _ => .none) s')
        (fun e s' => wpAny (model prog w) (A.deeper (envOf qual scope L' f cdv)) (leaving (envOf qual scope L' f cdv) e) (fun _ s'' => R (.error e) s'') (fun e' s'' => R (.error e') s'') s')
        { s with heap := h₁, toks := s.toks + binds.length })
    (hco : scope.isCoroutine = false) (hgen : scope.isGenerator = false) (hk : scope.kind = .function)
    (hcell : ∀ x ∈ scope.names, x.2 ≠ .cell) : codeAny (model prog w) A (.call (.ref f) args) R s := by
  refine ?mG; exact ((by exact ?mB) : (let_mvar% ?mB := (by (
  have X := X₀.keeps F.keep
  refine codeAny_call_def (fd := fnOf name qual params body scope dV kV doc pm an cdv ct) (body := body) (binds := binds) hroom (X _ _ ho) rfl (T.nolimit.keeps F.keep) (codeRec_of X hcd) rfl hbind hcell hloc (fun h₁ hns hk₁ => ?_) hco hgen hk
  obtain ⟨FG, B₂, st, _⟩ := groundX (R := R) B F N hA hf hke
  have nL : L ∉ news.map (·.1) := fun q => by
    obtain ⟨p, hp, e⟩ := List.mem_map.mp q
    exact (N p hp).2.1 e
  obtain ⟨oL, es, ep, hL, hLd, hLk, hLf⟩ := F.ns
  have hLg := hideAll_get (news.map (·.1)) hL nL
  refine wpAny_mono (h _ s.heap.objs.size h₁ FG ⟨hns, fun b o e => hk₁ b o (of_hideAll _ e), Nat.le_of_eq (hideAll_size _ _)⟩
    (fun p hp => ⟨hk₁ _ _ (N p hp).1, Nat.ne_of_lt (Heap.lt_size (N p hp).1), hideAll_none _ (List.mem_map_of_mem hp)⟩) B₂ (X₀.keeps st) (T.keeps st)) (fun fl s' hl => ?_) fun _ _ y => y
  obtain ⟨g', L', m', news', T', F', N', k⟩ := hl
  have nL₀ : h₀.get? L = none := kts_self F
  obtain ⟨sl, hs⟩ := T'.up hLg
  refine k ⟨⟨_, es, ep, F'.keep _ _ hs, hLd, hLk, hLf⟩, fun b o e => F'.keep b o (T'.other b o (st b o e) (fun q => by
    rw [List.mem_singleton.mp q, nL₀] at e
    cases e)), F.above⟩ fun p hp => ⟨(N' p hp).1, fun q => ?_, ?_⟩
  · have := (N' p hp).2.2; rw [q, hs] at this; cases this
  · cases q : h₀.get? p.1 with
    | none => rfl
    | some o =>
      obtain ⟨sl', hs'⟩ := T'.up (st _ _ q)
      have := (N' p hp).2.2
      rw [hs'] at this
      cases this
  ) : type_of% ?mG); have _ : True := trivial; type_of% ?mG))
end
end
local macro_rules | `(tactic| walk_at "call ref") => do heldAt (← refsAt [1209, 1286, 1178, 1241, 1255, 1307])
section
open PySem PySem.W PyProof.Rows PySem.Calls
set_option maxRecDepth 100000
set_option maxHeartbeats 0
set_option Elab.async false
set_option compiler.extract_closed false
set_option compiler.reuse false
set_option linter.unusedVariables false
set_option pp.deepTerms false
section
variable {w : World} {mean : ExcName → Option Value} {mg mb : Str → Option Value} {dp un : Nat} {gd : Option (List Code)} {cn : Str} {cs : Scope} {a : Addr} {ccd : Value} {cl : List (Str × Addr)} {A₀ : Around} {outer : List Env} {base h₀ : Heap} {L : Addr} {m : Str → Option Value} {s : Shared} {Q E : Value → Shared → Prop}

theorem lk1255 (P) : (KX P).lookup 1255 = some ⟨.type "function", none, .func f1255, #[]⟩ := by kernel_rfl
theorem lookup_t {sc sx en tp x : Addr} {o : Obj} {k1 k2 k3 k4 k5 k6 k7 k8 k9 t1 t2 t3 t4 tn : Tok} {news : Led}
    (B : Below A₀ base outer h₀) (F : Fr h₀ L s.heap m) (X : (KX w.params).In h₀) (N : News h₀ L s.heap news) (T : TopM mean mg mb h₀)
    (hk : cs.kind = .function) (hd : dp + 8 < recursionLimit) (hu : un + 300 < cLine)
    (s1 : (sc, instObj 1286 sx) ∈ news) (s2 : (sx, dictOf (scEs w k1 k2 k3 k4 k5 k6 k7 k8 k9 t1 t2 t3 t4 x en) 9) ∈ news) (s3 : (en, o) ∈ news) (s4 : o.IsDictOf (PySem.strKind pwO w) [(S "n", .ref tp)]) (s5 : (en == sysModules) = false)
    (ret : ∀ h' tk', Fr h₀ L h' m → News h₀ L h' news → Q (.ref tp) { s with heap := h', toks := tk' }) :
    wpAny (model pwO w) (ktrTop dp un gd cn cs L a ccd cl outer) (call (.ref 1255) [.ref sc, .str (S "n") tn]) Q E s := by
  refine ?mG; exact ((by exact ?mB) : (let_mvar% ?mB := (by (
  refine wpAny_call ?_
  refine' code_def (binds := [(S "self", Value.ref sc), (S "name", .str (S "n") tn)]) B F X N T rfl rfl hk (lk1255 _) ?k7 ?k8 (BindsTo.of_eq rfl) (locs rfl) ?_ rfl rfl rfl (by decide)
  case k7 => k_is
  case k8 => ktr_room
  k_whole
  intro g' L' h' FG' F' N' B' X' T'
  (try dsimp only)
  k_fold
  wtm_at "ks"
  (with_reducible rename Fr _ _ _ _ => F3)
  (with_reducible rename News _ _ _ _ => N3)
  show wpAny _ _ _ _ _ _
  refine While_invI (fun k m nx l => k = 1 ∧ nx = news ∧ m (S "scope") = some (.ref sc) ∧ m (S "name") = some (.str (S "n") tn)) F3 N3 InstsFk.nil ⟨rfl, rfl, rfl, rfl⟩ ?_
  rintro k m1 _ _ h4 tk4 F4 N4 - ⟨rfl, rfl, hm1, hm2⟩
  have F5 := know F4 (k := S "scope") (v := .ref sc) hm1
  have F6 := know F5 (k := S "name") (v := .str (S "n") tn) (by rw [if_neg (by decide)]; exact hm2)
  replace F6 : Fr g' L' h4 _ := F6
  clear F5 F4 F3 N3
  wtm_at "ks"
  refine kda_in N4 s3 s4 s5 (strKind_is _ _ _ _) true (by rfl) ?_
  (try dsimp only)
  wtm_at "ks"
  refine kda_item N4 s3 s4 (strKind_is _ _ _ _) (v := .ref tp) (by rfl) ?_
  (try dsimp only)
  wtm_at "ks"
  dsimp only [WhileStepI]
  wtm_at "ks"
  (with_reducible rename Fr _ _ _ _ => F9)
  (with_reducible rename News _ _ _ _ => N9)
  exact ret _ _ F9 N9
  ) : type_of% ?mG); have _ : True := trivial; type_of% ?mG))
end
end
section
open PySem PySem.W PyProof.Rows PySem.Calls
set_option maxRecDepth 100000
set_option maxHeartbeats 0
set_option Elab.async false
set_option compiler.extract_closed false
set_option compiler.reuse false
set_option linter.unusedVariables false
set_option pp.deepTerms false
section
variable {w : World} {mean : ExcName → Option Value} {mg mb : Str → Option Value} {dp un : Nat} {gd : Option (List Code)} {cn : Str} {cs : Scope} {a : Addr} {ccd : Value} {cl : List (Str × Addr)} {A₀ : Around} {outer : List Env} {base h₀ : Heap} {L : Addr} {m : Str → Option Value} {s : Shared} {Q E : Value → Shared → Prop}

local macro_rules | `(tactic| walk_at "mine no such key") => `(tactic| skip)
theorem lk822 (P) : (KX P).lookup 822 = some ⟨.type "function", none, .func f822, #[]⟩ := by kernel_rfl
theorem lk829 (P) : (KX P).lookup 829 = some ⟨.type "function", none, .func f829, #[]⟩ := by kernel_rfl
theorem lk836 (P) : (KX P).lookup 836 = some ⟨.type "function", none, .func f836, #[]⟩ := by kernel_rfl
theorem keep_1 {c1 : Addr × Obj} {l : Led} : ∀ p ∈ l, p ∈ c1 :: l := fun _ hp => .tail _ hp
theorem lsel_t {a1 : Addr} {t1 t2 t3 : Tok} {n : Nat} {news : Led}
    (B : Below A₀ base outer h₀) (F : Fr h₀ L s.heap m) (X : (KX w.params).In h₀) (N : News h₀ L s.heap news) (T : TopM mean mg mb h₀)
    (hk : cs.kind = .function) (hd : dp + 8 < recursionLimit) (hu : un + 300 < cLine) (m1 : (a1, tupN [.str (S "id") t1, .int 0 t2, .str (S "n") t3] n) ∈ news)
    (ret : ∀ h' tk', Fr h₀ L h' m → News h₀ L h' news → Q (.ref a1) { s with heap := h', toks := tk' }) :
    wpAny (model pwO w) (ktrTop dp un gd cn cs L a ccd cl outer) (call (.ref 822) [.ref a1]) Q E s := by
  refine ?mG; exact ((by exact ?mB) : (let_mvar% ?mB := (by (
  refine wpAny_call ?_
  refine' code_def (binds := [(S "e", Value.ref a1)]) B F X N T rfl rfl hk (lk822 _) ?k7 ?k8 (BindsTo.of_eq rfl) (locs rfl) ?_ rfl rfl rfl (by decide)
  case k7 => k_is
  case k8 => ktr_room
  k_whole
  intro g' L' h' FG' F' N' B' X' T'
  dsimp only
  k_fold
  wtm_at "ks"
  (with_reducible rename Fr _ _ _ _ => F9)
  (with_reducible rename News _ _ _ _ => N9)
  exact ret _ _ F9 (nsub N9 (fun p hp => by (repeat (refine List.Mem.tail _ ?_)); exact hp))
  ) : type_of% ?mG); have _ : True := trivial; type_of% ?mG))
local macro_rules | `(tactic| walk_at "call ref") => ct ``lsel_t "aaaaaeRVm_" 4
theorem ismem_t {sc tp tv : Addr} {t5 : Tok} {n : Nat} {news : Led}
    (B : Below A₀ base outer h₀) (F : Fr h₀ L s.heap m) (X : (KX w.params).In h₀) (N : News h₀ L s.heap news) (T : TopM mean mg mb h₀)
    (hk : cs.kind = .function) (hd : dp + 8 < recursionLimit) (hu : un + 300 < cLine) (m1 : (tp, tupN [.str (S "param") t5, .ref tv, .bool true] n) ∈ news)
    (ret : ∀ h' tk', Fr h₀ L h' m → News h₀ L h' news → Q (.bool false) { s with heap := h', toks := tk' }) :
    wpAny (model pwO w) (ktrTop dp un gd cn cs L a ccd cl outer) (call (.ref 829) [.ref sc, .ref tp]) Q E s := by
  refine ?mG; exact ((by exact ?mB) : (let_mvar% ?mB := (by (
  refine wpAny_call ?_
  refine' code_def (binds := [(S "scope", Value.ref sc), (S "entry", Value.ref tp)]) B F X N T rfl rfl hk (lk829 _) ?k7 ?k8 (BindsTo.of_eq rfl) (locs rfl) ?_ rfl rfl rfl (by decide)
  case k7 => k_is
  case k8 => ktr_room
  k_whole
  intro g' L' h' FG' F' N' B' X' T'
  dsimp only
  k_fold
  wtm_at "ks"
  (with_reducible rename Fr _ _ _ _ => F9)
  (with_reducible rename News _ _ _ _ => N9)
  exact ret _ _ F9 (nsub N9 (fun p hp => by (repeat (refine List.Mem.tail _ ?_)); exact hp))
  ) : type_of% ?mG); have _ : True := trivial; type_of% ?mG))
local macro_rules | `(tactic| walk_at "call ref") => ct ``ismem_t "aaaaaeRVm_" 4
theorem shape_t {sc tp tv : Addr} {t5 t6 t7 t8 tz : Tok} {n n2 : Nat} {news : Led}
    (B : Below A₀ base outer h₀) (F : Fr h₀ L s.heap m) (X : (KX w.params).In h₀) (N : News h₀ L s.heap news) (T : TopM mean mg mb h₀)
    (hk : cs.kind = .function) (hd : dp + 8 < recursionLimit) (hu : un + 300 < cLine) (m1 : (tp, tupN [.str (S "param") t5, .ref tv, .bool true] n) ∈ news) (m2 : (tv, tupN [.int 3 t6, .int 5 t7, .int 0 t8] n2) ∈ news)
    (ret : ∀ D u1 u2 u3 n3 h' tk', Fr h₀ L h' m → News h₀ L h' ((D, tupN [.int 3 u1, .bool true, .int 2 u2, .int 0 u3, .bool false] n3) :: news) → (∀ p ∈ news, @LT.lt Nat _ p.1 D) → Q (.ref D) { s with heap := h', toks := tk' }) :
    wpAny (model pwO w) (ktrTop dp un gd cn cs L a ccd cl outer) (call (.ref 836) [.ref sc, .ref tp, .int 0 tz]) Q E s := by
  refine ?mG; exact ((by exact ?mB) : (let_mvar% ?mB := (by (
  refine wpAny_call ?_
  refine' code_def (binds := [(S "scope", Value.ref sc), (S "entry", Value.ref tp), (S "at", Value.int 0 tz)]) B F X N T rfl rfl hk (lk836 _) ?k7 ?k8 (BindsTo.of_eq rfl) (locs rfl) ?_ rfl rfl rfl (by decide)
  case k7 => k_is
  case k8 => ktr_room
  k_whole
  intro g' L' h' FG' F' N' B' X' T'
  dsimp only
  k_fold
  wtm_at "ks"
  (with_reducible rename Fr _ _ _ _ => F9)
  (with_reducible rename News _ _ _ _ => N9)
  exact ret _ _ _ _ _ _ _ F9 N9 (by assumption)
  ) : type_of% ?mG); have _ : True := trivial; type_of% ?mG))
local macro_rules | `(tactic| walk_at "call ref") => ct ``shape_t "aaaaaeRVmm_" 10
theorem lk934 (P) : (KX P).lookup 934 = some ⟨.type "function", none, .func f934, #[]⟩ := by kernel_rfl
theorem entry_t {sc sx en tp x : Addr} {o : Obj} {k1 k2 k3 k4 k5 k6 k7 k8 k9 t1 t2 t3 t4 : Tok} {a1 : Addr} {e1 e2 e3 : Tok} {n0 : Nat} {news : Led}
    (B : Below A₀ base outer h₀) (F : Fr h₀ L s.heap m) (X : (KX w.params).In h₀) (N : News h₀ L s.heap news) (T : TopM mean mg mb h₀)
    (hk : cs.kind = .function) (hd : dp + 12 < recursionLimit) (hu : un + 310 < cLine) (s1 : (sc, instObj 1286 sx) ∈ news) (s2 : (sx, dictOf (scEs w k1 k2 k3 k4 k5 k6 k7 k8 k9 t1 t2 t3 t4 x en) 9) ∈ news) (s3 : (en, o) ∈ news) (s4 : o.IsDictOf (PySem.strKind pwO w) [(S "n", .ref tp)]) (s5 : (en == sysModules) = false) (m0 : (a1, tupN [.str (S "id") e1, .int 0 e2, .str (S "n") e3] n0) ∈ news)
    (ret : ∀ h' tk', Fr h₀ L h' m → News h₀ L h' news → Q (.ref tp) { s with heap := h', toks := tk' }) :
    wpAny (model pwO w) (ktrTop dp un gd cn cs L a ccd cl outer) (call (.ref 934) [.ref sc, .ref a1]) Q E s := by
  refine ?mG; exact ((by exact ?mB) : (let_mvar% ?mB := (by (
  refine wpAny_call ?_
  refine' code_def (binds := [(S "scope", Value.ref sc), (S "e", Value.ref a1)]) B F X N T rfl rfl hk (lk934 _) ?k7 ?k8 (BindsTo.of_eq rfl) (locs rfl) ?_ rfl rfl rfl (by decide)
  case k7 => k_is
  case k8 => ktr_room
  k_whole
  intro g' L' h' FG' F' N' B' X' T'
  dsimp only
  k_fold
  wtm_at "ks"
  (with_reducible rename Fr _ _ _ _ => F3)
  (with_reducible rename News _ _ _ _ => N3)
  (with_reducible rename Below _ _ _ _ => B3)
  (with_reducible rename Top _ _ _ _ _ _ => T3)
  (with_reducible rename Frag.In _ _ => X3)
  show wpAny _ _ _ _ _ _
  refine lookup_t B3 F3 X3 N3 T3 rfl (by ktr_room) (by ktr_units) (by repeat (first | exact s1 | refine mtail ?_)) (by repeat (first | exact s2 | refine mtail ?_)) (by repeat (first | exact s3 | refine mtail ?_)) s4 s5 fun h5 tk5 F5 N5 => ?_
  (try dsimp only)
  wtm_at "ks"
  (with_reducible rename Fr _ _ _ _ => F9)
  (with_reducible rename News _ _ _ _ => N9)
  exact ret _ _ F9 (nsub N9 (fun p hp => by (repeat (refine List.Mem.tail _ ?_)); exact hp))
  ) : type_of% ?mG); have _ : True := trivial; type_of% ?mG))
local macro_rules | `(tactic| walk_at "call ref") => ct ``entry_t "aaaaaeRVmmmqqm_" 4
local macro_rules | `(tactic| walk_at "subscriptTail Name Slice ref ref") => sliceAB 0 2
theorem lk962 (P) : (KX P).lookup 962 = some ⟨.type "function", none, .func f962, #[]⟩ := by kernel_rfl
theorem ntype_t {sc sx en tp tv x : Addr} {o : Obj} {k1 k2 k3 k4 k5 k6 k7 k8 k9 t1 t2 t3 t4 t5 t6 t7 t8 : Tok} {n1 n2 : Nat} {a1 : Addr} {e1 e2 e3 : Tok} {n0 : Nat} {news : Led}
    (B : Below A₀ base outer h₀) (F : Fr h₀ L s.heap m) (X : (KX w.params).In h₀) (N : News h₀ L s.heap news) (T : TopM mean mg mb h₀)
    (hk : cs.kind = .function) (hd : dp + 14 < recursionLimit) (hu : un + 320 < cLine) (s1 : (sc, instObj 1286 sx) ∈ news) (s2 : (sx, dictOf (scEs w k1 k2 k3 k4 k5 k6 k7 k8 k9 t1 t2 t3 t4 x en) 9) ∈ news) (s3 : (en, o) ∈ news) (s4 : o.IsDictOf (PySem.strKind pwO w) [(S "n", .ref tp)]) (s5 : (en == sysModules) = false) (s6 : (tp, tupN [.str (S "param") t5, .ref tv, .bool true] n1) ∈ news) (s7 : (tv, tupN [.int 3 t6, .int 5 t7, .int 0 t8] n2) ∈ news) (m0 : (a1, tupN [.str (S "id") e1, .int 0 e2, .str (S "n") e3] n0) ∈ news)
    (ret : ∀ D u n h' tk', Fr h₀ L h' m → News h₀ L h' ((D, tupN [.int 3 u, .bool true] n) :: news) → (∀ p ∈ news, @LT.lt Nat _ p.1 D) → Q (.ref D) { s with heap := h', toks := tk' }) :
    wpAny (model pwO w) (ktrTop dp un gd cn cs L a ccd cl outer) (call (.ref 962) [.ref sc, .ref a1]) Q E s := by
  refine ?mG; exact ((by exact ?mB) : (let_mvar% ?mB := (by (
  refine wpAny_call ?_
  refine' code_def (binds := [(S "scope", Value.ref sc), (S "e", Value.ref a1)]) B F X N T rfl rfl hk (lk962 _) ?k7 ?k8 (BindsTo.of_eq rfl) (locs rfl) ?_ rfl rfl rfl (by decide)
  case k7 => k_is
  case k8 => ktr_room
  k_whole
  intro g' L' h' FG' F' N' B' X' T'
  dsimp only
  k_fold
  wtm_at "ks"
  (with_reducible rename Fr _ _ _ _ => F9)
  (with_reducible rename News _ _ _ _ => N9)
  (with_reducible rename _ ∧ AllLt _ _ => q1)
  exact ret _ _ _ _ _ F9 (nsub N9 (fun p hp => by (rcases List.mem_cons.mp hp with rfl | hp; · exact .head _); (repeat (refine List.Mem.tail _ ?_)); exact hp)) (fun p hp => of_allLt q1.2 p hp)
  ) : type_of% ?mG); have _ : True := trivial; type_of% ?mG))
local macro_rules | `(tactic| walk_at "call ref") => ct ``ntype_t "aaaaaeRVmmmqqmmm_" 8
theorem lk1039 (P) : (KX P).lookup 1039 = some ⟨.type "function", none, .func f1039, #[]⟩ := by kernel_rfl
theorem etype_t {sc sx en tp tv x : Addr} {o : Obj} {k1 k2 k3 k4 k5 k6 k7 k8 k9 t1 t2 t3 t4 t5 t6 t7 t8 : Tok} {n1 n2 : Nat} {a1 : Addr} {e1 e2 e3 : Tok} {n0 : Nat} {news : Led}
    (B : Below A₀ base outer h₀) (F : Fr h₀ L s.heap m) (X : (KX w.params).In h₀) (N : News h₀ L s.heap news) (T : TopM mean mg mb h₀)
    (hk : cs.kind = .function) (hd : dp + 16 < recursionLimit) (hu : un + 330 < cLine) (s1 : (sc, instObj 1286 sx) ∈ news) (s2 : (sx, dictOf (scEs w k1 k2 k3 k4 k5 k6 k7 k8 k9 t1 t2 t3 t4 x en) 9) ∈ news) (s3 : (en, o) ∈ news) (s4 : o.IsDictOf (PySem.strKind pwO w) [(S "n", .ref tp)]) (s5 : (en == sysModules) = false) (s6 : (tp, tupN [.str (S "param") t5, .ref tv, .bool true] n1) ∈ news) (s7 : (tv, tupN [.int 3 t6, .int 5 t7, .int 0 t8] n2) ∈ news) (m0 : (a1, tupN [.str (S "id") e1, .int 0 e2, .str (S "n") e3] n0) ∈ news)
    (ret : ∀ D u n h' tk', Fr h₀ L h' m → News h₀ L h' ((D, tupN [.int 3 u, .bool true] n) :: news) → (∀ p ∈ news, @LT.lt Nat _ p.1 D) → Q (.ref D) { s with heap := h', toks := tk' }) :
    wpAny (model pwO w) (ktrTop dp un gd cn cs L a ccd cl outer) (call (.ref 1039) [.ref sc, .ref a1]) Q E s := by
  refine ?mG; exact ((by exact ?mB) : (let_mvar% ?mB := (by (
  refine wpAny_call ?_
  refine' code_def (binds := [(S "scope", Value.ref sc), (S "e", Value.ref a1)]) B F X N T rfl rfl hk (lk1039 _) ?k7 ?k8 (BindsTo.of_eq rfl) (locs rfl) ?_ rfl rfl rfl (by decide)
  case k7 => k_is
  case k8 => ktr_room
  k_whole
  intro g' L' h' FG' F' N' B' X' T'
  dsimp only
  k_fold
  wtm_at "ks"
  (with_reducible rename Fr _ _ _ _ => F9)
  (with_reducible rename News _ _ _ _ => N9)
  (with_reducible rename ∀ p ∈ _ :: _, _ => q1)
  exact ret _ _ _ _ _ F9 (nsub N9 (fun p hp => by (rcases List.mem_cons.mp hp with rfl | hp; · exact .head _); (repeat (refine List.Mem.tail _ ?_)); exact hp)) (fun p hp => q1 p (.tail _ hp))
  ) : type_of% ?mG); have _ : True := trivial; type_of% ?mG))
local macro_rules | `(tactic| walk_at "call ref") => ct ``etype_t "aaaaaeRVmmmqqmmm_" 8
theorem lk969 (P) : (KX P).lookup 969 = some ⟨.type "function", none, .func f969, #[]⟩ := by kernel_rfl
theorem nvalue_t {sc sx en tp tv x : Addr} {o : Obj} {k1 k2 k3 k4 k5 k6 k7 k8 k9 t1 t2 t3 t4 t5 t6 t7 t8 : Tok} {n1 n2 : Nat} {a1 : Addr} {e1 e2 e3 : Tok} {n0 : Nat} {news : Led}
    (B : Below A₀ base outer h₀) (F : Fr h₀ L s.heap m) (X : (KX w.params).In h₀) (N : News h₀ L s.heap news) (T : TopM mean mg mb h₀)
    (hk : cs.kind = .function) (hd : dp + 16 < recursionLimit) (hu : un + 330 < cLine) (s1 : (sc, instObj 1286 sx) ∈ news) (s2 : (sx, dictOf (scEs w k1 k2 k3 k4 k5 k6 k7 k8 k9 t1 t2 t3 t4 x en) 9) ∈ news) (s3 : (en, o) ∈ news) (s4 : o.IsDictOf (PySem.strKind pwO w) [(S "n", .ref tp)]) (s5 : (en == sysModules) = false) (s6 : (tp, tupN [.str (S "param") t5, .ref tv, .bool true] n1) ∈ news) (s7 : (tv, tupN [.int 3 t6, .int 5 t7, .int 0 t8] n2) ∈ news) (m0 : (a1, tupN [.str (S "id") e1, .int 0 e2, .str (S "n") e3] n0) ∈ news)
    (ret : ∀ D u n h' tk', Fr h₀ L h' m → News h₀ L h' ((D, tupN [.str (S "const") u, .int 3 t6, .int 5 t7, .int 0 t8] n) :: news) → (∀ p ∈ news, @LT.lt Nat _ p.1 D) → Q (.ref D) { s with heap := h', toks := tk' }) :
    wpAny (model pwO w) (ktrTop dp un gd cn cs L a ccd cl outer) (call (.ref 969) [.ref sc, .ref a1]) Q E s := by
  refine ?mG; exact ((by exact ?mB) : (let_mvar% ?mB := (by (
  refine wpAny_call ?_
  refine' code_def (binds := [(S "scope", Value.ref sc), (S "e", Value.ref a1)]) B F X N T rfl rfl hk (lk969 _) ?k7 ?k8 (BindsTo.of_eq rfl) (locs rfl) ?_ rfl rfl rfl (by decide)
  case k7 => k_is
  case k8 => ktr_room
  k_whole
  intro g' L' h' FG' F' N' B' X' T'
  dsimp only
  k_fold
  wtm_at "ks"
  (with_reducible rename Fr _ _ _ _ => F9)
  (with_reducible rename News _ _ _ _ => N9)
  (with_reducible rename _ ∧ _ ∧ AllLt _ _ => q1)
  exact ret _ _ _ _ _ F9 (nsub N9 (fun p hp => by (rcases List.mem_cons.mp hp with rfl | hp; · exact .head _); (repeat (refine List.Mem.tail _ ?_)); exact hp)) (fun p hp => of_allLt q1.2.2 p hp)
  ) : type_of% ?mG); have _ : True := trivial; type_of% ?mG))
local macro_rules | `(tactic| walk_at "call ref") => ct ``nvalue_t "aaaaaeRVmmmqqmmm_" 8
theorem lk1060 (P) : (KX P).lookup 1060 = some ⟨.type "function", none, .func f1060, #[]⟩ := by kernel_rfl
theorem build_t {sc sx en tp tv x : Addr} {o : Obj} {k1 k2 k3 k4 k5 k6 k7 k8 k9 t1 t2 t3 t4 t5 t6 t7 t8 : Tok} {n1 n2 : Nat} {a1 : Addr} {e1 e2 e3 : Tok} {n0 : Nat} {eu : Tok} {news : Led}
    (B : Below A₀ base outer h₀) (F : Fr h₀ L s.heap m) (X : (KX w.params).In h₀) (N : News h₀ L s.heap news) (T : TopM mean mg mb h₀)
    (hk : cs.kind = .function) (hd : dp + 18 < recursionLimit) (hu : un + 340 < cLine) (s1 : (sc, instObj 1286 sx) ∈ news) (s2 : (sx, dictOf (scEs w k1 k2 k3 k4 k5 k6 k7 k8 k9 t1 t2 t3 t4 x en) 9) ∈ news) (s3 : (en, o) ∈ news) (s4 : o.IsDictOf (PySem.strKind pwO w) [(S "n", .ref tp)]) (s5 : (en == sysModules) = false) (s6 : (tp, tupN [.str (S "param") t5, .ref tv, .bool true] n1) ∈ news) (s7 : (tv, tupN [.int 3 t6, .int 5 t7, .int 0 t8] n2) ∈ news) (m0 : (a1, tupN [.str (S "id") e1, .int 0 e2, .str (S "n") e3] n0) ∈ news)
    (ret : ∀ D u n h' tk', Fr h₀ L h' m → News h₀ L h' ((D, tupN [.str (S "const") u, .int 3 t6, .int 5 t7, .int 0 t8] n) :: news) → (∀ p ∈ news, @LT.lt Nat _ p.1 D) → Q (.ref D) { s with heap := h', toks := tk' }) :
    wpAny (model pwO w) (ktrTop dp un gd cn cs L a ccd cl outer) (call (.ref 1060) [.ref sc, .ref a1, .int 3 eu, .bool true]) Q E s := by
  refine ?mG; exact ((by exact ?mB) : (let_mvar% ?mB := (by (
  refine wpAny_call ?_
  refine' code_def (binds := [(S "scope", Value.ref sc), (S "e", Value.ref a1), (S "w", Value.int 3 eu), (S "signed", Value.bool true)]) B F X N T rfl rfl hk (lk1060 _) ?k7 ?k8 (BindsTo.of_eq rfl) (locs rfl) ?_ rfl rfl rfl (by decide)
  case k7 => k_is
  case k8 => ktr_room
  k_whole
  intro g' L' h' FG' F' N' B' X' T'
  dsimp only
  k_fold
  wtm_at "ks"
  (with_reducible rename Fr _ _ _ _ => F9)
  (with_reducible rename News _ _ _ _ => N9)
  exact ret _ _ _ _ _ F9 N9 (by assumption)
  ) : type_of% ?mG); have _ : True := trivial; type_of% ?mG))
local macro_rules | `(tactic| walk_at "call ref") => ct ``build_t "aaaaaeRVmmmqqmmm_" 8
end
end
section
open PySem PySem.W PyProof.Rows PySem.Calls
set_option maxRecDepth 100000
set_option maxHeartbeats 0
set_option Elab.async false
set_option compiler.extract_closed false
set_option compiler.reuse false
set_option linter.unusedVariables false
set_option pp.deepTerms false
section
variable {w : World} {mean : ExcName → Option Value} {mg mb : Str → Option Value} {dp un : Nat} {gd : Option (List Code)} {cn : Str} {cs : Scope} {a : Addr} {ccd : Value} {cl : List (Str × Addr)} {A₀ : Around} {outer : List Env} {base h₀ : Heap} {L : Addr} {m : Str → Option Value} {s : Shared} {Q E : Value → Shared → Prop}

local macro_rules | `(tactic| walk_at "mine no such key") => `(tactic| skip)
local macro_rules | `(tactic| walk_at "mine no such key") => `(tactic| skip)
local macro_rules | `(tactic| walk_at "subscriptTail Name Slice ref ref") => sliceAB 0 2
local macro_rules | `(tactic| walk_at "call ref") => ct ``etype_t "aaaaaeRVmmmqqmmm_" 8
local macro_rules | `(tactic| walk_at "call ref") => ct ``build_t "aaaaaeRVmmmqqmmm_" 8
theorem keep2_4 {a b c1 c2 c3 : Addr × Obj} {l : Led} : ∀ p ∈ [a, b] ++ l, p ∈ a :: b :: c1 :: c2 :: c3 :: l := by
  refine ?mG; exact ((by exact ?mB) : (let_mvar% ?mB := (by (
  intro p hp
  rcases List.mem_cons.mp hp with rfl | hp
  · exact .head _
  · rcases List.mem_cons.mp hp with rfl | hp
    · exact .tail _ (.head _)
    · exact .tail _ (.tail _ (.tail _ (.tail _ (.tail _ hp))))
  ) : type_of% ?mG); have _ : True := trivial; type_of% ?mG))
theorem const_id {sc : Addr} {v : Value} {news : Led}
    (B : Below A₀ base outer h₀) (F : Fr h₀ L s.heap m) (X : (KX w.params).In h₀) (N : News h₀ L s.heap news) (T : TopM mean mg mb h₀)
    (hk : cs.kind = .function) (hd : dp + 24 < recursionLimit) (hu : un + 600 < cLine) (hD : DatIn news v idD) (hsc : ScopeIn w news sc)
    (ret : ∀ r ent h' tk', Fr h₀ L h' m → News h₀ L h' (ent ++ news) → (∀ p ∈ news, ∀ q ∈ ent, @LT.lt Nat _ p.1 q.1) → DatIn ent r (.tuple [.tuple [.int 3, .int 5, .int 0], .bool true]) → Q r { s with heap := h', toks := tk' }) :
    wpAny (model pwO w) (ktrTop dp un gd cn cs L a ccd cl outer) (call (.ref 1088) [.ref sc, v]) Q E s := by
  refine ?mG; exact ((by exact ?mB) : (let_mvar% ?mB := (by (
  obtain ⟨a1, n1, v1, v2, v3, rfl, m1, e1, e2, e3⟩ := inv3 hD
  obtain ⟨t1, rfl⟩ := d_str e1
  obtain ⟨t2, rfl⟩ := d_int e2
  obtain ⟨t3, rfl⟩ := d_str e3
  obtain ⟨sx, en, o, tp, tv, x, n1, n2, k1, k2, k3, k4, k5, k6, k7, k8, k9, u1, u2, u3, u4, u5, u6, u7, u8, s1, s2, s3, s4, s5, s6, s7⟩ := hsc
  refine wpAny_call ?_
  refine' code_def (binds := [(S "scope", Value.ref sc), (S "e", Value.ref a1)]) B F X N T rfl rfl hk (lk1088 _) ?k7 ?k8 (BindsTo.of_eq rfl) (locs rfl) ?_ rfl rfl rfl (by decide)
  case k7 => k_is
  case k8 => ktr_room
  k_whole
  intro g' L' h' FG' F' N' B' X' T'
  (try dsimp only)
  k_fold
  wtm_at "ks"
  (with_reducible rename Fr _ _ _ _ => F9)
  (with_reducible rename News _ _ _ _ => N9)
  (with_reducible rename _ ∧ _ ∧ _ ∧ AllLt _ _ => q8)
  (with_reducible rename _ ∧ _ ∧ _ ∧ _ ∧ AllLt _ _ => q9)
  refine ret _ _ _ _ F9 (nsub N9 keep2_4) (fun p hp q hq => ?_) (.tuple (.head _) (.cons (.tuple mm1 (.cons (.int _ _) (.cons (.int _ _) (.cons (.int _ _) .nil)))) (.cons (.bool _) .nil)))
  rcases List.mem_cons.mp hq with rfl | hq
  · exact of_allLt q9.2.2.2.2 p hp
  · rw [List.mem_singleton.mp hq]
    exact of_allLt q8.2.2.2 p hp
  ) : type_of% ?mG); have _ : True := trivial; type_of% ?mG))
end
end
section
open PySem PySem.W PyProof.Rows PySem.Calls
set_option maxRecDepth 100000
set_option maxHeartbeats 0
set_option Elab.async false
set_option compiler.extract_closed false
set_option compiler.reuse false
set_option linter.unusedVariables false
set_option pp.deepTerms false
section
variable {w : World} {mean : ExcName → Option Value} {mg mb : Str → Option Value} {dp un : Nat} {gd : Option (List Code)} {cn : Str} {cs : Scope} {a : Addr} {ccd : Value} {cl : List (Str × Addr)} {A₀ : Around} {outer : List Env} {base h₀ : Heap} {L : Addr} {m : Str → Option Value} {s : Shared} {Q E : Value → Shared → Prop}

theorem len_tupK {prog : Program} {A : Around} {E : Value → Shared → Prop} {t : Addr} {us : List Value} {c : Nat} {news : Led} {Q : Value → Shared → Prop} (N : News h₀ L s.heap news) (hm : (t, tupN us c) ∈ news) (hfit : (us.length : Int) < 2 ^ 63)
    (h : Q (.int (us.length : Int) (s.toks + 1)) { s with toks := s.toks + 1 + 1 }) : wpAny (model prog w) A (call (.builtin "len") [.ref t]) Q E s := by
  have hl : IsTup s.heap t us.toArray := ⟨_, (N _ hm).1, rfl, c, rfl⟩
  exact len_tuple hl (by rw [List.size_toArray]; exact hfit) (by rw [List.size_toArray]; exact h)
theorem seqIdx {i n : Nat} (h : i < n) : seqIndex? (0 + (i : Int)) n = some i := by
  refine ?mG; exact ((by exact ?mB) : (let_mvar% ?mB := (by (
  unfold seqIndex?
  rw [Int.zero_add]
  have h1 : ¬ ((i : Int) < 0) := by wtm_at "om"
  simp only [h1, if_false]
  have h2 : (decide (0 ≤ (i : Int)) && decide ((i : Int) < (n : Int))) = true := by simp; wtm_at "om"
  simp [h]
  ) : type_of% ?mG); have _ : True := trivial; type_of% ?mG))
theorem list_item {prog : Program} {A : Around} {E : Value → Shared → Prop} {value slice : Expr} {l : Addr} {vs : List Value} {c i : Nat} {u : Tok} {x : Value} {news : Led} {Q : Value → Shared → Prop} (N : News h₀ L s.heap news) (hm : (l, listOf vs.toArray c) ∈ news) (hx : vs[i]? = some x) (hz : vs.length ≤ 16777216) (h : Q x s)
    (hs : subscripted slice false (.ref l) (.int (0 + (i : Int)) u) = operate [.ref l, .int (0 + (i : Int)) u] (getItem (.ref l) (.int (0 + (i : Int)) u)) := by with_unfolding_all rfl) :
    wpAny (model prog w) A (subscriptTail value slice (.ref l) (.int (0 + (i : Int)) u)) Q E s := by
  refine ?mG; exact ((by exact ?mB) : (let_mvar% ?mB := (by (
  have hL := isL N hm
  have hi : i < vs.length := by
    by_cases hh : i < vs.length
    · exact hh
    · rw [List.getElem?_eq_none (Nat.le_of_not_lt hh)] at hx; cases hx
  exact tail_any hL.typeIs slot_list_getitem.lookup (wpAny_getItem_list hL (by wtm_at "om") (by wtm_at "om") (by rw [Int.zero_add]; simpa using hx) h) hs
  ) : type_of% ?mG); have _ : True := trivial; type_of% ?mG))
theorem ScopeIn.mono {w : World} {l l' : Led} {sc : Addr} (h : ScopeIn w l sc) (s : ∀ p ∈ l, p ∈ l') : ScopeIn w l' sc := by
  obtain ⟨sx, en, o, tp, tv, x, n1, n2, k1, k2, k3, k4, k5, k6, k7, k8, k9, u1, u2, u3, u4, u5, u6, u7, u8, s1, s2, s3, s4, s5, s6, s7⟩ := h
  exact ⟨sx, en, o, tp, tv, x, n1, n2, k1, k2, k3, k4, k5, k6, k7, k8, k9, u1, u2, u3, u4, u5, u6, u7, u8, s _ s1, s _ s2, s _ s3, s4, s5, s _ s6, s _ s7⟩
theorem ovSub {a b c : Addr × Obj} {l1 l2 l3 : Led} : ∀ p ∈ a :: b :: c :: ((l1 ++ l2) ++ l3), p ∈ l1 ++ a :: b :: c :: (l2 ++ l3) := by
  intro p hp
  simp only [List.mem_cons, List.mem_append] at hp ⊢
  rcases hp with h | h | h | (h | h) | h <;> simp [h]
theorem mneF {k k' : Str} {x : Option Value} {y r : Option Value} (h : k ≠ k') (e : y = r) : (if k = k' then x else y) = r := by rw [if_neg h]; exact e
local macro_rules | `(tactic| wtm_at "kmap") => `(tactic| ((try dsimp only); (repeat (refine mne (by decide) ?_)); first | exact if_pos rfl | with_reducible assumption))
local macro_rules | `(tactic| walk_at "subscriptTail Name Name ref int") => holdS
local macro_rules | `(tactic| walk_at "call builtin:len") => holdS
local macro_rules | `(tactic| walk_at "setItem ref str") => holdS
theorem ovKeep {a b c d : Addr × Obj} {l1 l2 : Led} : ∀ p ∈ a :: l2, p ∈ a :: b :: c :: d :: (l1 ++ l2) := by
  intro p hp
  simp only [List.mem_cons, List.mem_append] at hp ⊢
  rcases hp with h | h <;> simp [h]
theorem lk1143 (P) : (KX P).lookup 1143 = some ⟨.type "function", none, .func f1143, #[]⟩ := by kernel_rfl
/-- an expression of an override -/
inductive Ex where
  | idn
  | num (wd vl : Int) (sg : Bool)
noncomputable def Ex.dat : Ex → Dat
  | .idn => idD
  | .num wd vl sg => numD wd vl sg
noncomputable def Ex.ok : Ex → Prop
  | .idn => True
  | .num wd vl _ => 1 ≤ wd ∧ wd ≤ 5 ∧ 0 ≤ vl ∧ vl < 2 ^ wd.toNat
noncomputable def Ex.val : Ex → Dat
  | .idn => .tuple [.tuple [.int 3, .int 5, .int 0], .bool true]
  | .num wd vl sg => .tuple [.tuple [.int wd, .int vl, .int 0], .bool sg]
structure Ov where
  name : Option Str
  e : Option Ex
noncomputable def optD : Option Str → Dat
  | none => .none
  | some x => .str x
noncomputable def Ov.dat (o : Ov) : Dat := .tuple [optD o.name, match o.e with | none => .none | some x => x.dat]
noncomputable abbrev Tab := List (Str × Dat)
noncomputable def put (tab : Tab) (k : Str) (d : Dat) : Tab := if (tab.any fun q => decide (q.1 = k)) = true then tab.map fun kv => if kv.1 = k then (kv.1, d) else kv else tab ++ [(k, d)]
noncomputable def ovKey (ord : List Str) (i : Nat) (o : Ov) : Option Str := match o.name with | some x => some x | none => ord[i]?
noncomputable def ovStep (ord : List Str) (i : Nat) (o : Ov) (tab : Tab) : Option Tab := (ovKey ord i o).map fun k => match o.e with | none => tab | some x => put tab k x.val
noncomputable def ovAt (ord : List Str) (ovs : List Ov) : Nat → Option Tab
  | 0 => some []
  | i + 1 => (ovAt ord ovs i).bind fun tab => match ovs[i]? with | some o => ovStep ord i o tab | none => some tab
theorem ovAt_none {ord : List Str} {ovs : List Ov} : ∀ {n i : Nat}, i ≤ n → ovAt ord ovs i = none → ovAt ord ovs n = none := by
  intro n i h e
  induction h with
  | refl => exact e
  | step _ ih => rw [ovAt, ih]; rfl
noncomputable def TabIn (l : Led) (kvs : List (Str × Value)) (tab : Tab) : Prop := kvs.map Prod.fst = tab.map Prod.fst ∧ DatAll l (kvs.map Prod.snd) (tab.map Prod.snd)
theorem TabIn.mono {l l' : Led} (s : ∀ p ∈ l, p ∈ l') {kvs : List (Str × Value)} {tab : Tab} (h : TabIn l kvs tab) : TabIn l' kvs tab := ⟨h.1, h.2.mono s⟩
theorem TabIn.cons {l : Led} {k : Str} {v : Value} {d : Dat} {kvs : List (Str × Value)} {tab : Tab} (h : DatIn l v d) (r : TabIn l kvs tab) : TabIn l ((k, v) :: kvs) ((k, d) :: tab) :=
  ⟨by rw [List.map_cons, List.map_cons, r.1], .cons h r.2⟩
theorem TabIn.inv {l : Led} {k : Str} {v : Value} {kvs : List (Str × Value)} {tab : Tab} (h : TabIn l ((k, v) :: kvs) tab) : ∃ d t', tab = (k, d) :: t' ∧ DatIn l v d ∧ TabIn l kvs t' := by
  refine ?mG; exact ((by exact ?mB) : (let_mvar% ?mB := (by (
  obtain ⟨h1, h2⟩ := h
  cases tab with
  | nil => simp at h1
  | cons q t' =>
    obtain ⟨k', d⟩ := q
    rw [List.map_cons, List.map_cons] at h1
    obtain ⟨e1, h3⟩ := List.cons.inj h1
    cases e1
    rw [List.map_cons, List.map_cons] at h2
    cases h2 with
    | cons a b => exact ⟨d, t', rfl, a, h3, b⟩
  ) : type_of% ?mG); have _ : True := trivial; type_of% ?mG))
theorem TabIn.nil_inv {l : Led} {tab : Tab} (h : TabIn l [] tab) : tab = [] := by
  cases tab with
  | nil => rfl
  | cons q t' => have := h.1; simp at this
theorem TabIn.put {l : Led} {k : Str} {v : Value} {d : Dat} {kvs : List (Str × Value)} {tab : Tab} (h : TabIn l kvs tab) (hv : DatIn l v d) : TabIn l (stored kvs k v) (put tab k d) := by
  refine ?mG; exact ((by exact ?mB) : (let_mvar% ?mB := (by (
  have hany : (kvs.any fun q => decide (q.1 = k)) = (tab.any fun q => decide (q.1 = k)) := by
    rw [show (kvs.any fun q => decide (q.1 = k)) = ((kvs.map Prod.fst).any fun x => decide (x = k)) by rw [List.any_map]; rfl, h.1, List.any_map]; rfl
  unfold stored Mine.put
  rw [hany]
  split
  · clear hany
    rename_i hh
    clear hh
    induction kvs generalizing tab with
    | nil => obtain rfl := h.nil_inv; exact ⟨rfl, .nil⟩
    | cons q r ih =>
      obtain ⟨k', v'⟩ := q
      obtain ⟨d', t', rfl, a, b⟩ := h.inv
      rw [List.map_cons, List.map_cons]
      (try dsimp only)
      split
      · exact .cons hv (ih b)
      · exact .cons a (ih b)
  · refine ⟨by rw [List.map_append, List.map_append, h.1]; rfl, ?_⟩
    rw [List.map_append, List.map_append]
    exact h.2.append (.one hv)
  ) : type_of% ?mG); have _ : True := trivial; type_of% ?mG))
theorem put_len (tab : Tab) (k : Str) (d : Dat) : (put tab k d).length ≤ tab.length + 1 := by
  unfold put
  split
  · rw [List.length_map]; wtm_at "om"
  · rw [List.length_append]; exact Nat.le_refl _
theorem ovAt_len {ord : List Str} {ovs : List Ov} : ∀ {i : Nat} {tab : Tab}, ovAt ord ovs i = some tab → tab.length ≤ i := by
  refine ?mG; exact ((by exact ?mB) : (let_mvar% ?mB := (by (
  intro i
  induction i with
  | zero => intro tab h; cases h; exact Nat.le_refl _
  | succ i ih =>
    intro tab h
    rw [ovAt] at h
    obtain ⟨t0, h0, h1⟩ := Option.bind_eq_some_iff.mp h
    have := ih h0
    cases ho : ovs[i]? with
    | none => rw [ho] at h1; cases h1; wtm_at "om"
    | some o =>
      rw [ho] at h1
      obtain ⟨k, _, rfl⟩ := Option.map_eq_some_iff.mp h1
      split
      · wtm_at "om"
      · have := put_len t0 k (Ex.val ‹_›); wtm_at "om"
  ) : type_of% ?mG); have _ : True := trivial; type_of% ?mG))
inductive OvJ (w : World) (d ol sc ao : Addr) (us : List Value) (n : Nat) (news : Led) (t8 : Tok) (ord : List Str) (ovs : List Ov) (i : Nat) (m : Str → Option Value) (nx : Led) : Prop
  | mk (o : Obj) (kvs : List (Str × Value)) (tab : Tab) (ent : Led)
    (h0 : nx = (d, o) :: (ol, listOf us.toArray n) :: (ent ++ news))
    (h1 : o.IsDictOf (PySem.strKind pwO w) kvs)
    (h2 : TabIn ent kvs tab)
    (h3 : ovAt ord ovs i = some tab)
    (h4 : (∀ p ∈ ent, p.1 ≠ d ∧ p.1 ≠ ol ∧ ∀ q ∈ news, q.1 ≠ p.1))
    (h5 : m (S "table") = some (.ref d))
    (h6 : m (S "ordered") = some (.ref ol))
    (h7 : m (S "scope") = some (.ref sc))
    (h8 : m (S "overrides") = some (.ref ao))
    (h9 : m (S "at") = some (.int 8 t8))
local macro_rules | `(tactic| walk_at "execs cons") => `(tactic| (refine wpAny_execs_cons ?_; wtm_at "q_let"))
theorem over_t {sc ao : Addr} {v : Value} {hs bs : List Pm} {ovs : List Ov} {vo : List Value} {no : Nat} {t8 : Tok} {news : Led}
    (B : Below A₀ base outer h₀) (F : Fr h₀ L s.heap m) (X : (KX w.params).In h₀) (N : News h₀ L s.heap news) (T : TopM mean mg mb h₀)
    (hk : cs.kind = .function) (hd : dp + 36 < recursionLimit) (hu : un + 800 < cLine) (hD : DatIn news v (srcD hs bs)) (hl1 : hs.length ≤ 100) (hl2 : bs.length ≤ 100) (hsc : ScopeIn w news sc)
    (hm : (ao, tupN vo no) ∈ news) (hO : DatAll news vo (ovs.map Ov.dat)) (hlo : ovs.length ≤ 100) (hok : ∀ o ∈ ovs, ∀ x, o.e = some x → x.ok)
    (ret : ∀ tab, ovAt (ordX hs bs) ovs ovs.length = some tab → ∀ r o kvs ent h' tk', Fr h₀ L h' m → News h₀ L h' ((r, o) :: (ent ++ news)) → o.IsDictOf (PySem.strKind pwO w) kvs → TabIn ent kvs tab → (r == sysModules) = false → (∀ p ∈ ent ++ news, p.1 ≠ r) → (∀ p ∈ ent, ∀ q ∈ news, q.1 ≠ p.1) → Q (.ref r) { s with heap := h', toks := tk' })
    (exc : ovAt (ordX hs bs) ovs ovs.length = none → ExcQ w A₀ base h₀ L m (envX cn cs L a ccd cl) outer news (S "too_many_parameters") 8 s E) :
    wpAny (model pwO w) (ktrTop dp un gd cn cs L a ccd cl outer) (call (.ref 1143) [.ref sc, v, .ref ao, .int 8 t8]) Q E s := by
  refine ?mG; exact ((by exact ?mB) : (let_mvar% ?mB := (by (
  obtain ⟨a1, vs1, n1, rfl, m1, r1⟩ := d_tup hD
  have hol := hO.length
  rw [List.length_map] at hol
  refine wpAny_call ?_
  refine' code_def (binds := [(S "scope", Value.ref sc), (S "module", .ref a1), (S "overrides", .ref ao), (S "at", .int 8 t8)]) B F X N T rfl rfl hk (lk1143 _) ?k7 ?k8 (BindsTo.of_eq rfl) (locs rfl) ?_ rfl rfl rfl (by decide)
  case k7 => k_is
  case k8 => ktr_room
  k_whole
  intro g' L' h' FG' F' N' B' X' T'
  (try dsimp only)
  k_fold
  k_steps
  (with_reducible rename Fr _ _ _ _ => F1)
  (with_reducible rename News _ _ _ _ => N1)
  rename_i d _ o1 l1 lo1 hs1 _ _ _ _
  show wpAny _ _ _ _ _ _
  refine oparams_t B' F1 X' N1 T' rfl (by ktr_room) (by ktr_units) (DatIn.mono (fun p hp => .tail _ hp) hD) hl1 hl2 fun ol us n h5 tk5 F5 N5 l5 hU hul => ?_
  (try dsimp only)
  k_steps
  (with_reducible rename News _ _ _ _ => N6)
  show wpAny _ _ _ _ _ _
  refine len_tupK N6 (.tail _ (.tail _ hm)) (by wtm_at "om") ?_
  (try dsimp only)
  k_steps
  (with_reducible rename IsRange _ _ _ _ _ _ _ _ => hR)
  (with_reducible rename Fr _ _ _ _ => F7)
  (with_reducible rename News _ _ _ _ => N7)
  show wpAny _ _ _ _ _ _
  have hUl := hU.length
  rw [List.length_map] at hUl
  have hdo : ol ≠ d := fun e => l5 (d, o1) (.head _) e.symm
  have hnd : ∀ p ∈ news, p.1 ≠ d := fun p hp => Nat.ne_of_lt (l1 p hp)
  have hno : ∀ p ∈ news, p.1 ≠ ol := fun p hp => l5 p (.tail _ hp)
  have N8 := nsub N7 (l' := (d, o1) :: (ol, listOf us.toArray n) :: ([] ++ news)) fun p hp => by
    simp only [List.mem_cons, List.nil_append] at hp ⊢
    rcases hp with h | h | h
    · exact .inr (.inl h)
    · exact .inl h
    · exact .inr (.inr h)
  clear N7
  refine iterJ_range (n := ovs.length) (OvJ w d ol sc ao us n news t8 (ordX hs bs) ovs) rfl hR (small_zero (by wtm_at "om")) (by rw [rangeSize_nat]; wtm_at "om") F7 N8 ⟨o1, [], [], [], rfl, hs1, ⟨rfl, .nil⟩, rfl, (fun _ h => nomatch h), rfl, rfl, rfl, rfl, rfl⟩ ?_ ?_
  · rintro I i t m₁ _ h tk oI hlt hi ⟨o, kvs, tab, ent, rfl, hO', hT, hA, hE, q1, q2, q3, q4, q5⟩ hne F8 N8
    have G1 := know F8 (k := S "table") (v := .ref d) (by rw [if_neg (by decide)]; exact q1)
    have G2 := know G1 (k := S "ordered") (v := .ref ol) (by rw [if_neg (by decide), if_neg (by decide)]; exact q2)
    have G3 := know G2 (k := S "scope") (v := .ref sc) (by rw [if_neg (by decide), if_neg (by decide), if_neg (by decide)]; exact q3)
    have G4 := know G3 (k := S "overrides") (v := .ref ao) (by rw [if_neg (by decide), if_neg (by decide), if_neg (by decide), if_neg (by decide)]; exact q4)
    have G5 := know G4 (k := S "at") (v := .int 8 t8) (by rw [if_neg (by decide), if_neg (by decide), if_neg (by decide), if_neg (by decide), if_neg (by decide)]; exact q5)
    replace G5 : Fr g' L' h _ := G5
    replace N8 : News g' L' h _ := N8
    clear G1 G2 G3 G4 F8 F7
    obtain ⟨v0, hv0, hv1⟩ := hO.get (k := i) (by rw [List.length_map]; exact hi)
    rw [List.getElem_map] at hv1
    have hov : ovs[i]? = some (ovs[i]'hi) := List.getElem?_eq_getElem hi
    have hokE := hok _ (List.getElem_mem hi)
    generalize ovs[i]'hi = ov at hv1 hov hokE
    obtain ⟨nm, ex⟩ := ov
    obtain ⟨b1, nb, w1, w2, rfl, hb, f1, f2⟩ := inv2 hv1
    have hbm : (b1, tupN [w1, w2] nb) ∈ (I, oI) :: (d, o) :: (ol, listOf us.toArray n) :: (ent ++ news) := .tail _ (.tail _ (.tail _ (List.mem_append_right _ hb)))
    k_steps
    show wpAny _ _ _ _ _ _
    refine tup_item N8 (.tail _ (.tail _ (.tail _ (List.mem_append_right _ hm)))) (by wtm_at "om") (by wtm_at "om") (seqIdx (by rw [hol]; exact hi)) hv0 ?_
    (try dsimp only)
    cases nm with
    | some x =>
      obtain ⟨tx, rfl⟩ := d_str f1
      cases ex with
      | none =>
        obtain rfl := d_none f2
        k_steps
        (with_reducible rename Fr _ _ _ _ => FW)
        (with_reducible rename News _ _ _ _ => NW)
        refine ⟨_, _, _, _, rfl, FW, NW, hne, fun _ h => (nomatch h), o, kvs, tab, ent, rfl, hO', hT, ?_, hE, by wtm_at "kmap", by wtm_at "kmap", by wtm_at "kmap", by wtm_at "kmap", by wtm_at "kmap"⟩
        simp [ovAt, hA, hov, ovStep, ovKey]
      | some x0 =>
        have hok1 := hokE x0 rfl
        obtain ⟨aE, hE0⟩ : ∃ aE, w2 = .ref aE := by
          cases x0 <;> (obtain ⟨aE, _, _, e0, _⟩ := d_tup f2; exact ⟨aE, e0⟩)
        subst hE0
        cases x0 with
        | idn =>
          k_steps
          (with_reducible rename Fr _ _ _ _ => FW)
          (with_reducible rename News _ _ _ _ => NW)
          show wpAny _ _ _ _ _ _
          refine const_id B' FW X' NW T' rfl (by ktr_room) (by ktr_units) (DatIn.mono (fun p hp => .tail _ (.tail _ (.tail _ (List.mem_append_right _ hp)))) f2) (hsc.mono fun p hp => .tail _ (.tail _ (.tail _ (List.mem_append_right _ hp)))) fun r ent2 h9 tk9 F9 N9 l9 hR9 => ?_
          have lI : ∀ q ∈ ent2, @LT.lt Nat _ I q.1 := fun q hq => l9 _ (.head _) q hq
          have ld : ∀ q ∈ ent2, @LT.lt Nat _ d q.1 := fun q hq => l9 _ mm1 q hq
          have lol : ∀ q ∈ ent2, @LT.lt Nat _ ol q.1 := fun q hq => l9 _ mm2 q hq
          have ln : ∀ p ∈ news, ∀ q ∈ ent2, @LT.lt Nat _ p.1 q.1 := fun p hp q hq => l9 _ (.tail _ (.tail _ (.tail _ (List.mem_append_right _ hp)))) q hq
          have N10 := nsub N9 ovSub
          clear N9
          (try dsimp only)
          k_steps
          have hoff : ∀ p ∈ ((ol, listOf us.toArray n) :: ((ent2 ++ ent) ++ news) : Led), p.1 ≠ d := List.forall_mem_cons.mpr ⟨hdo, fun p hp => by
            rcases List.mem_append.mp hp with hp | hp
            · rcases List.mem_append.mp hp with hp | hp
              · exact Nat.ne_of_gt (ld p hp)
              · exact (hE p hp).1
            · exact hnd p hp⟩
          (with_reducible rename Fr _ _ _ _ => FX)
          (with_reducible rename News _ _ _ _ => NX)
          have hkl : kvs.length ≤ 100 := by
            have e1 := congrArg List.length hT.1
            rw [List.length_map, List.length_map] at e1
            have := ovAt_len hA
            wtm_at "om"
          show wpAny _ _ _ _ _ _
          refine kda_set FX NX (UpdF.tail (hne _ (.head _)).symm (UpdF.head hoff)) hO' (strKind_is _ _ _ _) (by rw [PySem.sizeLine_eq]; wtm_at "om") fun hA2 o2 FY NY hO2 => ?_
          (try dsimp only)
          k_steps
          refine ⟨_, _, _, _, rfl, FY, NY, ?_, fun _ h => (nomatch h), o2, _, put tab x (Ex.val .idn), ent2 ++ ent, rfl, hO2, TabIn.put (hT.mono fun p hp => List.mem_append_right _ hp) (hR9.mono fun p hp => List.mem_append_left _ hp), ?_, ?_, by wtm_at "kmap", by wtm_at "kmap", by wtm_at "kmap", by wtm_at "kmap", by wtm_at "kmap"⟩
          · refine List.forall_mem_cons.mpr ⟨show d ≠ I from hne (d, o) (.head _), List.forall_mem_cons.mpr ⟨hne _ mm1, fun p hp => ?_⟩⟩
            rcases List.mem_append.mp hp with hp | hp
            · rcases List.mem_append.mp hp with hp | hp
              · exact Nat.ne_of_gt (lI p hp)
              · exact hne _ (.tail _ (.tail _ (List.mem_append_left _ hp)))
            · exact hne _ (.tail _ (.tail _ (List.mem_append_right _ hp)))
          · simp [ovAt, hA, hov, ovStep, ovKey, Ex.val]
          · intro p hp
            rcases List.mem_append.mp hp with hp | hp
            · exact ⟨Nat.ne_of_gt (ld p hp), Nat.ne_of_gt (lol p hp), fun q hq => Nat.ne_of_lt (ln q hq p hp)⟩
            · exact hE p hp
        | num wd vl sg =>
          k_steps
          (with_reducible rename Fr _ _ _ _ => FW)
          (with_reducible rename News _ _ _ _ => NW)
          show wpAny _ _ _ _ _ _
          refine const_num B' FW X' NW T' rfl (by ktr_room) (by ktr_units) (DatIn.mono (fun p hp => .tail _ (.tail _ (.tail _ (List.mem_append_right _ hp)))) f2) hok1.1 hok1.2.1 hok1.2.2.1 hok1.2.2.2 rfl fun r ent2 h9 tk9 F9 N9 l9 hR9 => ?_
          have lI : ∀ q ∈ ent2, @LT.lt Nat _ I q.1 := fun q hq => l9 _ (.head _) q hq
          have ld : ∀ q ∈ ent2, @LT.lt Nat _ d q.1 := fun q hq => l9 _ mm1 q hq
          have lol : ∀ q ∈ ent2, @LT.lt Nat _ ol q.1 := fun q hq => l9 _ mm2 q hq
          have ln : ∀ p ∈ news, ∀ q ∈ ent2, @LT.lt Nat _ p.1 q.1 := fun p hp q hq => l9 _ (.tail _ (.tail _ (.tail _ (List.mem_append_right _ hp)))) q hq
          have N10 := nsub N9 ovSub
          clear N9
          (try dsimp only)
          k_steps
          have hoff : ∀ p ∈ ((ol, listOf us.toArray n) :: ((ent2 ++ ent) ++ news) : Led), p.1 ≠ d := List.forall_mem_cons.mpr ⟨hdo, fun p hp => by
            rcases List.mem_append.mp hp with hp | hp
            · rcases List.mem_append.mp hp with hp | hp
              · exact Nat.ne_of_gt (ld p hp)
              · exact (hE p hp).1
            · exact hnd p hp⟩
          (with_reducible rename Fr _ _ _ _ => FX)
          (with_reducible rename News _ _ _ _ => NX)
          have hkl : kvs.length ≤ 100 := by
            have e1 := congrArg List.length hT.1
            rw [List.length_map, List.length_map] at e1
            have := ovAt_len hA
            wtm_at "om"
          show wpAny _ _ _ _ _ _
          refine kda_set FX NX (UpdF.tail (hne _ (.head _)).symm (UpdF.head hoff)) hO' (strKind_is _ _ _ _) (by rw [PySem.sizeLine_eq]; wtm_at "om") fun hA2 o2 FY NY hO2 => ?_
          (try dsimp only)
          k_steps
          refine ⟨_, _, _, _, rfl, FY, NY, ?_, fun _ h => (nomatch h), o2, _, put tab x (Ex.val (.num wd vl sg)), ent2 ++ ent, rfl, hO2, TabIn.put (hT.mono fun p hp => List.mem_append_right _ hp) (hR9.mono fun p hp => List.mem_append_left _ hp), ?_, ?_, by wtm_at "kmap", by wtm_at "kmap", by wtm_at "kmap", by wtm_at "kmap", by wtm_at "kmap"⟩
          · refine List.forall_mem_cons.mpr ⟨show d ≠ I from hne (d, o) (.head _), List.forall_mem_cons.mpr ⟨hne _ mm1, fun p hp => ?_⟩⟩
            rcases List.mem_append.mp hp with hp | hp
            · rcases List.mem_append.mp hp with hp | hp
              · exact Nat.ne_of_gt (lI p hp)
              · exact hne _ (.tail _ (.tail _ (List.mem_append_left _ hp)))
            · exact hne _ (.tail _ (.tail _ (List.mem_append_right _ hp)))
          · simp [ovAt, hA, hov, ovStep, ovKey, Ex.val]
          · intro p hp
            rcases List.mem_append.mp hp with hp | hp
            · exact ⟨Nat.ne_of_gt (ld p hp), Nat.ne_of_gt (lol p hp), fun q hq => Nat.ne_of_lt (ln q hq p hp)⟩
            · exact hE p hp
    | none =>
      obtain rfl := d_none f1
      by_cases hio : i < (ordX hs bs).length
      · obtain ⟨xv, hxv, hxd⟩ := hU.get (k := i) (by rw [List.length_map]; exact hio)
        rw [List.getElem_map] at hxd
        obtain ⟨tx, rfl⟩ := d_str hxd
        have hkey : (ordX hs bs)[i]? = some ((ordX hs bs)[i]'hio) := List.getElem?_eq_getElem hio
        generalize (ordX hs bs)[i]'hio = x at hxv hkey hxd
        cases ex with
        | none =>
          obtain rfl := d_none f2
          k_steps
          show wpAny _ _ _ _ _ _
          refine kst_len (by k_asm) mm2 rfl (by wtm_at "om") ?_
          (try dsimp only)
          k_steps
          (with_reducible rename News _ _ _ _ => NV)
          show wpAny _ _ _ _ _ _
          refine list_item NV mm2 hxv (by wtm_at "om") ?_
          (try dsimp only)
          k_steps
          (with_reducible rename Fr _ _ _ _ => FW)
          (with_reducible rename News _ _ _ _ => NW)
          refine ⟨_, _, _, _, rfl, FW, NW, hne, fun _ h => (nomatch h), o, kvs, tab, ent, rfl, hO', hT, ?_, hE, by wtm_at "kmap", by wtm_at "kmap", by wtm_at "kmap", by wtm_at "kmap", by wtm_at "kmap"⟩
          simp [ovAt, hA, hov, ovStep, ovKey, hkey]
        | some x0 =>
          have hok1 := hokE x0 rfl
          obtain ⟨aE, hE0⟩ : ∃ aE, w2 = .ref aE := by
            cases x0 <;> (obtain ⟨aE, _, _, e0, _⟩ := d_tup f2; exact ⟨aE, e0⟩)
          subst hE0
          cases x0 with
          | idn =>
            k_steps
            show wpAny _ _ _ _ _ _
            refine kst_len (by k_asm) mm2 rfl (by wtm_at "om") ?_
            (try dsimp only)
            k_steps
            (with_reducible rename News _ _ _ _ => NV)
            show wpAny _ _ _ _ _ _
            refine list_item NV mm2 hxv (by wtm_at "om") ?_
            (try dsimp only)
            k_steps
            (with_reducible rename Fr _ _ _ _ => FW)
            (with_reducible rename News _ _ _ _ => NW)
            show wpAny _ _ _ _ _ _
            refine const_id B' FW X' NW T' rfl (by ktr_room) (by ktr_units) (DatIn.mono (fun p hp => .tail _ (.tail _ (.tail _ (List.mem_append_right _ hp)))) f2) (hsc.mono fun p hp => .tail _ (.tail _ (.tail _ (List.mem_append_right _ hp)))) fun r ent2 h9 tk9 F9 N9 l9 hR9 => ?_
            have lI : ∀ q ∈ ent2, @LT.lt Nat _ I q.1 := fun q hq => l9 _ (.head _) q hq
            have ld : ∀ q ∈ ent2, @LT.lt Nat _ d q.1 := fun q hq => l9 _ mm1 q hq
            have lol : ∀ q ∈ ent2, @LT.lt Nat _ ol q.1 := fun q hq => l9 _ mm2 q hq
            have ln : ∀ p ∈ news, ∀ q ∈ ent2, @LT.lt Nat _ p.1 q.1 := fun p hp q hq => l9 _ (.tail _ (.tail _ (.tail _ (List.mem_append_right _ hp)))) q hq
            have N10 := nsub N9 ovSub
            clear N9
            (try dsimp only)
            k_steps
            have hoff : ∀ p ∈ ((ol, listOf us.toArray n) :: ((ent2 ++ ent) ++ news) : Led), p.1 ≠ d := List.forall_mem_cons.mpr ⟨hdo, fun p hp => by
              rcases List.mem_append.mp hp with hp | hp
              · rcases List.mem_append.mp hp with hp | hp
                · exact Nat.ne_of_gt (ld p hp)
                · exact (hE p hp).1
              · exact hnd p hp⟩
            (with_reducible rename Fr _ _ _ _ => FX)
            (with_reducible rename News _ _ _ _ => NX)
            have hkl : kvs.length ≤ 100 := by
              have e1 := congrArg List.length hT.1
              rw [List.length_map, List.length_map] at e1
              have := ovAt_len hA
              wtm_at "om"
            show wpAny _ _ _ _ _ _
            refine kda_set FX NX (UpdF.tail (hne _ (.head _)).symm (UpdF.head hoff)) hO' (strKind_is _ _ _ _) (by rw [PySem.sizeLine_eq]; wtm_at "om") fun hA2 o2 FY NY hO2 => ?_
            (try dsimp only)
            k_steps
            refine ⟨_, _, _, _, rfl, FY, NY, ?_, fun _ h => (nomatch h), o2, _, put tab x (Ex.val .idn), ent2 ++ ent, rfl, hO2, TabIn.put (hT.mono fun p hp => List.mem_append_right _ hp) (hR9.mono fun p hp => List.mem_append_left _ hp), ?_, ?_, by wtm_at "kmap", by wtm_at "kmap", by wtm_at "kmap", by wtm_at "kmap", by wtm_at "kmap"⟩
            · refine List.forall_mem_cons.mpr ⟨show d ≠ I from hne (d, o) (.head _), List.forall_mem_cons.mpr ⟨hne _ mm1, fun p hp => ?_⟩⟩
              rcases List.mem_append.mp hp with hp | hp
              · rcases List.mem_append.mp hp with hp | hp
                · exact Nat.ne_of_gt (lI p hp)
                · exact hne _ (.tail _ (.tail _ (List.mem_append_left _ hp)))
              · exact hne _ (.tail _ (.tail _ (List.mem_append_right _ hp)))
            · simp [ovAt, hA, hov, ovStep, ovKey, Ex.val, hkey]
            · intro p hp
              rcases List.mem_append.mp hp with hp | hp
              · exact ⟨Nat.ne_of_gt (ld p hp), Nat.ne_of_gt (lol p hp), fun q hq => Nat.ne_of_lt (ln q hq p hp)⟩
              · exact hE p hp
          | num wd vl sg =>
            k_steps
            show wpAny _ _ _ _ _ _
            refine kst_len (by k_asm) mm2 rfl (by wtm_at "om") ?_
            (try dsimp only)
            k_steps
            (with_reducible rename News _ _ _ _ => NV)
            show wpAny _ _ _ _ _ _
            refine list_item NV mm2 hxv (by wtm_at "om") ?_
            (try dsimp only)
            k_steps
            (with_reducible rename Fr _ _ _ _ => FW)
            (with_reducible rename News _ _ _ _ => NW)
            show wpAny _ _ _ _ _ _
            refine const_num B' FW X' NW T' rfl (by ktr_room) (by ktr_units) (DatIn.mono (fun p hp => .tail _ (.tail _ (.tail _ (List.mem_append_right _ hp)))) f2) hok1.1 hok1.2.1 hok1.2.2.1 hok1.2.2.2 rfl fun r ent2 h9 tk9 F9 N9 l9 hR9 => ?_
            have lI : ∀ q ∈ ent2, @LT.lt Nat _ I q.1 := fun q hq => l9 _ (.head _) q hq
            have ld : ∀ q ∈ ent2, @LT.lt Nat _ d q.1 := fun q hq => l9 _ mm1 q hq
            have lol : ∀ q ∈ ent2, @LT.lt Nat _ ol q.1 := fun q hq => l9 _ mm2 q hq
            have ln : ∀ p ∈ news, ∀ q ∈ ent2, @LT.lt Nat _ p.1 q.1 := fun p hp q hq => l9 _ (.tail _ (.tail _ (.tail _ (List.mem_append_right _ hp)))) q hq
            have N10 := nsub N9 ovSub
            clear N9
            (try dsimp only)
            k_steps
            have hoff : ∀ p ∈ ((ol, listOf us.toArray n) :: ((ent2 ++ ent) ++ news) : Led), p.1 ≠ d := List.forall_mem_cons.mpr ⟨hdo, fun p hp => by
              rcases List.mem_append.mp hp with hp | hp
              · rcases List.mem_append.mp hp with hp | hp
                · exact Nat.ne_of_gt (ld p hp)
                · exact (hE p hp).1
              · exact hnd p hp⟩
            (with_reducible rename Fr _ _ _ _ => FX)
            (with_reducible rename News _ _ _ _ => NX)
            have hkl : kvs.length ≤ 100 := by
              have e1 := congrArg List.length hT.1
              rw [List.length_map, List.length_map] at e1
              have := ovAt_len hA
              wtm_at "om"
            show wpAny _ _ _ _ _ _
            refine kda_set FX NX (UpdF.tail (hne _ (.head _)).symm (UpdF.head hoff)) hO' (strKind_is _ _ _ _) (by rw [PySem.sizeLine_eq]; wtm_at "om") fun hA2 o2 FY NY hO2 => ?_
            (try dsimp only)
            k_steps
            refine ⟨_, _, _, _, rfl, FY, NY, ?_, fun _ h => (nomatch h), o2, _, put tab x (Ex.val (.num wd vl sg)), ent2 ++ ent, rfl, hO2, TabIn.put (hT.mono fun p hp => List.mem_append_right _ hp) (hR9.mono fun p hp => List.mem_append_left _ hp), ?_, ?_, by wtm_at "kmap", by wtm_at "kmap", by wtm_at "kmap", by wtm_at "kmap", by wtm_at "kmap"⟩
            · refine List.forall_mem_cons.mpr ⟨show d ≠ I from hne (d, o) (.head _), List.forall_mem_cons.mpr ⟨hne _ mm1, fun p hp => ?_⟩⟩
              rcases List.mem_append.mp hp with hp | hp
              · rcases List.mem_append.mp hp with hp | hp
                · exact Nat.ne_of_gt (lI p hp)
                · exact hne _ (.tail _ (.tail _ (List.mem_append_left _ hp)))
              · exact hne _ (.tail _ (.tail _ (List.mem_append_right _ hp)))
            · simp [ovAt, hA, hov, ovStep, ovKey, Ex.val, hkey]
            · intro p hp
              rcases List.mem_append.mp hp with hp | hp
              · exact ⟨Nat.ne_of_gt (ld p hp), Nat.ne_of_gt (lol p hp), fun q hq => Nat.ne_of_lt (ln q hq p hp)⟩
              · exact hE p hp
      · have hkey : (ordX hs bs)[i]? = none := List.getElem?_eq_none (Nat.le_of_not_lt hio)
        have hnone : ovAt (ordX hs bs) ovs ovs.length = none := ovAt_none (Nat.succ_le_of_lt hi) (by simp [ovAt, hA, hov, ovStep, ovKey, hkey])
        k_steps
        show wpAny _ _ _ _ _ _
        refine kst_len (by k_asm) mm2 rfl (by wtm_at "om") ?_
        (try dsimp only)
        k_steps
        show wpAny _ _ _ _ _ _
        (with_reducible rename Fr _ _ _ _ => FA)
        (with_reducible rename News _ _ _ _ => NA)
        refine design2_t B' FA X' NA T' rfl (by ktr_room) (by ktr_units) fun e d2 t9 h1 h2 h3 k1 k2 k3 v3 h9 tk9 F10 N10 l9 l10 => ?_
        refine ⟨e, d2, t9, rfl, F10.keep _ _ (X' 52 _ (lk52 _)), (N10 _ (.head _)).1, ?_⟩
        refine leave_newX B' F10 N10 (List.forall_mem_cons.mpr ⟨Nat.ne_of_gt l10, fun p hp => Nat.ne_of_lt (l9 p hp)⟩) rfl rfl rfl rfl rfl rfl fun h' R sm => ?_
        refine exc hnone e d2 h1 h2 h3 k1 k2 k3 _ _ v3 g' h' _ FG' (raisedX_sub R ovKeep) sm fun p hp => Nat.ne_of_lt (Nat.lt_trans (l9 p (.tail _ (.tail _ (.tail _ (List.mem_append_right _ hp))))) l10)
  · rintro m₁ _ h tk ⟨o, kvs, tab, ent, rfl, hO', hT, hA, hE, q1, q2, q3, q4, q5⟩ F7 N7
    have G1 := know F7 (k := S "table") (v := .ref d) q1
    replace G1 : Fr g' L' h _ := G1
    replace N7 : News g' L' h _ := N7
    clear F7
    (try dsimp only)
    k_steps
    (with_reducible rename Fr _ _ _ _ => FX)
    (with_reducible rename News _ _ _ _ => NX)
    refine ret tab hA d o kvs ent _ _ FX (nsub NX ?_) hO' hT lo1 ?_ fun p hp => (hE p hp).2.2
    · intro p hp
      rcases List.mem_cons.mp hp with hp | hp
      · exact hp ▸ .head _
      · exact .tail _ (.tail _ hp)
    · intro p hp
      rcases List.mem_append.mp hp with hp | hp
      · exact (hE p hp).1
      · exact hnd p hp
  ) : type_of% ?mG); have _ : True := trivial; type_of% ?mG))
end
end
section
open PySem PySem.W PyProof.Rows PySem.Calls
set_option maxRecDepth 100000
set_option maxHeartbeats 0
set_option Elab.async false
set_option compiler.extract_closed false
set_option compiler.reuse false
set_option linter.unusedVariables false
set_option pp.deepTerms false
section
variable {w : World} {mean : ExcName → Option Value} {mg mb : Str → Option Value} {dp un : Nat} {gd : Option (List Code)} {cn : Str} {cs : Scope} {a : Addr} {ccd : Value} {cl : List (Str × Addr)} {A₀ : Around} {outer : List Env} {base h₀ : Heap} {L : Addr} {m : Str → Option Value} {s : Shared} {Q E : Value → Shared → Prop}

open LCg in
/-- the leaves of a dict comprehension with one test, told to the K walk -/
structure QuietK (prog : Program) (w : World) (A : Around) (env : Env) (scope : Scope) (cl : List (Str × Addr)) (x : Str) (ct kx vx : Expr) (h₀ : Heap) (L : Addr) (m : Str → Option Value) (news : Led) (P : Nat → Value → Prop) (p : Value → Bool) (FK : Value → Str → Prop) (FV : Value → Value → Prop) : Prop where
  test : ∀ C oC i v s₃ m₃ E', P i v → NsObj oC m₃ → m₃ x = some v → Fr h₀ L s₃.heap m → News h₀ L s₃.heap ((C, oC) :: news) → (∀ p ∈ news, p.1 ≠ C) →
    wpAny (model prog w) A (isTrue ct (compEnvC scope cl C env) (eval ct (compEnvC scope cl C env))) (fun ok s₄ => Hold (ok = p v ∧ Keeps s₃ s₄)) E' s₃
  key : ∀ C oC i v s₃ m₃ E', P i v → p v = true → NsObj oC m₃ → m₃ x = some v → Fr h₀ L s₃.heap m → News h₀ L s₃.heap ((C, oC) :: news) → (∀ p ∈ news, p.1 ≠ C) →
    wpAny (model prog w) A (eval kx (compEnvC scope cl C env)) (fun key s₄ => Hold ((∃ k, (PySem.strKind prog w).is k key = true ∧ FK v k) ∧ Keeps s₃ s₄)) E' s₃
  val : ∀ C oC i v s₃ m₃ E', P i v → p v = true → NsObj oC m₃ → m₃ x = some v → Fr h₀ L s₃.heap m → News h₀ L s₃.heap ((C, oC) :: news) → (∀ p ∈ news, p.1 ≠ C) →
    wpAny (model prog w) A (eval vx (compEnvC scope cl C env)) (fun y s₄ => Hold (FV v y ∧ Keeps s₃ s₄)) E' s₃
inductive CompD (prog : Program) (w : World) (A : Around) (E : Value → Shared → Prop) (h₀ : Heap) (L : Addr) (m : Str → Option Value) (env : Env) (ct kx vx : Expr) (x : Str) (scope : Scope) (cl : List (Str × Addr)) (Q : Value → Shared → Prop) (xv : Value) (s₁ : Shared) : Prop
  | mk ob fp n P St S news p FK FV
    (h0 : Fr h₀ L s₁.heap m)
    (h1 : News h₀ L s₁.heap news)
    (h2 : Src prog w A E h₀ L xv s₁ ob fp n P St S)
    (h3 : QuietK prog w A env scope cl x ct kx vx h₀ L m news P p FK FV)
    (h4 : ∀ (vs : List Value) (kvs : List (Str × Value)) D o h tk, vs.length = n → (∀ j v, vs[j]? = some v → P j v) → StoredAll FK FV (vs.filter p) kvs → Fr h₀ L h m → News h₀ L h ((D, o) :: news) → o.IsDictOf (PySem.strKind prog w) kvs → (∀ q ∈ news, @LT.lt Nat _ q.1 D) → @LT.lt Nat _ L D → Q (.ref D) { s₁ with heap := h, toks := tk })
section
variable {prog : Program} {A : Around} {env : Env}
open LCg in
theorem DictComp_hold {ct kx vx iter : Expr} {x : Str} {px : Pos} {scope : Scope} {cl : List (Str × Addr)} {pos : Pos} {Q : Value → Shared → Prop} (F₀ : Fr h₀ L s.heap m)
    (hclos : closureFor scope env = pure cl) (hcell : ∀ y ∈ scope.names, y.2 ≠ .cell) (hkind : scope.kind = .function)
    (hnames : ∀ y ∈ scope.names, y.2 = .local → scope.names.lookup y.1 = some .local) (hx : scope.names.lookup x = some .local)
    (h : wpAny (model prog w) A (eval iter env) (fun xv s₁ => Hold (CompD prog w A E h₀ L m env ct kx vx x scope cl Q xv s₁)) E s)
    (hs : ∀ x, foldedSetIterable iter env x = pure x := by intro _; rfl) :
    wpAny (model prog w) A (eval (.DictComp kx vx [⟨.Name x px, iter, [ct], 0⟩] scope pos) env) Q E s := by
  refine ?mG; exact ((by exact ?mB) : (let_mvar% ?mB := (by (
  rw [arm_eval_DictComp]
  refine wpAny_comprehension_free (use := none) rfl hs hclos hkind hnames (wpAny_mono h (fun xv s₁ h₁ => ?_) fun _ _ e => e)
  obtain ⟨ob, fp, n, P, St, S, news, p, FK, FV, F, N, V, hq, done⟩ := h₁
  refine V.iter _ ?_
  refine wpAny_newObj_type (wpAny_newFunctionEnv hcell (by intro y hy; simp at hy) (fun h₁ hns₁ hsb₁ => ?_) hkind)
  dsimp only at hns₁ hsb₁ ⊢
  have up : ∀ b o, s₁.heap.get? b = some o → (s₁.heap.push ob).get? b = some o := fun b o e => Heap.get?_push_of_some _ e
  generalize hH1 : s₁.heap.push ob = H1 at hns₁ hsb₁ up ⊢
  have hz1 : H1.objs.size = s₁.heap.objs.size + 1 := by rw [← hH1, Heap.size_push]
  have hnew : (H1.push { cls := .type "dict", dict := none, data := .dict #[] }).DictOf (PySem.strKind prog w) H1.objs.size [] := Heap.DictOf.new H1
  generalize hH2 : H1.push { cls := .type "dict", dict := none, data := .dict #[] } = H2 at hns₁ hsb₁ hnew ⊢
  have hz2 : H2.objs.size = H1.objs.size + 1 := by rw [← hH2, Heap.size_push]
  have hDC : H1.objs.size ≠ H2.objs.size := Nat.ne_of_lt (by rw [hz2]; exact Nat.lt_succ_self _)
  have ltD : ∀ b o, s₁.heap.get? b = some o → b < H1.objs.size := fun b o e => Nat.lt_trans (Heap.lt_size e) (by rw [hz1]; exact Nat.lt_succ_self _)
  have ltC : ∀ b, b < H1.objs.size → b < H2.objs.size := fun b hb => Nat.lt_trans hb (by rw [hz2]; exact Nat.lt_succ_self _)
  have old : ∀ b o, H1.get? b = some o → h₁.get? b = some o := fun b o e => hsb₁.extBut b o (Nat.ne_of_lt (ltC b (Heap.lt_size e))) (Heap.get?_push_of_some _ (hH2 ▸ Heap.get?_push_of_some _ e))
  have hacc : h₁.DictOf (PySem.strKind prog w) H1.objs.size [] := hnew.at fun o e => hsb₁.extBut _ _ hDC (Heap.get?_push_of_some _ e)
  have hlow : ∀ b ∈ fp, b < H1.objs.size := fun b hb => by have := V.low b hb; rw [hH1] at this; exact this
  have hst₁ : St 0 h₁ := V.walks.frame _ _ _ V.start fun b _ o e => old b o (by rw [← hH1]; exact e)
  have hLlt : L < s₁.heap.objs.size := F.ns.lt
  have hLD : L < H1.objs.size := Nat.lt_trans hLlt (by rw [hz1]; exact Nat.lt_succ_self _)
  have hCL : H2.objs.size ≠ L := Nat.ne_of_gt (ltC _ hLD)
  have none₀ : ∀ a, s₁.heap.objs.size ≤ a → h₀.get? a = none := fun a ha => by
    cases e : h₀.get? a with
    | none => rfl
    | some o' => exact absurd (Heap.lt_size (F.keep a o' e)) (Nat.not_lt.mpr ha)
  have hC₀ : h₀.get? H2.objs.size = none := none₀ _ (Nat.le_of_lt (ltC _ (by rw [hz1]; exact Nat.lt_succ_self _)))
  have hD₀ : h₀.get? H1.objs.size = none := none₀ _ (by rw [hz1]; exact Nat.le_succ _)
  have keep : ∀ hh : Heap, (∀ b o, b ≠ H2.objs.size → b ∉ [s₁.heap.objs.size] → b ≠ H1.objs.size → h₁.get? b = some o → hh.get? b = some o) → ∀ b o, s₁.heap.get? b = some o → hh.get? b = some o :=
    fun hh hk b o e => hk b o (Nat.ne_of_lt (ltC b (ltD b o e))) (fun hm => Nat.lt_irrefl _ (by rw [List.mem_singleton.mp hm] at e; exact Heap.lt_size e)) (Nat.ne_of_lt (ltD b o e)) (old b o (up b o e))
  have nC : ∀ p ∈ news, p.1 ≠ H2.objs.size := fun p hp => Nat.ne_of_lt (ltC _ (ltD _ _ (N p hp).1))
  have newsC : ∀ hh oC, hh.get? H2.objs.size = some oC → (∀ b o, s₁.heap.get? b = some o → hh.get? b = some o) → News h₀ L hh ((H2.objs.size, oC) :: news) := fun hh oC e k q hq => by
    rcases List.mem_cons.mp hq with rfl | hq
    · exact ⟨e, hCL, hC₀⟩
    · exact N.grown k q hq
  have loop : ∀ s₃ : Shared, s₃ = { s₁ with heap := h₁, toks := s₁.toks + ([] : List (Str × Value)).length } →
      codeAny (model prog w) A (.compLoop (.DictComp kx vx [⟨.Name x px, iter, [ct], 0⟩] scope pos) 0 (.ref s₁.heap.objs.size) (.ref H1.objs.size) (compEnvC scope cl H2.objs.size env)) (compPost (model prog w) A E none Q (.ref H1.objs.size) H2.objs.size) s₃ := by
    rintro s₃ rfl
    refine codeAny_compLoop_walkD (hsz := V.size) (knd := PySem.strKind prog w) (cenv := compEnvC scope cl H2.objs.size env) V.walks p FK FV (lookup_relabel_local hx) (by simp [compEnvC, relabel, hkind]) hDC (fun h => Nat.lt_irrefl _ (hlow _ h)) (fun h => Nat.lt_irrefl _ (Nat.lt_trans (hlow H2.objs.size h) (by rw [hz2]; exact Nat.lt_succ_self _))) hst₁ hacc hns₁ ?_ ?_ ?_ ?_
    · intro i v s₂ m₂ hP hn hm hk
      obtain ⟨oC, eC, hoC⟩ := ns_obj hn
      exact wpAny_tests_one (hq.test _ oC i v s₂ m₂ _ hP hoC hm (F.keeps (keep _ hk)) (newsC _ _ eC (keep _ hk)) nC)
    · intro i v s₂ m₂ hP hp hn hm hk
      obtain ⟨oC, eC, hoC⟩ := ns_obj hn
      exact hq.key _ oC i v s₂ m₂ _ hP hp hoC hm (F.keeps (keep _ hk)) (newsC _ _ eC (keep _ hk)) nC
    · intro i v s₂ m₂ hP hp hn hm hk
      obtain ⟨oC, eC, hoC⟩ := ns_obj hn
      exact hq.val _ oC i v s₂ m₂ _ hP hp hoC hm (F.keeps (keep _ hk)) (newsC _ _ eC (keep _ hk)) nC
    · intro h' tk m' kvs vs hn ha hlen hP hF hk
      refine ⟨m', hn, fun h'' hs'' => ?_⟩
      obtain ⟨o, ho, hO⟩ := Heap.dictOf_iff.mp (ha.extBut hs''.extBut hDC)
      have k := keep _ hk
      have k2 : ∀ b o, s₁.heap.get? b = some o → h''.get? b = some o := fun b o e => hs''.extBut b o (Nat.ne_of_lt (ltC b (ltD b o e))) (k b o e)
      refine done vs kvs H1.objs.size o h'' tk hlen hP hF (F.keeps k2) (fun q hq => ?_) hO (fun q hq => ltD _ _ (N q hq).1) hLD
      rcases List.mem_cons.mp hq with rfl | hq
      · exact ⟨ho, Nat.ne_of_gt hLD, hD₀⟩
      · exact N.grown k2 q hq
  exact codeAny_compStart_dict (loop _ rfl) (V.walks.self 0 _ _ _ hst₁ (loop _ rfl))
  ) : type_of% ?mG); have _ : True := trivial; type_of% ?mG))
end
end
end
section
open PySem PySem.W PyProof.Rows PySem.Calls
set_option maxRecDepth 100000
set_option maxHeartbeats 0
set_option Elab.async false
set_option compiler.extract_closed false
set_option compiler.reuse false
set_option linter.unusedVariables false
set_option pp.deepTerms false
section
variable {w : World} {mean : ExcName → Option Value} {mg mb : Str → Option Value} {dp un : Nat} {gd : Option (List Code)} {cn : Str} {cs : Scope} {a : Addr} {ccd : Value} {cl : List (Str × Addr)} {A₀ : Around} {outer : List Env} {base h₀ : Heap} {L : Addr} {m : Str → Option Value} {s : Shared} {Q E : Value → Shared → Prop}

local macro_rules | `(tactic| walk_at "eval DictComp") => dictS
theorem lk1100 (P) : (KX P).lookup 1100 = some ⟨.type "function", none, .func f1100, #[]⟩ := by kernel_rfl
theorem lk1105 (P) : (KX P).lookup 1105 = some ⟨.type "function", none, .func f1105, #[]⟩ := by kernel_rfl
noncomputable def IsMod (l : Led) (v : Value) : Prop := ∃ nm its, DatIn l v (modD nm its)
open Classical in
noncomputable def isMod (l : Led) (v : Value) : Bool := decide (IsMod l v)
open Classical in
theorem isMod_iff {l : Led} {v : Value} : isMod l v = true ↔ IsMod l v := decide_eq_true_iff
theorem isMod_no {l : Led} {v : Value} (h : ¬ IsMod l v) : isMod l v = false := Bool.eq_false_iff.mpr fun z => h (isMod_iff.mp z)
noncomputable def KeyMod (l : Led) (v : Value) (k : Str) : Prop := ∃ its, DatIn l v (modD k its)
theorem notMod {h : Heap} {a dx : Addr} {l : Led} (N : News h₀ L h l) (m1 : (a, instObj 1307 dx) ∈ l) : ¬ IsMod l (.ref a) := by
  refine ?mG; exact ((by exact ?mB) : (let_mvar% ?mB := (by (
  rintro ⟨nm, its, hD⟩
  obtain ⟨a1, vs1, n1, e, m2, _⟩ := d_tup hD
  cases e
  have h1 := (N _ m1).1
  rw [(N _ m2).1] at h1
  exact absurd (congrArg Obj.cls (Option.some.inj h1)) (by simp [instObj])
  ) : type_of% ?mG); have _ : True := trivial; type_of% ?mG))
theorem mbn_t {l : Addr} {vs : List Value} {n1 : Nat} {news : Led} {srs : List Sr}
    (B : Below A₀ base outer h₀) (F : Fr h₀ L s.heap m) (X : (KX w.params).In h₀) (N : News h₀ L s.heap news) (T : TopM mean mg mb h₀)
    (hk : cs.kind = .function) (hd : dp + 16 < recursionLimit) (hu : un + 500 < cLine) (hm : (l, listOf vs.toArray n1) ∈ news) (hl : vs.length ≤ 100) (hS : SrAll news vs srs)
    (ret : ∀ r o kvs h' tk', Fr h₀ L h' m → News h₀ L h' ((r, o) :: news) → o.IsDictOf (PySem.strKind pwO w) kvs → (∀ p ∈ news, @LT.lt Nat _ p.1 r) → (r == sysModules) = false → StoredAll (KeyMod news) (fun v y => y = v) (vs.filter (isMod news)) kvs → Q (.ref r) { s with heap := h', toks := tk' }) :
    wpAny (model pwO w) (ktrTop dp un gd cn cs L a ccd cl outer) (call (.ref 1100) [.ref l]) Q E s := by
  refine ?mG; exact ((by exact ?mB) : (let_mvar% ?mB := (by (
  refine wpAny_call ?_
  refine' code_def (binds := [(S "modules", Value.ref l)]) B F X N T rfl rfl hk (lk1100 _) ?k7 ?k8 (BindsTo.of_eq rfl) (locs rfl) ?_ rfl rfl rfl (by decide)
  case k7 => k_is
  case k8 => ktr_room
  k_whole
  intro g' L' h' FG' F' N' B' X' T'
  (try dsimp only)
  k_fold
  wtm_at "ks"
  refine ⟨_, _, _, _, _, _, _, isMod news, KeyMod news, fun v y => y = v, F', N', src_list (k := n1) rfl N' hm (by rw [PySem.sizeLine_eq]; wtm_at "om"), ⟨?_, ?_, ?_⟩, ?_⟩
  · intro C oC i v s₃ m₃ E' hv hC hx F2 N2 hne
    have hi : i < srs.length := by rw [← hS.1]; exact (List.getElem?_eq_some_iff.mp hv).1
    have hv2 := hS.2 i v _ hv (List.getElem?_eq_getElem hi)
    generalize srs[i]'hi = r at hv2
    cases r with
    | mod nm its =>
      have hv3 : DatIn news v (modD nm its) := hv2
      obtain ⟨a1, k1, v1, v2, v3, v4, v5, v6, v7, rfl, m1, _⟩ := inv7 hv3
      wtm_at "ks"
      exact ⟨(isMod_iff.mpr ⟨nm, its, hv3⟩).symm, _, _, rfl, fun _ _ e => e⟩
    | prim =>
      obtain ⟨a1, dx, h1, h2, h3, h4, h5, h6, h7, k1, k2, k3, k4, k5, k6, k7, t1, t2, t3, t6, v4, v7, rfl, m1, m2⟩ := hv2
      wtm_at "ks"
      exact ⟨(isMod_no (notMod N' m1)).symm, _, _, rfl, fun _ _ e => e⟩
  · intro C oC i v s₃ m₃ E' hv hp hC hx F2 N2 hne
    obtain ⟨nm, its, hD⟩ := isMod_iff.mp hp
    obtain ⟨a1, k1, v1, v2, v3, v4, v5, v6, v7, rfl, m1, e1, e2, e3, _⟩ := inv7 hD
    obtain ⟨t3, rfl⟩ := d_str e3
    wtm_at "ks"
    exact ⟨⟨nm, strKind_is _ _ _ _, its, hD⟩, _, _, rfl, fun _ _ e => e⟩
  · intro C oC i v s₃ m₃ E' hv hp hC hx F2 N2 hne
    wtm_at "ks"
    exact ⟨rfl, _, _, rfl, fun _ _ e => e⟩
  · intro vs' kvs D o h tk hlen hP hF F2 N2 hO lt hLD
    obtain rfl : vs' = vs := by
      refine List.ext_getElem? fun j => ?_
      by_cases hj : j < vs'.length
      · rw [List.getElem?_eq_getElem hj]; exact (hP j _ (List.getElem?_eq_getElem hj)).symm
      · rw [List.getElem?_eq_none (Nat.le_of_not_lt hj), List.getElem?_eq_none (by wtm_at "om")]
    wtm_at "ks"
    (with_reducible rename Fr _ _ _ _ => F9)
    (with_reducible rename News _ _ _ _ => N9)
    exact ret D o kvs _ _ F9 N9 hO lt (beq_eq_false_iff_ne.mpr (Nat.ne_of_gt (Nat.lt_of_lt_of_le (modules_low T'.nolimit) (Nat.le_of_lt (Nat.lt_of_le_of_lt F2.above hLD))))) hF
  ) : type_of% ?mG); have _ : True := trivial; type_of% ?mG))
end
end
section
open PySem PySem.W PyProof.Rows PySem.Calls
set_option maxRecDepth 100000
set_option maxHeartbeats 0
set_option Elab.async false
set_option compiler.extract_closed false
set_option compiler.reuse false
set_option linter.unusedVariables false
set_option pp.deepTerms false
section
variable {w : World} {mean : ExcName → Option Value} {mg mb : Str → Option Value} {dp un : Nat} {gd : Option (List Code)} {cn : Str} {cs : Scope} {a : Addr} {ccd : Value} {cl : List (Str × Addr)} {A₀ : Around} {outer : List Env} {base h₀ : Heap} {L : Addr} {m : Str → Option Value} {s : Shared} {Q E : Value → Shared → Prop}

local macro_rules | `(tactic| walk_at "mine no such key") => `(tactic| skip)
local macro_rules | `(tactic| walk_at "eval DictComp") => dictS
theorem pbn_t {l : Addr} {vs : List Value} {n1 : Nat} {news : Led} {srs : List Sr}
    (B : Below A₀ base outer h₀) (F : Fr h₀ L s.heap m) (X : (KX w.params).In h₀) (N : News h₀ L s.heap news) (T : TopM mean mg mb h₀)
    (hk : cs.kind = .function) (hd : dp + 16 < recursionLimit) (hu : un + 500 < cLine) (hm : (l, listOf vs.toArray n1) ∈ news) (hl : vs.length ≤ 100) (hS : SrAll news vs srs)
    (ret : ∀ r o kvs h' tk', Fr h₀ L h' m → News h₀ L h' ((r, o) :: news) → o.IsDictOf (PySem.strKind pwO w) kvs → (∀ p ∈ news, @LT.lt Nat _ p.1 r) → (r == sysModules) = false → StoredAll (fun _ k => k = S "u") (fun v y => y = v) (vs.filter fun v => !(isMod news v)) kvs → Q (.ref r) { s with heap := h', toks := tk' }) :
    wpAny (model pwO w) (ktrTop dp un gd cn cs L a ccd cl outer) (call (.ref 1105) [.ref l]) Q E s := by
  refine ?mG; exact ((by exact ?mB) : (let_mvar% ?mB := (by (
  refine wpAny_call ?_
  refine' code_def (binds := [(S "modules", Value.ref l)]) B F X N T rfl rfl hk (lk1105 _) ?k7 ?k8 (BindsTo.of_eq rfl) (locs rfl) ?_ rfl rfl rfl (by decide)
  case k7 => k_is
  case k8 => ktr_room
  k_whole
  intro g' L' h' FG' F' N' B' X' T'
  (try dsimp only)
  k_fold
  wtm_at "ks"
  refine ⟨_, _, _, _, _, _, _, fun v => !(isMod news v), fun _ k => k = S "u", fun v y => y = v, F', N', src_list (k := n1) rfl N' hm (by rw [PySem.sizeLine_eq]; wtm_at "om"), ⟨?_, ?_, ?_⟩, ?_⟩
  · intro C oC i v s₃ m₃ E' hv hC hx F2 N2 hne
    have hi : i < srs.length := by rw [← hS.1]; exact (List.getElem?_eq_some_iff.mp hv).1
    have hv2 := hS.2 i v _ hv (List.getElem?_eq_getElem hi)
    generalize srs[i]'hi = r at hv2
    cases r with
    | mod nm its =>
      have hv3 : DatIn news v (modD nm its) := hv2
      obtain ⟨a1, k1, v1, v2, v3, v4, v5, v6, v7, rfl, m1, _⟩ := inv7 hv3
      wtm_at "ks"
      exact ⟨by rw [isMod_iff.mpr ⟨nm, its, hv3⟩], _, _, rfl, fun _ _ e => e⟩
    | prim =>
      obtain ⟨a1, dx, h1, h2, h3, h4, h5, h6, h7, k1, k2, k3, k4, k5, k6, k7, t1, t2, t3, t6, v4, v7, rfl, m1, m2⟩ := hv2
      wtm_at "ks"
      exact ⟨by rw [isMod_no (notMod N' m1)], _, _, rfl, fun _ _ e => e⟩
  · intro C oC i v s₃ m₃ E' hv hp hC hx F2 N2 hne
    have hi : i < srs.length := by rw [← hS.1]; exact (List.getElem?_eq_some_iff.mp hv).1
    have hv2 := hS.2 i v _ hv (List.getElem?_eq_getElem hi)
    generalize srs[i]'hi = r at hv2
    cases r with
    | mod nm its =>
      rw [isMod_iff.mpr ⟨nm, its, hv2⟩] at hp
      cases hp
    | prim =>
      obtain ⟨a1, dx, h1, h2, h3, h4, h5, h6, h7, k1, k2, k3, k4, k5, k6, k7, t1, t2, t3, t6, v4, v7, rfl, m1, m2⟩ := hv2
      wtm_at "ks"
      exact ⟨⟨S "u", strKind_is _ _ _ _, rfl⟩, _, _, rfl, fun _ _ e => e⟩
  · intro C oC i v s₃ m₃ E' hv hp hC hx F2 N2 hne
    wtm_at "ks"
    exact ⟨rfl, _, _, rfl, fun _ _ e => e⟩
  · intro vs' kvs D o h tk hlen hP hF F2 N2 hO lt hLD
    obtain rfl : vs' = vs := by
      refine List.ext_getElem? fun j => ?_
      by_cases hj : j < vs'.length
      · rw [List.getElem?_eq_getElem hj]; exact (hP j _ (List.getElem?_eq_getElem hj)).symm
      · rw [List.getElem?_eq_none (Nat.le_of_not_lt hj), List.getElem?_eq_none (by wtm_at "om")]
    wtm_at "ks"
    (with_reducible rename Fr _ _ _ _ => F9)
    (with_reducible rename News _ _ _ _ => N9)
    exact ret D o kvs _ _ F9 N9 hO lt (beq_eq_false_iff_ne.mpr (Nat.ne_of_gt (Nat.lt_of_lt_of_le (modules_low T'.nolimit) (Nat.le_of_lt (Nat.lt_of_le_of_lt F2.above hLD))))) hF
  ) : type_of% ?mG); have _ : True := trivial; type_of% ?mG))
end
end
section
open PySem PySem.W PyProof.Rows PySem.Calls
set_option maxRecDepth 100000
set_option maxHeartbeats 0
set_option Elab.async false
set_option compiler.extract_closed false
set_option compiler.reuse false
set_option linter.unusedVariables false
set_option pp.deepTerms false
section
variable {w : World} {mean : ExcName → Option Value} {mg mb : Str → Option Value} {dp un : Nat} {gd : Option (List Code)} {cn : Str} {cs : Scope} {a : Addr} {ccd : Value} {cl : List (Str × Addr)} {A₀ : Around} {outer : List Env} {base h₀ : Heap} {L : Addr} {m : Str → Option Value} {s : Shared} {Q E : Value → Shared → Prop}

theorem keep1_3 {a b c : Addr × Obj} {l : Led} : ∀ p ∈ a :: l, p ∈ a :: b :: c :: l := by
  intro p hp
  rcases List.mem_cons.mp hp with rfl | hp
  · exact .head _
  · exact .tail _ (.tail _ (.tail _ hp))
theorem lk1346 (P) : (KX P).lookup 1346 = some ⟨.type "function", none, .func f1346, #[]⟩ := by kernel_rfl
/-- what an `ask` does: it gives a value or raises an error of ours -/
noncomputable def AskC (w : World) (f : Addr) (news : Led) (R : Value → Led → Prop) (P : Str → Int → Prop) : Prop :=
  ∀ {mean : ExcName → Option Value} {mg mb : Str → Option Value} {dp un : Nat} {gd : Option (List Code)} {cn : Str} {cs : Scope} {a : Addr} {ccd : Value} {A₀ : Around} {outer : List Env} {base h₀ : Heap} {L : Addr} {m : Str → Option Value} {s : Shared} {Q E : Value → Shared → Prop}
    (_ : Below A₀ base outer h₀) (_ : Fr h₀ L s.heap m) (_ : (KX w.params).In h₀) (_ : News h₀ L s.heap news) (_ : TopM mean mg mb h₀) (_ : cs.kind = .function) (_ : dp + 50 < recursionLimit) (_ : un + 1100 < cLine)
    (_ : ∀ v ent h' tk', Fr h₀ L h' m → News h₀ L h' (ent ++ news) → (∀ p ∈ ent, ∀ q ∈ news, q.1 ≠ p.1) → R v ent → Q v { s with heap := h', toks := tk' })
    (_ : ∀ kd at_, P kd at_ → ExcQ w A₀ base h₀ L m (envX cn cs L a ccd []) outer news kd at_ s E),
    wpAny (model pwO w) (ktrTop dp un gd cn cs L a ccd [] outer) (call (.ref f) []) Q E s
theorem kept_t {f : Addr} {news : Led} {RV : Value → Led → Prop} {P : Str → Int → Prop} {foc : Value} {fod : Option Addr} {ffd : FuncData} {fsl : Array (Option Value)}
    (B : Below A₀ base [] h₀) (F : Fr h₀ L s.heap m) (X : (KX w.params).In h₀) (N : News h₀ L s.heap news) (T : TopM mean mg mb h₀) (XB : (KX w.params).In base) (TB : TopM mean mg mb base)
    (hk : cs.kind = .function) (hd : dp + 60 < recursionLimit) (hu : un + 1200 < cLine) (K : AskC w f news RV P) (hfm : (f, (⟨foc, fod, .func ffd, fsl⟩ : Obj)) ∈ news)
    (ret : ∀ v ent h' tk', Fr h₀ L h' m → News h₀ L h' (ent ++ news) → (∀ p ∈ ent, ∀ q ∈ news, q.1 ≠ p.1) → RV v ent → Q v { s with heap := h', toks := tk' })
    (exc : ∀ kd at_ D t1 t2 h' tk', P kd at_ → Fr h₀ L h' m → News h₀ L h' ((D, tupO [.str kd t1, .int at_ t2]) :: news) → (∀ q ∈ news, q.1 ≠ D) → Q (.ref D) { s with heap := h', toks := tk' }) :
    wpAny (model pwO w) (ktrTop dp un gd cn cs L a ccd cl []) (call (.ref 1346) [.ref f]) Q E s := by
  refine ?mG; exact ((by exact ?mB) : (let_mvar% ?mB := (by (
  refine wpAny_call ?_
  refine' code_defX0 (binds := [(S "ask", Value.ref f)]) B F X N T rfl rfl hk (lk1346 _) ?k7 ?k8 (BindsTo.of_eq rfl) (locs rfl) ?_ rfl rfl rfl (by decide)
  case k7 => k_is
  case k8 => ktr_room
  k_whole
  intro g' L' h' FG' F' N' B' X' T'
  (try dsimp only)
  k_fold
  wtm_at "ks"
  refine callWith_F0 (.of N' hfm) ?_
  refine K B' F' X' N' T' rfl (by ktr_room) (by ktr_units) (fun v ent h2 tk2 F2 N2 o2 hR => ?_) (fun kd at_ hP => ?_)
  · (try dsimp only)
    wtm_at "ks"
    (with_reducible rename Fr _ _ _ _ => FK)
    (with_reducible rename News _ _ _ _ => NK)
    exact ret v ent h2 tk2 FK NK o2 hR
  · intro e d e1 e2 e3 k1 k2 k3 t1 t2 v3 g h3 tk3 F3 R3 U3 o3
    refine caught_X R3 F3 B' U3 XB TB (by kernel_rfl) fun h4 g4 oe ws tk4 KT F4 N4 off4 c1 c2 c3 B4 => ?_
    have X4 := XB.keeps B4.stays
    have T4 := TB.keeps B4.stays
    clear F3 F' FG' N' B' X' T'
    (try dsimp only)
    wtm_at "ks"
    refine get52_K F4 X4 N4 (.head _) mm1 c1 c2 c3 (v := .str kd t1) (by kernel_rfl) rfl ?_
    (try dsimp only)
    wtm_at "ks"
    refine get52_K F4 X4 N4 (.head _) mm1 c1 c2 c3 (v := .int at_ t2) (by kernel_rfl) rfl ?_
    (try dsimp only)
    wtm_at "ks"
    (with_reducible rename Fr _ _ _ _ => F5)
    (with_reducible rename News _ _ _ _ => N5)
    (with_reducible rename _ ∧ _ ∧ AllLt _ _ => q5)
    replace KT : KtsTurn [L] g' g4 := KT
    refine name_goes_keeps F5 N5 (fun h6 v6 F6 N6 => ?_)
    (try dsimp only)
    wtm_at "ks"
    (with_reducible rename Fr _ _ _ _ => FK)
    (with_reducible rename News _ _ _ _ => NK)
    exact exc kd at_ _ _ _ _ _ hP FK (nsub NK keep1_3) fun q hq => Nat.ne_of_lt (of_allLt q5.2.2 q hq)
  ) : type_of% ?mG); have _ : True := trivial; type_of% ?mG))
end
end
section
open PySem PySem.W PyProof.Rows PySem.Calls
set_option maxRecDepth 100000
set_option Elab.async false
set_option compiler.extract_closed false
set_option compiler.reuse false
set_option linter.unusedVariables false
set_option maxHeartbeats 1000000
section
variable {prog : Program} {w : World} {A : Around} {E : Value → Shared → Prop} {s : Shared} {h₀ : Heap} {L : Addr} {news : Led} {v y : Value} {d e : Dat} {Q : Value → Shared → Prop}
/-- data that can be read and laid -/
noncomputable def DOk (d : Dat) : Prop := (∀ {h₀ h : Heap} {L : Addr} {news : Led} {v : Value}, News h₀ L h news → DatIn news v d → ∃ as, Reads h v (kqdP d) as) ∧ (kqdP d).canLay0 = true ∧ (kqdP d).depth ≤ 8
theorem DOk.of {d : Dat} (ok : kqdOk 8 d = true) : DOk d := ⟨fun N h => kqd_in N 8 h ok, kqd_lay 8 d ok⟩
theorem DOk.shaped {d : Dat} (o : DOk d) : SeqAt.shaped (kqdP d) = true := by
  unfold SeqAt.shaped
  rw [o.2.1, Bool.true_and]
  exact decide_eq_true (Nat.le_trans o.2.2 (by decide))
theorem dat_ne (N : News h₀ L s.heap news) (h1 : DatIn news v d) (h2 : DatIn news y d) (o : DOk d) (hu : A.units + 64 < cLine) (h : Q (.bool false) s) : wpAny (model prog w) A (compareOp .NotEq v y) Q E s := by
  obtain ⟨as, ra⟩ := o.1 N h1
  obtain ⟨bs, rb⟩ := o.1 N h2
  exact ne_dataH ra rb o.shaped o.shaped hu (by rw [SeqAt.eqv_refl _ o.2.1]; exact h)
theorem dat_eq (N : News h₀ L s.heap news) (h1 : DatIn news v d) (h2 : DatIn news y d) (o : DOk d) (hu : A.units + 64 < cLine) (h : Q (.bool true) s) : wpAny (model prog w) A (compareOp .Eq v y) Q E s := by
  obtain ⟨as, ra⟩ := o.1 N h1
  obtain ⟨bs, rb⟩ := o.1 N h2
  exact eq_dataH ra rb o.shaped o.shaped hu (by rw [SeqAt.eqv_refl _ o.2.1]; exact h)
theorem dat_eqAt (N : News h₀ L s.heap news) (h1 : DatIn news v d) (h2 : DatIn news y d) (o : DOk d) (hu : A.in1.units + 64 < cLine) : SeqAt.EqAt A.in1 s v y true := by
  obtain ⟨as, ra⟩ := o.1 N h1
  obtain ⟨bs, rb⟩ := o.1 N h2
  have h := keq_at (A := A) ra rb o.shaped o.shaped hu
  rw [SeqAt.eqv_refl _ o.2.1] at h
  exact h
theorem keqHits_all {kb : List (Str × Value)} : ∀ r : List (Str × Value), (∀ p ∈ r, ∃ y, valueAt kb p.1 = some y ∧ SeqAt.EqAt A s p.2 y true) → KeqHits A s kb r true := by
  refine ?mG; exact ((by exact ?mB) : (let_mvar% ?mB := (by (
  intro r
  induction r with
  | nil => intro _; exact .nil
  | cons p r ih =>
    intro h
    obtain ⟨k, v⟩ := p
    obtain ⟨y, h1, h2⟩ := h _ (.head _)
    exact KeqHits.hit (e := true) (b := true) h1 h2 (ih fun p hp => h p (.tail _ hp))
  ) : type_of% ?mG); have _ : True := trivial; type_of% ?mG))
theorem tab_hits {ka kb : List (Str × Value)} {tab : Tab} (N : News h₀ L s.heap news) (ha : TabIn news ka tab) (hb : TabIn news kb tab) (hn : (kb.map (·.1)).Nodup) (ok : ∀ p ∈ tab, DOk p.2) (hu : A.in1.units + 64 < cLine) : KeqHits A.in1 s kb ka true := by
  refine ?mG; exact ((by exact ?mB) : (let_mvar% ?mB := (by (
  refine keqHits_all _ fun p hp => ?_
  obtain ⟨i, hi⟩ := List.getElem?_of_mem hp
  have hia : i < ka.length := (List.getElem?_eq_some_iff.mp hi).1
  have la : ka.length = tab.length := by have := congrArg List.length ha.1; rwa [List.length_map, List.length_map] at this
  have lb : kb.length = tab.length := by have := congrArg List.length hb.1; rwa [List.length_map, List.length_map] at this
  have hit : i < tab.length := by lia
  have hib : i < kb.length := by lia
  obtain ⟨va, a1, a2⟩ := ha.2.get (k := i) (by rw [List.length_map]; exact hit)
  obtain ⟨vb, b1, b2⟩ := hb.2.get (k := i) (by rw [List.length_map]; exact hit)
  rw [List.getElem_map] at a2 b2
  rw [List.getElem?_map, hi] at a1
  rw [List.getElem?_map, List.getElem?_eq_getElem hib] at b1
  have e1 : p.2 = va := Option.some.inj a1
  have e2 : kb[i].2 = vb := Option.some.inj b1
  have k1 : (ka.map Prod.fst)[i]? = some p.1 := by rw [List.getElem?_map, hi]; rfl
  have k2 : (kb.map Prod.fst)[i]? = some kb[i].1 := by rw [List.getElem?_map, List.getElem?_eq_getElem hib]; rfl
  rw [ha.1, ← hb.1, k2] at k1
  have e3 : kb[i].1 = p.1 := Option.some.inj k1
  refine ⟨kb[i].2, valueAt_of_get hn (i := i) ?_, ?_⟩
  · rw [List.getElem?_eq_getElem hib, ← e3]
  · rw [e1, e2]; exact dat_eqAt N a2 b2 (ok _ (List.getElem_mem hit)) hu
  ) : type_of% ?mG); have _ : True := trivial; type_of% ?mG))
end
theorem val_ok (a b c : Int) (g : Bool) : DOk (.tuple [.tuple [.int a, .int b, .int c], .bool g]) := by
  refine ?mG; exact ((by exact ?mB) : (let_mvar% ?mB := (by (
  refine ⟨fun N h => ?_, by rfl, Nat.le_of_ble_eq_true (by rfl)⟩
  obtain ⟨a1, n1, v1, v2, rfl, m1, h1, h2⟩ := inv2 h
  obtain ⟨a2, n2, u1, u2, u3, rfl, m2, f1, f2, f3⟩ := inv3 h1
  obtain ⟨t1, rfl⟩ := d_int f1
  obtain ⟨t2, rfl⟩ := d_int f2
  obtain ⟨t3, rfl⟩ := d_int f3
  obtain rfl := d_bool h2
  exact ⟨_, reads_tuple_at (N.get m1) rfl rfl (ReadsAll.cons (reads_tuple_at (N.get m2) rfl rfl (ReadsAll.cons (.int _ _) (ReadsAll.cons (.int _ _) (ReadsAll.cons (.int _ _) .nil)))) (ReadsAll.cons (.bool _) .nil))⟩
  ) : type_of% ?mG); have _ : True := trivial; type_of% ?mG))
theorem ex_ok (x : Ex) : DOk x.val := by cases x <;> exact val_ok _ _ _ _
theorem put_ok {tab : Tab} {k : Str} {x : Ex} (h : ∀ p ∈ tab, DOk p.2) : ∀ p ∈ put tab k x.val, DOk p.2 := by
  refine ?mG; exact ((by exact ?mB) : (let_mvar% ?mB := (by (
  intro p hp
  unfold put at hp
  split at hp
  · obtain ⟨q, hq, rfl⟩ := List.mem_map.mp hp
    split
    · exact ex_ok x
    · exact h q hq
  · rcases List.mem_append.mp hp with hp | hp
    · exact h p hp
    · rw [List.mem_singleton.mp hp]; exact ex_ok x
  ) : type_of% ?mG); have _ : True := trivial; type_of% ?mG))
theorem ovAt_ok {ord : List Str} {ovs : List Ov} : ∀ {i : Nat} {tab : Tab}, ovAt ord ovs i = some tab → ∀ p ∈ tab, DOk p.2 := by
  refine ?mG; exact ((by exact ?mB) : (let_mvar% ?mB := (by (
  intro i
  induction i with
  | zero => intro tab h; cases h; exact fun p hp => nomatch hp
  | succ i ih =>
    intro tab h
    rw [ovAt] at h
    obtain ⟨t0, h0, h1⟩ := Option.bind_eq_some_iff.mp h
    have hi := ih h0
    cases ho : ovs[i]? with
    | none => rw [ho] at h1; cases h1; exact hi
    | some o =>
      rw [ho] at h1
      obtain ⟨k, _, rfl⟩ := Option.map_eq_some_iff.mp h1
      split
      · exact hi
      · exact put_ok hi
  ) : type_of% ?mG); have _ : True := trivial; type_of% ?mG))
end
section
open PySem PySem.W PyProof.Rows PySem.Calls
set_option maxRecDepth 100000
set_option maxHeartbeats 0
set_option Elab.async false
set_option compiler.extract_closed false
set_option compiler.reuse false
set_option linter.unusedVariables false
set_option pp.deepTerms false
section
variable {w : World} {mean : ExcName → Option Value} {mg mb : Str → Option Value} {dp un : Nat} {gd : Option (List Code)} {cn : Str} {cs : Scope} {a : Addr} {ccd : Value} {cl : List (Str × Addr)} {A₀ : Around} {outer : List Env} {base h₀ : Heap} {L : Addr} {m : Str → Option Value} {s : Shared} {Q E : Value → Shared → Prop}

local macro_rules | `(tactic| walk_at "eval Name") => plainS (rf ``nameX_F "afrr_ff")
local macro_rules | `(tactic| walk_at "call type:tuple") => holdS
@[reducible] noncomputable def lamB {l : List Stmt} {ts fn p b sc pos ks cp sp r} (_ : l = Stmt.Assign ts (.Call fn [.Lambda p b sc pos] ks cp) sp :: r) : Expr := b
@[reducible] noncomputable def lamS {l : List Stmt} {ts fn p b sc pos ks cp sp r} (_ : l = Stmt.Assign ts (.Call fn [.Lambda p b sc pos] ks cp) sp :: r) : Scope := sc
@[reducible] noncomputable def lamP {l : List Stmt} {ts fn p b sc pos ks cp sp r} (_ : l = Stmt.Assign ts (.Call fn [.Lambda p b sc pos] ks cp) sp :: r) : Arguments := p
@[reducible] noncomputable def lb25 : Expr := lamB (show law25 = _ from rfl)
@[reducible] noncomputable def ls25 : Scope := lamS (show law25 = _ from rfl)
@[reducible] noncomputable def lp25 : Arguments := lamP (show law25 = _ from rfl)
@[reducible] noncomputable def lb29 : Expr := lamB (show law29 = _ from rfl)
@[reducible] noncomputable def ls29 : Scope := lamS (show law29 = _ from rfl)
@[reducible] noncomputable def lp29 : Arguments := lamP (show law29 = _ from rfl)
noncomputable abbrev lc25 (L : Addr) : List (Str × Addr) := [(Str.ofString "source", L + 1 + 1 + 1), (Str.ofString "scope", L + 1 + 1 + 1 + 1 + 1 + 1 + 1), (Str.ofString "overrides", L + 1 + 1 + 1 + 1 + 1 + 1)]
noncomputable abbrev lamO (q : Str) (p : Arguments) (b : Expr) (sc : Scope) (cl : List (Str × Addr)) (pm : Value) (c' : Addr) (ctv : Value) : Obj := kla_obj (Str.ofString "<lambda>") q p b sc cl pm c' ctv
inductive OverRV (w : World) (hs bs : List Pm) (ovs : List Ov) (v : Value) (ent : Led) : Prop
  | mk tab r o kvs
    (h0 : v = .ref r)
    (h1 : ovAt (ordX hs bs) ovs ovs.length = some tab)
    (h2 : (r, o) ∈ ent)
    (h3 : o.IsDictOf (PySem.strKind pwO w) kvs)
    (h4 : TabIn ent kvs tab)
    (h5 : (r == sysModules) = false)
theorem subA {a b : Addr × Obj} {l1 l2 : Led} : ∀ p ∈ (a :: (l1 ++ [b])) ++ l2, p ∈ a :: (l1 ++ b :: l2) := by
  intro p hp
  simpa using hp
theorem subB {a b : Addr × Obj} {l : Led} : ∀ p ∈ a :: l, p ∈ a :: b :: l := by
  intro p hp
  rcases List.mem_cons.mp hp with rfl | hp
  · exact .head _
  · exact .tail _ (.tail _ hp)
set_option maxHeartbeats 600000 in
theorem ask_over {f c' L₀ sa sc ol : Addr} {oc c3 c6 c7 : Obj} {vs : Array Value} {t : Tok} {ctv pm : Value} {q : Str} {hs bs : List Pm} {ovs : List Ov} {vo : List Value} {no : Nat} {news : Led}
    (hf : (f, lamO q lp25 lb25 ls25 (lc25 L₀) pm c' ctv) ∈ news) (hc : (c', oc) ∈ news) (d1 : oc.data = .fields vs) (d2 : vs[1]? = some (.str q t))
    (m3 : (L₀ + 1 + 1 + 1, c3) ∈ news) (e3 : c3.data = .cell (some (.ref sa))) (m6 : (L₀ + 1 + 1 + 1 + 1 + 1 + 1, c6) ∈ news) (e6 : c6.data = .cell (some (.ref ol))) (m7 : (L₀ + 1 + 1 + 1 + 1 + 1 + 1 + 1, c7) ∈ news) (e7 : c7.data = .cell (some (.ref sc)))
    (mo : (ol, listOf vo.toArray no) ∈ news) (hO : DatAll news vo (ovs.map Ov.dat)) (hlo : ovs.length ≤ 100) (hok : ∀ o ∈ ovs, ∀ x, o.e = some x → x.ok) (hD : DatIn news (.ref sa) (srcD hs bs)) (hl1 : hs.length ≤ 100) (hl2 : bs.length ≤ 100) (hsc : ScopeIn w news sc) :
    AskC w f news (OverRV w hs bs ovs) (fun kd at_ => ovAt (ordX hs bs) ovs ovs.length = none ∧ kd = S "too_many_parameters" ∧ at_ = 8) := by
  refine ?mG; exact ((by exact ?mB) : (let_mvar% ?mB := (by (
  intro mean mg mb dp un gd cn cs a ccd A₀ outer base h₀ L m s Q E B F X N T hk hd hu ret exc
  have hol := hO.length
  rw [List.length_map] at hol
  refine wpAny_call ?_
  refine' kla_code (binds := []) B F X N T rfl rfl hk hf (codeRec_news N hc d1 d2) ?k8 ?k9 (locs rfl) ?_ rfl rfl rfl (by decide)
  case k8 => ktr_room
  case k9 => exact rfl
  k_whole
  intro g' L' h' FG' F' N' B' X' T'
  dsimp only [lb25, ls25, lp25, lamB, lamS, lamP]
  k_fold
  wtm_at "ks"
  show wpAny _ _ _ _ _ _
  refine kde_tupleOf F' N' (isL N' mo) (by rw [List.size_toArray]; wtm_at "om") (zs := vo) rfl fun to h2 F2 N2 l2 => ?_
  (try dsimp only)
  have m9 : ∀ {p : Addr × Obj}, p ∈ news → p ∈ (to, ({ cls := .type "tuple", data := .seq vo.toArray } : Obj)) :: news := fun h => .tail _ h
  replace m3 := m9 m3
  replace m6 := m9 m6
  replace m7 := m9 m7
  wtm_at "ks"
  (with_reducible rename Fr _ _ _ _ => F3)
  (with_reducible rename News _ _ _ _ => N3)
  show wpAny _ _ _ _ _ _
  refine over_t B' F3 X' N3 T' rfl (by ktr_room) (by ktr_units) (hD.mono fun p hp => .tail _ hp) hl1 hl2 (hsc.mono fun p hp => .tail _ hp) (.head _) (hO.mono fun p hp => .tail _ hp) hlo hok (fun tab hA r o kvs ent h4 tk4 F4 N4 hO4 hT4 lo4 ne4 ap4 => ?_) (fun hA => ?_)
  · (try dsimp only)
    wtm_at "ks"
    (with_reducible rename Fr _ _ _ _ => FK)
    (with_reducible rename News _ _ _ _ => NK)
    refine ret (.ref r) ((r, o) :: (ent ++ [(to, _)])) _ _ FK (nsub NK subA) (fun p hp q hq => ?_) ⟨tab, r, o, kvs, rfl, hA, .head _, hO4, hT4.mono fun p hp => .tail _ (List.mem_append_left _ hp), lo4⟩
    rcases List.mem_cons.mp hp with rfl | hp
    · exact ne4 q (List.mem_append_right _ (.tail _ hq))
    · rcases List.mem_append.mp hp with hp | hp
      · exact ap4 p hp q (.tail _ hq)
      · rw [List.mem_singleton.mp hp]
        exact Nat.ne_of_lt (l2 q hq)
  · intro e d e1 e2 e3' k1 k2 k3 t1 t2 v3 g h3 tk3 F5 R5 U5 o5
    (try dsimp only)
    refine leave_onX B' F5 R5 U5 rfl fun h6 R6 U6 => ?_
    exact exc _ _ ⟨hA, rfl, rfl⟩ e d e1 e2 e3' k1 k2 k3 t1 t2 v3 g' h6 _ FG' (raisedX_sub R6 subB) U6 fun p hp => o5 p (.tail _ hp)
  ) : type_of% ?mG); have _ : True := trivial; type_of% ?mG))
noncomputable abbrev lc29 (L : Addr) : List (Str × Addr) := [(Str.ofString "source", L + 1 + 1 + 1), (Str.ofString "due", L + 1 + 1 + 1 + 1 + 1)]
set_option maxHeartbeats 600000 in
theorem ask_check {f c' L₀ sa du : Addr} {oc c3 c5 od : Obj} {vs : Array Value} {t : Tok} {ctv pm : Value} {q : Str} {hs bs : List Pm} {kvs : List (Str × Value)} {news : Led}
    (hf : (f, lamO q lp29 lb29 ls29 (lc29 L₀) pm c' ctv) ∈ news) (hc : (c', oc) ∈ news) (d1 : oc.data = .fields vs) (d2 : vs[1]? = some (.str q t))
    (m3 : (L₀ + 1 + 1 + 1, c3) ∈ news) (e3 : c3.data = .cell (some (.ref sa))) (m5 : (L₀ + 1 + 1 + 1 + 1 + 1, c5) ∈ news) (e5 : c5.data = .cell (some (.ref du)))
    (md : (du, od) ∈ news) (hO : od.IsDictOf (PySem.strKind pwO w) kvs) (lo : (du == sysModules) = false) (hD : DatIn news (.ref sa) (srcD hs bs)) (hl1 : hs.length ≤ 100) (hl2 : bs.length ≤ 100) :
    AskC w f news (fun v ent => v = .none ∧ ∀ x ∈ kvs.map Prod.fst, x ∈ (hs ++ bs).filterMap Pm.free) (fun kd at_ => (∃ x ∈ kvs.map Prod.fst, x ∉ (hs ++ bs).filterMap Pm.free) ∧ kd = S "unknown_parameter" ∧ at_ = 7) := by
  refine ?mG; exact ((by exact ?mB) : (let_mvar% ?mB := (by (
  intro mean mg mb dp un gd cn cs a ccd A₀ outer base h₀ L m s Q E B F X N T hk hd hu ret exc
  refine wpAny_call ?_
  refine' kla_code (binds := []) B F X N T rfl rfl hk hf (codeRec_news N hc d1 d2) ?k8 ?k9 (locs rfl) ?_ rfl rfl rfl (by decide)
  case k8 => ktr_room
  case k9 => exact rfl
  k_whole
  intro g' L' h' FG' F' N' B' X' T'
  dsimp only [lb29, ls29, lp29, lamB, lamS, lamP]
  k_fold
  wtm_at "ks"
  (with_reducible rename Fr _ _ _ _ => F3)
  (with_reducible rename News _ _ _ _ => N3)
  show wpAny _ _ _ _ _ _
  refine check_t B' F3 X' N3 T' rfl (by ktr_room) (by ktr_units) hD hl1 hl2 md hO lo (fun hall h4 tk4 F4 N4 => ?_) (fun hex => ?_)
  · (try dsimp only)
    wtm_at "ks"
    (with_reducible rename Fr _ _ _ _ => FK)
    (with_reducible rename News _ _ _ _ => NK)
    exact ret .none [] _ _ FK NK (fun _ h => nomatch h) ⟨rfl, hall⟩
  · intro e d e1 e2 e3' k1 k2 k3 t1 t2 v3 g h3 tk3 F5 R5 U5 o5
    (try dsimp only)
    refine leave_onX B' F5 R5 U5 rfl fun h6 R6 U6 => ?_
    exact exc _ _ ⟨hex, rfl, rfl⟩ e d e1 e2 e3' k1 k2 k3 t1 t2 v3 g' h6 _ FG' R6 U6 o5
  ) : type_of% ?mG); have _ : True := trivial; type_of% ?mG))
end
end
local macro_rules | `(tactic| wtm_at "kmap") => `(tactic| ((try dsimp only); (repeat (refine mne (by decide) ?_)); first | exact if_pos rfl | with_reducible assumption))
local macro_rules | `(tactic| wtm_at "led_mem") => do memS #[← `(tactic| (refine List.Mem.tail _ ?_; wtm_at "led_mem"))]
local macro_rules | `(tactic| wtm_at "led_sub") => `(tactic| first | (exact List.forall_mem_nil _) | (refine sub_cons ?_ ?_; (focus (wtm_at "led_mem")); wtm_at "led_sub") | (intro p hp; (repeat (refine List.Mem.tail _ ?_)); exact hp))
local macro_rules | `(tactic| wtm_at "ne2") => `(tactic| (refine neN ?_; (try dsimp only); first | wtm_at "ne1" | omega))
local macro_rules | `(tactic| wtm_at "off_p") => `(tactic| first | (exact List.forall_mem_nil _) | (with_reducible assumption) | (refine fa_cons (by wtm_at "ne2") ?_; wtm_at "off_p"))
local macro_rules | `(tactic| wtm_at "off_a") => `(tactic| first | (exact List.forall_mem_nil _) | (refine fa_cons (by wtm_at "off_p") ?_; wtm_at "off_a"))
local macro_rules | `(tactic| walk_at "call ref") => ct ``next_u "aaaaaeRVUrr_" 9
local macro_rules | `(tactic| wtm_at "oo") => `(tactic| first | wtm_at "conj" | ((repeat' apply And.intro) <;> wtm_at "conj") | lia)
section
open PySem PySem.W PyProof.Rows PySem.Calls
set_option maxRecDepth 100000
set_option maxHeartbeats 0
set_option Elab.async false
set_option compiler.extract_closed false
set_option compiler.reuse false
set_option linter.unusedVariables false
set_option pp.deepTerms false
section
variable {w : World} {mean : ExcName → Option Value} {mg mb : Str → Option Value} {dp un : Nat} {gd : Option (List Code)} {A₀ : Around} {base h₀ : Heap} {L : Addr} {m : Str → Option Value} {s : Shared} {Q : Flow → Shared → Prop} {E : Value → Shared → Prop}

/-- the law's cells and the table of its lambdas -/
noncomputable abbrev lawLed (L : Addr) (c1 c2 c3 c4 c5 c6 c7 : Obj) (ps : Array Value) (rest : Led) : Led := (L + 7, c7) :: (L + 6, c6) :: (L + 5, c5) :: (L + 4, c4) :: (L + 3, c3) :: (L + 2, c2) :: (L + 1, c1) :: (1348, tabObj ps) :: rest
noncomputable def Cel (o : Obj) (v : Option Value) : Prop := o.data = .cell v
noncomputable def OffA (as : List Addr) (rest : Led) : Prop := ∀ a ∈ as, ∀ p ∈ rest, p.1 ≠ a
local macro_rules | `(tactic| walk_at "mine no such key") => `(tactic| skip)
local macro_rules | `(tactic| walk_at "execs cons") => do heldAt [← `((execs (Stmt.For _ _ _ _ _ :: _) _))]
theorem seg0 {cells : Led} {sc : Addr} {vs : List Value} {zs : List Int}
    (B : Below A₀ base [] h₀) (F : Fr h₀ L s.heap (bindL (envX (S "law") lawSc L 1351 (.ref 1350) (lawCl L)).kindOf (bindS sc) fun _ => none)) (X : (KX w.params).In h₀) (N : News h₀ L s.heap (cells ++ [(1348, tabObj #[])])) (T : TopM mean mg mb h₀)
    (XC : CellsAre (bindC (envX (S "law") lawSc L 1351 (.ref 1350) (lawCl L)).kindOf (bindS sc) fun _ => none) (lawCl L) cells) (l48 : @LT.lt Nat _ 1348 L)
    (hd : dp + 60 < recursionLimit) (hu : un + 1200 < cLine) (hS : base.IsList sc vs.toArray) (hI : IntsAre vs zs) (hl : vs.length ≤ 63)
    (next : ∀ r us n ns many tm u so nn c1 c2 c3 c4 c5 c6 c7 pr rest h' tk' m', Fr h₀ L h' m' → News h₀ L h' ((r, listOf us.toArray n) :: (u, W.listOf #[] 0) :: (so, W.listOf #[] 0) :: (nn, W.listOf #[] 0) :: lawLed L c1 c2 c3 c4 c5 c6 c7 #[] rest) →
      m' (S "many") = some (.int many tm) → m' (S "primitive") = some (.ref pr) → m' (S "sources") = some (.ref so) → m' (S "names") = some (.ref nn) → SrIn rest (.ref pr) .prim → IntsAre us ns → us.length ≤ 200 → 0 ≤ many → many < 7 →
      c1.data = .cell (some (.ref r)) → c2.data = .cell (some (.ref u)) → c3.data = .cell none → c4.data = .cell none → c5.data = .cell none → c6.data = .cell none → c7.data = .cell none →
      @LT.lt Nat _ (L + 7) r ∧ @LT.lt Nat _ r so ∧ @LT.lt Nat _ so u ∧ @LT.lt Nat _ u nn → OffA [1348, L + 1, L + 2, L + 3, L + 4, L + 5, L + 6, L + 7, r, so, u, nn] rest →
      wpAny (model pwO w) (lawA dp un gd L) (execs law6 (lawE L)) Q E { s with heap := h', toks := tk' }) :
    wpAny (model pwO w) (lawA dp un gd L) (execs lawBd (lawE L)) Q E s := by
  refine ?mG; exact ((by exact ?mB) : (let_mvar% ?mB := (by (
  obtain ⟨c1, c2, c3, c4, c5, c6, c7, rfl, e7, e6, e5, e4, e3, e2, e1⟩ := kc_seven XC
  dsimp only [lawBd, lawE, lawA, f1351]
  (try dsimp only [List.cons_append, List.nil_append] at N)
  replace e7 : c1.data = .cell none := e7
  replace e6 : c2.data = .cell none := e6
  replace e5 : c3.data = .cell none := e5
  replace e4 : c4.data = .cell none := e4
  replace e3 : c5.data = .cell none := e3
  replace e2 : c6.data = .cell none := e2
  replace e1 : c7.data = .cell none := e1
  wtm_at "ks"
  show wpAny _ _ _ _ _ _
  refine row_t B F X N T rfl (by ktr_room) (by ktr_units) hS hI hl fun r us n ns h1 tk1 F1 N1 l1 I1 len1 => ?_
  (try dsimp only)
  have len2 : us.length ≤ 200 := by wtm_at "om"
  k_lt l1
  wtm_at "ks"
  (with_reducible rename Fr _ _ _ _ => F2)
  (with_reducible rename News _ _ _ _ => N2)
  show wpAny _ _ _ _ _ _
  refine prim_t B F2 X N2 T hd hu fun x dx k1 k2 k3 k4 k5 k6 k7 h2 tk2 F3 N3 l2 l3 => ?_
  (try dsimp only)
  k_lt l2
  wtm_at "ks"
  (with_reducible rename Fr _ _ _ _ => FX)
  (with_reducible rename News _ _ _ _ => NX)
  (with_reducible rename IntsAre _ _ => IX)
  (with_reducible rename List.length _ ≤ 200 => LX)
  rename_i so _ z1 _ u _ z2 _ ou eu nn _ z3 _
  refine' next r _ _ _ _ _ u so nn _ ou _ _ _ _ _ x [(x, instObj 1307 dx), (dx, _)] _ _ _ FX (nsub NX ?sub) (by wtm_at "kmap") (by wtm_at "kmap") (by wtm_at "kmap") (by wtm_at "kmap") ⟨x, dx, _, _, _, _, _, _, _, k1, k2, k3, k4, k5, k6, k7, _, _, _, _, _, _, rfl, .head _, .tail _ (.head _)⟩ IX LX (fm _ 7 (by decide)).1 (fm _ 7 (by decide)).2 (by assumption) eu e3 e4 e5 e6 e7 (by wtm_at "oo") ?off
  case sub => wtm_at "led_sub"
  case off => wtm_at "off_a"
  ) : type_of% ?mG); have _ : True := trivial; type_of% ?mG))
end
end
local macro_rules | `(tactic| walk_at "call type:tuple") => holdS
local macro_rules | `(tactic| wtm_at "ne_all") => `(tactic| wtm_at "off_p")
section
open PySem PySem.W PyProof.Rows PySem.Calls
set_option maxRecDepth 100000
set_option maxHeartbeats 0
set_option Elab.async false
set_option compiler.extract_closed false
set_option compiler.reuse false
set_option linter.unusedVariables false
set_option pp.deepTerms false
section
variable {w : World} {mean : ExcName → Option Value} {mg mb : Str → Option Value} {dp un : Nat} {gd : Option (List Code)} {A₀ : Around} {base h₀ : Heap} {L : Addr} {m : Str → Option Value} {s : Shared} {Q : Flow → Shared → Prop} {E : Value → Shared → Prop}

local macro_rules | `(tactic| walk_at "mine no such key") => `(tactic| skip)
local macro_rules | `(tactic| walk_at "execs cons") => do heldAt [← `((execs (Stmt.Assign [Expr.Name (Str.ofString "where_at") _] _ _ :: _) _))]
theorem item_2 : ItemC w 2 := item_s (d := 1) (by decide) (item_s (d := 0) (by decide) item_0)
noncomputable def mname (k : Nat) : Str := S "m" ++ Str.ofString (toString ((0 : Int) + (k : Int)))
noncomputable def modsD (mods : List (List It)) : List Dat := mods.mapIdx fun k its => modD (mname k) its
noncomputable def usedN (mods : List (List It)) : List Str := mods.flatMap fun its => its.flatMap It.names
noncomputable abbrev lawAs (L r so u nn : Addr) : List Addr := [1348, L + 1, L + 2, L + 3, L + 4, L + 5, L + 6, L + 7, r, so, u, nn]
inductive ModJ (L r u so nn pr : Addr) (c1 c2 c3 c4 c5 c6 c7 : Obj) (rest0 : Led) (many : Int) (tm : Tok) (i : Nat) (m : Str → Option Value) (nx : Led) : Prop
  | mk us ns n vu nu vsrc ksrc vnam knam rest mods
    (h0 : nx = (r, listOf us.toArray n) :: (u, listOf vu.toArray nu) :: (so, listOf vsrc.toArray ksrc) :: (nn, listOf vnam.toArray knam) :: lawLed L c1 c2 c3 c4 c5 c6 c7 #[] rest)
    (h1 : IntsAre us ns)
    (h2 : us.length ≤ 200)
    (h3 : mods.length = i)
    (h4 : DatAll rest vsrc (modsD mods))
    (h5 : DatAll [] vnam (((List.range i).map mname).map Dat.str))
    (h6 : DatAll [] vu ((usedN mods).map Dat.str))
    (h7 : vu.length ≤ 8 * i)
    (h8 : (∀ its ∈ mods, its.length ≤ 2 ∧ ∀ it ∈ its, it.ok ∧ it.deep ≤ 2))
    (h9 : (∀ p ∈ rest0, p ∈ rest))
    (h10 : OffA (lawAs L r so u nn) rest)
    (h11 : m (S "many") = some (.int many tm))
    (h12 : m (S "primitive") = some (.ref pr))
    (h13 : m (S "sources") = some (.ref so))
    (h14 : m (S "names") = some (.ref nn))
inductive ItsJ (L r u so nn I : Addr) (oI : Obj) (vsrc : List Value) (ksrc : Nat) (vnam : List Value) (knam : Nat) (c1 c2 c3 c4 c5 c6 c7 : Obj) (rest0 : Led) (xs : List Str) (b : Nat) (i : Nat) (ys : List Value) (nx : Led) : Prop
  | mk (us : List Value) (ns : List Int) (n : Nat) (vu : List Value) (nu : Nat) (rest : Led) (its : List It)
    (h0 : nx = (I, oI) :: (r, listOf us.toArray n) :: (u, listOf vu.toArray nu) :: (so, listOf vsrc.toArray ksrc) :: (nn, listOf vnam.toArray knam) :: lawLed L c1 c2 c3 c4 c5 c6 c7 #[] rest)
    (h1 : IntsAre us ns)
    (h2 : us.length ≤ 200)
    (h3 : its.length = i)
    (h4 : DatAll rest ys (its.map It.dat))
    (h5 : DatAll [] vu ((xs ++ its.flatMap It.names).map Dat.str))
    (h6 : vu.length ≤ b + 4 * i)
    (h7 : (∀ it ∈ its, it.ok ∧ it.deep ≤ 2))
    (h8 : (∀ p ∈ rest0, p ∈ rest))
    (h9 : OffA (I :: lawAs L r so u nn) rest)
theorem skip2 {a b : Addr × Obj} {l : Led} : ∀ p ∈ a :: l, p ∈ a :: b :: l := by
  intro p hp
  rcases List.mem_cons.mp hp with rfl | hp
  · exact .head _
  · exact .tail _ (.tail _ hp)
theorem off3_of {I C D : Addr} : ∀ {l : Led}, (∀ p ∈ l, p.1 ≠ I ∧ p.1 ≠ C ∧ p.1 ≠ D) → LCg.Off3 I C D l := by
  intro l
  induction l with
  | nil => intro _; trivial
  | cons p r ih => intro h; exact ⟨h p (.head _), ih fun q hq => h q (.tail _ hq)⟩
theorem OffA.cons {as : List Addr} {rest : Led} {D : Addr} {o : Obj} (h : OffA as rest) (hn : ∀ a ∈ as, D ≠ a) : OffA as ((D, o) :: rest) := fun a ha => List.forall_mem_cons.mpr ⟨hn a ha, h a ha⟩
theorem modsD_snoc (mods : List (List It)) (its : List It) : modsD (mods ++ [its]) = modsD mods ++ [modD (mname mods.length) its] := by
  unfold modsD
  rw [List.mapIdx_append]; simp
theorem usedN_snoc (mods : List (List It)) (its : List It) : usedN (mods ++ [its]) = usedN mods ++ its.flatMap It.names := by simp [usedN]
noncomputable def Small (n : Nat) : Prop := n < 7
theorem seg6 {r u so nn pr : Addr} {us : List Value} {ns : List Int} {n mn : Nat} {tm : Tok} {c1 c2 c3 c4 c5 c6 c7 : Obj} {rest : Led}
    (B : Below A₀ base [] h₀) (F : Fr h₀ L s.heap m) (X : (KX w.params).In h₀) (N : News h₀ L s.heap ((r, listOf us.toArray n) :: (u, W.listOf #[] 0) :: (so, W.listOf #[] 0) :: (nn, W.listOf #[] 0) :: lawLed L c1 c2 c3 c4 c5 c6 c7 #[] rest)) (T : TopM mean mg mb h₀)
    (hd : dp + 60 < recursionLimit) (hu : un + 1200 < cLine)
    (m1 : m (S "many") = some (.int (mn : Int) tm)) (m2 : m (S "primitive") = some (.ref pr)) (m3 : m (S "sources") = some (.ref so)) (m4 : m (S "names") = some (.ref nn)) (hI : IntsAre us ns) (hl : us.length ≤ 200) (h7' : Small mn)
    (e1 : c1.data = .cell (some (.ref r))) (e2 : c2.data = .cell (some (.ref u))) (l48 : @LT.lt Nat _ 1348 L) (lt : @LT.lt Nat _ (L + 7) r ∧ @LT.lt Nat _ r so ∧ @LT.lt Nat _ so u ∧ @LT.lt Nat _ u nn) (off : OffA (lawAs L r so u nn) rest)
    (next : ∀ h' tk' m' nx', Fr h₀ L h' m' → News h₀ L h' nx' → ModJ L r u so nn pr c1 c2 c3 c4 c5 c6 c7 rest mn tm mn m' nx' →
      wpAny (model pwO w) (lawA dp un gd L) (execs law7 (lawE L)) Q (fun _ _ => False) { s with heap := h', toks := tk' }) :
    wpAny (model pwO w) (lawA dp un gd L) (execs law6 (lawE L)) Q (fun _ _ => False) s := by
  refine ?mG; exact ((by exact ?mB) : (let_mvar% ?mB := (by (
  dsimp only [law6, restOf, lawE, lawA]
  have ltz := ord4 lt
  have o1 := lt.1
  have o2 := lt.2.1
  have o3 := lt.2.2.1
  have o4 := lt.2.2.2
  have z1 := ltz.1
  have z2 := ltz.2.1
  have z3 := ltz.2.2.1
  have z4 := ltz.2.2.2.1
  have z5 := ltz.2.2.2.2.1
  have z6 := ltz.2.2.2.2.2
  have G1 := know F m1
  have G2 := know G1 (k := S "primitive") (v := .ref pr) (by rw [if_neg (by decide)]; exact m2)
  have G3 := know G2 (k := S "sources") (v := .ref so) (by rw [if_neg (by decide), if_neg (by decide)]; exact m3)
  have G4 := know G3 (k := S "names") (v := .ref nn) (by rw [if_neg (by decide), if_neg (by decide), if_neg (by decide)]; exact m4)
  clear G1 G2 G3 F
  wtm_at "ks"
  (with_reducible rename Fr _ _ _ _ => FX)
  (with_reducible rename News _ _ _ _ => NX)
  (with_reducible rename IsRange _ _ _ _ _ _ _ _ => hR)
  have h7 : mn < 7 := h7'
  show wpAny _ _ _ _ _ _
  refine iterJ_range (n := mn) (ModJ L r u so nn pr c1 c2 c3 c4 c5 c6 c7 rest mn tm) rfl hR (small_zero (by wtm_at "om")) (by rw [rangeSize_nat]; wtm_at "om") FX NX ⟨us, ns, n, [], 0, [], 0, [], 0, rest, [], rfl, hI, hl, rfl, .nil, .nil, .nil, Nat.zero_le _, (List.forall_mem_nil _), fun _ h => h, off, by wtm_at "kmap", by wtm_at "kmap", by wtm_at "kmap", by wtm_at "kmap"⟩ ?_ ?_
  · rintro I i t m₁ _ h tk oI hlt hi ⟨us, ns, n, vu, nu, vsrc, ksrc, vnam, knam, rest', mods, rfl, hI, hl, hml, hvs, hvn, hvu, hul, hok, hsub, off, q1, q2, q3, q4⟩ hne F8 N8
    clear FX NX h7
    have G3 := know F8 (k := S "sources") (v := .ref so) (by rw [if_neg (by decide)]; exact q3)
    have G4 := know G3 (k := S "names") (v := .ref nn) (by rw [if_neg (by decide), if_neg (by decide)]; exact q4)
    clear G3 F8
    k_lt hlt
    have offr : ∀ p ∈ rest', p.1 ≠ r := off r (by wtm_at "led_mem")
    have offso : ∀ p ∈ rest', p.1 ≠ so := off so (by wtm_at "led_mem")
    have offnn : ∀ p ∈ rest', p.1 ≠ nn := off nn (by wtm_at "led_mem")
    wtm_at "ks"
    (with_reducible rename Fr _ _ _ _ => F1)
    (with_reducible rename News _ _ _ _ => N1)
    (with_reducible rename IsRange _ _ _ _ _ _ _ _ => hR2)
    (with_reducible rename IntsAre _ _ => I1)
    (with_reducible rename List.length _ ≤ 200 => L1)
    have q := fm (nextV ns) 3 (by decide)
    obtain ⟨k3, hk3⟩ : ∃ k : Nat, (nextV ns).fmod 3 = (k : Int) := ⟨((nextV ns).fmod 3).toNat, (Int.toNat_of_nonneg q.1).symm⟩
    rw [hk3] at hR2 q
    have h7i : i < 7 := Nat.lt_trans hi h7'
    have hsl := hvs.length
    rw [modsD, List.length_mapIdx] at hsl
    have hnl := hvn.length
    rw [List.length_map, List.length_map, List.length_range] at hnl
    have hsl9 : vsrc.length ≤ 900 := by wtm_at "om"
    have hnl9 : vnam.length ≤ 900 := by wtm_at "om"
    refine ⟨_, _, k3, _, _, _, _, ItsJ L r u so nn I oI vsrc ksrc vnam knam c1 c2 c3 c4 c5 c6 c7 rest' (usedN mods) (8 * i), F1, N1, src_range rfl hR2 (small_zero (by wtm_at "om")) (by rw [rangeSize_nat]; wtm_at "om") (by rw [PySem.sizeLine_eq]; wtm_at "om"), trivial, ⟨_, _, _, _, _, rest', [], rfl, I1, L1, rfl, .nil, (by rw [List.flatMap_nil, List.append_nil]; exact hvu), hul, (List.forall_mem_nil _), fun _ h => h, List.forall_mem_cons.mpr ⟨?_, off⟩⟩, ?_, ?_⟩
    · exact fun p hp => hne p (by ((repeat (refine List.Mem.tail _ ?_)); exact hp))
    · rintro i2 ys _ v I2 oI2 C oC D m₂ h2 tk2 E' hi2 ⟨us2, ns2, n2, vu2, nu2, rest2, its, rfl, hI2, hl2, hits, hys, hvu2, hul2, hok2, hsub2, off2⟩ - ⟨tv, rfl⟩ hC hx F2 N2 of3 ne3
      clear F1 N1 hR2
      wtm_at "ks"
      have offr2 : ∀ p ∈ rest2, p.1 ≠ r := off2 r (by wtm_at "led_mem")
      have offu2 : ∀ p ∈ rest2, p.1 ≠ u := off2 u (by wtm_at "led_mem")
      obtain ⟨f1, f2, f3, f4, f5, f6, f7, f8, f9, f10, f11, f12, f13, f14⟩ := of3
      have hiu := hvu2.length
      show wpAny _ _ _ _ _ _
      refine item_p (n := n2) (n2 := nu2) (mo := (I2, oI2) :: (C, oC) :: (D, LCg.lst ys) :: (I, oI) :: (so, listOf vsrc.toArray ksrc) :: (nn, listOf vnam.toArray knam) :: lawLed L c1 c2 c3 c4 c5 c6 c7 #[] []) (rest := rest2) item_2 [] B F2 X (nsub N2 ?sub) T rfl (by ktr_room) (by ktr_units) rfl hI2 hl2 hvu2 (by show vu2.length + 4 ≤ 900; wtm_at "om") ?ru ⟨?o1, ?o2, ?o3⟩ (List.forall_mem_nil _) fun v' rest3 us3 ns3 n3 vu3 nu3 it h3 tk3 F3 N3 hs3 o3 hD ok3 dp3 I3 l3 hv3 lv3 => ?_
      case sub => wtm_at "led_sub"
      case ru => exact Nat.ne_of_lt (by wtm_at "oo")
      case o1 => (simp only [lawLed, List.cons_append, List.nil_append]; wtm_at "off_p")
      case o2 => (simp only [lawLed, List.cons_append, List.nil_append]; wtm_at "off_p")
      case o3 =>
        have hs : ∀ b ∈ [I, so, nn, L + 7, L + 6, L + 5, L + 4, L + 3, L + 2, L + 1, 1348], b ∈ I :: lawAs L r so u nn := by wtm_at "led_sub"
        simp only [lawLed, List.map_cons, List.map_nil]
        refine List.forall_mem_cons.mpr ⟨fun p hp => (LCg.Off3.mem f14 p hp).1, List.forall_mem_cons.mpr ⟨fun p hp => (LCg.Off3.mem f14 p hp).2.1, List.forall_mem_cons.mpr ⟨fun p hp => (LCg.Off3.mem f14 p hp).2.2, fun b hb => off2 b (hs b hb)⟩⟩⟩
      have lv4 : vu3.length ≤ vu2.length + 4 := lv3
      refine' ⟨h3, tk3, (I, oI) :: (r, _) :: (u, _) :: (so, _) :: (nn, _) :: lawLed L c1 c2 c3 c4 c5 c6 c7 #[] rest3, rfl, F3, nsub N3 ?sub, ?off3, trivial, us3, ns3, n3, vu3, nu3, rest3, its ++ [it], rfl, I3, l3, ?len, ?dys, ?du, ?ul, ?ok, ?sub0, ?off⟩
      case sub => wtm_at "led_sub"
      case off3 => exact ⟨f1, f2, f3, f4, f5, f6, f7, f8, f9, f10, f11, f12, f13, off3_of fun p hp => ⟨o3.2.2 I2 (.head _) p hp, o3.2.2 C mm1 p hp, o3.2.2 D mm2 p hp⟩⟩
      case len => rw [List.length_append, List.length_singleton, hits]
      case dys => rw [List.map_append]; exact (hys.mono hs3).append (.one hD)
      case du =>
        have e : usedN mods ++ List.flatMap It.names (its ++ [it]) = usedN mods ++ List.flatMap It.names its ++ it.names := by simp
        rw [e]; exact hv3
      case ul => wtm_at "om"
      case ok => exact fun x hx => (List.mem_append.mp hx).elim (hok2 x) fun h => by rw [List.mem_singleton.mp h]; exact ⟨ok3, by wtm_at "om"⟩
      case sub0 => exact fun p hp => hs3 p (hsub2 p hp)
      case off => repeat (first | exact List.forall_mem_nil _ | refine List.forall_mem_cons.mpr ⟨by first | exact o3.2.2 _ (by wtm_at "led_mem") | exact (fun p hp => o3.1 p (List.mem_append_right _ hp)) | exact (fun p hp => o3.2.1 p (List.mem_append_right _ hp)), ?_⟩)
    · rintro ys _ D h2 tk2 ⟨us2, ns2, n2, vu2, nu2, rest2, its, rfl, hI2, hl2, hits, hys, hvu2, hul2, hok2, hsub2, off2⟩ F2 N2 of1
      clear F1 N1 hR2
      have hyl := hys.length
      rw [List.length_map] at hyl
      wtm_at "ks"
      show wpAny _ _ _ _ _ _
      refine kde_tupleOf F2 N2 (isL N2 (.head _)) (by rw [List.size_toArray]; wtm_at "om") (zs := ys) rfl fun D' h3 F3 N3 l3 => ?_
      (try dsimp only)
      have lD := fun p hp => l3 p (.tail _ hp)
      k_lt lD
      have N4 := nsub N3 skip2
      have offr2 : ∀ p ∈ rest2, p.1 ≠ r := off2 r (by wtm_at "led_mem")
      have offso2 : ∀ p ∈ rest2, p.1 ≠ so := off2 so (by wtm_at "led_mem")
      have offnn2 : ∀ p ∈ rest2, p.1 ≠ nn := off2 nn (by wtm_at "led_mem")
      clear N3 N2 F2 l3
      have offI2 : ∀ p ∈ rest2, p.1 ≠ I := off2 I (.head _)
      have offu2 : ∀ p ∈ rest2, p.1 ≠ u := off2 u (by wtm_at "led_mem")
      wtm_at "ks"
      (with_reducible rename Fr _ _ _ _ => FZ)
      (with_reducible rename News _ _ _ _ => NZ)
      rename_i b1 _ z1 b2 _ z2 b3 _ z3 _ t9 _ _ _
      rw [List.push_toArray, List.push_toArray] at NZ
      refine' ⟨_, _, _, (r, _) :: (u, _) :: (so, _) :: (nn, _) :: lawLed L c1 c2 c3 c4 c5 c6 c7 #[] ((b3, _) :: (b2, _) :: (b1, _) :: (D', _) :: rest2), rfl, FZ, nsub NZ ?sub, ?ne, List.forall_mem_nil _, us2, ns2, n2, vu2, nu2, vsrc ++ [.ref b3], _, vnam ++ [.str (mname i) t9], _, _, mods ++ [its], rfl, hI2, hl2, ?len, ?dsrc, ?dnam, ?du, ?ul, ?ok, ?sub0, ?off, by wtm_at "kmap", by wtm_at "kmap", by wtm_at "kmap", by wtm_at "kmap"⟩
      case sub => wtm_at "led_sub"
      case ne => wtm_at "off_p"
      case len => rw [List.length_append, List.length_singleton, hml]
      case dsrc =>
        rw [modsD_snoc, hml]
        refine DatAll.append (hvs.mono fun p hp => .tail _ (.tail _ (.tail _ (.tail _ (hsub2 p hp))))) (.one ?_)
        exact .tuple (.head _) (.cons (.str _ _) (.cons (.int _ _) (.cons (.str _ _) (.cons (.tuple mm2 .nil) (.cons (.tuple mm1 .nil) (.cons (.tuple mm3 (hys.mono fun p hp => .tail _ (.tail _ (.tail _ (.tail _ hp))))) (.cons (.str _ _) .nil)))))))
      case dnam =>
        rw [List.range_succ, List.map_append, List.map_append]
        exact hvn.append (.one (.str _ _))
      case du => rw [usedN_snoc]; exact hvu2
      case ul => wtm_at "om"
      case ok => exact fun x hx => (List.mem_append.mp hx).elim (hok x) fun h => by rw [List.mem_singleton.mp h]; exact ⟨by wtm_at "om", hok2⟩
      case sub0 => exact fun p hp => .tail _ (.tail _ (.tail _ (.tail _ (hsub2 p (hsub p hp)))))
      case off => exact OffA.cons (OffA.cons (OffA.cons (OffA.cons (fun a ha => off2 a (.tail _ ha)) (by wtm_at "ne_all")) (by wtm_at "ne_all")) (by wtm_at "ne_all")) (by wtm_at "ne_all")
  · rintro m₁ _ h tk hJ F7 N7
    wtm_at "ks"
    show wpAny _ _ _ _ _ _
    exact next _ _ _ _ F7 N7 hJ
  ) : type_of% ?mG); have _ : True := trivial; type_of% ?mG))
end
end
section
open PySem PySem.W PyProof.Rows PySem.Calls
set_option maxRecDepth 100000
set_option maxHeartbeats 0
set_option Elab.async false
set_option compiler.extract_closed false
set_option compiler.reuse false
set_option linter.unusedVariables false
set_option pp.deepTerms false
section
variable {w : World} {mean : ExcName → Option Value} {mg mb : Str → Option Value} {dp un : Nat} {gd : Option (List Code)} {A₀ : Around} {base h₀ : Heap} {L : Addr} {m : Str → Option Value} {s : Shared} {Q : Flow → Shared → Prop} {E : Value → Shared → Prop}

local macro_rules | `(tactic| walk_at "execs cons") => do heldAt [← `((execs (Stmt.If _ _ _ _ :: _) _))]
local macro_rules | `(tactic| walk_at "subscriptTail Name Slice ref ref") => holdS
local macro_rules | `(tactic| walk_at "binaryOp Add ref ref") => holdS
noncomputable def modSrs (mods : List (List It)) : List Sr := mods.mapIdx fun k its => .mod (mname k) its
noncomputable def givSrs (mods : List (List It)) (k : Nat) : List Sr := (modSrs mods).take k ++ ([.prim] ++ (modSrs mods).drop k)
theorem SrAll.append {l : Led} {a b : List Value} {x y : List Sr} (h1 : SrAll l a x) (h2 : SrAll l b y) : SrAll l (a ++ b) (x ++ y) := by
  refine ?mG; exact ((by exact ?mB) : (let_mvar% ?mB := (by (
  refine ⟨by rw [List.length_append, List.length_append, h1.1, h2.1], fun i v r hv hr => ?_⟩
  by_cases h : i < a.length
  · rw [List.getElem?_append_left h] at hv
    rw [List.getElem?_append_left (by rw [← h1.1]; exact h)] at hr
    exact h1.2 i v r hv hr
  · rw [List.getElem?_append_right (Nat.le_of_not_lt h)] at hv
    rw [List.getElem?_append_right (by rw [← h1.1]; exact Nat.le_of_not_lt h), ← h1.1] at hr
    exact h2.2 _ v r hv hr
  ) : type_of% ?mG); have _ : True := trivial; type_of% ?mG))
theorem SrAll.take {l : Led} {a : List Value} {x : List Sr} (k : Nat) (h : SrAll l a x) : SrAll l (a.take k) (x.take k) := by
  refine ?mG; exact ((by exact ?mB) : (let_mvar% ?mB := (by (
  refine ⟨by rw [List.length_take, List.length_take, h.1], fun i v r hv hr => ?_⟩
  rw [List.getElem?_take] at hv hr
  by_cases q : i < k
  · rw [if_pos q] at hv hr
    exact h.2 i v r hv hr
  · rw [if_neg q] at hv; cases hv
  ) : type_of% ?mG); have _ : True := trivial; type_of% ?mG))
theorem SrAll.drop {l : Led} {a : List Value} {x : List Sr} (k : Nat) (h : SrAll l a x) : SrAll l (a.drop k) (x.drop k) := by
  refine ⟨by rw [List.length_drop, List.length_drop, h.1], fun i v r hv hr => ?_⟩
  rw [List.getElem?_drop] at hv hr
  exact h.2 _ v r hv hr
theorem SrAll.one {l : Led} {v : Value} {r : Sr} (h : SrIn l v r) : SrAll l [v] [r] := by
  refine ⟨rfl, fun i v' r' hv hr => ?_⟩
  cases i with
  | zero => cases hv; cases hr; exact h
  | succ i => cases hv
theorem SrAll.mods {l : Led} {vs : List Value} {mods : List (List It)} (h : DatAll l vs (modsD mods)) : SrAll l vs (modSrs mods) := by
  refine ?mG; exact ((by exact ?mB) : (let_mvar% ?mB := (by (
  have hl := h.length
  refine ⟨by rw [hl, modsD, modSrs, List.length_mapIdx, List.length_mapIdx], fun i v r hv hr => ?_⟩
  have hi : i < (modsD mods).length := by
    rw [← hl]
    exact (List.getElem?_eq_some_iff.mp hv).1
  obtain ⟨v', h1, h2⟩ := h.get (k := i) hi
  rw [hv] at h1
  obtain rfl := Option.some.inj h1
  have hi2 : i < mods.length := by rw [modsD, List.length_mapIdx] at hi; exact hi
  rw [modSrs, List.getElem?_mapIdx, List.getElem?_eq_getElem hi2] at hr
  obtain rfl := Option.some.inj hr
  simp only [modsD, List.getElem_mapIdx] at h2
  exact h2
  ) : type_of% ?mG); have _ : True := trivial; type_of% ?mG))
theorem minA {a b : Nat} (h : b ≤ 6) : min a b + 1 ≤ 16777216 := by omega
theorem minB {a b : Nat} (h : b ≤ 6) : min a b + 1 + (b - a) ≤ 16777216 := by omega
theorem pick_to (l : List Value) {y : Int} (h : 0 ≤ y) : kms_pick l none (some y) = l.take y.toNat := by
  refine ?mG; exact ((by exact ?mB) : (let_mvar% ?mB := (by (
  have e1 : kms_lo none l.length = 0 := rfl
  have e2 : kms_hi (some y) l.length = min y.toNat l.length := by
    unfold kms_hi
    (try dsimp only)
    rw [if_neg (by wtm_at "om")]
  rw [kms_pick, e1, e2, List.drop_zero, Nat.sub_zero, kmk_take_min]
  ) : type_of% ?mG); have _ : True := trivial; type_of% ?mG))
theorem pick_from (l : List Value) {x : Int} (h : 0 ≤ x) : kms_pick l (some x) none = l.drop x.toNat := by
  refine ?mG; exact ((by exact ?mB) : (let_mvar% ?mB := (by (
  have e1 : kms_lo (some x) l.length = min x.toNat l.length := by
    unfold kms_lo
    (try dsimp only)
    rw [if_neg (by wtm_at "om")]
  have e2 : kms_hi none l.length = l.length := rfl
  rw [kms_pick, e1, e2, kmk_drop_min]
  apply List.take_of_length_le
  rw [List.length_drop]; omega
  ) : type_of% ?mG); have _ : True := trivial; type_of% ?mG))
theorem add_listsK {prog : Program} {A : Around} {l b : Addr} {vs ws : List Value} {c d : Nat} {news : Led} {Q : Value → Shared → Prop} {E : Value → Shared → Prop} (F : Fr h₀ L s.heap m) (N : News h₀ L s.heap news) (ma : (l, listOf vs.toArray c) ∈ news) (mb : (b, listOf ws.toArray d) ∈ news) (hz : vs.length + ws.length ≤ sizeLine)
    (h : ∀ D h', Fr h₀ L h' m → News h₀ L h' ((D, listOf (vs ++ ws).toArray 0) :: news) → (∀ p ∈ news, @LT.lt Nat _ p.1 D) → Q (.ref D) { s with heap := h' }) : wpAny (model prog w) A (binaryOp .Add (.ref l) (.ref b)) (Q) (E) s :=
  add_lists F N (isL N ma) (isL N mb) (fun h' F' N' => h _ h' F' N' fun p hp => Heap.lt_size (N p hp).1) hz
inductive GivJ (L r u so nn gv : Addr) (c1 c2 c3 c4 c5 c6 c7 : Obj) (rest0 : Led) (m : Str → Option Value) (nx : Led) : Prop
  | mk (us : List Value) (ns : List Int) (n : Nat) (vu : List Value) (nu : Nat) (vsrc : List Value) (ksrc : Nat) (vnam : List Value) (knam : Nat) (rest : Led) (mods : List (List It)) (k : Nat) (vgv : List Value) (ngv : Nat)
    (h0 : nx = (r, listOf us.toArray n) :: (u, listOf vu.toArray nu) :: (so, listOf vsrc.toArray ksrc) :: (nn, listOf vnam.toArray knam) :: lawLed L c1 c2 c3 c4 c5 c6 c7 #[] rest)
    (h1 : IntsAre us ns)
    (h2 : us.length ≤ 200)
    (h3 : mods.length < 7)
    (h4 : DatAll rest vsrc (modsD mods))
    (h5 : DatAll [] vnam (((List.range mods.length).map mname).map Dat.str))
    (h6 : DatAll [] vu ((usedN mods).map Dat.str))
    (h7 : vu.length ≤ 8 * mods.length)
    (h8 : (∀ its ∈ mods, its.length ≤ 2 ∧ ∀ it ∈ its, it.ok ∧ it.deep ≤ 2))
    (h9 : (∀ p ∈ rest0, p ∈ rest))
    (h10 : OffA (lawAs L r so u nn) rest)
    (h11 : (gv, listOf vgv.toArray ngv) ∈ rest)
    (h12 : SrAll rest vgv (givSrs mods k))
    (h13 : (k ≤ mods.length ∧ ∃ v, vgv = vsrc.take k ++ [v] ++ vsrc.drop k))
    (h14 : m (S "given") = some (.ref gv))
    (h15 : m (S "sources") = some (.ref so))
    (h16 : m (S "names") = some (.ref nn))
theorem seg7 {r u so nn pr : Addr} {nx : Led} {mn : Nat} {tm : Tok} {c1 c2 c3 c4 c5 c6 c7 : Obj} {rest0 : Led}
    (B : Below A₀ base [] h₀) (F : Fr h₀ L s.heap m) (X : (KX w.params).In h₀) (N : News h₀ L s.heap nx) (T : TopM mean mg mb h₀)
    (hd : dp + 60 < recursionLimit) (hu : un + 1200 < cLine) (hJ : ModJ L r u so nn pr c1 c2 c3 c4 c5 c6 c7 rest0 mn tm mn m nx) (h7' : Small mn) (hpr : SrIn rest0 (.ref pr) .prim)
    (e1 : c1.data = .cell (some (.ref r))) (e2 : c2.data = .cell (some (.ref u))) (l48 : @LT.lt Nat _ 1348 L) (lt : @LT.lt Nat _ (L + 7) r ∧ @LT.lt Nat _ r so ∧ @LT.lt Nat _ so u ∧ @LT.lt Nat _ u nn)
    (next : ∀ h' tk' m' nx' gv, Fr h₀ L h' m' → News h₀ L h' nx' → GivJ L r u so nn gv c1 c2 c3 c4 c5 c6 c7 rest0 m' nx' →
      wpAny (model pwO w) (lawA dp un gd L) (execs law9 (lawE L)) Q (fun _ _ => False) { s with heap := h', toks := tk' }) :
    wpAny (model pwO w) (lawA dp un gd L) (execs law7 (lawE L)) Q (fun _ _ => False) s := by
  refine ?mG; exact ((by exact ?mB) : (let_mvar% ?mB := (by (
  obtain ⟨us, ns, n, vu, nu, vsrc, ksrc, vnam, knam, rest, mods, rfl, hI, hl, hml, hvs, hvn, hvu, hul, hok, hsub, off, q1, q2, q3, q4⟩ := hJ
  dsimp only [law7, restOf, lawE, lawA]
  have ltz := ord4 lt
  have o1 := lt.1
  have o2 := lt.2.1
  have o3 := lt.2.2.1
  have o4 := lt.2.2.2
  have z1 := ltz.1
  have z2 := ltz.2.1
  have z3 := ltz.2.2.1
  have z4 := ltz.2.2.2.1
  have z5 := ltz.2.2.2.2.1
  have z6 := ltz.2.2.2.2.2
  have G1 := know F q1
  have G2 := know G1 (k := S "primitive") (v := .ref pr) (by rw [if_neg (by decide)]; exact q2)
  have G3 := know G2 (k := S "sources") (v := .ref so) (by rw [if_neg (by decide), if_neg (by decide)]; exact q3)
  have G4 := know G3 (k := S "names") (v := .ref nn) (by rw [if_neg (by decide), if_neg (by decide), if_neg (by decide)]; exact q4)
  clear G1 G2 G3 F
  have offr : ∀ p ∈ rest, p.1 ≠ r := off r (by wtm_at "led_mem")
  k_steps
  have hvl := hvs.length
  rw [modsD, List.length_mapIdx] at hvl
  have h7 : mn < 7 := h7'
  have q := fm (nextV ns) ((mn : Int) + 1) (by wtm_at "om")
  generalize hy : (nextV ns).fmod ((mn : Int) + 1) = y at q ⊢
  have hyn : y.toNat ≤ mods.length := by omega
  have hv6 : vsrc.length ≤ 6 := by omega
  (with_reducible rename Fr _ _ _ _ => F1)
  (with_reducible rename News _ _ _ _ => N1)
  rw [hy] at F1
  show wpAny _ _ _ _ _ _
  refine kms_slice_lit F1 N1 (isL N1 mm2) ?pa ?pb (pick_to vsrc q.1) (fun D1 h1 F2 N2 l2 => ?_) ?hs ?ht ?hz
  case pa => kmk_part
  case pb => kmk_part
  case hs => with_unfolding_all rfl
  case ht => kmk_pure
  case hz => rw [List.size_toArray, PySem.sizeLine_eq]; wtm_at "om"
  (try dsimp only)
  k_lt l2
  k_steps
  (with_reducible rename Fr _ _ _ _ => F3)
  (with_reducible rename News _ _ _ _ => N3)
  show wpAny _ _ _ _ _ _
  refine add_listsK F3 N3 mm1 (d := 0) (ws := [.ref pr]) (.head _) (by rw [List.length_take, PySem.sizeLine_eq, List.length_singleton]; exact minA hv6) fun D2 h2 F4 N4 l4 => ?_
  (try dsimp only)
  k_lt l4
  k_steps
  (with_reducible rename Fr _ _ _ _ => F5)
  (with_reducible rename News _ _ _ _ => N5)
  show wpAny _ _ _ _ _ _
  refine kms_slice_lit F5 N5 (isL N5 (vs := vsrc) (by wtm_at "led_mem")) ?pa ?pb (pick_from vsrc q.1) (fun D3 h3 F6 N6 l6 => ?_) ?hs ?ht ?hz
  case pa => kmk_part
  case pb => kmk_part
  case hs => with_unfolding_all rfl
  case ht => kmk_pure
  case hz => rw [List.size_toArray, PySem.sizeLine_eq]; wtm_at "om"
  (try dsimp only)
  k_lt l6
  k_steps
  (with_reducible rename Fr _ _ _ _ => F7)
  (with_reducible rename News _ _ _ _ => N7)
  show wpAny _ _ _ _ _ _
  refine add_listsK F7 N7 mm1 (.head _) (by rw [List.length_append, List.length_take, List.length_drop, PySem.sizeLine_eq, List.length_singleton]; exact minB hv6) fun D4 h4 F8 N8 l8 => ?_
  (try dsimp only)
  k_lt l8
  k_steps
  (with_reducible rename Fr _ _ _ _ => F9)
  (with_reducible rename News _ _ _ _ => N9)
  (with_reducible rename IntsAre _ _ => I9)
  (with_reducible rename List.length _ ≤ 200 => L9)
  show wpAny _ _ _ _ _ _
  have hS := SrAll.mods hvs
  refine' next _ _ _ ((r, _) :: (u, _) :: (so, _) :: (nn, _) :: lawLed L c1 c2 c3 c4 c5 c6 c7 #[] ((D4, _) :: rest)) D4 F9 (nsub N9 ?sub) ⟨_, _, _, vu, nu, vsrc, ksrc, vnam, knam, (D4, _) :: rest, mods, y.toNat, _, 0, rfl, I9, L9, by wtm_at "om", hvs.mono ?s1, by rw [hml]; exact hvn, hvu, by wtm_at "om", hok, fun p hp => .tail _ (hsub p hp), OffA.cons off ?ne, .head _, ?srs, ?k, by wtm_at "kmap", by wtm_at "kmap", by wtm_at "kmap"⟩
  case sub => wtm_at "led_sub"
  case s1 => exact fun p hp => .tail _ hp
  case ne => wtm_at "ne_all"
  case k => exact ⟨hyn, _, rfl⟩
  case srs =>
    have up : ∀ p ∈ rest, p ∈ (D4, listOf (vsrc.take y.toNat ++ [Value.ref pr] ++ vsrc.drop y.toNat).toArray 0) :: rest := fun p hp => .tail _ hp
    have hS2 : SrAll ((D4, listOf (vsrc.take y.toNat ++ [Value.ref pr] ++ vsrc.drop y.toNat).toArray 0) :: rest) vsrc (modSrs mods) := ⟨hS.1, fun i v r a b => SrIn.mono up (hS.2 i v r a b)⟩
    have z := (hS2.take y.toNat).append ((SrAll.one (SrIn.mono up (SrIn.mono hsub hpr))).append (hS2.drop y.toNat))
    rw [← List.append_assoc] at z
    exact z
  ) : type_of% ?mG); have _ : True := trivial; type_of% ?mG))
end
end
section
open PySem PySem.W PyProof.Rows PySem.Calls
set_option maxRecDepth 100000
set_option maxHeartbeats 0
set_option Elab.async false
set_option compiler.extract_closed false
set_option compiler.reuse false
set_option linter.unusedVariables false
set_option pp.deepTerms false
section
variable {w : World} {mean : ExcName → Option Value} {mg mb : Str → Option Value} {dp un : Nat} {gd : Option (List Code)} {A₀ : Around} {base h₀ : Heap} {L : Addr} {m : Str → Option Value} {s : Shared} {Q : Flow → Shared → Prop} {E : Value → Shared → Prop}

local macro_rules | `(tactic| walk_at "mine no such key") => `(tactic| skip)
local macro_rules | `(tactic| walk_at "execs cons") => do heldAt [← `((execs (Stmt.If (Expr.Compare (Expr.Call (Expr.Name (Str.ofString "modules_by_name") _) _ _ _) _ _ _) _ _ _ :: _) _))]
local macro_rules | `(tactic| walk_at "compareOp NotEq ref ref") => holdS
local macro_rules | `(tactic| walk_at "compareOp NotIn str ref") => holdS
theorem It.size_deep : ∀ it : It, it.size + 2 ≤ 3 * 2 ^ it.deep := by
  refine ?mG; exact ((by exact ?mB) : (let_mvar% ?mB := (by (
  intro it
  induction it with
  | inst x => exact Nat.le_refl _
  | init => exact Nat.le_refl _
  | blk o ih => show o.size + 1 + 2 ≤ 3 * 2 ^ (o.deep + 1); rw [Nat.pow_succ]; wtm_at "om"
  | gif o ih => show o.size + 2 + 2 ≤ 3 * 2 ^ (o.deep + 1); rw [Nat.pow_succ]; wtm_at "om"
  | gif2 o e ih ih2 =>
    show o.size + e.size + 2 + 2 ≤ 3 * 2 ^ (max o.deep e.deep + 1)
    rw [Nat.pow_succ]
    have h1 : 2 ^ o.deep ≤ 2 ^ (max o.deep e.deep) := Nat.pow_le_pow_right (by decide) (Nat.le_max_left _ _)
    have h2 : 2 ^ e.deep ≤ 2 ^ (max o.deep e.deep) := Nat.pow_le_pow_right (by decide) (Nat.le_max_right _ _)
    wtm_at "om"
  | gcase o ih => show o.size + 1 + 2 ≤ 3 * 2 ^ (o.deep + 1); rw [Nat.pow_succ]; wtm_at "om"
  | gfor o ih => show o.size + 2 + 2 ≤ 3 * 2 ^ (o.deep + 1); rw [Nat.pow_succ]; wtm_at "om"
  ) : type_of% ?mG); have _ : True := trivial; type_of% ?mG))
theorem It.size_two {it : It} (h : it.deep ≤ 2) : it.size ≤ 10 := by
  have h1 := It.size_deep it
  have h2 : 2 ^ it.deep ≤ 2 ^ 2 := Nat.pow_le_pow_right (by decide) h
  wtm_at "om"
theorem its_size {its : List It} (hl : its.length ≤ 2) (h : ∀ it ∈ its, it.ok ∧ it.deep ≤ 2) : (its.map It.size).sum ≤ 20 := by
  match its, hl, h with
  | [], _, _ => exact Nat.zero_le _
  | [a], _, h => have := It.size_two (h a (.head _)).2; simp; wtm_at "om"
  | [a, b], _, h => have := It.size_two (h a (.head _)).2; have := It.size_two (h b mm1).2; simp; wtm_at "om"
theorem modSrs_snoc (mods : List (List It)) (its : List It) : modSrs (mods ++ [its]) = modSrs mods ++ [.mod (mname mods.length) its] := by
  unfold modSrs
  rw [List.mapIdx_append]; simp
theorem modSrs_mem {mods : List (List It)} {s : Sr} (h : s ∈ modSrs mods) : ∃ i its, i < mods.length ∧ mods[i]? = some its ∧ s = .mod (mname i) its := by
  obtain ⟨i, hi, e⟩ := List.mem_iff_getElem.mp h
  have hi2 : i < mods.length := by rw [modSrs, List.length_mapIdx] at hi; exact hi
  refine ⟨i, mods[i], hi2, List.getElem?_eq_getElem hi2, ?_⟩
  rw [← e]; simp [modSrs]
theorem givSrs_bound {mods : List (List It)} {k : Nat} (h : ∀ its ∈ mods, its.length ≤ 2 ∧ ∀ it ∈ its, it.ok ∧ it.deep ≤ 2) : ∀ r ∈ givSrs mods k, r.size ≤ 10000 ∧ r.len ≤ 100 := by
  refine ?mG; exact ((by exact ?mB) : (let_mvar% ?mB := (by (
  have hm : ∀ r ∈ modSrs mods, r.size ≤ 10000 ∧ r.len ≤ 100 := fun r hr => by
    obtain ⟨i, its, _, hi, rfl⟩ := modSrs_mem hr
    have hin := List.mem_of_getElem? hi
    have := its_size (h its hin).1 (h its hin).2
    have := (h its hin).1
    exact ⟨by show (its.map It.size).sum ≤ 10000; wtm_at "om", by show its.length ≤ 100; wtm_at "om"⟩
  intro r hr
  rcases List.mem_append.mp hr with hr | hr
  · exact hm r (List.mem_of_mem_take hr)
  · rcases List.mem_append.mp hr with hr | hr
    · rw [List.mem_singleton.mp hr]; exact ⟨Nat.zero_le _, Nat.zero_le _⟩
    · exact hm r (List.mem_of_mem_drop hr)
  ) : type_of% ?mG); have _ : True := trivial; type_of% ?mG))
theorem modSrs_names (mods : List (List It)) : (modSrs mods).flatMap Sr.names = usedN mods := by
  refine ?mG; exact ((by exact ?mB) : (let_mvar% ?mB := (by (
  suffices h : ∀ n, ∀ mods : List (List It), mods.length = n → (modSrs mods).flatMap Sr.names = usedN mods from h _ mods rfl
  intro n
  induction n with
  | zero => intro mods h; rw [List.eq_nil_of_length_eq_zero h]; rfl
  | succ n ih =>
    intro mods h
    have hne : mods ≠ [] := fun e => by rw [e] at h; cases h
    rw [← List.dropLast_concat_getLast hne, modSrs_snoc, usedN_snoc, List.flatMap_append, ih _ (by rw [List.length_dropLast, h]; rfl)]
    simp [Sr.names]
  ) : type_of% ?mG); have _ : True := trivial; type_of% ?mG))
theorem givSrs_names {mods : List (List It)} {k : Nat} (x : Str) : x ∈ (givSrs mods k).flatMap Sr.names ↔ x ∈ usedN mods := by
  rw [← modSrs_names]
  have e : (modSrs mods).flatMap Sr.names = ((modSrs mods).take k).flatMap Sr.names ++ ((modSrs mods).drop k).flatMap Sr.names := by
    rw [← List.flatMap_append, List.take_append_drop]
  rw [e, givSrs, List.flatMap_append, List.flatMap_append]
  simp [Sr.names]
theorem modSrs_kept {mods : List (List It)} (P : Str → Bool) (f : Sr → Option Str) (hf : ∀ nm its, f (.mod nm its) = if P nm then some nm else none) : (modSrs mods).filterMap f = ((List.range mods.length).map mname).filter P := by
  refine ?mG; exact ((by exact ?mB) : (let_mvar% ?mB := (by (
  suffices h : ∀ n, ∀ mods : List (List It), mods.length = n → (modSrs mods).filterMap f = ((List.range mods.length).map mname).filter P from h _ mods rfl
  intro n
  induction n with
  | zero => intro mods h; rw [List.eq_nil_of_length_eq_zero h]; rfl
  | succ n ih =>
    intro mods h
    have hne : mods ≠ [] := fun e => by rw [e] at h; cases h
    have hd : mods.dropLast.length = n := by rw [List.length_dropLast, h]; rfl
    have e := List.dropLast_concat_getLast hne
    generalize mods.dropLast = md at e hd
    generalize mods.getLast hne = its at e
    subst e
    rw [modSrs_snoc, List.filterMap_append, ih _ hd, List.length_append, List.length_singleton, List.range_succ, List.map_append, List.filter_append]
    congr 1
    simp only [List.map_cons, List.map_nil, List.filterMap_cons, List.filterMap_nil, hf, List.filter_cons, List.filter_nil]
    by_cases hp : P (mname md.length) <;> simp [hp]
  ) : type_of% ?mG); have _ : True := trivial; type_of% ?mG))
theorem any_mem {xs : List Str} {x : Str} : xs.any (· == x) = true ↔ x ∈ xs := by
  rw [List.any_eq_true]
  exact ⟨fun ⟨z, hz, e⟩ => beq_iff_eq.mp e ▸ hz, fun h => ⟨x, h, beq_self_eq_true x⟩⟩
theorem giv_kept {mods : List (List It)} {k : Nat} : (givSrs mods k).filterMap (keptOf (givSrs mods k)) = ((List.range mods.length).map mname).filter fun x => !((usedN mods).any (· == x)) := by
  refine ?mG; exact ((by exact ?mB) : (let_mvar% ?mB := (by (
  have hf : ∀ nm its, keptOf (givSrs mods k) (.mod nm its) = if (!((usedN mods).any (· == nm))) = true then some nm else none := fun nm its => by
    unfold keptOf
    (try dsimp only)
    by_cases h : nm ∈ usedN mods
    · rw [if_pos (givSrs_names nm |>.mpr h), any_mem.mpr h]; rfl
    · rw [if_neg fun z => h (givSrs_names nm |>.mp z), Bool.eq_false_iff.mpr fun z => h (any_mem.mp z)]; rfl
  rw [← modSrs_kept (mods := mods) (fun x => !((usedN mods).any (· == x))) _ hf]
  have hp : keptOf (givSrs mods k) .prim = none := rfl
  generalize keptOf (givSrs mods k) = f at hp ⊢
  have e : (modSrs mods).filterMap f = ((modSrs mods).take k).filterMap f ++ ((modSrs mods).drop k).filterMap f := by
    rw [← List.filterMap_append, List.take_append_drop]
  rw [e, givSrs, List.filterMap_append, List.filterMap_append, List.filterMap_cons, hp]
  rfl
  ) : type_of% ?mG); have _ : True := trivial; type_of% ?mG))
theorem mname_ok {i : Nat} (h : i < 7) : PyData.strOk (mname i) = true :=
  List.all_eq_true.mp (show (List.range 7).all (fun i => PyData.strOk (mname i)) = true by kernel_rfl) i (List.mem_range.mpr h)
theorem names_ok {l : List Str} {n : Nat} (h : ∀ x ∈ l, x ∈ (List.range n).map mname) (hn : n < 7) : ∀ d ∈ l.map Dat.str, kqdOk 8 d = true := by
  intro d hd
  obtain ⟨x, hx, rfl⟩ := List.mem_map.mp hd
  obtain ⟨i, hi, rfl⟩ := List.mem_map.mp (h x hx)
  exact mname_ok (Nat.lt_trans (List.mem_range.mp hi) hn)
theorem seg9 {r u so nn gv : Addr} {nx : Led} {c1 c2 c3 c4 c5 c6 c7 : Obj} {rest0 : Led}
    (B : Below A₀ base [] h₀) (F : Fr h₀ L s.heap m) (X : (KX w.params).In h₀) (N : News h₀ L s.heap nx) (T : TopM mean mg mb h₀)
    (hd : dp + 60 < recursionLimit) (hu : un + 1200 < cLine) (hJ : GivJ L r u so nn gv c1 c2 c3 c4 c5 c6 c7 rest0 m nx)
    (e1 : c1.data = .cell (some (.ref r))) (e2 : c2.data = .cell (some (.ref u))) (l48 : @LT.lt Nat _ 1348 L) (lt : @LT.lt Nat _ (L + 7) r ∧ @LT.lt Nat _ r so ∧ @LT.lt Nat _ so u ∧ @LT.lt Nat _ u nn)
    (next : ∀ h' tk' m' nx', Fr h₀ L h' m' → News h₀ L h' nx' → GivJ L r u so nn gv c1 c2 c3 c4 c5 c6 c7 rest0 m' nx' →
      wpAny (model pwO w) (lawA dp un gd L) (execs law10 (lawE L)) Q (fun _ _ => False) { s with heap := h', toks := tk' }) :
    wpAny (model pwO w) (lawA dp un gd L) (execs law9 (lawE L)) Q (fun _ _ => False) s := by
  refine ?mG; exact ((by exact ?mB) : (let_mvar% ?mB := (by (
  obtain ⟨us, ns, n, vu, nu, vsrc, ksrc, vnam, knam, rest, mods, k, vgv, ngv, rfl, hI, hl, hml, hvs, hvn, hvu, hul, hok, hsub, off, hgv, hS, hk, q1, q2, q3⟩ := hJ
  dsimp only [law9, restOf, lawE, lawA]
  have ltz := ord4 lt
  have o1 := lt.1
  have o2 := lt.2.1
  have o3 := lt.2.2.1
  have o4 := lt.2.2.2
  have z1 := ltz.1
  have z2 := ltz.2.1
  have z3 := ltz.2.2.1
  have z4 := ltz.2.2.2.1
  have z5 := ltz.2.2.2.2.1
  have z6 := ltz.2.2.2.2.2
  have G1 := know F q1
  have G2 := know G1 (k := S "sources") (v := .ref so) (by rw [if_neg (by decide)]; exact q2)
  have G3 := know G2 (k := S "names") (v := .ref nn) (by rw [if_neg (by decide), if_neg (by decide)]; exact q3)
  clear G1 G2 F
  have up : ∀ p ∈ rest, p ∈ (r, listOf us.toArray n) :: (u, listOf vu.toArray nu) :: (so, listOf vsrc.toArray ksrc) :: (nn, listOf vnam.toArray knam) :: lawLed L c1 c2 c3 c4 c5 c6 c7 #[] rest := fun p hp => .tail _ (.tail _ (.tail _ (.tail _ (.tail _ (.tail _ (.tail _ (.tail _ (.tail _ (.tail _ (.tail _ (.tail _ hp)))))))))))
  have hgl : vgv.length ≤ 100 := by
    rw [hS.1]
    simp only [givSrs, modSrs, List.length_append, List.length_take, List.length_drop, List.length_mapIdx, List.length_singleton]
    wtm_at "om"
  wtm_at "ks"
  show wpAny _ _ _ _ _ _
  refine tops_t B G3 X N T rfl (by ktr_room) (by ktr_units) (up _ hgv) hgl ⟨hS.1, fun i v r a b => SrIn.mono up (hS.2 i v r a b)⟩ (givSrs_bound hok) fun tr ut nt h1 tk1 F1 N1 l1 hT1 hTl => ?_
  (try dsimp only)
  k_lt l1
  wtm_at "ks"
  have hnl := hvn.length
  rw [List.length_map, List.length_map, List.length_range] at hnl
  refine ⟨_, _, _, _, _, _, _, (fun i ys nx => nx = (tr, listOf ut.toArray nt) :: (r, listOf us.toArray n) :: (u, listOf vu.toArray nu) :: (so, listOf vsrc.toArray ksrc) :: (nn, listOf vnam.toArray knam) :: lawLed L c1 c2 c3 c4 c5 c6 c7 #[] rest ∧ DatAll [] ys (((((List.range mods.length).map mname).take i).filter fun x => !((usedN mods).any (· == x))).map Dat.str)), F1, N1, src_list (k := knam) rfl N1 mm4 (by rw [PySem.sizeLine_eq]; wtm_at "om"), .tail _ mm3, ⟨rfl, .nil⟩, ?_, ?_⟩
  · rintro i ys _ v I oI C oC D m₂ h2 tk2 E' hi ⟨rfl, hys⟩ hSS hv hC hx F2 N2 of3 ne3
    clear F1 N1 G3
    have hi2 : i < ((List.range mods.length).map mname).length := by rw [List.length_map, List.length_range, ← hnl]; exact hi
    obtain ⟨v', hv1, hv2⟩ := hvn.get (k := i) (by rw [List.length_map]; exact hi2)
    rw [hv] at hv1
    obtain rfl := Option.some.inj hv1
    rw [List.getElem_map] at hv2
    obtain ⟨tx, rfl⟩ := d_str hv2
    have tk1 : ((List.range mods.length).map mname).take (i + 1) = ((List.range mods.length).map mname).take i ++ [((List.range mods.length).map mname)[i]'hi2] := by rw [List.take_add_one, List.getElem?_eq_getElem hi2]; rfl
    generalize ((List.range mods.length).map mname)[i]'hi2 = x at hv2 hv hx tk1
    by_cases hany : (usedN mods).any (· == x) = true
    · wtm_at "ks"
      show wpAny _ _ _ _ _ _
      refine notin_list_strs (isL N2 mm5) (strsAre_of hvu) ?_
      (try dsimp only)
      simp only [hany, Bool.not_true]
      wtm_at "ks"
      refine ⟨h2, _, _, rfl, F2, N2, of3, hSS, rfl, ?_⟩
      rw [tk1, List.filter_append]
      simpa [hany] using hys
    · wtm_at "ks"
      show wpAny _ _ _ _ _ _
      refine notin_list_strs (isL N2 mm5) (strsAre_of hvu) ?_
      have hany2 := Bool.eq_false_iff.mpr hany
      (try dsimp only)
      simp only [hany2, Bool.not_false]
      wtm_at "ks"
      refine ⟨h2, _, _, rfl, F2, N2, of3, hSS, rfl, ?_⟩
      rw [tk1, List.filter_append, List.map_append]
      refine DatAll.append hys ?_
      rw [List.filter_cons, hany2]
      exact .one hv2
  · rintro ys _ D h2 tk2 ⟨rfl, hys⟩ F2 N2 of1
    clear F1 N1 G3
    wtm_at "ks"
    have hlx : vnam.length = ((List.range mods.length).map mname).length := by rw [List.length_map, List.length_range, ← hnl]
    rw [hlx, List.take_length] at hys
    rw [giv_kept] at hT1
    have hso : ∀ d ∈ (((List.range mods.length).map mname).filter fun x => !((usedN mods).any (· == x))).map Dat.str, kqdOk 8 d = true := names_ok (fun x hx => (List.mem_filter.mp hx).1) hml
    show wpAny _ _ _ _ _ _
    refine kqd_ne N2 mm1 rfl rfl hT1 (List.forall_mem_nil _) (.head _) rfl rfl hys (List.forall_mem_nil _) hso hso ?hu ?_
    case hu => ke_room
    (try dsimp only)
    simp only [eq_self, decide_true, Bool.not_true]
    wtm_at "ks"
    (with_reducible rename Fr _ _ _ _ => F9)
    (with_reducible rename News _ _ _ _ => N9)
    show wpAny _ _ _ _ _ _
    exact next _ _ _ _ F9 (nsub N9 fun p hp => .tail _ (.tail _ hp)) ⟨us, ns, n, vu, nu, vsrc, ksrc, vnam, knam, rest, mods, k, vgv, ngv, rfl, hI, hl, hml, hvs, hvn, hvu, hul, hok, hsub, off, hgv, hS, hk, by wtm_at "kmap", by wtm_at "kmap", by wtm_at "kmap"⟩
  ) : type_of% ?mG); have _ : True := trivial; type_of% ?mG))
end
end
section
open PySem PySem.W PyProof.Rows PySem.Calls
set_option maxRecDepth 100000
set_option maxHeartbeats 0
set_option Elab.async false
set_option compiler.extract_closed false
set_option compiler.reuse false
set_option linter.unusedVariables false
set_option pp.deepTerms false
section
variable {w : World} {mean : ExcName → Option Value} {mg mb : Str → Option Value} {dp un : Nat} {gd : Option (List Code)} {A₀ : Around} {base h₀ : Heap} {L : Addr} {m : Str → Option Value} {s : Shared} {Q : Flow → Shared → Prop} {E : Value → Shared → Prop}

local macro_rules | `(tactic| wtm_at "to_execs") => do toExecsS (← `(((execs (_ :: _) _))))
local macro_rules | `(tactic| walk_at "eval DictComp") => do compS (some (← `((eval (Expr.DictComp _ _ [⟨Expr.Tuple [_, _] _ _, _, [], _⟩] _ _) _)))) ``DictComp_zip "awdfdffd_"
local macro_rules | `(tactic| walk_at "call type:zip") => holdS
local macro_rules | `(tactic| walk_at "compareOp NotEq ref ref") => holdS
theorem stored_snoc {ks : List Str} {l : List Value} {k : Str} {v : Value} (hlen : ks.length = l.length) (hn : k ∉ ks) : stored (ks.zip l) k v = (ks ++ [k]).zip (l ++ [v]) := by
  refine ?mG; exact ((by exact ?mB) : (let_mvar% ?mB := (by (
  unfold stored
  rw [if_neg, List.zip_append hlen]
  · rfl
  · intro h
    obtain ⟨p, hp, e⟩ := List.any_eq_true.mp h
    have e2 : p.1 = k := of_decide_eq_true e
    exact hn (e2 ▸ (List.of_mem_zip hp).1)
  ) : type_of% ?mG); have _ : True := trivial; type_of% ?mG))
theorem storedAll_zip {FK : Value → Str → Prop} {l : List Value} {kvs : List (Str × Value)} (h : StoredAll FK (fun v y => y = v) l kvs) :
    ∀ ks : List Str, ks.length = l.length → ks.Nodup → (∀ (i : Nat) v k x, l[i]? = some v → ks[i]? = some k → FK v x → x = k) → kvs = ks.zip l := by
  refine ?mG; exact ((by exact ?mB) : (let_mvar% ?mB := (by (
  induction h with
  | nil => intro ks hl _ _; rw [List.eq_nil_of_length_eq_zero hl]; rfl
  | @snoc l kvs v k y h1 hk hv ih =>
    intro ks hl hnd hf
    subst hv
    have hne : ks ≠ [] := fun e => by rw [e] at hl; simp at hl
    have e := List.dropLast_concat_getLast hne
    have hl2 : ks.dropLast.length = l.length := by rw [List.length_dropLast, hl, List.length_append]; rfl
    generalize ks.dropLast = kd at e hl2
    generalize ks.getLast hne = kl at e
    subst e
    have hkl : k = kl := hf l.length y kl k (by simp) (by rw [← hl2]; simp) hk
    subst hkl
    rw [List.nodup_append] at hnd
    rw [ih kd hl2 hnd.1 fun i v k' x a b c => hf i v k' x (by rw [List.getElem?_append_left]; exact a; exact (List.getElem?_eq_some_iff.mp a).1) (by rw [List.getElem?_append_left]; exact b; exact (List.getElem?_eq_some_iff.mp b).1) c]
    exact stored_snoc hl2 fun hm => hnd.2.2 _ hm _ (.head _) rfl
  ) : type_of% ?mG); have _ : True := trivial; type_of% ?mG))
theorem keqHits_self {A : Around} {s : Shared} {l : List (Str × Value)} (hn : (l.map (·.1)).Nodup) : ∀ r : List (Str × Value), (∀ p ∈ r, p ∈ l) → KeqHits A s l r true := by
  refine ?mG; exact ((by exact ?mB) : (let_mvar% ?mB := (by (
  intro r
  induction r with
  | nil => intro _; exact .nil
  | cons p r ih =>
    intro h
    obtain ⟨k, v⟩ := p
    obtain ⟨i, hi⟩ := List.getElem?_of_mem (h _ (.head _))
    exact KeqHits.hit (e := true) (b := true) (valueAt_of_get hn hi) (SeqAt.EqAt.same v) (ih fun p hp => h p (.tail _ hp))
  ) : type_of% ?mG); have _ : True := trivial; type_of% ?mG))
theorem mnames_nodup {n : Nat} (h : n < 7) : ((List.range n).map mname).Nodup := by
  have h7 : ((List.range 7).map mname).Nodup := by decide +kernel
  exact List.Nodup.sublist (List.Sublist.map _ (List.range_sublist.mpr (Nat.le_of_lt h))) h7
theorem zipApart {sz l1 l2 : Nat} (h1 : l1 < sz) (h2 : l2 < sz) : ZipApart (sz + 4) (sz + 2) (sz + 3) sz (sz + 1) l1 l2 where
  TIz := (by wtm_at "om" : @Ne Nat (sz + 2) (sz + 4))
  TOz := (by wtm_at "om" : @Ne Nat (sz + 3) (sz + 4))
  i1z := (by wtm_at "om" : @Ne Nat sz (sz + 4))
  i2z := (by wtm_at "om" : @Ne Nat (sz + 1) (sz + 4))
  TITO := (by wtm_at "om" : @Ne Nat (sz + 2) (sz + 3))
  TIi1 := (by wtm_at "om" : @Ne Nat (sz + 2) sz)
  TIi2 := (by wtm_at "om" : @Ne Nat (sz + 2) (sz + 1))
  TOi1 := (by wtm_at "om" : @Ne Nat (sz + 3) sz)
  TOi2 := (by wtm_at "om" : @Ne Nat (sz + 3) (sz + 1))
  i12 := (by wtm_at "om" : @Ne Nat sz (sz + 1))
  l1z := (by wtm_at "om" : @Ne Nat l1 (sz + 4))
  l1TO := (by wtm_at "om" : @Ne Nat l1 (sz + 3))
  l1i1 := (by wtm_at "om" : @Ne Nat l1 sz)
  l1i2 := (by wtm_at "om" : @Ne Nat l1 (sz + 1))
  l2z := (by wtm_at "om" : @Ne Nat l2 (sz + 4))
  l2TO := (by wtm_at "om" : @Ne Nat l2 (sz + 3))
  l2i1 := (by wtm_at "om" : @Ne Nat l2 sz)
  l2i2 := (by wtm_at "om" : @Ne Nat l2 (sz + 1))
theorem keyMod_one {h : Heap} {l : Led} (N : News h₀ L h l) {v : Value} {x y : Str} {its : List It} (h1 : KeyMod l v x) (h2 : DatIn l v (modD y its)) : x = y := by
  refine ?mG; exact ((by exact ?mB) : (let_mvar% ?mB := (by (
  obtain ⟨its', h1⟩ := h1
  obtain ⟨a1, k1, v1, v2, v3, v4, v5, v6, v7, e1, m1, _, _, e3, _⟩ := inv7 h1
  obtain ⟨a2, k2, u1, u2, u3, u4, u5, u6, u7, e2, m2, _, _, f3, _⟩ := inv7 h2
  rw [e1] at e2
  cases e2
  have g := (N _ m1).1
  rw [(N _ m2).1] at g
  obtain ⟨t3, rfl⟩ := d_str e3
  obtain ⟨t4, rfl⟩ := d_str f3
  cases g
  rfl
  ) : type_of% ?mG); have _ : True := trivial; type_of% ?mG))
theorem seg10 {r u so nn gv : Addr} {nx : Led} {c1 c2 c3 c4 c5 c6 c7 : Obj} {rest0 : Led}
    (B : Below A₀ base [] h₀) (F : Fr h₀ L s.heap m) (X : (KX w.params).In h₀) (N : News h₀ L s.heap nx) (T : TopM mean mg mb h₀)
    (hd : dp + 60 < recursionLimit) (hu : un + 1200 < cLine) (hJ : GivJ L r u so nn gv c1 c2 c3 c4 c5 c6 c7 rest0 m nx)
    (l48 : @LT.lt Nat _ 1348 L) (lt : @LT.lt Nat _ (L + 7) r ∧ @LT.lt Nat _ r so ∧ @LT.lt Nat _ so u ∧ @LT.lt Nat _ u nn)
    (next : ∀ h' tk' m' nx', Fr h₀ L h' m' → News h₀ L h' nx' → GivJ L r u so nn gv c1 c2 c3 c4 c5 c6 c7 rest0 m' nx' →
      wpAny (model pwO w) (lawA dp un gd L) (execs law11 (lawE L)) Q (fun _ _ => False) { s with heap := h', toks := tk' }) :
    wpAny (model pwO w) (lawA dp un gd L) (execs law10 (lawE L)) Q (fun _ _ => False) s := by
  refine ?mG; exact ((by exact ?mB) : (let_mvar% ?mB := (by (
  obtain ⟨us, ns, n, vu, nu, vsrc, ksrc, vnam, knam, rest, mods, k, vgv, ngv, rfl, hI, hl, hml, hvs, hvn, hvu, hul, hok, hsub, off, hgv, hS, hk, q1, q2, q3⟩ := hJ
  dsimp only [law10, restOf, lawE, lawA]
  have ltz := ord4 lt
  have o1 := lt.1
  have o2 := lt.2.1
  have o3 := lt.2.2.1
  have o4 := lt.2.2.2
  have z1 := ltz.1
  have z2 := ltz.2.1
  have z3 := ltz.2.2.1
  have z4 := ltz.2.2.2.1
  have z5 := ltz.2.2.2.2.1
  have z6 := ltz.2.2.2.2.2
  have G1 := know F q1
  have G2 := know G1 (k := S "sources") (v := .ref so) (by rw [if_neg (by decide)]; exact q2)
  have G3 := know G2 (k := S "names") (v := .ref nn) (by rw [if_neg (by decide), if_neg (by decide)]; exact q3)
  clear G1 G2 F
  have up : ∀ p ∈ rest, p ∈ (r, listOf us.toArray n) :: (u, listOf vu.toArray nu) :: (so, listOf vsrc.toArray ksrc) :: (nn, listOf vnam.toArray knam) :: lawLed L c1 c2 c3 c4 c5 c6 c7 #[] rest := fun p hp => .tail _ (.tail _ (.tail _ (.tail _ (.tail _ (.tail _ (.tail _ (.tail _ (.tail _ (.tail _ (.tail _ (.tail _ hp)))))))))))
  have hgl : vgv.length ≤ 100 := by
    rw [hS.1]
    simp only [givSrs, modSrs, List.length_append, List.length_take, List.length_drop, List.length_mapIdx, List.length_singleton]
    wtm_at "om"
  have hS2 : SrAll _ vgv (givSrs mods k) := ⟨hS.1, fun i v r a b => SrIn.mono up (hS.2 i v r a b)⟩
  wtm_at "ks"
  show wpAny _ _ _ _ _ _
  refine mbn_t B G3 X N T rfl (by ktr_room) (by ktr_units) (up _ hgv) hgl hS2 fun fd o kvs h1 tk1 F1 N1 hO l1 lo hF => ?_
  (try dsimp only)
  k_lt l1
  wtm_at "ks"
  have hsl := hvs.length
  have hnl := hvn.length
  rw [modsD, List.length_mapIdx] at hsl
  rw [List.length_map, List.length_map, List.length_range] at hnl
  have mn : (nn, listOf vnam.toArray knam) ∈ (fd, o) :: (r, listOf us.toArray n) :: (u, listOf vu.toArray nu) :: (so, listOf vsrc.toArray ksrc) :: (nn, listOf vnam.toArray knam) :: lawLed L c1 c2 c3 c4 c5 c6 c7 #[] rest := by wtm_at "led_mem"
  have ms : (so, listOf vsrc.toArray ksrc) ∈ (fd, o) :: (r, listOf us.toArray n) :: (u, listOf vu.toArray nu) :: (so, listOf vsrc.toArray ksrc) :: (nn, listOf vnam.toArray knam) :: lawLed L c1 c2 c3 c4 c5 c6 c7 #[] rest := by wtm_at "led_mem"
  have nd : ((List.range mods.length).map mname).Nodup := mnames_nodup hml
  have hkk : ∀ (i : Nat) v k x, vsrc[i]? = some v → ((List.range mods.length).map mname)[i]? = some k → KeyMod ((r, listOf us.toArray n) :: (u, listOf vu.toArray nu) :: (so, listOf vsrc.toArray ksrc) :: (nn, listOf vnam.toArray knam) :: lawLed L c1 c2 c3 c4 c5 c6 c7 #[] rest) v x → x = k := by
    intro i v k x hv hk9 hx
    have hi : i < (modsD mods).length := by
      rw [modsD, List.length_mapIdx, ← hsl]; exact (List.getElem?_eq_some_iff.mp hv).1
    obtain ⟨v', e1, e2⟩ := hvs.get (k := i) hi
    rw [hv] at e1
    obtain rfl := Option.some.inj e1
    have hi2 : i < mods.length := by rw [modsD, List.length_mapIdx] at hi; exact hi
    rw [List.getElem?_map, List.getElem?_range hi2] at hk9
    obtain rfl := Option.some.inj hk9
    simp only [modsD, List.getElem_mapIdx] at e2
    exact keyMod_one (nsub N1 fun p hp => .tail _ hp) hx (e2.mono up)
  have hfil : vgv.filter (isMod ((r, listOf us.toArray n) :: (u, listOf vu.toArray nu) :: (so, listOf vsrc.toArray ksrc) :: (nn, listOf vnam.toArray knam) :: lawLed L c1 c2 c3 c4 c5 c6 c7 #[] rest)) = vsrc := by
    obtain ⟨hk1, vp, hvg⟩ := hk
    have hall : ∀ v ∈ vsrc, isMod ((r, listOf us.toArray n) :: (u, listOf vu.toArray nu) :: (so, listOf vsrc.toArray ksrc) :: (nn, listOf vnam.toArray knam) :: lawLed L c1 c2 c3 c4 c5 c6 c7 #[] rest) v = true := by
      intro v hv
      obtain ⟨i, hi⟩ := List.getElem?_of_mem hv
      have hi3 : i < (modsD mods).length := by
        rw [modsD, List.length_mapIdx, ← hsl]; exact (List.getElem?_eq_some_iff.mp hi).1
      obtain ⟨v', e1, e2⟩ := hvs.get (k := i) hi3
      rw [hi] at e1
      obtain rfl := Option.some.inj e1
      simp only [modsD, List.getElem_mapIdx] at e2
      exact isMod_iff.mpr ⟨_, _, e2.mono up⟩
    have htl : (vsrc.take k).length = k := by rw [List.length_take]; wtm_at "om"
    have hgt : ((modSrs mods).take k).length = k := by rw [List.length_take, modSrs, List.length_mapIdx]; wtm_at "om"
    have hvp : vgv[k]? = some vp := by
      rw [hvg, List.append_assoc, List.getElem?_append_right (by rw [htl]; exact Nat.le_refl _), htl]; simp
    have hgp : (givSrs mods k)[k]? = some .prim := by
      unfold givSrs
      rw [List.getElem?_append_right (by rw [hgt]; exact Nat.le_refl _), hgt]; simp
    obtain ⟨a1, dx, h1', h2', h3', h4', h5', h6', h7', k1, k2, k3, k4, k5, k6, k7, t1, t2, t3, t6, v4, v7, rfl, m1, m2⟩ := hS2.2 k vp _ hvp hgp
    rw [hvg, List.filter_append, List.filter_append, List.filter_eq_self.mpr fun v hv => hall v (List.mem_of_mem_take hv), List.filter_eq_self.mpr fun v hv => hall v (List.mem_of_mem_drop hv)]
    rw [List.filter_cons, isMod_no (notMod (nsub N1 fun p hp => .tail _ hp) m1)]
    simp
  rw [hfil] at hF
  have hkvs := storedAll_zip hF _ (by rw [List.length_map, List.length_range, hsl]) nd hkk
  show wpAny _ _ _ _ _ _
  refine call_zip_2 (isL N1 mn) (isL N1 ms) fun h2 z1 z2 z3 z4 z5 z6 keep => ?_
  have ln : @LT.lt Nat _ nn h1.objs.size := Heap.lt_size (N1 _ mn).1
  have lso : @LT.lt Nat _ so h1.objs.size := Heap.lt_size (N1 _ ms).1
  have lL : @LT.lt Nat _ L h1.objs.size := F1.ns.lt
  have no0 : ∀ a, @LE.le Nat _ h1.objs.size a → h₀.get? a = none := fun a ha => by
    cases e : h₀.get? a with
    | none => rfl
    | some o' => exact absurd (Heap.lt_size (F1.keep a o' e)) (Nat.not_lt.mpr ha)
  have nws : ∀ p ∈ (fd, o) :: (r, listOf us.toArray n) :: (u, listOf vu.toArray nu) :: (so, listOf vsrc.toArray ksrc) :: (nn, listOf vnam.toArray knam) :: lawLed L c1 c2 c3 c4 c5 c6 c7 #[] rest, @LT.lt Nat _ p.1 h1.objs.size := fun p hp => Heap.lt_size (N1 p hp).1
  refine ⟨_, _, _, _, _, _, _, fun i v0 v1 => ∃ t, v0 = .str (mname i) t ∧ vsrc[i]? = some v1, _, fun i kvs => i ≤ mods.length ∧ kvs = (((List.range mods.length).map mname).take i).zip (vsrc.take i), rfl, WalksT.zip2 rfl _ _ _ _ _ _ _ (zipApart ln lso) vnam.toArray vsrc.toArray, ?pt, ?sz, rfl, ?low, ?wr, ?nw, ⟨z1, z2, ⟨_, _, z3⟩, z4, z5, ?l1, ?l2⟩, F1.keeps keep, N1.grown keep, ⟨Nat.zero_le _, rfl⟩, ?jl, ?key, ?val, ?step, ?done⟩
  case pt =>
    rintro i vals ⟨x, y, hx, hy, rfl⟩
    have hi : i < mods.length := by
      have := (Array.getElem?_eq_some_iff.mp hx).1
      rw [List.size_toArray] at this; wtm_at "om"
    obtain ⟨v', e1, e2⟩ := hvn.get (k := i) (by rw [List.length_map, List.length_map, List.length_range]; exact hi)
    have hx2 : vnam[i]? = some x := by simpa using hx
    rw [hx2] at e1
    obtain rfl := Option.some.inj e1
    simp only [List.getElem_map, List.getElem_range] at e2
    obtain ⟨t, rfl⟩ := d_str e2
    exact ⟨_, _, rfl, t, rfl, by simpa using hy⟩
  case sz => rw [PySem.sizeLine_eq]; simp only [List.size_toArray]; wtm_at "om"
  case low =>
    show ∀ b ∈ [h1.objs.size + 4, h1.objs.size + 2, h1.objs.size + 3, h1.objs.size, h1.objs.size + 1, nn, so], @LT.lt Nat _ b h2.objs.size
    rw [show h2.objs.size = h1.objs.size + 5 from z6]
    refine List.forall_mem_cons.mpr ⟨by show @LT.lt Nat _ (h1.objs.size + 4) _; wtm_at "om", List.forall_mem_cons.mpr ⟨by show @LT.lt Nat _ (h1.objs.size + 2) _; wtm_at "om", List.forall_mem_cons.mpr ⟨by show @LT.lt Nat _ (h1.objs.size + 3) _; wtm_at "om", List.forall_mem_cons.mpr ⟨by show @LT.lt Nat _ (h1.objs.size) _; wtm_at "om", List.forall_mem_cons.mpr ⟨by show @LT.lt Nat _ (h1.objs.size + 1) _; wtm_at "om", List.forall_mem_cons.mpr ⟨by wtm_at "om", List.forall_mem_cons.mpr ⟨by wtm_at "om", List.forall_mem_nil _⟩⟩⟩⟩⟩⟩⟩
  case wr =>
    have g : ∀ b : Nat, @LE.le Nat _ h1.objs.size b → h₀.get? b = none ∧ b ≠ L := fun b hb => ⟨no0 b hb, Nat.ne_of_gt (Nat.lt_of_lt_of_le lL hb)⟩
    exact List.forall_mem_cons.mpr ⟨g _ (by wtm_at "om"), List.forall_mem_cons.mpr ⟨g _ (by wtm_at "om"), List.forall_mem_cons.mpr ⟨g _ (Nat.le_refl _), List.forall_mem_cons.mpr ⟨g _ (by wtm_at "om"), List.forall_mem_nil _⟩⟩⟩⟩
  case nw =>
    intro p hp hm
    have h9 := nws p hp
    have g : ∀ b ∈ [h1.objs.size + 4, h1.objs.size + 3, h1.objs.size, h1.objs.size + 1], @LE.le Nat _ h1.objs.size b := List.forall_mem_cons.mpr ⟨by wtm_at "om", List.forall_mem_cons.mpr ⟨by wtm_at "om", List.forall_mem_cons.mpr ⟨Nat.le_refl _, List.forall_mem_cons.mpr ⟨by wtm_at "om", List.forall_mem_nil _⟩⟩⟩⟩
    exact absurd (g _ hm) (Nat.not_le.mpr h9)
  case l1 => exact (isL N1 mn).at fun o e => keep _ o e
  case l2 => exact (isL N1 ms).at fun o e => keep _ o e
  case jl =>
    rintro i kvs ⟨_, rfl⟩
    rw [List.length_zip, List.length_take]
    wtm_at "om"
  case key =>
    intro C oC v0 v1 s₃ m₃ E' hC hx hy F5 N5 hne5
    wtm_at "ks"
    exact ⟨rfl, _, _, rfl, fun _ _ e => e⟩
  case val =>
    intro C oC v0 v1 s₃ m₃ E' hC hx hy F5 N5 hne5
    wtm_at "ks"
    exact ⟨rfl, _, _, rfl, fun _ _ e => e⟩
  case step =>
    rintro i v0 v1 hi ⟨t, rfl, hv1⟩
    have hi2 : i < mods.length := by simp only [List.size_toArray] at hi; wtm_at "om"
    refine ⟨mname i, strKind_is _ _ _ _, ?_⟩
    rintro kvs ⟨_, rfl⟩
    refine ⟨hi2, ?_⟩
    have hg : ((List.range mods.length).map mname)[i]? = some (mname i) := by rw [List.getElem?_map, List.getElem?_range hi2]; rfl
    rw [List.take_add_one, List.take_add_one, hg, hv1]
    refine stored_snoc (by rw [List.length_take, List.length_take, List.length_map, List.length_range, hsl]) fun hm => ?_
    have hn2 := nd
    rw [← List.take_append_drop i ((List.range mods.length).map mname), List.nodup_append] at hn2
    refine hn2.2.2 _ hm _ ?_ rfl
    rw [List.drop_eq_getElem_cons (by rw [List.length_map, List.length_range]; exact hi2)]
    simp
  case done =>
    rintro kvs2 D od h3 tk3 ⟨_, hk2⟩ F5 N5 hO5 ltD lLD
    have hmin : min vnam.toArray.size vsrc.toArray.size = mods.length := by simp only [List.size_toArray]; wtm_at "om"
    rw [hmin, List.take_of_length_le (by rw [List.length_map, List.length_range]; exact Nat.le_refl _), List.take_of_length_le (by wtm_at "om"), ← hkvs] at hk2
    subst hk2
    (try dsimp only)
    wtm_at "ks"
    show wpAny _ _ _ _ _ _
    have hnd : (kvs2.map (·.1)).Nodup := by obtain ⟨_, _, _, _, _, _, h⟩ := hO5; exact h
    refine kne_pairs N5 mm1 (.head _) hO hO5 lo (beq_eq_false_iff_ne.mpr (Nat.ne_of_gt (Nat.lt_of_lt_of_le (modules_low T.nolimit) (Nat.le_of_lt (Nat.lt_of_le_of_lt F5.above lLD))))) rfl ?hu (keqHits_self hnd _ fun _ h => h) ?_
    case hu => ke_room
    (try dsimp only)
    simp only [Bool.not_true]
    wtm_at "to_execs"
    (with_reducible rename Fr _ _ _ _ => FZ)
    (with_reducible rename News _ _ _ _ => NZ)
    show wpAny _ _ _ _ _ _
    exact next _ _ _ _ FZ (nsub NZ fun p hp => .tail _ (.tail _ hp)) ⟨us, ns, n, vu, nu, vsrc, ksrc, vnam, knam, rest, mods, k, vgv, ngv, rfl, hI, hl, hml, hvs, hvn, hvu, hul, hok, hsub, off, hgv, hS, hk, by wtm_at "kmap", by wtm_at "kmap", by wtm_at "kmap"⟩
  ) : type_of% ?mG); have _ : True := trivial; type_of% ?mG))
end
end
section
open PySem PySem.W PyProof.Rows PySem.Calls
set_option maxRecDepth 100000
set_option maxHeartbeats 0
set_option Elab.async false
set_option compiler.extract_closed false
set_option compiler.reuse false
set_option linter.unusedVariables false
set_option pp.deepTerms false
section
variable {w : World} {mean : ExcName → Option Value} {mg mb : Str → Option Value} {dp un : Nat} {gd : Option (List Code)} {A₀ : Around} {base h₀ : Heap} {L : Addr} {m : Str → Option Value} {s : Shared} {Q : Flow → Shared → Prop} {E : Value → Shared → Prop}

local macro_rules | `(tactic| walk_at "execs cons") => do heldAt [← `((execs (Stmt.Assign [Expr.Name (Str.ofString "head") _] _ _ :: _) _))]
local macro_rules | `(tactic| walk_at "call type:list") => holdS
local macro_rules | `(tactic| walk_at "compareOp NotEq ref ref") => holdS
local macro_rules | `(tactic| walk_at "subscriptTail Name Constant ref str") => holdS
theorem stored_one {FV : Value → Value → Prop} {l : List Value} {kvs : List (Str × Value)} {k0 : Str} (hV : ∀ v y, FV v y → y = v) (h : StoredAll (fun _ k => k = k0) FV l kvs) : l = [] ∧ kvs = [] ∨ ∃ v ∈ l, kvs = [(k0, v)] := by
  refine ?mG; exact ((by exact ?mB) : (let_mvar% ?mB := (by (
  induction h with
  | nil => exact .inl ⟨rfl, rfl⟩
  | @snoc l kvs v k y h1 hk hv ih =>
    subst hk
    obtain rfl := hV _ _ hv
    refine .inr ⟨y, List.mem_append_right _ (.head _), ?_⟩
    rcases ih with ⟨_, rfl⟩ | ⟨z, _, rfl⟩
    · rfl
    · simp [stored]
  ) : type_of% ?mG); have _ : True := trivial; type_of% ?mG))
theorem seg11 {r u so nn gv : Addr} {nx : Led} {c1 c2 c3 c4 c5 c6 c7 : Obj} {rest0 : Led}
    (B : Below A₀ base [] h₀) (F : Fr h₀ L s.heap m) (X : (KX w.params).In h₀) (N : News h₀ L s.heap nx) (T : TopM mean mg mb h₀)
    (hd : dp + 60 < recursionLimit) (hu : un + 1200 < cLine) (hJ : GivJ L r u so nn gv c1 c2 c3 c4 c5 c6 c7 rest0 m nx)
    (e1 : c1.data = .cell (some (.ref r))) (e2 : c2.data = .cell (some (.ref u))) (l48 : @LT.lt Nat _ 1348 L) (lt : @LT.lt Nat _ (L + 7) r ∧ @LT.lt Nat _ r so ∧ @LT.lt Nat _ so u ∧ @LT.lt Nat _ u nn)
    (next : ∀ h' tk' m' nx', Fr h₀ L h' m' → News h₀ L h' nx' → GivJ L r u so nn gv c1 c2 c3 c4 c5 c6 c7 rest0 m' nx' →
      wpAny (model pwO w) (lawA dp un gd L) (execs law13 (lawE L)) Q (fun _ _ => False) { s with heap := h', toks := tk' }) :
    wpAny (model pwO w) (lawA dp un gd L) (execs law11 (lawE L)) Q (fun _ _ => False) s := by
  refine ?mG; exact ((by exact ?mB) : (let_mvar% ?mB := (by (
  obtain ⟨us, ns, n, vu, nu, vsrc, ksrc, vnam, knam, rest, mods, k, vgv, ngv, rfl, hI, hl, hml, hvs, hvn, hvu, hul, hok, hsub, off, hgv, hS, hk, q1, q2, q3⟩ := hJ
  dsimp only [law11, restOf, lawE, lawA]
  have ltz := ord4 lt
  have o1 := lt.1
  have o2 := lt.2.1
  have o3 := lt.2.2.1
  have o4 := lt.2.2.2
  have z1 := ltz.1
  have z2 := ltz.2.1
  have z3 := ltz.2.2.1
  have z4 := ltz.2.2.2.1
  have z5 := ltz.2.2.2.2.1
  have z6 := ltz.2.2.2.2.2
  have G1 := know F q1
  have G2 := know G1 (k := S "sources") (v := .ref so) (by rw [if_neg (by decide)]; exact q2)
  have G3 := know G2 (k := S "names") (v := .ref nn) (by rw [if_neg (by decide), if_neg (by decide)]; exact q3)
  clear G1 G2 F
  have up : ∀ p ∈ rest, p ∈ (r, listOf us.toArray n) :: (u, listOf vu.toArray nu) :: (so, listOf vsrc.toArray ksrc) :: (nn, listOf vnam.toArray knam) :: lawLed L c1 c2 c3 c4 c5 c6 c7 #[] rest := fun p hp => .tail _ (.tail _ (.tail _ (.tail _ (.tail _ (.tail _ (.tail _ (.tail _ (.tail _ (.tail _ (.tail _ (.tail _ hp)))))))))))
  have hgl : vgv.length ≤ 100 := by
    rw [hS.1]
    simp only [givSrs, modSrs, List.length_append, List.length_take, List.length_drop, List.length_mapIdx, List.length_singleton]
    wtm_at "om"
  have hS2 : SrAll _ vgv (givSrs mods k) := ⟨hS.1, fun i v r a b => SrIn.mono up (hS.2 i v r a b)⟩
  wtm_at "ks"
  show wpAny _ _ _ _ _ _
  refine pbn_t B G3 X N T rfl (by ktr_room) (by ktr_units) (up _ hgv) hgl hS2 fun fd o kvs h1 tk1 F1 N1 hO l1 lo hF => ?_
  (try dsimp only)
  k_lt l1
  obtain ⟨v, hv, rfl⟩ : ∃ v ∈ vgv.filter fun v => !(isMod _ v), kvs = [(S "u", v)] := by
    rcases stored_one (fun _ _ h => h) hF with ⟨he, _⟩ | h
    · have hp : (givSrs mods k)[((modSrs mods).take k).length]? = some .prim := by
        unfold givSrs
        rw [List.getElem?_append_right (Nat.le_refl _)]
        simp
      have hlt : ((modSrs mods).take k).length < vgv.length := by
        rw [hS.1]; exact (List.getElem?_eq_some_iff.mp hp).1
      obtain ⟨a1, dx, h1, h2, h3, h4, h5, h6, h7, k1, k2, k3, k4, k5, k6, k7, t1, t2, t3, t6, v4, v7, hv, m1, m2⟩ := hS2.2 _ _ _ (List.getElem?_eq_getElem hlt) hp
      have hmem : (vgv[((modSrs mods).take k).length]'hlt) ∈ ([] : List Value) := by
        rw [← he]
        refine List.mem_filter.mpr ⟨List.getElem_mem hlt, ?_⟩
        rw [hv, isMod_no (notMod N m1)]
        rfl
      cases hmem
    · exact h
  wtm_at "ks"
  (with_reducible rename Fr _ _ _ _ => F2)
  (with_reducible rename News _ _ _ _ => N2)
  show wpAny _ _ _ _ _ _
  refine kdl_list_keysS rfl F2 N2 (.head _) hO lo (by rw [List.length_singleton]; decide) fun B1 c3 h5 tk5 => keysS fun vs5 hV5 F7 N7 hB1 => ?_
  (try dsimp only)
  k_lt hB1
  wtm_at "ks"
  (with_reducible rename Fr _ _ _ _ => F8)
  (with_reducible rename News _ _ _ _ => N8)
  have hu1 : ∀ d ∈ [Dat.str (S "u")], kqdOk 8 d = true := fun d hd => by rw [List.mem_singleton.mp hd]; kernel_rfl
  show wpAny _ _ _ _ _ _
  refine kqd_ne (ds := [Dat.str (S "u")]) (es := [Dat.str (S "u")]) N8 mm1 rfl rfl hV5 (List.forall_mem_nil _) (.head _) rfl rfl (.cons (.str _ _) .nil) (List.forall_mem_nil _) hu1 hu1 ?hu ?_
  case hu => ke_room
  (try dsimp only)
  simp only [eq_self, decide_true, Bool.not_true]
  wtm_at "ks"
  (with_reducible rename Fr _ _ _ _ => F9)
  (with_reducible rename News _ _ _ _ => N9)
  obtain ⟨hv1, hv2⟩ := List.mem_filter.mp hv
  show wpAny _ _ _ _ _ _
  refine kda_item (knd := PySem.strKind pwO w) (k := S "u") (v := v) N9 mm2 hO (strKind_is _ _ _ _) (by simp [valueAt]) ?_
  (try dsimp only)
  obtain ⟨i, hi⟩ := List.getElem?_of_mem hv1
  have hi3 : i < (givSrs mods k).length := by rw [← hS.1]; exact (List.getElem?_eq_some_iff.mp hi).1
  have hv3 := hS2.2 i v _ hi (List.getElem?_eq_getElem hi3)
  generalize (givSrs mods k)[i]'hi3 = sr at hv3
  cases sr with
  | mod nm its =>
    rw [isMod_iff.mpr ⟨nm, its, hv3⟩] at hv2
    cases hv2
  | prim =>
    obtain ⟨a1, dx, h1, h2, h3, h4, h5, h6, h7, k1, k2, k3, k4, k5, k6, k7, t1, t2, t3, t6, v4, v7, rfl, m1, m2⟩ := hv3
    have m3 : ∀ {p : Addr × Obj} {a b c : Addr × Obj} {l : Led}, p ∈ l → p ∈ a :: b :: c :: l := fun h => .tail _ (.tail _ (.tail _ h))
    wtm_at "ks"
    (with_reducible rename Fr _ _ _ _ => FX)
    (with_reducible rename News _ _ _ _ => NX)
    show wpAny _ _ _ _ _ _
    exact next _ _ _ _ FX (nsub NX fun p hp => .tail _ (.tail _ (.tail _ hp))) ⟨us, ns, n, vu, nu, vsrc, ksrc, vnam, knam, rest, mods, k, vgv, ngv, rfl, hI, hl, hml, hvs, hvn, hvu, hul, hok, hsub, off, hgv, hS, hk, by wtm_at "kmap", by wtm_at "kmap", by wtm_at "kmap"⟩
  ) : type_of% ?mG); have _ : True := trivial; type_of% ?mG))
end
end
section
open PySem PySem.W PyProof.Rows PySem.Calls
set_option maxRecDepth 100000
set_option maxHeartbeats 0
set_option Elab.async false
set_option compiler.extract_closed false
set_option compiler.reuse false
set_option linter.unusedVariables false
set_option pp.deepTerms false
section
variable {w : World} {mean : ExcName → Option Value} {mg mb : Str → Option Value} {dp un : Nat} {gd : Option (List Code)} {A₀ : Around} {base h₀ : Heap} {L : Addr} {m : Str → Option Value} {s : Shared} {Q : Flow → Shared → Prop} {E : Value → Shared → Prop}

local macro_rules | `(tactic| walk_at "execs cons") => do heldAt [← `((execs (Stmt.For _ _ _ _ _ :: _) _))]
theorem seg13 {r u so nn gv : Addr} {nx : Led} {c1 c2 c3 c4 c5 c6 c7 : Obj} {rest0 : Led}
    (B : Below A₀ base [] h₀) (F : Fr h₀ L s.heap m) (X : (KX w.params).In h₀) (N : News h₀ L s.heap nx) (T : TopM mean mg mb h₀)
    (hd : dp + 60 < recursionLimit) (hu : un + 1200 < cLine) (hJ : GivJ L r u so nn gv c1 c2 c3 c4 c5 c6 c7 rest0 m nx)
    (e4 : c4.data = .cell none) (l48 : @LT.lt Nat _ 1348 L) (lt : @LT.lt Nat _ (L + 7) r)
    (next : ∀ us ns n hl bo fr c4' h' tk' m', Fr h₀ L h' m' → News h₀ L h' ((r, listOf us.toArray n) :: (hl, W.listOf #[] 0) :: (bo, W.listOf #[] 0) :: (fr, W.listOf #[] 0) :: lawLed L c1 c2 c3 c4' c5 c6 c7 #[] []) → IntsAre us ns → us.length ≤ 200 →
      c4'.data = .cell (some (.ref fr)) → m' (S "head") = some (.ref hl) → m' (S "body") = some (.ref bo) → @LT.lt Nat _ r hl ∧ @LT.lt Nat _ hl bo ∧ @LT.lt Nat _ bo fr →
      wpAny (model pwO w) (lawA dp un gd L) (execs law16 (lawE L)) Q (fun _ _ => False) { s with heap := h', toks := tk' }) :
    wpAny (model pwO w) (lawA dp un gd L) (execs law13 (lawE L)) Q (fun _ _ => False) s := by
  refine ?mG; exact ((by exact ?mB) : (let_mvar% ?mB := (by (
  obtain ⟨us, ns, n, vu, nu, vsrc, ksrc, vnam, knam, rest, mods, k, vgv, ngv, rfl, hI, hl, _⟩ := hJ
  have N1 := nsub N (l' := (r, listOf us.toArray n) :: lawLed L c1 c2 c3 c4 c5 c6 c7 #[] []) (by wtm_at "led_sub")
  clear N
  dsimp only [law13, restOf, lawE, lawA]
  wtm_at "ks"
  (with_reducible rename Fr _ _ _ _ => FX)
  (with_reducible rename News _ _ _ _ => NX)
  rename_i a1 _ z1 _ a2 _ z2 _ a3 _ z3 _ o9 d9
  show wpAny _ _ _ _ _ _
  refine next us ns n a1 a2 a3 o9 _ _ _ FX (nsub NX ?sub) hI hl d9 (by wtm_at "kmap") (by wtm_at "kmap") (by wtm_at "oo")
  case sub => wtm_at "led_sub"
  ) : type_of% ?mG); have _ : True := trivial; type_of% ?mG))
end
end
section
open PySem PySem.W PyProof.Rows PySem.Calls
set_option maxRecDepth 100000
set_option maxHeartbeats 0
set_option Elab.async false
set_option compiler.extract_closed false
set_option compiler.reuse false
set_option linter.unusedVariables false
set_option pp.deepTerms false
section
variable {w : World} {mean : ExcName → Option Value} {mg mb : Str → Option Value} {dp un : Nat} {gd : Option (List Code)} {A₀ : Around} {base h₀ : Heap} {L : Addr} {m : Str → Option Value} {s : Shared} {Q : Flow → Shared → Prop} {E : Value → Shared → Prop}

local macro_rules | `(tactic| walk_at "subscriptTail List cons BinOp ref int") => holdS
local macro_rules | `(tactic| walk_at "subscriptTail Constant str Name str int") => holdS
local macro_rules | `(tactic| walk_at "call type:range") => holdS
theorem pick_chr {prog : Program} {A : Around} {E : Value → Shared → Prop} {s : Shared} {value slice : Expr} {x : Str} {t u : Tok} {i : Nat} {Q : Value → Shared → Prop} (hi : i < x.length) (hz : x.length ≤ 1000)
    (h : ∀ c, x.cps[i]? = some c → Q (.str ⟨#[c]⟩ s.toks) { s with toks := s.toks + 1 })
    (hs : subscripted slice false (.str x t) (.int (0 + (i : Int)) u) = operate [.str x t, .int (0 + (i : Int)) u] (getItem (.str x t) (.int (0 + (i : Int)) u)) := by with_unfolding_all rfl) :
    wpAny (model prog w) A (subscriptTail value slice (.str x t) (.int (0 + (i : Int)) u)) (Q) (E) s := by
  refine ?mG; exact ((by exact ?mB) : (let_mvar% ?mB := (by (
  have hi2 : i < x.cps.size := hi
  refine tail_any (typeIs_str s x t) slot_str_getitem.lookup (getItem_str (c := x.cps[i]'hi2) ?_ ?_ (h _ (Array.getElem?_eq_getElem hi2))) hs
  · rw [Int.zero_add]
    simp only [Bool.or_eq_false_iff, decide_eq_false_iff_not]
    wtm_at "om"
  · rw [seqIdx hi]
    exact Array.getElem?_eq_getElem hi2
  ) : type_of% ?mG); have _ : True := trivial; type_of% ?mG))
noncomputable def pNames : List Str := [S "p", S "q", S "r", S "s", S "t", S "v"]
theorem pname_in {i c : Nat} (h : i < 6) (e : (S "pqrstv").cps[i]? = some c) : (⟨#[c]⟩ : Str) ∈ pNames := by
  have h1 : (List.range 6).all (fun i => match (S "pqrstv").cps[i]? with | some c => decide ((⟨#[c]⟩ : Str) ∈ pNames) | none => false) = true := by kernel_rfl
  have h2 : (match (S "pqrstv").cps[i]? with | some c => decide ((⟨#[c]⟩ : Str) ∈ pNames) | none => false) = true := List.all_eq_true.mp h1 i (List.mem_range.mpr h)
  rw [e] at h2
  exact of_decide_eq_true h2
/-- a parameter that the law makes -/
structure Pr where
  lap : Int
  word : Str
  nm : Str
  wd : Int
  vl : Int
  sg : Bool
noncomputable def Pr.pm (p : Pr) : Pm := .par p.lap p.word p.nm (numD p.wd p.vl p.sg)
noncomputable def Pr.dat (p : Pr) : Dat := p.pm.dat
noncomputable def Pr.ok (p : Pr) : Prop := p.nm ∈ pNames ∧ (p.word = S "parameter" ∨ p.word = S "localparam")
noncomputable def prFree (l : List Pr) : List Str := (l.map Pr.pm).filterMap Pm.free
theorem prFree_snoc (l : List Pr) (p : Pr) : prFree (l ++ [p]) = prFree l ++ if p.word = S "parameter" then [p.nm] else [] := by
  unfold prFree
  rw [List.map_append, List.filterMap_append]
  congr 1
  by_cases h : p.word = S "parameter" <;> simp [Pr.pm, Pm.free, h]
theorem pm_dat {l : Led} {D7 D : Addr} {lap : Int} {word nm : Str} {wd vl : Int} {sg : Bool} {t0 t1 t2 t3 : Tok} (m : (D7, tupO [.str (Str.ofString "param") t0, .int lap t1, .str word t2, .bool false, .none, .str nm t3, .ref D]) ∈ l) (h : DatIn l (.ref D) (numD wd vl sg)) : DatIn l (.ref D7) (Pr.dat ⟨lap, word, nm, wd, vl, sg⟩) :=
  .tuple m (.cons (.str _ _) (.cons (.int _ _) (.cons (.str _ _) (.cons (.bool _) (.cons .none (.cons (.str _ _) (.cons h .nil)))))))
noncomputable def Small6 (n : Nat) : Prop := n < 6
inductive PmJ (L r hl bo fr : Addr) (c1 c2 c3 c4 c5 c6 c7 : Obj) (i : Nat) (m : Str → Option Value) (nx : Led) : Prop
  | mk (us : List Value) (ns : List Int) (n : Nat) (vh : List Value) (nh : Nat) (vb : List Value) (nb : Nat) (vf : List Value) (nf : Nat) (rest : Led) (hs bs fs : List Pr)
    (h0 : nx = (r, listOf us.toArray n) :: (hl, listOf vh.toArray nh) :: (bo, listOf vb.toArray nb) :: (fr, listOf vf.toArray nf) :: lawLed L c1 c2 c3 c4 c5 c6 c7 #[] rest)
    (h1 : IntsAre us ns)
    (h2 : us.length ≤ 200)
    (h3 : DatAll rest vh (hs.map Pr.dat))
    (h4 : DatAll rest vb (bs.map Pr.dat))
    (h5 : DatAll rest vf (fs.map Pr.dat))
    (h6 : vh.length ≤ i)
    (h7 : vb.length ≤ i)
    (h8 : vf.length ≤ i)
    (h9 : (∀ x, x ∈ fs.map Pr.nm ↔ x ∈ prFree hs ∨ x ∈ prFree bs))
    (h10 : (∀ p ∈ hs, p.ok))
    (h11 : (∀ p ∈ bs, p.ok))
    (h12 : (∀ p ∈ fs, p.ok))
    (h13 : OffA (lawAs L r hl bo fr) rest)
    (h14 : m (S "head") = some (.ref hl))
    (h15 : m (S "body") = some (.ref bo))
set_option maxHeartbeats 8000000 in
theorem seg16 {r hl bo fr : Addr} {us : List Value} {ns : List Int} {n : Nat} {c1 c2 c3 c4 c5 c6 c7 : Obj}
    (B : Below A₀ base [] h₀) (F : Fr h₀ L s.heap m) (X : (KX w.params).In h₀) (N : News h₀ L s.heap ((r, listOf us.toArray n) :: (hl, W.listOf #[] 0) :: (bo, W.listOf #[] 0) :: (fr, W.listOf #[] 0) :: lawLed L c1 c2 c3 c4 c5 c6 c7 #[] [])) (T : TopM mean mg mb h₀)
    (hd : dp + 60 < recursionLimit) (hu : un + 1200 < cLine) (hI : IntsAre us ns) (hl9 : us.length ≤ 200)
    (e1 : c1.data = .cell (some (.ref r))) (e4 : c4.data = .cell (some (.ref fr))) (m1 : m (S "head") = some (.ref hl)) (m2 : m (S "body") = some (.ref bo)) (l48 : @LT.lt Nat _ 1348 L) (lt : @LT.lt Nat _ (L + 7) r ∧ @LT.lt Nat _ r hl ∧ @LT.lt Nat _ hl bo ∧ @LT.lt Nat _ bo fr)
    (next : ∀ i h' tk' m' nx', i ≤ 5 → Fr h₀ L h' m' → News h₀ L h' nx' → PmJ L r hl bo fr c1 c2 c3 c4 c5 c6 c7 i m' nx' →
      wpAny (model pwO w) (lawA dp un gd L) (execs law17 (lawE L)) Q (fun _ _ => False) { s with heap := h', toks := tk' }) :
    wpAny (model pwO w) (lawA dp un gd L) (execs law16 (lawE L)) Q (fun _ _ => False) s := by
  refine ?mG; exact ((by exact ?mB) : (let_mvar% ?mB := (by (
  dsimp only [law16, restOf, lawE, lawA]
  have ltz := ord4 lt
  have o1 := lt.1
  have o2 := lt.2.1
  have o3 := lt.2.2.1
  have o4 := lt.2.2.2
  have z1 := ltz.1
  have z2 := ltz.2.1
  have z3 := ltz.2.2.1
  have z4 := ltz.2.2.2.1
  have z5 := ltz.2.2.2.2.1
  have z6 := ltz.2.2.2.2.2
  have G1 := know F m1
  have G2 := know G1 (k := S "body") (v := .ref bo) (by rw [if_neg (by decide)]; exact m2)
  clear G1 F
  k_steps
  (with_reducible rename Fr _ _ _ _ => FY)
  (with_reducible rename News _ _ _ _ => NY)
  show wpAny _ _ _ _ _ _
  refine range1_rows FY NY fun hr tkr t1 u1 v1 hR FX NX _ => ?_
  (try dsimp only)
  (with_reducible rename IntsAre _ _ => IX)
  (with_reducible rename List.length _ ≤ 200 => LX)
  have q := fm (nextV ns) 6 (by decide)
  obtain ⟨k6, hk6⟩ : ∃ k : Nat, (nextV ns).fmod 6 = (k : Int) := ⟨((nextV ns).fmod 6).toNat, (Int.toNat_of_nonneg q.1).symm⟩
  rw [hk6] at hR q
  have h6 : k6 < 6 := by wtm_at "om"
  have h6' : Small6 k6 := h6
  show wpAny _ _ _ _ _ _
  refine iterJ_range (n := k6) (PmJ L r hl bo fr c1 c2 c3 c4 c5 c6 c7) rfl hR (small_zero (by wtm_at "om")) (by rw [rangeSize_nat]; wtm_at "om") FX NX ⟨_, _, _, [], 0, [], 0, [], 0, [], [], [], [], rfl, IX, LX, .nil, .nil, .nil, Nat.zero_le _, Nat.zero_le _, Nat.zero_le _, by intro x; simp [prFree], (List.forall_mem_nil _), (List.forall_mem_nil _), (List.forall_mem_nil _), fun _ _ => List.forall_mem_nil _, by wtm_at "kmap", by wtm_at "kmap"⟩ ?_ ?_
  · rintro I i t m₁ _ h tk oI hlt hi ⟨us, ns, n, vh, nh, vb, nb, vf, nf, rest, hs, bs, fs, rfl, hI, hl9, hvh, hvb, hvf, lh, lb, lf, hfr, okh, okb, okf, off, q1, q2⟩ hne F8 N8
    clear FX NX FY NY h6 q hk6 hR N IX LX
    have G3 := know F8 (k := S "head") (v := .ref hl) (by rw [if_neg (by decide)]; exact q1)
    have G4 := know G3 (k := S "body") (v := .ref bo) (by rw [if_neg (by decide), if_neg (by decide)]; exact q2)
    clear G3 F8
    k_lt hlt
    have offr : ∀ p ∈ rest, p.1 ≠ r := off r (by wtm_at "led_mem")
    have offh : ∀ p ∈ rest, p.1 ≠ hl := off hl (by wtm_at "led_mem")
    have offb : ∀ p ∈ rest, p.1 ≠ bo := off bo (by wtm_at "led_mem")
    have offf : ∀ p ∈ rest, p.1 ≠ fr := off fr (by wtm_at "led_mem")
    k_steps
    (with_reducible rename News _ _ _ _ => N2)
    show wpAny _ _ _ _ _ _
    refine pick_str (xs := [S "parameter", S "parameter", S "localparam"]) N2 (.head _) ?_ (fm _ 3 (by decide)).1 (fm _ 3 (by decide)).2 (by decide) ?_
    · exact .cons (.str _ _) (.cons (.str _ _) (.cons (.str _ _) .nil))
    intro word tw hw
    (try dsimp only)
    k_steps
    show wpAny _ _ _ _ _ _
    have h6a : i < (S "pqrstv").length := Nat.lt_of_lt_of_le (Nat.lt_trans hi h6') (by decide)
    have h6b : (S "pqrstv").length ≤ 1000 := by decide
    refine pick_chr h6a h6b ?_
    intro c hc
    clear h6a h6b
    have hnm := pname_in (Nat.lt_trans hi h6') hc
    clear hc
    generalize (⟨#[c]⟩ : Str) = nm at hnm ⊢
    (try dsimp only)
    k_steps
    (with_reducible rename Fr _ _ _ _ => F3)
    (with_reducible rename News _ _ _ _ => N3)
    (with_reducible rename IntsAre _ _ => I3)
    (with_reducible rename List.length _ ≤ 200 => L3)
    show wpAny _ _ _ _ _ _
    rename_i l3 _ _ _ _ _ us3 n3 _ _ _
    have N4 := nsub N3 (l' := (r, listOf us3.toArray n3) :: (I, oI) :: (hl, listOf vh.toArray nh) :: (bo, listOf vb.toArray nb) :: (fr, listOf vf.toArray nf) :: lawLed L c1 c2 c3 c4 c5 c6 c7 #[] rest) (by wtm_at "led_sub")
    refine number_u B F3 X N4 T rfl (by ktr_room) (by ktr_units) (.head ?ne) I3 L3 fun D ent wd vl sg us4 ns4 n4 h4 tk4 F4 N5 lt4 hD _ _ _ _ I4 L4 => ?_
    case ne => wtm_at "off_p"
    have lt5 : ∀ a ∈ I :: lawAs L r hl bo fr, ∀ q ∈ ent, @LT.lt Nat _ a q.1 := by
      have h1 : ∀ a ∈ ((r, listOf us3.toArray n3) :: (I, oI) :: (hl, listOf vh.toArray nh) :: (bo, listOf vb.toArray nb) :: (fr, listOf vf.toArray nf) :: lawLed L c1 c2 c3 c4 c5 c6 c7 #[] rest).map Prod.fst, ∀ q ∈ ent, @LT.lt Nat _ a q.1 := fun a ha q hq => by
        obtain ⟨p, hp, rfl⟩ := List.mem_map.mp ha
        exact lt4 p hp q hq
      refine fun a ha => h1 a ?_
      revert a
      simp only [lawLed, List.map_cons]
      wtm_at "led_sub"
    have off2 : OffA (I :: lawAs L r hl bo fr) (rest ++ ent) := fun a ha p hp => (List.mem_append.mp hp).elim
      (fun h => List.forall_mem_cons (p := fun a => ∀ p ∈ rest, p.1 ≠ a).mpr ⟨fun p hp => hne p (by ((repeat (refine List.Mem.tail _ ?_)); exact hp)), off⟩ a ha p h) fun h => Nat.ne_of_gt (lt5 a ha p h)
    have up : ∀ p ∈ rest, p ∈ rest ++ ent := fun p hp => List.mem_append_left _ hp
    replace hD : DatIn (rest ++ ent) (.ref D) (numD wd vl sg) := hD.mono fun p hp => List.mem_append_right _ hp
    replace hvh := hvh.mono up
    replace hvb := hvb.mono up
    replace hvf := hvf.mono up
    simp only [lawLed, List.cons_append] at N5
    clear N3 N4 F3 I3 L3 lt4 lt5 offr offh offb offf hne off up
    generalize rest ++ ent = rest2 at N5 off2 hD hvh hvb hvf
    have off := (List.forall_mem_cons.mp off2).2
    have hne := (List.forall_mem_cons.mp off2).1
    have offr : ∀ p ∈ rest2, p.1 ≠ r := off r (by wtm_at "led_mem")
    have offh : ∀ p ∈ rest2, p.1 ≠ hl := off hl (by wtm_at "led_mem")
    have offb : ∀ p ∈ rest2, p.1 ≠ bo := off bo (by wtm_at "led_mem")
    have offf : ∀ p ∈ rest2, p.1 ≠ fr := off fr (by wtm_at "led_mem")
    have lh9 : vh.length ≤ 900 := by have : i < 6 := Nat.lt_trans hi h6'; wtm_at "om"
    have lb9 : vb.length ≤ 900 := by have : i < 6 := Nat.lt_trans hi h6'; wtm_at "om"
    have lf9 : vf.length ≤ 900 := by have : i < 6 := Nat.lt_trans hi h6'; wtm_at "om"
    by_cases hwp : word = S "parameter"
    · subst hwp
      clear hw
      (try dsimp only)
      k_steps
      all_goals (
        (with_reducible rename Fr _ _ _ _ => FZ)
        (with_reducible rename News _ _ _ _ => NZ)
        (with_reducible rename IntsAre _ _ => IZ)
        (with_reducible rename List.length _ ≤ 200 => LZ))
      · rename_i D7 _ z7 _ _ _ us7 n7 _ _ _ _ _ _ _ _
        simp only [List.push_toArray] at NZ
        refine' ⟨_, _, _, (r, _) :: (hl, _) :: (bo, _) :: (fr, _) :: lawLed L c1 c2 c3 c4 c5 c6 c7 #[] ((D7, _) :: rest2), rfl, FZ, nsub NZ ?sub, ?ne, List.forall_mem_nil _, us7, _, n7, vh ++ [.ref D7], _, vb, _, vf ++ [.ref D7], _, (D7, _) :: rest2, hs ++ [⟨0 + (i : Int), S "parameter", nm, wd, vl, sg⟩], bs, fs ++ [⟨0 + (i : Int), S "parameter", nm, wd, vl, sg⟩], rfl, IZ, LZ, ?dh, ?db, ?df, ?lh, ?lb, ?lf, ?fr, ?okh, ?okb, ?okf, ?off, by wtm_at "kmap", by wtm_at "kmap"⟩
        case sub => wtm_at "led_sub"
        case ne => wtm_at "off_p"
        case dh => rw [List.map_append]; exact (hvh.mono (fun p hp => .tail _ hp)).append (.one (pm_dat (.head _) (hD.mono fun p hp => .tail _ hp)))
        case db => exact hvb.mono (fun p hp => .tail _ hp)
        case df => rw [List.map_append]; exact (hvf.mono (fun p hp => .tail _ hp)).append (.one (pm_dat (.head _) (hD.mono fun p hp => .tail _ hp)))
        case lh => rw [List.length_append, List.length_singleton]; wtm_at "om"
        case lb => wtm_at "om"
        case lf => rw [List.length_append, List.length_singleton]; wtm_at "om"
        case fr => intro x; rw [show prFree (hs ++ [⟨0 + (i : Int), S "parameter", nm, wd, vl, sg⟩]) = prFree hs ++ [nm] from (prFree_snoc _ _).trans (congrArg _ (if_pos rfl)), List.map_append, List.mem_append, List.mem_append, hfr]; exact or_right_comm
        case okh => exact fun x hx => (List.mem_append.mp hx).elim (okh x) fun h => by rw [List.mem_singleton.mp h]; exact ⟨hnm, .inl rfl⟩
        case okb => exact okb
        case okf => exact fun x hx => (List.mem_append.mp hx).elim (okf x) fun h => by rw [List.mem_singleton.mp h]; exact ⟨hnm, .inl rfl⟩
        case off => exact OffA.cons off (by wtm_at "ne_all")
      · rename_i D7 _ z7 _ _ _ us7 n7 _ _ _ _ _ _ _ _
        simp only [List.push_toArray] at NZ
        refine' ⟨_, _, _, (r, _) :: (hl, _) :: (bo, _) :: (fr, _) :: lawLed L c1 c2 c3 c4 c5 c6 c7 #[] ((D7, _) :: rest2), rfl, FZ, nsub NZ ?sub, ?ne, List.forall_mem_nil _, us7, _, n7, vh, _, vb ++ [.ref D7], _, vf ++ [.ref D7], _, (D7, _) :: rest2, hs, bs ++ [⟨0 + (i : Int), S "parameter", nm, wd, vl, sg⟩], fs ++ [⟨0 + (i : Int), S "parameter", nm, wd, vl, sg⟩], rfl, IZ, LZ, ?dh, ?db, ?df, ?lh, ?lb, ?lf, ?fr, ?okh, ?okb, ?okf, ?off, by wtm_at "kmap", by wtm_at "kmap"⟩
        case sub => wtm_at "led_sub"
        case ne => wtm_at "off_p"
        case dh => exact hvh.mono (fun p hp => .tail _ hp)
        case db => rw [List.map_append]; exact (hvb.mono (fun p hp => .tail _ hp)).append (.one (pm_dat (.head _) (hD.mono fun p hp => .tail _ hp)))
        case df => rw [List.map_append]; exact (hvf.mono (fun p hp => .tail _ hp)).append (.one (pm_dat (.head _) (hD.mono fun p hp => .tail _ hp)))
        case lh => wtm_at "om"
        case lb => rw [List.length_append, List.length_singleton]; wtm_at "om"
        case lf => rw [List.length_append, List.length_singleton]; wtm_at "om"
        case fr => intro x; rw [show prFree (bs ++ [⟨0 + (i : Int), S "parameter", nm, wd, vl, sg⟩]) = prFree bs ++ [nm] from (prFree_snoc _ _).trans (congrArg _ (if_pos rfl)), List.map_append, List.mem_append, List.mem_append, hfr]; exact or_assoc
        case okh => exact okh
        case okb => exact fun x hx => (List.mem_append.mp hx).elim (okb x) fun h => by rw [List.mem_singleton.mp h]; exact ⟨hnm, .inl rfl⟩
        case okf => exact fun x hx => (List.mem_append.mp hx).elim (okf x) fun h => by rw [List.mem_singleton.mp h]; exact ⟨hnm, .inl rfl⟩
        case off => exact OffA.cons off (by wtm_at "ne_all")
    · have hw2 : word = S "localparam" := by simp at hw; exact hw.resolve_left hwp
      subst hw2
      clear hw hwp
      (try dsimp only)
      k_steps
      all_goals (
        (with_reducible rename Fr _ _ _ _ => FZ)
        (with_reducible rename News _ _ _ _ => NZ)
        (with_reducible rename IntsAre _ _ => IZ)
        (with_reducible rename List.length _ ≤ 200 => LZ))
      · rename_i D7 _ z7 _ _ _ us7 n7 _ _ _ _ _ _
        simp only [List.push_toArray] at NZ
        refine' ⟨_, _, _, (r, _) :: (hl, _) :: (bo, _) :: (fr, _) :: lawLed L c1 c2 c3 c4 c5 c6 c7 #[] ((D7, _) :: rest2), rfl, FZ, nsub NZ ?sub, ?ne, List.forall_mem_nil _, us7, _, n7, vh ++ [.ref D7], _, vb, _, vf, _, (D7, _) :: rest2, hs ++ [⟨0 + (i : Int), S "localparam", nm, wd, vl, sg⟩], bs, fs, rfl, IZ, LZ, ?dh, ?db, ?df, ?lh, ?lb, ?lf, ?fr, ?okh, ?okb, ?okf, ?off, by wtm_at "kmap", by wtm_at "kmap"⟩
        case sub => wtm_at "led_sub"
        case ne => wtm_at "off_p"
        case dh => rw [List.map_append]; exact (hvh.mono (fun p hp => .tail _ hp)).append (.one (pm_dat (.head _) (hD.mono fun p hp => .tail _ hp)))
        case db => exact hvb.mono (fun p hp => .tail _ hp)
        case df => exact hvf.mono (fun p hp => .tail _ hp)
        case lh => rw [List.length_append, List.length_singleton]; wtm_at "om"
        case lb => wtm_at "om"
        case lf => wtm_at "om"
        case fr => intro x; rw [show prFree (hs ++ [⟨0 + (i : Int), S "localparam", nm, wd, vl, sg⟩]) = prFree hs ++ [] from (prFree_snoc _ _).trans (congrArg _ (if_neg (show ¬ S "localparam" = S "parameter" by decide))), List.append_nil]; exact hfr x
        case okh => exact fun x hx => (List.mem_append.mp hx).elim (okh x) fun h => by rw [List.mem_singleton.mp h]; exact ⟨hnm, .inr rfl⟩
        case okb => exact okb
        case okf => exact okf
        case off => exact OffA.cons off (by wtm_at "ne_all")
      · rename_i D7 _ z7 _ _ _ us7 n7 _ _ _ _ _ _
        simp only [List.push_toArray] at NZ
        refine' ⟨_, _, _, (r, _) :: (hl, _) :: (bo, _) :: (fr, _) :: lawLed L c1 c2 c3 c4 c5 c6 c7 #[] ((D7, _) :: rest2), rfl, FZ, nsub NZ ?sub, ?ne, List.forall_mem_nil _, us7, _, n7, vh, _, vb ++ [.ref D7], _, vf, _, (D7, _) :: rest2, hs, bs ++ [⟨0 + (i : Int), S "localparam", nm, wd, vl, sg⟩], fs, rfl, IZ, LZ, ?dh, ?db, ?df, ?lh, ?lb, ?lf, ?fr, ?okh, ?okb, ?okf, ?off, by wtm_at "kmap", by wtm_at "kmap"⟩
        case sub => wtm_at "led_sub"
        case ne => wtm_at "off_p"
        case dh => exact hvh.mono (fun p hp => .tail _ hp)
        case db => rw [List.map_append]; exact (hvb.mono (fun p hp => .tail _ hp)).append (.one (pm_dat (.head _) (hD.mono fun p hp => .tail _ hp)))
        case df => exact hvf.mono (fun p hp => .tail _ hp)
        case lh => wtm_at "om"
        case lb => rw [List.length_append, List.length_singleton]; wtm_at "om"
        case lf => wtm_at "om"
        case fr => intro x; rw [show prFree (bs ++ [⟨0 + (i : Int), S "localparam", nm, wd, vl, sg⟩]) = prFree bs ++ [] from (prFree_snoc _ _).trans (congrArg _ (if_neg (show ¬ S "localparam" = S "parameter" by decide))), List.append_nil]; exact hfr x
        case okh => exact okh
        case okb => exact fun x hx => (List.mem_append.mp hx).elim (okb x) fun h => by rw [List.mem_singleton.mp h]; exact ⟨hnm, .inr rfl⟩
        case okf => exact okf
        case off => exact OffA.cons off (by wtm_at "ne_all")
  · rintro m₁ _ h tk hJ F7 N7
    (try dsimp only)
    show wpAny _ _ _ _ _ _
    exact next _ _ _ _ _ (by wtm_at "om") F7 N7 hJ
  ) : type_of% ?mG); have _ : True := trivial; type_of% ?mG))
end
end
section
open PySem PySem.W PyProof.Rows PySem.Calls
set_option maxRecDepth 100000
set_option maxHeartbeats 0
set_option Elab.async false
set_option compiler.extract_closed false
set_option compiler.reuse false
set_option linter.unusedVariables false
set_option pp.deepTerms false
section
variable {w : World} {mean : ExcName → Option Value} {mg mb : Str → Option Value} {dp un : Nat} {gd : Option (List Code)} {A₀ : Around} {base h₀ : Heap} {L : Addr} {m : Str → Option Value} {s : Shared} {Q : Flow → Shared → Prop} {E : Value → Shared → Prop}

inductive SrcJ (L r hl bo fr sa : Addr) (c1 c2 c3 c4 c5 c6 c7 : Obj) (m : Str → Option Value) (nx : Led) : Prop
  | mk (us : List Value) (ns : List Int) (n : Nat) (vh : List Value) (nh : Nat) (vb : List Value) (nb : Nat) (vf : List Value) (nf : Nat) (rest : Led) (hs bs fs : List Pr)
    (h0 : nx = (r, listOf us.toArray n) :: (hl, listOf vh.toArray nh) :: (bo, listOf vb.toArray nb) :: (fr, listOf vf.toArray nf) :: lawLed L c1 c2 c3 c4 c5 c6 c7 #[] rest)
    (h1 : IntsAre us ns)
    (h2 : us.length ≤ 200)
    (h3 : DatAll rest vh (hs.map Pr.dat))
    (h4 : DatAll rest vb (bs.map Pr.dat))
    (h5 : DatAll rest vf (fs.map Pr.dat))
    (h6 : vh.length ≤ 5)
    (h7 : vb.length ≤ 5)
    (h8 : vf.length ≤ 5)
    (h9 : (∀ x, x ∈ fs.map Pr.nm ↔ x ∈ prFree hs ∨ x ∈ prFree bs))
    (h10 : (∀ p ∈ hs, p.ok))
    (h11 : (∀ p ∈ bs, p.ok))
    (h12 : (∀ p ∈ fs, p.ok))
    (h13 : OffA (lawAs L r hl bo fr) rest)
    (h14 : DatIn rest (.ref sa) (srcD (hs.map Pr.pm) (.init :: bs.map Pr.pm)))
    (h15 : m (S "head") = some (.ref hl))
    (h16 : m (S "body") = some (.ref bo))
theorem up5 {a b c d e : Addr × Obj} {l : Led} : ∀ p ∈ l, p ∈ a :: b :: c :: d :: e :: l := fun p hp => .tail _ (.tail _ (.tail _ (.tail _ (.tail _ hp))))
theorem seg17 {r hl bo fr : Addr} {c1 c2 c3 c4 c5 c6 c7 : Obj} {i : Nat} {nx : Led}
    (B : Below A₀ base [] h₀) (F : Fr h₀ L s.heap m) (X : (KX w.params).In h₀) (N : News h₀ L s.heap nx) (T : TopM mean mg mb h₀)
    (hd : dp + 60 < recursionLimit) (hu : un + 1200 < cLine) (hi : i ≤ 5) (hJ : PmJ L r hl bo fr c1 c2 c3 c4 c5 c6 c7 i m nx)
    (e1 : c1.data = .cell (some (.ref r))) (e3 : c3.data = .cell none) (e4 : c4.data = .cell (some (.ref fr))) (l48 : @LT.lt Nat _ 1348 L) (lt : @LT.lt Nat _ (L + 7) r ∧ @LT.lt Nat _ r hl ∧ @LT.lt Nat _ hl bo ∧ @LT.lt Nat _ bo fr)
    (next : ∀ (sa : Addr) (c3' : Obj) h' tk' m' nx', Fr h₀ L h' m' → News h₀ L h' nx' → c3'.data = .cell (some (.ref sa)) → SrcJ L r hl bo fr sa c1 c2 c3' c4 c5 c6 c7 m' nx' → wpAny (model pwO w) (lawA dp un gd L) (execs law18 (lawE L)) Q (fun _ _ => False) { s with heap := h', toks := tk' }) :
    wpAny (model pwO w) (lawA dp un gd L) (execs law17 (lawE L)) Q (fun _ _ => False) s := by
  refine ?mG; exact ((by exact ?mB) : (let_mvar% ?mB := (by (
  obtain ⟨us, ns, n, vh, nh, vb, nb, vf, nf, rest, hs, bs, fs, rfl, hI, hl9, hvh, hvb, hvf, lh, lb, lf, hfr, okh, okb, okf, off, q1, q2⟩ := hJ
  dsimp only [law17, restOf, lawE, lawA]
  have ltz := ord4 lt
  have o1 := lt.1
  have o2 := lt.2.1
  have o3 := lt.2.2.1
  have o4 := lt.2.2.2
  have z1 := ltz.1
  have z2 := ltz.2.1
  have z3 := ltz.2.2.1
  have z4 := ltz.2.2.2.1
  have z5 := ltz.2.2.2.2.1
  have z6 := ltz.2.2.2.2.2
  have G1 := know F q1
  have G2 := know G1 (k := S "body") (v := .ref bo) (by rw [if_neg (by decide)]; exact q2)
  clear G1
  have hsl := hvh.length
  have bsl := hvb.length
  rw [List.length_map] at hsl bsl
  k_steps
  (with_reducible rename Fr _ _ _ _ => F1)
  (with_reducible rename News _ _ _ _ => N1)
  show wpAny _ _ _ _ _ _
  refine kde_tupleOf F1 N1 (isL N1 mm1) (by rw [List.size_toArray]; wtm_at "om") (zs := vh) rfl fun D1 h2 F2 N2 l2 => ?_
  (try dsimp only)
  k_lt l2
  k_steps
  (with_reducible rename Fr _ _ _ _ => F3)
  (with_reducible rename News _ _ _ _ => N3)
  rename_i DE _ _ DI _ _ _ _ _ _ _ _
  refine kde_tupleOf F3 N3 (isL N3 (.head _)) (by rw [List.size_toArray]; simp only [List.length_append, List.length_singleton]; wtm_at "om") (zs := .ref DI :: vb) rfl fun D2 h4 F4 N4 l4 => ?_
  (try dsimp only)
  have N5 := nsub N4 (l' := (D2, _) :: (DI, _) :: (DE, _) :: (D1, _) :: (r, listOf us.toArray n) :: (hl, listOf vh.toArray nh) :: (bo, listOf vb.toArray nb) :: (fr, listOf vf.toArray nf) :: lawLed L c1 c2 c3 c4 c5 c6 c7 #[] rest) (by wtm_at "led_sub")
  have l5 := fun p hp => l4 p (.tail _ (.tail _ hp))
  clear N4 N3 F3
  k_lt l5
  have off3 : ∀ p ∈ rest, p.1 ≠ L + 3 := off (L + 3) (by wtm_at "led_mem")
  repeat (first | (k_unfold; (try dsimp only)) | ((fail_if_success (with_reducible show wpAny _ _ (execs _ _) _ _ _)); first | walk1 | (dsimp only; walk1)))
  (with_reducible rename Fr _ _ _ _ => FZ)
  (with_reducible rename News _ _ _ _ => NZ)
  rename_i DS _ z9 _ o9 d9
  show wpAny _ _ _ _ _ _
  refine' next DS o9 _ _ _ ((r, _) :: (hl, _) :: (bo, _) :: (fr, _) :: lawLed L c1 c2 o9 c4 c5 c6 c7 #[] ((DS, _) :: (D2, _) :: (DI, _) :: (DE, _) :: (D1, _) :: rest)) FZ (nsub NZ ?sub) d9 ⟨us, ns, n, vh, nh, vb, nb, vf, nf, _, hs, bs, fs, rfl, hI, hl9, hvh.mono up5, hvb.mono up5, hvf.mono up5, by wtm_at "om", by wtm_at "om", by wtm_at "om", hfr, okh, okb, okf, ?off, ?dat, by wtm_at "kmap", by wtm_at "kmap"⟩
  case sub => wtm_at "led_sub"
  case off => exact OffA.cons (OffA.cons (OffA.cons (OffA.cons (OffA.cons off (by wtm_at "ne_all")) (by wtm_at "ne_all")) (by wtm_at "ne_all")) (by wtm_at "ne_all")) (by wtm_at "ne_all")
  case dat =>
    refine .tuple (.head _) (.cons (.str _ _) (.cons (.int _ _) (.cons (.str _ _) (.cons (.tuple mm4 ?qa1) (.cons (.tuple mm3 .nil) (.cons (.tuple mm1 (.cons (.tuple mm2 (.cons (.str _ _) (.cons (.int _ _) (.cons .none .nil)))) ?qb1)) (.cons (.str _ _) .nil)))))))
    · rw [List.map_map]; exact hvh.mono up5
    · rw [List.map_map]; exact hvb.mono up5
  ) : type_of% ?mG); have _ : True := trivial; type_of% ?mG))
end
end
section
open PySem PySem.W PyProof.Rows PySem.Calls
set_option maxRecDepth 100000
set_option maxHeartbeats 0
set_option Elab.async false
set_option compiler.extract_closed false
set_option compiler.reuse false
set_option linter.unusedVariables false
set_option pp.deepTerms false
section
variable {w : World} {mean : ExcName → Option Value} {mg mb : Str → Option Value} {dp un : Nat} {gd : Option (List Code)} {A₀ : Around} {base h₀ : Heap} {L : Addr} {m : Str → Option Value} {s : Shared} {Q : Flow → Shared → Prop} {E : Value → Shared → Prop}

local macro_rules | `(tactic| wtm_at "to_execs") => do toExecsS (← `(((execs _ _))))
local macro_rules | `(tactic| walk_at "compareOp NotEq ref ref") => holdS
noncomputable abbrev lawBs (L r : Addr) : List Addr := [1348, L + 1, L + 2, L + 3, L + 4, L + 5, L + 6, L + 7, r]
inductive OrdJ (L r fr ox sa : Addr) (c1 c2 c3 c4 c5 c6 c7 : Obj) (m : Str → Option Value) (nx : Led) : Prop
  | mk (us : List Value) (ns : List Int) (n : Nat) (vf : List Value) (nf : Nat) (vx : List Value) (kx : Nat) (rest : Led) (hs bs fs : List Pr)
    (h0 : nx = (r, listOf us.toArray n) :: lawLed L c1 c2 c3 c4 c5 c6 c7 #[] rest)
    (h1 : IntsAre us ns)
    (h2 : us.length ≤ 200)
    (h3 : (fr, listOf vf.toArray nf) ∈ rest)
    (h4 : (ox, listOf vx.toArray kx) ∈ rest)
    (h5 : DatAll rest vf (fs.map Pr.dat))
    (h6 : vf.length ≤ 5)
    (h7 : DatAll [] vx ((ordX (hs.map Pr.pm) (.init :: bs.map Pr.pm)).map Dat.str))
    (h8 : hs.length ≤ 5)
    (h9 : bs.length ≤ 5)
    (h10 : (∀ x, x ∈ fs.map Pr.nm ↔ x ∈ prFree hs ∨ x ∈ prFree bs))
    (h11 : (∀ p ∈ hs, p.ok))
    (h12 : (∀ p ∈ bs, p.ok))
    (h13 : (∀ p ∈ fs, p.ok))
    (h14 : OffA (lawBs L r) rest)
    (h15 : DatIn rest (.ref sa) (srcD (hs.map Pr.pm) (.init :: bs.map Pr.pm)))
    (h16 : m (S "ordered_x") = some (.ref ox))
theorem prFree_take (l : List Pr) (i : Nat) (h : i < l.length) : prFree (l.take (i + 1)) = prFree (l.take i) ++ if l[i].word = S "parameter" then [l[i].nm] else [] := by
  rw [List.take_add_one, List.getElem?_eq_getElem h]; exact prFree_snoc _ _
theorem pName_ok {x : Str} (h : x ∈ pNames) : PyData.strOk x = true := by
  have h2 : ∀ x ∈ pNames, PyData.strOk x = true := List.forall_mem_cons.mpr ⟨by kernel_rfl, List.forall_mem_cons.mpr ⟨by kernel_rfl, List.forall_mem_cons.mpr ⟨by kernel_rfl, List.forall_mem_cons.mpr ⟨by kernel_rfl, List.forall_mem_cons.mpr ⟨by kernel_rfl, List.forall_mem_cons.mpr ⟨by kernel_rfl, List.forall_mem_nil _⟩⟩⟩⟩⟩⟩
  exact h2 x h
theorem prFree_mem {l : List Pr} {x : Str} (h : x ∈ prFree l) : ∃ p ∈ l, p.nm = x := by
  refine ?mG; exact ((by exact ?mB) : (let_mvar% ?mB := (by (
  obtain ⟨pm, h1, h2⟩ := List.mem_filterMap.mp h
  obtain ⟨p, hp, rfl⟩ := List.mem_map.mp h1
  refine ⟨p, hp, ?_⟩
  by_cases hw : p.word = S "parameter"
  · simpa [Pr.pm, Pm.free, hw] using h2
  · simp [Pr.pm, Pm.free, hw] at h2
  ) : type_of% ?mG); have _ : True := trivial; type_of% ?mG))
theorem prFree_ok {l : List Pr} (h : ∀ p ∈ l, p.ok) : ∀ d ∈ (prFree l).map Dat.str, kqdOk 8 d = true := by
  intro d hd
  obtain ⟨x, hx, rfl⟩ := List.mem_map.mp hd
  obtain ⟨p, hp, rfl⟩ := prFree_mem hx
  exact pName_ok (h p hp).1
theorem ordX_n {hs bs : List Pr} (h : ¬ prFree hs = []) : ordX (hs.map Pr.pm) (.init :: bs.map Pr.pm) = prFree hs := by
  unfold ordX; exact if_pos h
theorem ordX_e {hs bs : List Pr} (h : prFree hs = []) : ordX (hs.map Pr.pm) (.init :: bs.map Pr.pm) = prFree bs := by
  unfold ordX
  rw [if_neg (fun z => z h), List.filterMap_append, show (hs.map Pr.pm).filterMap Pm.free = [] from h]
  rfl
theorem seg18 {r hl bo fr sa : Addr} {c1 c2 c3 c4 c5 c6 c7 : Obj} {nx : Led}
    (B : Below A₀ base [] h₀) (F : Fr h₀ L s.heap m) (X : (KX w.params).In h₀) (N : News h₀ L s.heap nx) (T : TopM mean mg mb h₀)
    (hd : dp + 60 < recursionLimit) (hu : un + 1200 < cLine) (hJ : SrcJ L r hl bo fr sa c1 c2 c3 c4 c5 c6 c7 m nx) (l48 : @LT.lt Nat _ 1348 L) (lt : @LT.lt Nat _ (L + 7) r ∧ @LT.lt Nat _ r hl ∧ @LT.lt Nat _ hl bo ∧ @LT.lt Nat _ bo fr)
    (next : ∀ (ox : Addr) h' tk' m' nx', Fr h₀ L h' m' → News h₀ L h' nx' → OrdJ L r fr ox sa c1 c2 c3 c4 c5 c6 c7 m' nx' → wpAny (model pwO w) (lawA dp un gd L) (execs law20 (lawE L)) Q (fun _ _ => False) { s with heap := h', toks := tk' }) :
    wpAny (model pwO w) (lawA dp un gd L) (execs law18 (lawE L)) Q (fun _ _ => False) s := by
  refine ?mG; exact ((by exact ?mB) : (let_mvar% ?mB := (by (
  obtain ⟨us, ns, n, vh, nh, vb, nb, vf, nf, rest, hs, bs, fs, rfl, hI, hl9, hvh, hvb, hvf, lh, lb, lf, hfr, okh, okb, okf, off, hD, q1, q2⟩ := hJ
  dsimp only [law18, restOf, lawE, lawA]
  have ltz := ord4 lt
  have o1 := lt.1
  have o2 := lt.2.1
  have o3 := lt.2.2.1
  have o4 := lt.2.2.2
  have z1 := ltz.1
  have z2 := ltz.2.1
  have z3 := ltz.2.2.1
  have z4 := ltz.2.2.2.1
  have z5 := ltz.2.2.2.2.1
  have z6 := ltz.2.2.2.2.2
  have G1 := know F q1
  have G2 := know G1 (k := S "body") (v := .ref bo) (by rw [if_neg (by decide)]; exact q2)
  clear G1
  have hsl := hvh.length
  have bsl := hvb.length
  rw [List.length_map] at hsl bsl
  k_steps
  refine ⟨_, _, _, _, _, _, _, (fun i ys nx => nx = (r, listOf us.toArray n) :: (hl, listOf vh.toArray nh) :: (bo, listOf vb.toArray nb) :: (fr, listOf vf.toArray nf) :: lawLed L c1 c2 c3 c4 c5 c6 c7 #[] rest ∧ DatAll [] ys ((prFree (hs.take i)).map Dat.str)), G2, N, src_list (k := nh) rfl N mm1 (by rw [PySem.sizeLine_eq]; wtm_at "om"), .tail _ (.head _), ⟨rfl, .nil⟩, ?_, ?_⟩
  · rintro i ys _ v I oI C oC D m₂ h tk E' hi ⟨rfl, hY⟩ hS hv hC hx F2 N2 off2 ne
    have hi2 : i < hs.length := by rw [← hsl]; exact hi
    have hV : DatIn rest v ((hs[i]'hi2).dat) := by
      obtain ⟨v', h1, h2⟩ := hvh.get (k := i) (by rw [List.length_map]; exact hi2)
      rw [hv] at h1
      obtain rfl := Option.some.inj h1
      rw [List.getElem_map] at h2
      exact h2
    have tk1 := prFree_take hs i hi2
    generalize hs[i]'hi2 = pm at hV tk1
    obtain ⟨lap, word, nm, wd, vl, sg⟩ := pm
    replace hV : DatIn rest v (.tuple [dS "param", .int lap, .str word, .bool false, .none, .str nm, numD wd vl sg]) := hV
    dsimp only at tk1
    obtain ⟨b1, k1, w1, w2, w3, w4, w5, w6, w7, rfl, hmA, f1, f2, f3, f4, f5, f6, f7⟩ := inv7 hV
    obtain ⟨t3, rfl⟩ := d_str f3
    obtain ⟨t6, rfl⟩ := d_str f6
    by_cases hw : word = S "parameter"
    · subst hw
      k_steps
      refine ⟨h, _, _, rfl, F2, N2, off2, hS, rfl, ?_⟩
      rw [tk1, if_pos rfl, List.map_append]
      exact hY.append (.one (.str _ _))
    · have hw2 : (word == S "parameter") = false := beq_eq_false_iff_ne.mpr hw
      k_steps
      refine ⟨h, _, _, rfl, F2, N2, off2, hS, rfl, ?_⟩
      rw [tk1, if_neg hw, List.append_nil]
      exact hY
  · rintro ys _ D1 h1 tk1 ⟨rfl, hY⟩ F1 N1 o1
    (try dsimp only)
    rw [hsl, List.take_length] at hY
    k_steps
    (with_reducible rename Fr _ _ _ _ => F3)
    (with_reducible rename News _ _ _ _ => N3)
    rename_i LE _ _
    have ok1 : ∀ {l : List Pr}, (∀ p ∈ l, p.ok) → ∀ d ∈ (prFree l).map Dat.str, kqdOk 8 d = true := fun h d hd => prFree_ok h d hd
    show wpAny _ _ _ _ _ _
    refine kqd_ne N3 mm1 rfl rfl hY (List.forall_mem_nil _) (es := []) (.head _) rfl rfl .nil (List.forall_mem_nil _) (ok1 okh) (List.forall_mem_nil _) ?hu ?_
    case hu => ke_room
    (try dsimp only)
    by_cases he : prFree hs = []
    · rw [he, List.map_nil]
      simp only [decide_true, Bool.not_true]
      k_steps
      (with_reducible rename Fr _ _ _ _ => F5)
      (with_reducible rename News _ _ _ _ => N5)
      have N6 := nsub N5 (l' := (r, listOf us.toArray n) :: (hl, listOf vh.toArray nh) :: (bo, listOf vb.toArray nb) :: (fr, listOf vf.toArray nf) :: lawLed L c1 c2 c3 c4 c5 c6 c7 #[] rest) (by wtm_at "led_sub")
      clear N5
      refine ⟨_, _, _, _, _, _, _, (fun i ys nx => nx = (r, listOf us.toArray n) :: (hl, listOf vh.toArray nh) :: (bo, listOf vb.toArray nb) :: (fr, listOf vf.toArray nf) :: lawLed L c1 c2 c3 c4 c5 c6 c7 #[] rest ∧ DatAll [] ys ((prFree (bs.take i)).map Dat.str)), F5, N6, src_list (k := nb) rfl N6 mm2 (by rw [PySem.sizeLine_eq]; wtm_at "om"), .tail _ mm1, ⟨rfl, .nil⟩, ?_, ?_⟩
      · rintro i zs _ v I oI C oC D m₂ h tk E' hi ⟨rfl, hZ⟩ hS hv hC hx F8 N8 off2 ne
        have hi2 : i < bs.length := by rw [← bsl]; exact hi
        have hV : DatIn rest v ((bs[i]'hi2).dat) := by
          obtain ⟨v', h1, h2⟩ := hvb.get (k := i) (by rw [List.length_map]; exact hi2)
          rw [hv] at h1
          obtain rfl := Option.some.inj h1
          rw [List.getElem_map] at h2
          exact h2
        have tk1 := prFree_take bs i hi2
        generalize bs[i]'hi2 = pm at hV tk1
        obtain ⟨lap, word, nm, wd, vl, sg⟩ := pm
        replace hV : DatIn rest v (.tuple [dS "param", .int lap, .str word, .bool false, .none, .str nm, numD wd vl sg]) := hV
        dsimp only at tk1
        obtain ⟨b1, k1, w1, w2, w3, w4, w5, w6, w7, rfl, hmA, f1, f2, f3, f4, f5, f6, f7⟩ := inv7 hV
        obtain ⟨t3, rfl⟩ := d_str f3
        obtain ⟨t6, rfl⟩ := d_str f6
        by_cases hw : word = S "parameter"
        · subst hw
          k_steps
          refine ⟨h, _, _, rfl, F8, N8, off2, hS, rfl, ?_⟩
          rw [tk1, if_pos rfl, List.map_append]
          exact hZ.append (.one (.str _ _))
        · have hw2 : (word == S "parameter") = false := beq_eq_false_iff_ne.mpr hw
          k_steps
          refine ⟨h, _, _, rfl, F8, N8, off2, hS, rfl, ?_⟩
          rw [tk1, if_neg hw, List.append_nil]
          exact hZ
      · rintro zs _ D2 h2 tk2 ⟨rfl, hZ⟩ F7 N7 o2
        clear F5 N6
        rw [bsl, List.take_length] at hZ
        (try dsimp only)
        wtm_at "to_execs"
        (with_reducible rename Fr _ _ _ _ => FZ)
        (with_reducible rename News _ _ _ _ => NZ)
        show wpAny _ _ _ _ _ _
        have oD : ∀ a ∈ lawBs L r, D2 ≠ a := by
          have h1 : ∀ a ∈ ((r, listOf us.toArray n) :: (hl, listOf vh.toArray nh) :: (bo, listOf vb.toArray nb) :: (fr, listOf vf.toArray nf) :: lawLed L c1 c2 c3 c4 c5 c6 c7 #[] rest : Led).map Prod.fst, D2 ≠ a := fun a ha => by
            obtain ⟨p, hp, rfl⟩ := List.mem_map.mp ha
            exact Ne.symm (off1_mem o2 p hp)
          refine fun a ha => h1 a ?_
          revert a
          simp only [lawLed, List.map_cons]
          wtm_at "led_sub"
        refine' next D2 _ _ _ ((r, _) :: lawLed L c1 c2 c3 c4 c5 c6 c7 #[] ((D2, _) :: (fr, _) :: rest)) FZ (nsub NZ ?sub) ⟨us, ns, n, vf, nf, _, _, _, hs, bs, fs, rfl, hI, hl9, .tail _ (.head _), .head _, hvf.mono fun p hp => .tail _ (.tail _ hp), by wtm_at "om", ?ord, by wtm_at "om", by wtm_at "om", hfr, okh, okb, okf, ?off, hD.mono fun p hp => .tail _ (.tail _ hp), by wtm_at "kmap"⟩
        case sub => wtm_at "led_sub"
        case off =>
          refine OffA.cons (OffA.cons (fun a ha => off a ?_) (by wtm_at "ne_all")) oD
          revert a
          wtm_at "led_sub"
        case ord => rw [ordX_e he]; exact hZ
    · rw [show decide ((prFree hs).map Dat.str = []) = false from decide_eq_false fun z => he (List.map_eq_nil_iff.mp z)]
      simp only [Bool.not_false]
      (try dsimp only)
      wtm_at "to_execs"
      (with_reducible rename Fr _ _ _ _ => FZ)
      (with_reducible rename News _ _ _ _ => NZ)
      show wpAny _ _ _ _ _ _
      have oD : ∀ a ∈ lawBs L r, D1 ≠ a := by
        have h1 : ∀ a ∈ ((r, listOf us.toArray n) :: (hl, listOf vh.toArray nh) :: (bo, listOf vb.toArray nb) :: (fr, listOf vf.toArray nf) :: lawLed L c1 c2 c3 c4 c5 c6 c7 #[] rest : Led).map Prod.fst, D1 ≠ a := fun a ha => by
          obtain ⟨p, hp, rfl⟩ := List.mem_map.mp ha
          exact Ne.symm (off1_mem o1 p hp)
        refine fun a ha => h1 a ?_
        revert a
        simp only [lawLed, List.map_cons]
        wtm_at "led_sub"
      refine' next D1 _ _ _ ((r, _) :: lawLed L c1 c2 c3 c4 c5 c6 c7 #[] ((D1, _) :: (fr, _) :: rest)) FZ (nsub NZ ?sub) ⟨us, ns, n, vf, nf, _, _, _, hs, bs, fs, rfl, hI, hl9, .tail _ (.head _), .head _, hvf.mono fun p hp => .tail _ (.tail _ hp), by wtm_at "om", ?ord, by wtm_at "om", by wtm_at "om", hfr, okh, okb, okf, ?off, hD.mono fun p hp => .tail _ (.tail _ hp), by wtm_at "kmap"⟩
      case sub => wtm_at "led_sub"
      case off =>
        refine OffA.cons (OffA.cons (fun a ha => off a ?_) (by wtm_at "ne_all")) oD
        revert a
        wtm_at "led_sub"
      case ord => rw [ordX_n he]; exact hY
  ) : type_of% ?mG); have _ : True := trivial; type_of% ?mG))
end
end
section
open PySem PySem.W PyProof.Rows PySem.Calls
set_option maxRecDepth 100000
set_option maxHeartbeats 0
set_option Elab.async false
set_option compiler.extract_closed false
set_option compiler.reuse false
set_option linter.unusedVariables false
set_option pp.deepTerms false
section
variable {w : World} {mean : ExcName → Option Value} {mg mb : Str → Option Value} {dp un : Nat} {gd : Option (List Code)} {A₀ : Around} {base h₀ : Heap} {L : Addr} {m : Str → Option Value} {s : Shared} {Q : Flow → Shared → Prop} {E : Value → Shared → Prop}

local macro_rules | `(tactic| wtm_at "to_execs") => do toExecsS (← `(((execs _ _))))
theorem seg22 {r ox : Addr} {us : List Value} {n : Nat} {c1 c2 c3 c4 c5 c6 c7 : Obj} {rest : Led}
    (B : Below A₀ base [] h₀) (F : Fr h₀ L s.heap m) (X : (KX w.params).In h₀) (N : News h₀ L s.heap ((r, listOf us.toArray n) :: lawLed L c1 c2 c3 c4 c5 c6 c7 #[] rest)) (T : TopM mean mg mb h₀)
    (hd : dp + 60 < recursionLimit) (hu : un + 1200 < cLine) (e5 : c5.data = .cell none) (e6 : c6.data = .cell none) (m1 : m (S "ordered_x") = some (.ref ox)) (l48 : @LT.lt Nat _ 1348 L) (lt : @LT.lt Nat _ (L + 7) r) (off : OffA (lawBs L r) rest)
    (next : ∀ ol du od c5' c6' h' tk' m', Fr h₀ L h' m' → News h₀ L h' ((r, listOf us.toArray n) :: (ol, W.listOf #[] 0) :: (du, od) :: lawLed L c1 c2 c3 c4 c5' c6' c7 #[] rest) → od.IsDictOf (PySem.strKind pwO w) [] → (du == sysModules) = false →
      c5'.data = .cell (some (.ref du)) → c6'.data = .cell (some (.ref ol)) → @LT.lt Nat _ r ol ∧ @LT.lt Nat _ ol du → (∀ p ∈ rest, @LT.lt Nat _ p.1 ol) → m' (S "ordered_x") = some (.ref ox) →
      wpAny (model pwO w) (lawA dp un gd L) (execs law24 (lawE L)) Q (fun _ _ => False) { s with heap := h', toks := tk' }) :
    wpAny (model pwO w) (lawA dp un gd L) (execs law22 (lawE L)) Q (fun _ _ => False) s := by
  refine ?mG; exact ((by exact ?mB) : (let_mvar% ?mB := (by (
  dsimp only [law22, restOf, lawE, lawA]
  have G1 := know F m1
  have off6 : ∀ p ∈ rest, p.1 ≠ L + 6 := off (L + 6) (by wtm_at "led_mem")
  have off5 : ∀ p ∈ rest, p.1 ≠ L + 5 := off (L + 5) (by wtm_at "led_mem")
  refine wpAny_execs_cons ?_
  (try dsimp only)
  wtm_at "to_execs"
  refine wpAny_execs_cons ?_
  (try dsimp only)
  wtm_at "to_execs"
  (with_reducible rename Fr _ _ _ _ => FZ)
  (with_reducible rename News _ _ _ _ => NZ)
  rename_i ol _ z1 _ o6 d6 du _ od lo hs _ _ _ z2 _ o5 d5
  (try dsimp only)
  refine next ol du od o5 o6 _ _ _ FZ (nsub NZ ?sub) hs lo d5 d6 ⟨z1.1, z2.1⟩ ?tl (by wtm_at "kmap")
  case sub => wtm_at "led_sub"
  case tl => exact of_allLt z1.2.2.2.2.2.2.2.2.2
  ) : type_of% ?mG); have _ : True := trivial; type_of% ?mG))
end
end
section
open PySem PySem.W PyProof.Rows PySem.Calls
set_option maxRecDepth 100000
set_option maxHeartbeats 0
set_option Elab.async false
set_option compiler.extract_closed false
set_option compiler.reuse false
set_option linter.unusedVariables false
set_option pp.deepTerms false
section
variable {w : World} {mean : ExcName → Option Value} {mg mb : Str → Option Value} {dp un : Nat} {gd : Option (List Code)} {A₀ : Around} {base h₀ : Heap} {L : Addr} {m : Str → Option Value} {s : Shared} {Q : Flow → Shared → Prop} {E : Value → Shared → Prop}

local macro_rules | `(tactic| walk_at "subscriptTail List cons BinOp ref int") => holdS
local macro_rules | `(tactic| walk_at "call type:range") => holdS
local macro_rules | `(tactic| walk_at "exec If Compare cons nil") => holdS
local macro_rules | `(tactic| walk_at "subscriptTail Name Name ref int") => holdS
local macro_rules | `(tactic| walk_at "setItem ref str") => holdS
local macro_rules | `(tactic| walk_at "call builtin:len") => holdS
local macro_rules | `(tactic| walk_at "call builtin:isinstance") => holdS
theorem isi_tuple {prog : Program} {A : Around} {E : Value → Shared → Prop} {s : Shared} {x : Value} {Q : Value → Shared → Prop} (hx : s.TypeIs x "tuple") (h : Q (.bool true) s) : wpAny (model prog w) A (call (.builtin "isinstance") [x, .type "tuple"]) (Q) (E) s :=
  call_isinstance_yes hx (by kernel_rfl) (by rw [isSubtype_type]; kernel_rfl) h
theorem dictCls {prog : Program} {knd : KeyKind prog w Str} {o : Obj} {kvs : List (Str × Value)} (h : o.IsDictOf knd kvs) : o.cls = .type "dict" := by
  obtain ⟨_, _, hc, _⟩ := h; exact hc.1
theorem ne_lawI {L r ol du I D : Addr} (l48 : @LT.lt Nat _ 1348 L) (h1 : @LT.lt Nat _ (L + 7) r) (h2 : @LT.lt Nat _ r ol) (h3 : @LT.lt Nat _ ol du) (h4 : @LT.lt Nat _ du I) (h5 : @LT.lt Nat _ I D) : ∀ a ∈ I :: du :: ol :: lawBs L r, D ≠ a := by
  refine ?mG; exact ((by exact ?mB) : (let_mvar% ?mB := (by (
  have t2 := Nat.lt_trans h1 h2
  have t3 := Nat.lt_trans t2 h3
  have t4 := Nat.lt_trans t3 h4
  have u3 := Nat.lt_trans h2 h3
  have u4 := Nat.lt_trans u3 h4
  have v4 := Nat.lt_trans h3 h4
  have t5 := Nat.lt_trans t4 h5
  have u5 := Nat.lt_trans u4 h5
  have v5 := Nat.lt_trans v4 h5
  have w5 := Nat.lt_trans h4 h5
  wtm_at "ne_all"
  ) : type_of% ?mG); have _ : True := trivial; type_of% ?mG))
theorem off_law {L r ol du I : Addr} {o1 o2 o3 c1 c2 c3 c4 c5 c6 c7 : Obj} {ps : Array Value} {rest : Led} (l48 : @LT.lt Nat _ 1348 L) (h1 : @LT.lt Nat _ (L + 7) r) (h2 : @LT.lt Nat _ r ol) (h3 : @LT.lt Nat _ ol du) (h4 : @LT.lt Nat _ du I) (hr : ∀ p ∈ rest, p.1 ≠ I) :
    ∀ p ∈ (r, o1) :: (ol, o2) :: (du, o3) :: lawLed L c1 c2 c3 c4 c5 c6 c7 ps rest, p.1 ≠ I := by
  refine ?mG; exact ((by exact ?mB) : (let_mvar% ?mB := (by (
  have t2 := Nat.lt_trans h1 h2
  have t3 := Nat.lt_trans t2 h3
  have t4 := Nat.lt_trans t3 h4
  have u3 := Nat.lt_trans h2 h3
  have u4 := Nat.lt_trans u3 h4
  have v4 := Nat.lt_trans h3 h4
  wtm_at "off_p"
  ) : type_of% ?mG); have _ : True := trivial; type_of% ?mG))
theorem off_lr {L r ol du I DI : Addr} {o1 o2 o3 o4 c1 c2 c3 c4 c5 c6 c7 : Obj} {ps : Array Value} {rest : Led} (l48 : @LT.lt Nat _ 1348 L) (h1 : @LT.lt Nat _ (L + 7) r) (h2 : @LT.lt Nat _ r ol) (h3 : @LT.lt Nat _ ol du) (h4 : @LT.lt Nat _ du I) (h5 : @LT.lt Nat _ I DI) (hr : ∀ p ∈ rest, p.1 ≠ r) :
    ∀ p ∈ (DI, o4) :: (I, o1) :: (ol, o2) :: (du, o3) :: lawLed L c1 c2 c3 c4 c5 c6 c7 ps rest, p.1 ≠ r := by
  refine ?mG; exact ((by exact ?mB) : (let_mvar% ?mB := (by (
  have t2 := Nat.lt_trans h1 h2
  have t3 := Nat.lt_trans t2 h3
  have t4 := Nat.lt_trans t3 h4
  have u3 := Nat.lt_trans h2 h3
  have u4 := Nat.lt_trans u3 h4
  have v4 := Nat.lt_trans h3 h4
  have t5 := Nat.lt_trans t4 h5
  have u5 := Nat.lt_trans u4 h5
  have v5 := Nat.lt_trans v4 h5
  have w5 := Nat.lt_trans h4 h5
  wtm_at "off_p"
  ) : type_of% ?mG); have _ : True := trivial; type_of% ?mG))
theorem off_ld {L r ol du I : Addr} {o1 o2 o3 c1 c2 c3 c4 c5 c6 c7 : Obj} {ps : Array Value} {rest : Led} (l48 : @LT.lt Nat _ 1348 L) (h1 : @LT.lt Nat _ (L + 7) r) (h2 : @LT.lt Nat _ r ol) (h3 : @LT.lt Nat _ ol du) (h4 : @LT.lt Nat _ du I) (hr : ∀ p ∈ rest, p.1 ≠ du) :
    ∀ p ∈ (I, o1) :: (r, o2) :: (ol, o3) :: lawLed L c1 c2 c3 c4 c5 c6 c7 ps rest, p.1 ≠ du := by
  refine ?mG; exact ((by exact ?mB) : (let_mvar% ?mB := (by (
  have t2 := Nat.lt_trans h1 h2
  have t3 := Nat.lt_trans t2 h3
  have t4 := Nat.lt_trans t3 h4
  have u3 := Nat.lt_trans h2 h3
  have u4 := Nat.lt_trans u3 h4
  have v4 := Nat.lt_trans h3 h4
  wtm_at "off_p"
  ) : type_of% ?mG); have _ : True := trivial; type_of% ?mG))
theorem pick_dat {prog : Program} {A : Around} {E : Value → Shared → Prop} {s : Shared} {value slice : Expr} {a : Addr} {news l : Led} {vs : List Value} {ds : List Dat} {n : Nat} {k : Int} {u : Tok} {Q : Value → Shared → Prop} (N : News h₀ L s.heap news) (hm : (a, listOf vs.toArray n) ∈ news) (hv : DatAll l vs ds) (lo : 0 ≤ k) (hi : k < ds.length) (hs63 : (ds.length : Int) ≤ 2 ^ 63)
    (h : ∀ v d, d ∈ ds → DatIn l v d → Q v s)
    (hs : subscripted slice false (.ref a) (.int k u) = operate [.ref a, .int k u] (getItem (.ref a) (.int k u)) := by with_unfolding_all rfl) :
    wpAny (model prog w) A (subscriptTail value slice (.ref a) (.int k u)) (Q) (E) s := by
  have hL := isL N hm
  have hk : k.toNat < ds.length := by wtm_at "om"
  obtain ⟨v, e, hd⟩ := hv.get hk
  exact tail_any hL.typeIs slot_list_getitem.lookup (wpAny_getItem_list hL lo (by wtm_at "om") (by simpa using e) (h v _ (List.getElem_mem hk) hd)) hs
noncomputable def exD : Option Ex → Dat
  | none => .none
  | some x => x.dat
theorem ov_dat (nm : Option Str) (ex : Option Ex) : Ov.dat ⟨nm, ex⟩ = .tuple [optD nm, exD ex] := by cases ex <;> rfl
noncomputable def Small4 (n : Nat) : Prop := n < 4
inductive DueJ (w : World) (L r ol du ox : Addr) (c1 c2 c3 c4 c6 c7 : Obj) (ord : List Str) (rest0 : Led) (i : Nat) (m : Str → Option Value) (nx : Led) : Prop
  | mk (us : List Value) (ns : List Int) (n : Nat) (vo : List Value) (no : Nat) (rest : Led) (ovs : List Ov) (c5 od : Obj)
    (h0 : IntsAre us ns)
    (h1 : us.length ≤ 200)
    (h2 : (∀ p ∈ rest0, p ∈ rest))
    (h3 : OffA (du :: ol :: lawBs L r) rest)
    (h4 : DatAll rest vo (ovs.map Ov.dat))
    (h5 : ovs.length = i)
    (h6 : (∀ o ∈ ovs, (∀ x, o.e = some x → x.ok) ∧ ∀ x, o.name = some x → PyData.strOk x = true))
    (h7 : m (S "ordered_x") = some (.ref ox))
    (h8 : nx = (r, listOf us.toArray n) :: (ol, listOf vo.toArray no) :: (du, od) :: lawLed L c1 c2 c3 c4 c5 c6 c7 #[] rest)
    (h9 : ((∃ kvs tab, c5.data = .cell (some (.ref du)) ∧ od.IsDictOf (PySem.strKind pwO w) kvs ∧ TabIn rest kvs tab ∧ ovAt ord ovs i = some tab) ∨ (∃ ta k t1 t2, c5.data = .cell (some (.ref ta)) ∧ (ta, tupN [.str (S "too_many_parameters") t1, .int 8 t2] k) ∈ rest ∧ ovAt ord ovs i = none)))
theorem optD_in {d : Dat} (h : d ∈ [dS "p", dS "q", dS "r", dS "z", .none, .none, .none]) : ∃ nm, d = optD nm ∧ ∀ x, nm = some x → PyData.strOk x = true := by
  refine ?mG; exact ((by exact ?mB) : (let_mvar% ?mB := (by (
  simp only [List.mem_cons, List.not_mem_nil, or_false] at h
  rcases h with h | h | h | h | h | h | h
  · exact ⟨some _, h, fun x e => by cases e; kernel_rfl⟩
  · exact ⟨some _, h, fun x e => by cases e; kernel_rfl⟩
  · exact ⟨some _, h, fun x e => by cases e; kernel_rfl⟩
  · exact ⟨some _, h, fun x e => by cases e; kernel_rfl⟩
  · exact ⟨none, h, fun x e => by cases e⟩
  · exact ⟨none, h, fun x e => by cases e⟩
  · exact ⟨none, h, fun x e => by cases e⟩
  ) : type_of% ?mG); have _ : True := trivial; type_of% ?mG))
theorem optD_any {l : Led} {v : Value} {nm : Option Str} (h : DatIn l v (optD nm)) : DatIn [] v (optD nm) := by
  cases nm with
  | none => obtain rfl := d_none h; exact .none
  | some x => obtain ⟨t, rfl⟩ := d_str h; exact .str _ _
theorem ov_in {l : Led} {D7 : Addr} {vn ve : Value} {nm : Option Str} {ex : Option Ex} (m : (D7, tupO [vn, ve]) ∈ l) (h1 : DatIn [] vn (optD nm)) (h2 : DatIn l ve (exD ex)) : DatIn l (.ref D7) (Ov.dat ⟨nm, ex⟩) := by
  rw [ov_dat]; exact .tuple m (.cons (h1.mono (fun _ h => by cases h)) (.cons h2 .nil))
theorem ovAt_app {ord : List Str} {ovs l : List Ov} : ∀ i, i ≤ ovs.length → ovAt ord (ovs ++ l) i = ovAt ord ovs i := by
  refine ?mG; exact ((by exact ?mB) : (let_mvar% ?mB := (by (
  intro i
  induction i with
  | zero => intro _; rfl
  | succ i ih =>
    intro h
    rw [ovAt, ovAt, ih (by wtm_at "om"), List.getElem?_append_left (by wtm_at "om")]
  ) : type_of% ?mG); have _ : True := trivial; type_of% ?mG))
theorem ovAt_snoc {ord : List Str} {ovs : List Ov} {o : Ov} {i : Nat} (h : ovs.length = i) : ovAt ord (ovs ++ [o]) (i + 1) = (ovAt ord ovs i).bind (ovStep ord i o) := by
  subst h
  rw [ovAt, ovAt_app _ (Nat.le_refl _)]
  congr 1
  funext tab
  simp
/-- how the name is settled: the walk's ways meet here -/
noncomputable def JoinQ (h₀ : Heap) (L I : Addr) (oI : Obj) (r ol du ox : Addr) (us : List Value) (n : Nat) (vo : List Value) (no : Nat) (od c1 c2 c3 c4 c5 c6 c7 : Obj) (rest : Led) (ve : Value) (key : Option Str) (s₀ : Shared) (J : (Str → Option Value) → Led → Prop) (f : Flow) (s' : Shared) : Prop :=
  (f = .next ∧ ∃ h' tk' xk tx m9, s' = { s₀ with heap := h', toks := tk' } ∧ Fr h₀ L h' m9 ∧ News h₀ L h' ((I, oI) :: (r, listOf us.toArray n) :: (ol, listOf vo.toArray no) :: (du, od) :: lawLed L c1 c2 c3 c4 c5 c6 c7 #[] rest) ∧ key = some xk ∧ m9 (S "name") = some (.str xk tx) ∧ m9 (S "e") = some ve ∧ m9 (S "ordered_x") = some (.ref ox)) ∨
  (f = .cont ∧ EndJ h₀ L I oI [] J s₀ s')
set_option maxHeartbeats 2500000 in
theorem seg24 {r ol du ox : Addr} {us : List Value} {ns : List Int} {n : Nat} {od c1 c2 c3 c4 c5 c6 c7 : Obj} {rest0 : Led} {vx : List Value} {kx : Nat} {ord : List Str}
    (B : Below A₀ base [] h₀) (F : Fr h₀ L s.heap m) (X : (KX w.params).In h₀) (N : News h₀ L s.heap ((r, listOf us.toArray n) :: (ol, W.listOf #[] 0) :: (du, od) :: lawLed L c1 c2 c3 c4 c5 c6 c7 #[] rest0)) (T : TopM mean mg mb h₀)
    (hd : dp + 60 < recursionLimit) (hu : un + 1200 < cLine) (hI : IntsAre us ns) (hl9 : us.length ≤ 200) (hO : od.IsDictOf (PySem.strKind pwO w) []) (dlo : (du == sysModules) = false)
    (e1 : c1.data = .cell (some (.ref r))) (e5 : c5.data = .cell (some (.ref du))) (e6 : c6.data = .cell (some (.ref ol))) (m1 : m (S "ordered_x") = some (.ref ox)) (l48 : @LT.lt Nat _ 1348 L) (lt : @LT.lt Nat _ (L + 7) r ∧ @LT.lt Nat _ r ol ∧ @LT.lt Nat _ ol du)
    (off : OffA (lawBs L r) rest0) (ltr : ∀ p ∈ rest0, @LT.lt Nat _ p.1 ol) (hox : (ox, listOf vx.toArray kx) ∈ rest0) (hvx : DatAll [] vx (ord.map Dat.str)) (hxl : ord.length ≤ 10)
    (next : ∀ i h' tk' m' nx', i ≤ 3 → Fr h₀ L h' m' → News h₀ L h' nx' → DueJ w L r ol du ox c1 c2 c3 c4 c6 c7 ord rest0 i m' nx' →
      wpAny (model pwO w) (lawA dp un gd L) (execs law25 (lawE L)) Q (fun _ _ => False) { s with heap := h', toks := tk' }) :
    wpAny (model pwO w) (lawA dp un gd L) (execs law24 (lawE L)) Q (fun _ _ => False) s := by
  refine ?mG; exact ((by exact ?mB) : (let_mvar% ?mB := (by (
  dsimp only [law24, restOf, lawE, lawA]
  have ltz := ord3 lt
  have o1 := lt.1
  have o2 := lt.2.1
  have o3 := lt.2.2
  have z1 := ltz.1
  have z2 := ltz.2.1
  have z3 := ltz.2.2
  have G1 := know F m1
  have offr0 : ∀ p ∈ rest0, p.1 ≠ r := off r (by wtm_at "led_mem")
  have hxl2 := hvx.length
  rw [List.length_map] at hxl2
  k_steps
  (with_reducible rename Fr _ _ _ _ => FY)
  (with_reducible rename News _ _ _ _ => NY)
  show wpAny _ _ _ _ _ _
  refine range1_rows FY NY fun hr tkr t1 u1 v1 hR FX NX _ => ?_
  (try dsimp only)
  (with_reducible rename IntsAre _ _ => IX)
  (with_reducible rename List.length _ ≤ 200 => LX)
  have q := fm (nextV ns) 4 (by decide)
  obtain ⟨k4, hk4⟩ : ∃ k : Nat, (nextV ns).fmod 4 = (k : Int) := ⟨((nextV ns).fmod 4).toNat, (Int.toNat_of_nonneg q.1).symm⟩
  rw [hk4] at hR q
  have h4 : k4 < 4 := by wtm_at "om"
  have h4' : Small4 k4 := h4
  show wpAny _ _ _ _ _ _
  refine iterJ_range (n := k4) (DueJ w L r ol du ox c1 c2 c3 c4 c6 c7 ord rest0) rfl hR (small_zero (by wtm_at "om")) (by rw [rangeSize_nat]; wtm_at "om") FX NX ⟨_, _, _, [], 0, rest0, [], c5, od, IX, LX, fun _ h => h, List.forall_mem_cons.mpr ⟨fun p hp => Nat.ne_of_lt (Nat.lt_trans (ltr p hp) lt.2.2), List.forall_mem_cons.mpr ⟨fun p hp => Nat.ne_of_lt (ltr p hp), off⟩⟩, .nil, rfl, (List.forall_mem_nil _), by wtm_at "kmap", rfl, .inl ⟨[], [], e5, hO, ⟨rfl, .nil⟩, rfl⟩⟩ ?_ ?_
  · rintro I i t m₁ nx1 h tk oI hlt hi ⟨us, ns, n, vo, no, rest, ovs, c5, od, hI, hl9, hsub, off1, hvo, hol, hok, q1, rfl, hmode⟩ hne F8 N8
    have G3 := know F8 (k := S "ordered_x") (v := .ref ox) (by rw [if_neg (by decide)]; exact q1)
    clear F8 FX NX FY NY h4 q hk4 hR IX LX
    have hi4 : i < 4 := Nat.lt_trans hi h4'
    have hvl := hvo.length
    rw [List.length_map, hol] at hvl
    have hvl9 : vo.length ≤ 900 := by wtm_at "om"
    clear hi4
    have offd : ∀ p ∈ rest, p.1 ≠ du := off1 du (by wtm_at "led_mem")
    have offo : ∀ p ∈ rest, p.1 ≠ ol := off1 ol (by wtm_at "led_mem")
    have offr : ∀ p ∈ rest, p.1 ≠ r := off1 r (by wtm_at "led_mem")
    have off5 : ∀ p ∈ rest, p.1 ≠ L + 5 := off1 (L + 5) (by wtm_at "led_mem")
    have hdi : @LT.lt Nat _ du I := hlt (du, _) mm2
    k_lt hlt
    k_steps
    (with_reducible rename News _ _ _ _ => N2)
    show wpAny _ _ _ _ _ _
    refine pick_dat (l := []) (ds := [dS "p", dS "q", dS "r", dS "z", .none, .none, .none]) N2 (.head _) ?_ (fm _ 7 (by decide)).1 (fm _ 7 (by decide)).2 (by decide) ?_
    · exact .cons (.str _ _) (.cons (.str _ _) (.cons (.str _ _) (.cons (.str _ _) (.cons .none (.cons .none (.cons .none .nil))))))
    intro vn dn hdn hvn
    obtain ⟨nm, rfl, hnmk⟩ := optD_in hdn
    clear hdn
    (try dsimp only)
    k_steps
    (with_reducible rename Fr _ _ _ _ => F3)
    (with_reducible rename News _ _ _ _ => N3)
    (with_reducible rename IntsAre _ _ => I3)
    (with_reducible rename List.length _ ≤ 200 => L3)
    rename_i l3 _ _ _ us3 n3 _ _ _ DI _ z3
    have N4 := nsub N3 (l' := (r, listOf us3.toArray n3) :: (DI, _) :: (I, oI) :: (ol, listOf vo.toArray no) :: (du, od) :: lawLed L c1 c2 c3 c4 c5 c6 c7 #[] rest) (by wtm_at "led_sub")
    show wpAny _ _ _ _ _ _
    refine number_u B F3 X N4 T rfl (by ktr_room) (by ktr_units) (.head ?ne) I3 L3 fun D ent wd vl sg us4 ns4 n4 h4 tk4 F4 N5 lt4 hD w1 w2 w3 w4 I4 L4 => ?_
    case ne => exact off_lr l48 lt.1 lt.2.1 lt.2.2 hdi (by wtm_at "oo") offr
    have lt5 : ∀ a ∈ I :: du :: ol :: lawBs L r, ∀ q ∈ ent, @LT.lt Nat _ a q.1 := by
      have h1 : ∀ a ∈ ((r, listOf us3.toArray n3) :: (I, oI) :: (ol, listOf vo.toArray no) :: (du, od) :: lawLed L c1 c2 c3 c4 c5 c6 c7 #[] rest : Led).map Prod.fst, ∀ q ∈ ent, @LT.lt Nat _ a q.1 := fun a ha q hq => by
        obtain ⟨p, hp, rfl⟩ := List.mem_map.mp ha
        refine lt4 p ?_ q hq
        rcases List.mem_cons.mp hp with rfl | hp
        · exact .head _
        · exact .tail _ (.tail _ hp)
      refine fun a ha => h1 a ?_
      revert a
      simp only [lawLed, List.map_cons]
      wtm_at "led_sub"
    simp only [lawLed, List.cons_append] at N5
    obtain ⟨rest2, N6, off2, up, hid, hD2⟩ : ∃ rest2 : Led, News h₀ L h4 ((I, oI) :: (r, listOf us4.toArray n4) :: (ol, listOf vo.toArray no) :: (du, od) :: lawLed L c1 c2 c3 c4 c5 c6 c7 #[] rest2) ∧ OffA (I :: du :: ol :: lawBs L r) rest2 ∧ (∀ p ∈ rest, p ∈ rest2) ∧ DatIn rest2 (.ref DI) idD ∧ DatIn rest2 (.ref D) (numD wd vl sg) := by
      refine ⟨(DI, _) :: (rest ++ ent), nsub N5 (by wtm_at "led_sub"), OffA.cons (fun a ha p hp => (List.mem_append.mp hp).elim (fun h => ?_) fun h => Nat.ne_of_gt (lt5 a ha p h)) (ne_lawI l48 lt.1 lt.2.1 lt.2.2 hdi (by wtm_at "oo")), fun p hp => .tail _ (List.mem_append_left _ hp), dat_id (.head _), hD.mono fun p hp => .tail _ (List.mem_append_right _ hp)⟩
      exact List.forall_mem_cons (p := fun a => ∀ p ∈ rest, p.1 ≠ a).mpr ⟨fun p hp => hne p (by ((repeat (refine List.Mem.tail _ ?_)); exact hp)), off1⟩ a ha p h
    replace hvo := hvo.mono up
    replace hsub : ∀ p ∈ rest0, p ∈ rest2 := fun p hp => up p (hsub p hp)
    have off1b := off1
    clear N3 N4 N5 F3 I3 L3 lt4 lt5 offr offd offo off5 hne off1
    have off1 := (List.forall_mem_cons.mp off2).2
    have hne := (List.forall_mem_cons.mp off2).1
    have offd : ∀ p ∈ rest2, p.1 ≠ du := off1 du (by wtm_at "led_mem")
    have offo : ∀ p ∈ rest2, p.1 ≠ ol := off1 ol (by wtm_at "led_mem")
    have offr : ∀ p ∈ rest2, p.1 ≠ r := off1 r (by wtm_at "led_mem")
    have off5 : ∀ p ∈ rest2, p.1 ≠ L + 5 := off1 (L + 5) (by wtm_at "led_mem")
    (try dsimp only)
    k_steps
    (with_reducible rename News _ _ _ _ => N7)
    show wpAny _ _ _ _ _ _
    refine pick_dat (l := rest2) (ds := [.none, idD, numD wd vl sg]) N7 (.head _) (.cons .none (.cons hid (.cons hD2 .nil))) (fm _ 3 (by decide)).1 (fm _ 3 (by decide)).2 (by show ((3 : Nat) : Int) ≤ 2 ^ 63; decide) ?_
    intro ve de hde hve
    obtain ⟨ex, rfl, hex⟩ : ∃ ex : Option Ex, de = exD ex ∧ ∀ x, ex = some x → x.ok := by
      simp only [List.mem_cons, List.not_mem_nil, or_false] at hde
      rcases hde with h | h | h
      · exact ⟨none, h, fun x hx => nomatch hx⟩
      · exact ⟨some .idn, h, fun x hx => by cases hx; trivial⟩
      · exact ⟨some (.num wd vl sg), h, fun x hx => by cases hx; exact ⟨w1, w2, w3, w4⟩⟩
    clear hde hid hD2 w1 w2 w3 w4
    (try dsimp only)
    rcases hmode with ⟨kvs, tab, e5, hO, hT, hA⟩ | ⟨ta, k, t1, t2, e5, hta, hA⟩
    · k_steps
      (with_reducible rename News _ _ _ _ => N8)
      show wpAny _ _ _ _ _ _
      (with_reducible rename Fr _ _ _ _ => F8)
      refine kia_one kitx_dict (X.keeps F8.keep) (kitAt_N N8 (a := du) (o := od) (by wtm_at "led_mem") (dictCls hO)) (b := false) (by kernel_rfl) (fun e => by cases e) fun tk9 => ?_
      (try dsimp only)
      have hox2 := hsub _ hox
      k_steps
      (with_reducible rename Fr _ _ _ _ => F9)
      (with_reducible rename News _ _ _ _ => N9)
      (with_reducible rename IntsAre _ _ => I9)
      (with_reducible rename List.length _ ≤ 200 => L9)
      rename_i l7 _ z7 _ us7 n7 _ _ _ _ D7 _ z8 _
      simp only [List.push_toArray] at N9
      have N9b := nsub N9 (l' := (I, oI) :: (r, listOf us7.toArray n7) :: (ol, listOf (vo ++ [Value.ref D7]).toArray (no + 1)) :: (du, od) :: lawLed L c1 c2 c3 c4 c5 c6 c7 #[] ((D7, tupO [vn, ve]) :: rest2)) (by wtm_at "led_sub")
      clear N9
      have off3 : OffA (I :: du :: ol :: lawBs L r) ((D7, tupO [vn, ve]) :: rest2) := OffA.cons off2 (ne_lawI l48 lt.1 lt.2.1 lt.2.2 hdi (by wtm_at "oo"))
      have hov : DatIn ((D7, tupO [vn, ve]) :: rest2) (.ref D7) (Ov.dat ⟨nm, ex⟩) := ov_in (.head _) hvn (hve.mono fun p hp => .tail _ hp)
      replace hvo := hvo.mono (fun p hp => List.Mem.tail (D7, tupO [vn, ve]) hp)
      replace hsub : ∀ p ∈ rest0, p ∈ (D7, tupO [vn, ve]) :: rest2 := fun p hp => .tail _ (hsub p hp)
      replace hox2 : (ox, listOf vx.toArray kx) ∈ (D7, tupO [vn, ve]) :: rest2 := .tail _ hox2
      replace hve := hve.mono (fun p hp => List.Mem.tail (D7, tupO [vn, ve]) hp)
      replace hT : TabIn ((D7, tupO [vn, ve]) :: rest2) kvs tab := hT.mono fun p hp => .tail _ (up p hp)
      generalize (D7, tupO [vn, ve]) :: rest2 = rest3 at N9b off3 hov hvo hsub hox2 hve hT
      clear off1 off2 hne offd offo offr off5 up
      have off1 := (List.forall_mem_cons.mp off3).2
      have hne := (List.forall_mem_cons.mp off3).1
      have offd : ∀ p ∈ rest3, p.1 ≠ du := off1 du (by wtm_at "led_mem")
      have offo : ∀ p ∈ rest3, p.1 ≠ ol := off1 ol (by wtm_at "led_mem")
      have offr : ∀ p ∈ rest3, p.1 ≠ r := off1 r (by wtm_at "led_mem")
      have off5 : ∀ p ∈ rest3, p.1 ≠ L + 5 := off1 (L + 5) (by wtm_at "led_mem")
      show wpAny _ _ _ _ _ _
      refine wpAny_mono (Q := JoinQ h₀ L I oI r ol du ox us7 n7 (vo ++ [Value.ref D7]) (no + 1) od c1 c2 c3 c4 c5 c6 c7 rest3 ve (ovKey ord i ⟨nm, ex⟩) s (DueJ w L r ol du ox c1 c2 c3 c4 c6 c7 ord rest0 (i + 1))) ?join (fun f s' z => ?cont) (fun _ _ z => z)
      case join =>
        refine wpAny_If ?_
        cases nm with
        | none =>
          obtain rfl := d_none hvn
          k_steps
          show wpAny _ _ _ _ _ _
          refine wpAny_If ?_
          k_steps
          (with_reducible rename News _ _ _ _ => NA)
          show wpAny _ _ _ _ _ _
          have NB := nsub NA (l' := [(ox, listOf vx.toArray kx)]) (fun p hp => by rw [List.mem_singleton.mp hp]; ((repeat (refine List.Mem.tail _ ?_)); exact hox2))
          refine kst_len NB (.head _) rfl (by wtm_at "om") ?_
          clear NB
          (try dsimp only)
          k_steps
          · (try dsimp only)
            (with_reducible rename Fr _ _ _ _ => FZ)
            (with_reducible rename News _ _ _ _ => NZ)
            rename_i hge _ DT _ z9 _ o5 d5
            have hnone : ord[i]? = none := List.getElem?_eq_none (by wtm_at "om")
            refine' .inr ⟨rfl, _, _, _, (r, _) :: (ol, _) :: (du, _) :: lawLed L c1 c2 c3 c4 o5 c6 c7 #[] ((DT, _) :: rest3), rfl, FZ, nsub NZ ?sub, ?ne, List.forall_mem_nil _, us7, _, n7, vo ++ [Value.ref D7], _, (DT, _) :: rest3, ovs ++ [⟨none, ex⟩], o5, od, I9, L9, fun p hp => .tail _ (hsub p hp), ?off, ?dov, ?len, ?oks, by wtm_at "kmap", rfl, .inr ⟨DT, 0, _, _, d5, .head _, ?ov⟩⟩
            case sub => wtm_at "led_sub"
            case ne => exact off_law l48 lt.1 lt.2.1 lt.2.2 hdi (List.forall_mem_cons.mpr ⟨Nat.ne_of_gt (by wtm_at "oo"), hne⟩)
            case off => exact OffA.cons off1 (fun a ha => ne_lawI l48 lt.1 lt.2.1 lt.2.2 hdi (by wtm_at "oo") a (.tail _ ha))
            case dov => rw [List.map_append]; exact (hvo.mono fun p hp => .tail _ hp).append (.one (hov.mono fun p hp => .tail _ hp))
            case len => rw [List.length_append, List.length_singleton, hol]
            case oks => exact fun o ho => (List.mem_append.mp ho).elim (hok o) fun h => by rw [List.mem_singleton.mp h]; exact ⟨hex, hnmk⟩
            case ov => rw [ovAt_snoc hol, hA]; show (ovKey ord i ⟨none, ex⟩).map _ = none; rw [show ovKey ord i ⟨none, ex⟩ = none from hnone]; rfl
          · (with_reducible rename News _ _ _ _ => NB)
            rename_i hlt9 _
            have hio : i < ord.length := by wtm_at "om"
            obtain ⟨v', hv1, hv2⟩ := hvx.get (k := i) (by rw [List.length_map]; exact hio)
            rw [List.getElem_map] at hv2
            obtain ⟨t9, rfl⟩ := d_str hv2
            show wpAny _ _ _ _ _ _
            have NC := nsub NB (l' := [(ox, listOf vx.toArray kx)]) (fun p hp => by rw [List.mem_singleton.mp hp]; ((repeat (refine List.Mem.tail _ ?_)); exact hox2))
            refine list_item NC (.head _) hv1 (by wtm_at "om") ?_
            clear NC
            (try dsimp only)
            k_steps
            (with_reducible rename Fr _ _ _ _ => FZ)
            (with_reducible rename News _ _ _ _ => NZ)
            exact .inl ⟨rfl, _, _, _, t9, _, rfl, FZ, NZ, List.getElem?_eq_getElem hio, by wtm_at "kmap", by wtm_at "kmap", by wtm_at "kmap"⟩
        | some x =>
          obtain ⟨tx, rfl⟩ := d_str hvn
          k_steps
          exact .inl ⟨rfl, _, _, x, tx, _, rfl, F9, N9b, rfl, by wtm_at "kmap", by wtm_at "kmap", by wtm_at "kmap"⟩
      case cont =>
        rcases z with ⟨rfl, h9, tk8, xk, tx, m9, rfl, FA, NA, hkey, n1, n2, n3⟩ | ⟨rfl, z⟩
        · (try dsimp only)
          have FB := know FA n1
          have FC := know FB (k := S "e") (v := ve) (by rw [if_neg (by decide)]; exact n2)
          have FD := know FC (k := S "ordered_x") (v := .ref ox) (by rw [if_neg (by decide), if_neg (by decide)]; exact n3)
          clear FA FB FC F9 N9b
          k_steps
          show wpAny _ _ _ _ _ _
          refine wpAny_If ?_
          k_steps
          cases ex with
          | none =>
            obtain rfl := d_none hve
            k_steps
            (try dsimp only)
            (with_reducible rename Fr _ _ _ _ => FZ)
            (with_reducible rename News _ _ _ _ => NZ)
            refine' ⟨_, _, _, (r, _) :: (ol, _) :: (du, _) :: lawLed L c1 c2 c3 c4 c5 c6 c7 #[] rest3, rfl, FZ, nsub NZ ?sub, ?ne, List.forall_mem_nil _, us7, _, n7, vo ++ [Value.ref D7], _, rest3, ovs ++ [⟨nm, none⟩], c5, od, I9, L9, hsub, off1, ?dov, ?len, ?oks, by wtm_at "kmap", rfl, .inl ⟨kvs, tab, e5, hO, hT, ?ov⟩⟩
            case sub => wtm_at "led_sub"
            case ne => exact off_law l48 lt.1 lt.2.1 lt.2.2 hdi hne
            case dov => rw [List.map_append]; exact hvo.append (.one hov)
            case len => rw [List.length_append, List.length_singleton, hol]
            case oks => exact fun o ho => (List.mem_append.mp ho).elim (hok o) fun h => by rw [List.mem_singleton.mp h]; exact ⟨hex, hnmk⟩
            case ov => rw [ovAt_snoc hol, hA]; show (ovKey ord i ⟨nm, none⟩).map _ = _; rw [hkey]; rfl
          | some e =>
            cases e with
            | idn =>
              obtain ⟨b1, k1, w1, w2, w3, rfl, hmA, f1, f2, f3⟩ := inv3 (show DatIn rest3 ve idD from hve)
              obtain ⟨t3, rfl⟩ := d_str f1
              k_steps
              (with_reducible rename Fr _ _ _ _ => FU)
              (with_reducible rename News _ _ _ _ => NU)
              show wpAny _ _ _ _ _ _
              rename_i DV _ zv DW _ zw
              have NV := nsub NU (l' := (du, od) :: (DW, _) :: (DV, _) :: (I, oI) :: (r, listOf us7.toArray n7) :: (ol, listOf (vo ++ [Value.ref D7]).toArray (no + 1)) :: lawLed L c1 c2 c3 c4 c5 c6 c7 #[] rest3) (by wtm_at "led_sub")
              refine kda_set FU NV (.head ?ne1) hO (strKind_is _ _ _ _) (by rw [PySem.sizeLine_eq]; have := ovAt_len hA; have := congrArg List.length hT.1; rw [List.length_map, List.length_map] at this; wtm_at "om") fun hB od2 FW NW hO2 => ?_
              case ne1 => exact List.forall_mem_cons.mpr ⟨Nat.ne_of_gt (by wtm_at "oo"), List.forall_mem_cons.mpr ⟨Nat.ne_of_gt (by wtm_at "oo"), off_ld l48 lt.1 lt.2.1 lt.2.2 hdi offd⟩⟩
              (try dsimp only)
              k_steps
              (try dsimp only)
              (with_reducible rename Fr _ _ _ _ => FZ)
              (with_reducible rename News _ _ _ _ => NZ)
              refine' ⟨_, _, _, (r, _) :: (ol, _) :: (du, _) :: lawLed L c1 c2 c3 c4 c5 c6 c7 #[] ((DW, _) :: (DV, _) :: rest3), rfl, FZ, nsub NZ ?sub, ?ne, List.forall_mem_nil _, us7, _, n7, vo ++ [Value.ref D7], _, (DW, _) :: (DV, _) :: rest3, ovs ++ [⟨nm, some .idn⟩], c5, od2, I9, L9, fun p hp => .tail _ (.tail _ (hsub p hp)), ?off, ?dov, ?len, ?oks, by wtm_at "kmap", rfl, .inl ⟨_, _, e5, hO2, TabIn.put (hT.mono fun p hp => .tail _ (.tail _ hp)) ?val, ?ov⟩⟩
              case sub => wtm_at "led_sub"
              case ne => exact off_law l48 lt.1 lt.2.1 lt.2.2 hdi (List.forall_mem_cons.mpr ⟨Nat.ne_of_gt (by wtm_at "oo"), List.forall_mem_cons.mpr ⟨Nat.ne_of_gt (by wtm_at "oo"), hne⟩⟩)
              case off => exact OffA.cons (OffA.cons off1 (fun a ha => ne_lawI l48 lt.1 lt.2.1 lt.2.2 hdi (by wtm_at "oo") a (.tail _ ha))) (fun a ha => ne_lawI l48 lt.1 lt.2.1 lt.2.2 hdi (by wtm_at "oo") a (.tail _ ha))
              case dov => rw [List.map_append]; exact (hvo.mono fun p hp => .tail _ (.tail _ hp)).append (.one (hov.mono fun p hp => .tail _ (.tail _ hp)))
              case len => rw [List.length_append, List.length_singleton, hol]
              case oks => exact fun o ho => (List.mem_append.mp ho).elim (hok o) fun h => by rw [List.mem_singleton.mp h]; exact ⟨hex, hnmk⟩
              case val => exact .tuple (.head _) (.cons (.tuple mm1 (.cons (.int _ _) (.cons (.int _ _) (.cons (.int _ _) .nil)))) (.cons (.bool _) .nil))
              case ov => rw [ovAt_snoc hol, hA]; show (ovKey ord i ⟨nm, some .idn⟩).map _ = _; rw [hkey]; rfl
            | num wd vl sg =>
              obtain ⟨b1, k1, w1, w2, w3, w4, w5, rfl, hmA, f1, f2, f3, f4, f5⟩ := inv5 (show DatIn rest3 ve (numD wd vl sg) from hve)
              obtain ⟨t3, rfl⟩ := d_str f1
              k_steps
              (with_reducible rename Fr _ _ _ _ => FU)
              (with_reducible rename News _ _ _ _ => NU)
              show wpAny _ _ _ _ _ _
              rename_i DW _ zw
              have NV := nsub NU (l' := (du, od) :: (DW, _) :: (I, oI) :: (r, listOf us7.toArray n7) :: (ol, listOf (vo ++ [Value.ref D7]).toArray (no + 1)) :: lawLed L c1 c2 c3 c4 c5 c6 c7 #[] rest3) (by wtm_at "led_sub")
              refine kda_set FU NV (.head ?ne1) hO (strKind_is _ _ _ _) (by rw [PySem.sizeLine_eq]; have := ovAt_len hA; have := congrArg List.length hT.1; rw [List.length_map, List.length_map] at this; wtm_at "om") fun hB od2 FW NW hO2 => ?_
              case ne1 => exact List.forall_mem_cons.mpr ⟨Nat.ne_of_gt (by wtm_at "oo"), off_ld l48 lt.1 lt.2.1 lt.2.2 hdi offd⟩
              (try dsimp only)
              k_steps
              (try dsimp only)
              (with_reducible rename Fr _ _ _ _ => FZ)
              (with_reducible rename News _ _ _ _ => NZ)
              refine' ⟨_, _, _, (r, _) :: (ol, _) :: (du, _) :: lawLed L c1 c2 c3 c4 c5 c6 c7 #[] ((DW, _) :: rest3), rfl, FZ, nsub NZ ?sub, ?ne, List.forall_mem_nil _, us7, _, n7, vo ++ [Value.ref D7], _, (DW, _) :: rest3, ovs ++ [⟨nm, some (.num wd vl sg)⟩], c5, od2, I9, L9, fun p hp => .tail _ (hsub p hp), ?off, ?dov, ?len, ?oks, by wtm_at "kmap", rfl, .inl ⟨_, _, e5, hO2, TabIn.put (hT.mono fun p hp => .tail _ hp) ?val, ?ov⟩⟩
              case sub => wtm_at "led_sub"
              case ne => exact off_law l48 lt.1 lt.2.1 lt.2.2 hdi (List.forall_mem_cons.mpr ⟨Nat.ne_of_gt (by wtm_at "oo"), hne⟩)
              case off => exact OffA.cons off1 (fun a ha => ne_lawI l48 lt.1 lt.2.1 lt.2.2 hdi (by wtm_at "oo") a (.tail _ ha))
              case dov => rw [List.map_append]; exact (hvo.mono fun p hp => .tail _ hp).append (.one (hov.mono fun p hp => .tail _ hp))
              case len => rw [List.length_append, List.length_singleton, hol]
              case oks => exact fun o ho => (List.mem_append.mp ho).elim (hok o) fun h => by rw [List.mem_singleton.mp h]; exact ⟨hex, hnmk⟩
              case val => exact .tuple (.head _) (.cons (f3.mono fun p hp => .tail _ hp) (.cons (f4.mono fun p hp => .tail _ hp) .nil))
              case ov => rw [ovAt_snoc hol, hA]; show (ovKey ord i ⟨nm, some (.num wd vl sg)⟩).map _ = _; rw [hkey]; rfl
        · exact z.at_
    · have hta2 := up _ hta
      k_steps
      (with_reducible rename News _ _ _ _ => N8)
      show wpAny _ _ _ _ _ _
      refine isi_tuple ⟨_, (N8 (ta, _) (by ((repeat (refine List.Mem.tail _ ?_)); exact hta2))).1, rfl⟩ ?_
      (try dsimp only)
      k_steps
      (try dsimp only)
      (with_reducible rename Fr _ _ _ _ => FZ)
      (with_reducible rename News _ _ _ _ => NZ)
      (with_reducible rename IntsAre _ _ => IZ)
      (with_reducible rename List.length _ ≤ 200 => LZ)
      rename_i l7 _ z7 _ us7 n7 _ _ _ _ D7 _ z8 _
      simp only [List.push_toArray] at NZ
      refine' ⟨_, _, _, (r, _) :: (ol, _) :: (du, _) :: lawLed L c1 c2 c3 c4 c5 c6 c7 #[] ((D7, _) :: rest2), rfl, FZ, nsub NZ ?sub, ?ne, List.forall_mem_nil _, us7, _, n7, vo ++ [.ref D7], _, (D7, _) :: rest2, ovs ++ [⟨nm, ex⟩], c5, od, IZ, LZ, fun p hp => .tail _ (hsub p hp), ?off, ?dov, ?len, ?oks, by wtm_at "kmap", rfl, .inr ⟨ta, k, t1, t2, e5, .tail _ hta2, ?ov⟩⟩
      case sub => wtm_at "led_sub"
      case ne => exact off_law l48 lt.1 lt.2.1 lt.2.2 hdi (List.forall_mem_cons.mpr ⟨Nat.ne_of_gt (by wtm_at "oo"), hne⟩)
      case off => exact OffA.cons off1 (fun a ha => ne_lawI l48 lt.1 lt.2.1 lt.2.2 hdi (by wtm_at "oo") a (.tail _ ha))
      case dov => rw [List.map_append]; exact (hvo.mono fun p hp => .tail _ hp).append (.one (ov_in (.head _) hvn (hve.mono fun p hp => .tail _ hp)))
      case len => rw [List.length_append, List.length_singleton, hol]
      case oks => exact fun o ho => (List.mem_append.mp ho).elim (hok o) fun h => by rw [List.mem_singleton.mp h]; exact ⟨hex, hnmk⟩
      case ov => rw [ovAt_snoc hol, hA]; rfl
  · rintro m₁ _ h tk hJ F7 N7
    (try dsimp only)
    show wpAny _ _ _ _ _ _
    exact next _ _ _ _ _ (by wtm_at "om") F7 N7 hJ
  ) : type_of% ?mG); have _ : True := trivial; type_of% ?mG))
end
end
section
open PySem PySem.W PyProof.Rows PySem.Calls
set_option maxRecDepth 100000
set_option maxHeartbeats 0
set_option Elab.async false
set_option compiler.extract_closed false
set_option compiler.reuse false
set_option linter.unusedVariables false
set_option pp.deepTerms false
section
variable {w : World} {mean : ExcName → Option Value} {mg mb : Str → Option Value} {dp un : Nat} {gd : Option (List Code)} {A₀ : Around} {base h₀ : Heap} {L : Addr} {m : Str → Option Value} {s : Shared} {Q : Flow → Shared → Prop} {E : Value → Shared → Prop}

local macro_rules | `(tactic| wtm_at "to_execs") => do toExecsS (← `(((execs (_ :: _) _))))
local macro_rules | `(tactic| walk_at "callWith ref") => holdS
local macro_rules | `(tactic| walk_at "eval Lambda") => holdS
local macro_rules | `(tactic| walk_at "compareOp NotEq ref ref") => holdS
local macro_rules | `(tactic| walk_at "call builtin:isinstance") => holdS
theorem put_keys {P : Str → Prop} {tab : Tab} {k : Str} {d : Dat} (h : ∀ x ∈ tab.map Prod.fst, P x) (hk : P k) : ∀ x ∈ (put tab k d).map Prod.fst, P x := by
  refine ?mG; exact ((by exact ?mB) : (let_mvar% ?mB := (by (
  intro x hx
  obtain ⟨p, hp, rfl⟩ := List.mem_map.mp hx
  unfold put at hp
  split at hp
  · obtain ⟨q, hq, rfl⟩ := List.mem_map.mp hp
    split <;> exact h _ (List.mem_map.mpr ⟨q, hq, rfl⟩)
  · rcases List.mem_append.mp hp with hp | hp
    · exact h _ (List.mem_map.mpr ⟨p, hp, rfl⟩)
    · rw [List.mem_singleton.mp hp]; exact hk
  ) : type_of% ?mG); have _ : True := trivial; type_of% ?mG))
theorem ovAt_keys {P : Str → Prop} {ord : List Str} {ovs : List Ov} (h1 : ∀ o ∈ ovs, ∀ x, o.name = some x → P x) (h2 : ∀ x ∈ ord, P x) : ∀ {i : Nat} {tab : Tab}, ovAt ord ovs i = some tab → ∀ x ∈ tab.map Prod.fst, P x := by
  refine ?mG; exact ((by exact ?mB) : (let_mvar% ?mB := (by (
  intro i
  induction i with
  | zero => intro tab h; cases h; exact fun p hp => nomatch hp
  | succ i ih =>
    intro tab h
    rw [ovAt] at h
    obtain ⟨t0, h0, h3⟩ := Option.bind_eq_some_iff.mp h
    have hi := ih h0
    cases ho : ovs[i]? with
    | none => rw [ho] at h3; cases h3; exact hi
    | some o =>
      rw [ho] at h3
      obtain ⟨k, hk, rfl⟩ := Option.map_eq_some_iff.mp h3
      have hP : P k := by
        unfold ovKey at hk
        split at hk
        · rename_i x hx
          cases hk
          exact h1 o (List.mem_of_getElem? ho) _ hx
        · exact h2 _ (List.mem_of_getElem? hk)
      split
      · exact hi
      · exact put_keys hi hP
  ) : type_of% ?mG); have _ : True := trivial; type_of% ?mG))
theorem seg25 {r ol du ox sa sc : Addr} {c1 c2 c3 c4 c6 c7 : Obj} {hs bs : List Pm} {rest0 : Led} {i : Nat} {nx : Led}
    (B : Below A₀ base [] h₀) (F : Fr h₀ L s.heap m) (X : (KX w.params).In h₀) (XB : (KX w.params).In base) (N : News h₀ L s.heap nx) (T : TopM mean mg mb h₀) (TB : TopM mean mg mb base) (CD : CodeHd h₀ 1350 1348)
    (hd : dp + 60 < recursionLimit) (hu : un + 1200 < cLine) (hi : i ≤ 3) (hJ : DueJ w L r ol du ox c1 c2 c3 c4 c6 c7 (ordX hs bs) rest0 i m nx) (dlo : (du == sysModules) = false)
    (e3 : c3.data = .cell (some (.ref sa))) (e6 : c6.data = .cell (some (.ref ol))) (e7 : c7.data = .cell (some (.ref sc))) (l48 : @LT.lt Nat _ 1348 L) (lt : @LT.lt Nat _ (L + 7) r ∧ @LT.lt Nat _ r ol ∧ @LT.lt Nat _ ol du)
    (hD : DatIn rest0 (.ref sa) (srcD hs bs)) (hl1 : hs.length ≤ 100) (hl2 : bs.length ≤ 100) (hsc : ScopeIn w rest0 sc) (hord : ∀ x ∈ ordX hs bs, PyData.strOk x = true)
    (ret : ∀ h' tk' m' ps rest', Fr h₀ L h' m' → News h₀ L h' ((1348, tabObj ps) :: rest') → Q (.ret (.bool true)) { s with heap := h', toks := tk' })
    (next : ∀ c9 c5 od kvs rest2 h' tk' m', Fr h₀ L h' m' → News h₀ L h' ((1348, tabObj #[rawInt ((1428 : Nat) : Int), rawInt ((21 : Nat) : Int), .ref c9]) :: (L + 5, c5) :: (L + 4, c4) :: (L + 3, c3) :: (du, od) :: rest2) → (∀ p ∈ rest0, p ∈ rest2) → (∀ p ∈ rest2, p.1 ≠ 1348) →
      c5.data = .cell (some (.ref du)) → od.IsDictOf (PySem.strKind pwO w) kvs → (∀ x ∈ kvs.map Prod.fst, PyData.strOk x = true) → kvs.length ≤ 3 →
      wpAny (model pwO w) (lawA dp un gd L) (execs law28 (lawE L)) Q (fun _ _ => False) { s with heap := h', toks := tk' }) :
    wpAny (model pwO w) (lawA dp un gd L) (execs law25 (lawE L)) Q (fun _ _ => False) s := by
  refine ?mG; exact ((by exact ?mB) : (let_mvar% ?mB := (by (
  obtain ⟨us, ns, n, vo, no, rest, ovs, c5, od, hI, hl9, hsub, off, hvo, hol, hok, q1, rfl, hmode⟩ := hJ
  dsimp only [law25, restOf, lawE, lawA]
  have ltz := ord3 lt
  have o1 := lt.1
  have o2 := lt.2.1
  have o3 := lt.2.2
  have z1 := ltz.1
  have z2 := ltz.2.1
  have z3 := ltz.2.2
  have off8 : ∀ p ∈ rest, p.1 ≠ 1348 := off 1348 (by wtm_at "led_mem")
  k_steps
  show wpAny _ _ _ _ _ _
  refine callWith_K X (by k_is) ?_ ?he ?hp
  case he => exact rfl
  case hp => exact rfl
  k_steps
  (with_reducible rename Fr _ _ _ _ => F1)
  (with_reducible rename News _ _ _ _ => N1)
  show wpAny _ _ _ _ _ _
  have N2 := nsub N1 (l' := (1348, tabObj #[]) :: (r, listOf us.toArray n) :: (ol, listOf vo.toArray no) :: (du, od) :: (L + 7, c7) :: (L + 6, c6) :: (L + 5, c5) :: (L + 4, c4) :: (L + 3, c3) :: (L + 2, c2) :: (L + 1, c1) :: rest) (by wtm_at "led_sub")
  refine kla_eval rfl ?_
  refine kla_nest (P := 1348) (c := 1350) F1 N2 T CD rfl (.head ?ne) ?t ?n (show _ = pure _ from rfl) (fun f c' oc vs t ctv h' tk' F' N' d1 d2 l1 l2 => ?_)
  case ne => wtm_at "off_p"
  case t => kn_triples
  case n => kn_among
  (try dsimp only)
  simp only [Array.empty_append] at N'
  k_steps
  show wpAny _ _ _ _ _ _
  have m9 : ∀ {a1 a2 a3 a4 a5 a6 a7 a8 a9 a10 a11 a12 a13 : Addr × Obj}, ∀ p ∈ rest, p ∈ a1 :: a2 :: a3 :: a4 :: a5 :: a6 :: a7 :: a8 :: a9 :: a10 :: a11 :: a12 :: a13 :: rest := fun p hp => .tail _ (.tail _ (.tail _ (.tail _ (.tail _ (.tail _ (.tail _ (.tail _ (.tail _ (.tail _ (.tail _ (.tail _ (.tail _ hp))))))))))))
  refine kept_t B F' X N' T XB TB rfl hd hu (ask_over (hs := hs) (bs := bs) (ovs := ovs) (vo := vo) (no := no) (sa := sa) (sc := sc) (ol := ol) (L₀ := L) (.head _) mm1 d1 d2 (c3 := c3) (by wtm_at "led_mem") e3 (c6 := c6) (by wtm_at "led_mem") e6 (c7 := c7) (by wtm_at "led_mem") e7 (by wtm_at "led_mem") (hvo.mono m9) (by wtm_at "om") (fun o ho => (hok o ho).1) ((hD.mono hsub).mono m9) hl1 hl2 ((hsc.mono hsub).mono m9)) (.head _) (fun v ent h4 tk4 F4 N4 ap hR => ?_) (fun kd at_ D t1 t2 h4 tk4 hP F4 N4 ap => ?_)
  · obtain ⟨tab1, r1, o1, kvs1, rfl, hA1, mr1, hO1, hT1, lo1⟩ := hR
    rcases hmode with ⟨kvs, tab, e5, hO, hT, hA⟩ | ⟨ta, k, t1, t2, e5, hta, hA⟩
    · rw [hol] at hA1
      rw [hA] at hA1
      obtain rfl := Option.some.inj hA1
      have N5 := nsub N4 (l' := (1348, tabObj #[rawInt ((1428 : Nat) : Int), rawInt ((21 : Nat) : Int), .ref c']) :: (L + 5, c5) :: (L + 4, c4) :: (L + 3, c3) :: (du, od) :: (ent ++ rest)) (by
        refine List.forall_mem_cons.mpr ⟨List.mem_append_right _ (by wtm_at "led_mem"), List.forall_mem_cons.mpr ⟨List.mem_append_right _ (by wtm_at "led_mem"), List.forall_mem_cons.mpr ⟨List.mem_append_right _ (by wtm_at "led_mem"), List.forall_mem_cons.mpr ⟨List.mem_append_right _ (by wtm_at "led_mem"), List.forall_mem_cons.mpr ⟨List.mem_append_right _ (by wtm_at "led_mem"), fun p hp => (List.mem_append.mp hp).elim (List.mem_append_left _) fun h => List.mem_append_right _ (m9 p h)⟩⟩⟩⟩⟩)
      have off9 : ∀ p ∈ ent ++ rest, p.1 ≠ 1348 := fun p hp => (List.mem_append.mp hp).elim (fun h => Ne.symm (ap p h (1348, tabObj #[rawInt ((1428 : Nat) : Int), rawInt ((21 : Nat) : Int), .ref c']) (by wtm_at "led_mem"))) (off8 p)
      have hsub2 : ∀ p ∈ rest0, p ∈ ent ++ rest := fun p hp => List.mem_append_right _ (hsub p hp)
      have mr2 : (r1, o1) ∈ ent ++ rest := List.mem_append_left _ mr1
      replace hT1 : TabIn (ent ++ rest) kvs1 tab := hT1.mono fun p hp => List.mem_append_left _ hp
      replace hT : TabIn (ent ++ rest) kvs tab := hT.mono fun p hp => List.mem_append_right _ hp
      clear N4 ap F' N' mr1
      generalize ent ++ rest = rest5 at N5 off9 hsub2 mr2 hT1 hT
      (try dsimp only)
      k_steps
      (with_reducible rename Fr _ _ _ _ => F6)
      (with_reducible rename News _ _ _ _ => N6)
      show wpAny _ _ _ _ _ _
      have up5 : ∀ p ∈ rest5, p ∈ (1348, tabObj #[rawInt ((1428 : Nat) : Int), rawInt ((21 : Nat) : Int), .ref c']) :: (L + 5, c5) :: (L + 4, c4) :: (L + 3, c3) :: (du, od) :: rest5 := fun p hp => .tail _ (.tail _ (.tail _ (.tail _ (.tail _ hp))))
      have kl1 : kvs1.length = tab.length := by have := congrArg List.length hT1.1; rwa [List.length_map, List.length_map] at this
      have kl2 : kvs.length = tab.length := by have := congrArg List.length hT.1; rwa [List.length_map, List.length_map] at this
      have tl := ovAt_len hA
      refine kne_pairs N6 (up5 _ mr2) (by wtm_at "led_mem") hO1 hO lo1 dlo (kl1.trans kl2.symm) ?hu (tab_hits N6 (hT1.mono up5) (hT.mono up5) (by obtain ⟨_, _, _, _, _, _, h⟩ := hO; exact h) (ovAt_ok hA) ?hu2) ?_
      case hu => ke_room
      case hu2 => ke_room
      (try dsimp only)
      simp only [Bool.not_true]
      k_steps
      (with_reducible rename Fr _ _ _ _ => F8)
      (with_reducible rename News _ _ _ _ => N8)
      show wpAny _ _ _ _ _ _
      refine kia_one kitx_dict (X.keeps F8.keep) (kitAt_N N8 (a := du) (o := od) (by wtm_at "led_mem") (dictCls hO)) (b := false) (by kernel_rfl) (fun e => by cases e) fun tk9 => ?_
      (try dsimp only)
      wtm_at "to_execs"
      show wpAny _ _ _ _ _ _
      exact next c' c5 od kvs rest5 _ _ _ F8 N8 hsub2 off9 e5 hO (fun x hx => ovAt_keys (fun o ho => (hok o ho).2) hord hA x (by rw [← hT.1]; exact hx)) (by wtm_at "om")
    · rw [hol] at hA1
      rw [hA] at hA1
      cases hA1
  · obtain ⟨hA0, rfl, rfl⟩ := hP
    rcases hmode with ⟨kvs, tab, e5, hO, hT, hA⟩ | ⟨ta, k, t3, t4, e5, hta, hA⟩
    · rw [hol] at hA0
      rw [hA] at hA0
      cases hA0
    · have N5 := nsub N4 (l' := (D, tupO [.str (S "too_many_parameters") t1, .int 8 t2]) :: (1348, tabObj #[rawInt ((1428 : Nat) : Int), rawInt ((21 : Nat) : Int), .ref c']) :: (L + 5, c5) :: rest) (by wtm_at "led_sub")
      clear N4 F' N' ap
      (try dsimp only)
      k_steps
      (with_reducible rename Fr _ _ _ _ => F6)
      (with_reducible rename News _ _ _ _ => N6)
      show wpAny _ _ _ _ _ _
      refine dat_ne (d := .tuple [.str (S "too_many_parameters"), .int 8]) N6 (.tuple (.head _) (.cons (.str _ _) (.cons (.int _ _) .nil))) (.tuple (.tail _ (.tail _ (.tail _ hta))) (.cons (.str _ _) (.cons (.int _ _) .nil))) (DOk.of (by kernel_rfl)) ?hu ?_
      case hu => ke_room
      (try dsimp only)
      k_steps
      (with_reducible rename Fr _ _ _ _ => F8)
      (with_reducible rename News _ _ _ _ => N8)
      show wpAny _ _ _ _ _ _
      refine isi_tuple ⟨_, (N8 (ta, _) (.tail _ (.tail _ (.tail _ hta)))).1, rfl⟩ ?_
      (try dsimp only)
      k_steps
      exact ret _ _ _ _ (_ :: rest) F8 (nsub N8 fun p hp => .tail _ hp)
  ) : type_of% ?mG); have _ : True := trivial; type_of% ?mG))
end
end
section
open PySem PySem.W PyProof.Rows PySem.Calls
set_option maxRecDepth 100000
set_option maxHeartbeats 0
set_option Elab.async false
set_option compiler.extract_closed false
set_option compiler.reuse false
set_option linter.unusedVariables false
set_option pp.deepTerms false
section
variable {w : World} {mean : ExcName → Option Value} {mg mb : Str → Option Value} {dp un : Nat} {gd : Option (List Code)} {A₀ : Around} {base h₀ : Heap} {L : Addr} {m : Str → Option Value} {s : Shared} {Q : Flow → Shared → Prop} {E : Value → Shared → Prop}

local macro_rules | `(tactic| walk_at "compareOp NotIn str ref") => holdS
noncomputable def unkOf (fs : List Pr) (ks : List Str) : List Str := ks.filter fun x => !((fs.map Pr.nm).any (· == x))
theorem seg28 {du fr : Addr} {c3 c4 c5 od : Obj} {ps : Array Value} {kvs : List (Str × Value)} {vf : List Value} {nf : Nat} {fs : List Pr} {rest : Led}
    (B : Below A₀ base [] h₀) (F : Fr h₀ L s.heap m) (X : (KX w.params).In h₀) (N : News h₀ L s.heap ((1348, tabObj ps) :: (L + 5, c5) :: (L + 4, c4) :: (L + 3, c3) :: (du, od) :: rest)) (T : TopM mean mg mb h₀)
    (hd : dp + 60 < recursionLimit) (hu : un + 1200 < cLine) (dlo : (du == sysModules) = false) (e5 : c5.data = .cell (some (.ref du))) (e4 : c4.data = .cell (some (.ref fr))) (hO : od.IsDictOf (PySem.strKind pwO w) kvs) (hkl : kvs.length ≤ 3)
    (hfr : (fr, listOf vf.toArray nf) ∈ rest) (hvf : DatAll rest vf (fs.map Pr.dat)) (hfl : vf.length ≤ 5)
    (next : ∀ uk vu nu h' tk' m', Fr h₀ L h' m' → News h₀ L h' ((uk, listOf vu.toArray nu) :: (1348, tabObj ps) :: (L + 5, c5) :: (L + 4, c4) :: (L + 3, c3) :: (du, od) :: rest) → DatAll [] vu ((unkOf fs (kvs.map Prod.fst)).map Dat.str) → m' (S "unknown") = some (.ref uk) →
      (@Ne Nat uk 1348) → wpAny (model pwO w) (lawA dp un gd L) (execs law29 (lawE L)) Q (fun _ _ => False) { s with heap := h', toks := tk' }) :
    wpAny (model pwO w) (lawA dp un gd L) (execs law28 (lawE L)) Q (fun _ _ => False) s := by
  refine ?mG; exact ((by exact ?mB) : (let_mvar% ?mB := (by (
  dsimp only [law28, restOf, lawE, lawA]
  k_steps
  have hvl := hvf.length
  rw [List.length_map] at hvl
  obtain ⟨ep, V⟩ := src_dict (m := fun _ => none) (prog := pwO) (w := w) (A := ktrTop dp un gd (S "law") lawSc L 1351 (.ref 1350) (lawCl L) []) (E := fun _ _ => False) (s₁ := s) rfl N mm4 hO dlo (by rw [PySem.sizeLine_eq]; wtm_at "om")
  refine ⟨_, _, _, _, _, _, _, (fun i ys nx => nx = (1348, tabObj ps) :: (L + 5, c5) :: (L + 4, c4) :: (L + 3, c3) :: (du, od) :: rest ∧ DatAll [] ys ((unkOf fs ((kvs.map Prod.fst).take i)).map Dat.str)), F, N, V, .tail _ mm3, ⟨rfl, .nil⟩, ?_, ?_⟩
  · rintro i ys _ v I oI C oC D m₂ h tk E' hi ⟨rfl, hY⟩ hS ⟨k, x, hk, hkv⟩ hC hx F2 N2 off2 ne
    obtain ⟨tk9, rfl⟩ := Value.isStrOf_shape hkv
    have hki : (kvs.map Prod.fst)[i]? = some k := by rw [List.getElem?_map, hk]; rfl
    have tk1 : (kvs.map Prod.fst).take (i + 1) = (kvs.map Prod.fst).take i ++ [k] := by rw [List.take_add_one, hki]; rfl
    clear hkv
    k_steps
    (with_reducible rename News _ _ _ _ => N3)
    refine ⟨_, _, _, _, _, _, _, (fun i zs nx => nx = (I, oI) :: (C, oC) :: (D, LCg.lst ys) :: (1348, tabObj ps) :: (L + 5, c5) :: (L + 4, c4) :: (L + 3, c3) :: (du, od) :: rest ∧ DatAll [] zs (((fs.map Pr.nm).take i).map Dat.str)), F2, N3, src_list (k := nf) rfl N3 (by ((repeat (refine List.Mem.tail _ ?_)); exact hfr)) (by rw [PySem.sizeLine_eq]; wtm_at "om"), (by ((repeat (refine List.Mem.tail _ ?_)); exact hfr)), ⟨rfl, .nil⟩, ?_, ?_⟩
    · rintro i2 zs _ v I2 oI2 C2 oC2 D2 m₃ h3 tk3 E3 hi2 ⟨rfl, hZ⟩ hS2 hv hC2 hx2 F4 N4 off4 ne4
      have hi3 : i2 < fs.length := by rw [← hvl]; exact hi2
      have hV : DatIn rest v ((fs[i2]'hi3).dat) := by
        obtain ⟨v', h1, h2⟩ := hvf.get (k := i2) (by rw [List.length_map]; exact hi3)
        rw [hv] at h1
        obtain rfl := Option.some.inj h1
        rw [List.getElem_map] at h2
        exact h2
      have tk5 : (fs.map Pr.nm).take (i2 + 1) = (fs.map Pr.nm).take i2 ++ [(fs[i2]'hi3).nm] := by rw [List.take_add_one, List.getElem?_map, List.getElem?_eq_getElem hi3]; rfl
      generalize fs[i2]'hi3 = pm at hV tk5
      obtain ⟨lap, word, nm, wd, vl, sg⟩ := pm
      replace hV : DatIn rest v (.tuple [dS "param", .int lap, .str word, .bool false, .none, .str nm, numD wd vl sg]) := hV
      dsimp only at tk5
      obtain ⟨b1, k1, w1, w2, w3, w4, w5, w6, w7, rfl, hmA, f1, f2, f3, f4, f5, f6, f7⟩ := inv7 hV
      obtain ⟨t6, rfl⟩ := d_str f6
      k_steps
      refine ⟨h3, _, _, rfl, F4, N4, off4, hS2, rfl, ?_⟩
      rw [tk5, List.map_append]
      exact hZ.append (.one (.str _ _))
    · rintro zs _ D2 h3 tk3 ⟨rfl, hZ⟩ F4 N4 o4
      have hlf : (fs.map Pr.nm).length = fs.length := List.length_map _
      rw [List.take_of_length_le (by rw [hlf, hvl]; exact Nat.le_refl _)] at hZ
      (try dsimp only)
      k_steps
      (with_reducible rename News _ _ _ _ => N5)
      show wpAny _ _ _ _ _ _
      refine notin_list_strs (isL N5 (.head _)) (strsAre_of hZ) ?_
      (try dsimp only)
      have hmem : (1348, tabObj ps) ∈ (1348, tabObj ps) :: (L + 5, c5) :: (L + 4, c4) :: (L + 3, c3) :: (du, od) :: rest := .head _
      by_cases hany : (fs.map Pr.nm).any (· == k) = true
      · simp only [hany, Bool.not_true]
        k_steps
        refine ⟨_, _, _, rfl, F4, nsub N5 fun p hp => .tail _ hp, off2, hS, rfl, ?_⟩
        rw [tk1, unkOf, List.filter_append]
        rw [List.filter_cons, hany]
        show DatAll [] ys ((_ ++ []).map Dat.str)
        rw [List.append_nil]; exact hY
      · have hany2 := Bool.eq_false_iff.mpr hany
        simp only [hany2, Bool.not_false]
        k_steps
        refine ⟨_, _, _, rfl, F4, nsub N5 fun p hp => .tail _ hp, off2, hS, rfl, ?_⟩
        rw [tk1, unkOf, List.filter_append, List.map_append]
        refine DatAll.append hY ?_
        rw [List.filter_cons, hany2]
        exact .one (.str _ _)
  · rintro ys _ D h1 tk1 ⟨rfl, hY⟩ F1 N1 o1
    have hlk : (kvs.map Prod.fst).length = kvs.length := List.length_map _
    rw [List.take_of_length_le (by rw [hlk]; exact Nat.le_refl _)] at hY
    (try dsimp only)
    show wpAny _ _ _ _ _ _
    exact next D ys ys.length _ _ _ F1 N1 hY (by wtm_at "kmap") (Ne.symm (off1_mem o1 (1348, tabObj ps) (.head _)))
  ) : type_of% ?mG); have _ : True := trivial; type_of% ?mG))
end
end
section
open PySem PySem.W PyProof.Rows PySem.Calls
set_option maxRecDepth 100000
set_option maxHeartbeats 0
set_option Elab.async false
set_option compiler.extract_closed false
set_option compiler.reuse false
set_option linter.unusedVariables false
set_option pp.deepTerms false
section
variable {w : World} {mean : ExcName → Option Value} {mg mb : Str → Option Value} {dp un : Nat} {gd : Option (List Code)} {A₀ : Around} {base h₀ : Heap} {L : Addr} {m : Str → Option Value} {s : Shared} {Q : Flow → Shared → Prop} {E : Value → Shared → Prop}

local macro_rules | `(tactic| walk_at "callWith ref") => holdS
local macro_rules | `(tactic| walk_at "eval Lambda") => holdS
local macro_rules | `(tactic| walk_at "compareOp NotEq ref ref") => holdS
local macro_rules | `(tactic| walk_at "compareOp Eq ref ref") => holdS
theorem unk_nil {fs : List Pr} {ks fr : List Str} (h1 : ∀ x, x ∈ fs.map Pr.nm ↔ x ∈ fr) (h2 : ∀ x ∈ ks, x ∈ fr) : unkOf fs ks = [] := by
  unfold unkOf
  refine List.filter_eq_nil_iff.mpr fun x hx => ?_
  rw [any_mem.mpr ((h1 x).mpr (h2 x hx))]
  decide
theorem unk_ne {fs : List Pr} {ks fr : List Str} (h1 : ∀ x, x ∈ fs.map Pr.nm ↔ x ∈ fr) (h2 : ∃ x ∈ ks, x ∉ fr) : unkOf fs ks ≠ [] := by
  obtain ⟨x, hx, hn⟩ := h2
  intro e
  have h := List.filter_eq_nil_iff.mp e x hx
  rw [show (fs.map Pr.nm).any (· == x) = false from Bool.eq_false_iff.mpr fun z => hn ((h1 x).mp (any_mem.mp z))] at h
  exact h rfl
theorem unk_ok {fs : List Pr} {ks : List Str} (h : ∀ x ∈ ks, PyData.strOk x = true) : ∀ d ∈ (unkOf fs ks).map Dat.str, kqdOk 8 d = true := by
  intro d hd
  obtain ⟨x, hx, rfl⟩ := List.mem_map.mp hd
  exact h x (List.mem_filter.mp hx).1
theorem seg29 {uk du sa c9 : Addr} {c3 c4 c5 od : Obj} {vu : List Value} {nu : Nat} {kvs : List (Str × Value)} {fs : List Pr} {hs bs : List Pm} {rest : Led}
    (B : Below A₀ base [] h₀) (F : Fr h₀ L s.heap m) (X : (KX w.params).In h₀) (XB : (KX w.params).In base) (N : News h₀ L s.heap ((uk, listOf vu.toArray nu) :: (1348, tabObj #[rawInt ((1428 : Nat) : Int), rawInt ((21 : Nat) : Int), .ref c9]) :: (L + 5, c5) :: (L + 4, c4) :: (L + 3, c3) :: (du, od) :: rest)) (T : TopM mean mg mb h₀) (TB : TopM mean mg mb base) (CD : CodeHd h₀ 1350 1348)
    (hd : dp + 60 < recursionLimit) (hu : un + 1200 < cLine) (dlo : (du == sysModules) = false) (e5 : c5.data = .cell (some (.ref du))) (e3 : c3.data = .cell (some (.ref sa))) (hO : od.IsDictOf (PySem.strKind pwO w) kvs) (hY : DatAll [] vu ((unkOf fs (kvs.map Prod.fst)).map Dat.str)) (m1 : m (S "unknown") = some (.ref uk))
    (l48 : @LT.lt Nat _ 1348 L) (ldu : @LT.lt Nat _ L du) (nuk : @Ne Nat uk 1348) (off8 : ∀ p ∈ rest, p.1 ≠ 1348)
    (hD : DatIn rest (.ref sa) (srcD hs bs)) (hl1 : hs.length ≤ 100) (hl2 : bs.length ≤ 100) (hfr : ∀ x, x ∈ fs.map Pr.nm ↔ x ∈ (hs ++ bs).filterMap Pm.free) (hkok : ∀ x ∈ kvs.map Prod.fst, PyData.strOk x = true)
    (ret : ∀ h' tk' m' ps rest', Fr h₀ L h' m' → News h₀ L h' ((1348, tabObj ps) :: rest') → Q (.ret (.bool true)) { s with heap := h', toks := tk' }) :
    wpAny (model pwO w) (lawA dp un gd L) (execs law29 (lawE L)) Q (fun _ _ => False) s := by
  refine ?mG; exact ((by exact ?mB) : (let_mvar% ?mB := (by (
  dsimp only [law29, restOf, lawE, lawA]
  have G1 := know F m1
  clear F
  k_steps
  show wpAny _ _ _ _ _ _
  refine callWith_K X (by k_is) ?_ ?he ?hp
  case he => exact rfl
  case hp => exact rfl
  k_steps
  (with_reducible rename Fr _ _ _ _ => F1)
  (with_reducible rename News _ _ _ _ => N1)
  show wpAny _ _ _ _ _ _
  have N2 := nsub N1 (l' := (1348, tabObj #[rawInt ((1428 : Nat) : Int), rawInt ((21 : Nat) : Int), .ref c9]) :: (uk, listOf vu.toArray nu) :: (L + 5, c5) :: (L + 3, c3) :: (du, od) :: rest) (by wtm_at "led_sub")
  refine kla_eval rfl ?_
  refine kla_nest (P := 1348) (c := 1350) F1 N2 T CD rfl (.head ?ne) ?t ?n (show _ = pure _ from rfl) (fun f c' oc vs t ctv h' tk' F' N' d1 d2 l1 l2 => ?_)
  case ne => exact List.forall_mem_cons.mpr ⟨nuk, by wtm_at "off_p"⟩
  case t => kn_triples
  case n => kn_among
  (try dsimp only)
  k_steps
  show wpAny _ _ _ _ _ _
  obtain ⟨ps2, N3⟩ : ∃ ps2 : Array Value, News h₀ L h' ((f, _) :: (c', oc) :: (1348, tabObj ps2) :: (uk, listOf vu.toArray nu) :: (L + 5, c5) :: (L + 3, c3) :: (du, od) :: rest) := ⟨_, N'⟩
  clear N'
  have m9 : ∀ {a1 a2 a3 a4 a5 a6 a7 : Addr × Obj}, ∀ p ∈ rest, p ∈ a1 :: a2 :: a3 :: a4 :: a5 :: a6 :: a7 :: rest := fun p hp => .tail _ (.tail _ (.tail _ (.tail _ (.tail _ (.tail _ (.tail _ hp))))))
  refine kept_t B F' X N3 T XB TB rfl hd hu (ask_check (hs := hs) (bs := bs) (sa := sa) (du := du) (od := od) (kvs := kvs) (L₀ := L) (.head _) mm1 d1 d2 (c3 := c3) (by wtm_at "led_mem") e3 (c5 := c5) (by wtm_at "led_mem") e5 (by wtm_at "led_mem") hO dlo (hD.mono m9) hl1 hl2) (.head _) (fun v ent h4 tk4 F4 N4 ap hR => ?_) (fun kd at_ D t1 t2 h4 tk4 hP F4 N4 ap => ?_)
  · obtain ⟨rfl, hall⟩ := hR
    have hu0 : unkOf fs (kvs.map Prod.fst) = [] := unk_nil hfr hall
    have N5 := nsub N4 (l' := [(1348, tabObj ps2), (uk, listOf vu.toArray nu)]) (List.forall_mem_cons.mpr ⟨List.mem_append_right _ (by wtm_at "led_mem"), List.forall_mem_cons.mpr ⟨List.mem_append_right _ (by wtm_at "led_mem"), List.forall_mem_nil _⟩⟩)
    clear N4 N3 ap F'
    rw [hu0] at hY
    (try dsimp only)
    k_steps
    (with_reducible rename Fr _ _ _ _ => F6)
    (with_reducible rename News _ _ _ _ => N6)
    show wpAny _ _ _ _ _ _
    refine kqd_ne (ds := []) (es := []) N6 (a := uk) mm2 rfl rfl hY (List.forall_mem_nil _) (.head _) rfl rfl .nil (List.forall_mem_nil _) (List.forall_mem_nil _) (List.forall_mem_nil _) ?hu ?_
    case hu => ke_room
    (try dsimp only)
    simp only [decide_true, Bool.not_true]
    k_steps
    (with_reducible rename Fr _ _ _ _ => F8)
    (with_reducible rename News _ _ _ _ => N8)
    exact ret _ _ _ ps2 [] F8 (nsub N8 fun p hp => by rw [List.mem_singleton.mp hp]; exact .tail _ (.head _))
  · obtain ⟨hex, rfl, rfl⟩ := hP
    have hu1 : unkOf fs (kvs.map Prod.fst) ≠ [] := unk_ne hfr hex
    have N5 := nsub N4 (l' := (D, tupO [.str (S "unknown_parameter") t1, .int 7 t2]) :: (1348, tabObj ps2) :: (uk, listOf vu.toArray nu) :: []) (by wtm_at "led_sub")
    clear N4 N3 ap F'
    (try dsimp only)
    k_steps
    (with_reducible rename Fr _ _ _ _ => F6)
    (with_reducible rename News _ _ _ _ => N6)
    show wpAny _ _ _ _ _ _
    refine kqd_ne (es := []) N6 (a := uk) mm3 rfl rfl hY (List.forall_mem_nil _) (.head _) rfl rfl .nil (List.forall_mem_nil _) (unk_ok hkok) (List.forall_mem_nil _) ?hu ?_
    case hu => ke_room
    (try dsimp only)
    rw [show decide ((unkOf fs (kvs.map Prod.fst)).map Dat.str = []) = false from decide_eq_false fun z => hu1 (List.map_eq_nil_iff.mp z)]
    simp only [Bool.not_false]
    k_steps
    (with_reducible rename Fr _ _ _ _ => F7)
    (with_reducible rename News _ _ _ _ => N7)
    show wpAny _ _ _ _ _ _
    refine dat_eq (d := .tuple [.str (S "unknown_parameter"), .int 7]) N7 (.tuple mm2 (.cons (.str _ _) (.cons (.int _ _) .nil))) (.tuple (.head _) (.cons (.str _ _) (.cons (.int _ _) .nil))) (DOk.of (by kernel_rfl)) ?hu ?_
    case hu => ke_room
    (try dsimp only)
    k_steps
    (with_reducible rename Fr _ _ _ _ => F8)
    (with_reducible rename News _ _ _ _ => N8)
    exact ret _ _ _ ps2 [] F8 (nsub N8 fun p hp => by rw [List.mem_singleton.mp hp]; exact .tail _ mm2)
  ) : type_of% ?mG); have _ : True := trivial; type_of% ?mG))
end
end
section
open PySem PySem.W PyProof.Rows PySem.Calls
set_option maxRecDepth 100000
set_option maxHeartbeats 0
set_option Elab.async false
set_option compiler.extract_closed false
set_option compiler.reuse false
set_option linter.unusedVariables false
set_option pp.deepTerms false
section
variable {w : World} {mean : ExcName → Option Value} {mg mb : Str → Option Value} {dp un : Nat} {gd : Option (List Code)} {A₀ : Around} {base h₀ : Heap} {L : Addr} {m : Str → Option Value} {s : Shared} {Q : Flow → Shared → Prop} {E : Value → Shared → Prop}

theorem ordX_len {hs bs : List Pr} (h1 : hs.length ≤ 5) (h2 : bs.length ≤ 5) : (ordX (hs.map Pr.pm) (.init :: bs.map Pr.pm)).length ≤ 10 := by
  refine ?mG; exact ((by exact ?mB) : (let_mvar% ?mB := (by (
  by_cases he : prFree hs = []
  · rw [ordX_e he]
    refine Nat.le_trans (List.length_filterMap_le _ _) ?_
    rw [List.length_map]; wtm_at "om"
  · rw [ordX_n he]
    refine Nat.le_trans (List.length_filterMap_le _ _) ?_
    rw [List.length_map]; wtm_at "om"
  ) : type_of% ?mG); have _ : True := trivial; type_of% ?mG))
theorem ordX_ok {hs bs : List Pr} (h1 : ∀ p ∈ hs, p.ok) (h2 : ∀ p ∈ bs, p.ok) : ∀ x ∈ ordX (hs.map Pr.pm) (.init :: bs.map Pr.pm), PyData.strOk x = true := by
  refine ?mG; exact ((by exact ?mB) : (let_mvar% ?mB := (by (
  have g : ∀ {l : List Pr}, (∀ p ∈ l, p.ok) → ∀ x ∈ prFree l, PyData.strOk x = true := fun h x hx => by
    obtain ⟨p, hp, rfl⟩ := prFree_mem hx
    exact pName_ok (h p hp).1
  by_cases he : prFree hs = []
  · rw [ordX_e he]; exact g h2
  · rw [ordX_n he]; exact g h1
  ) : type_of% ?mG); have _ : True := trivial; type_of% ?mG))
theorem free_iff {hs bs fs : List Pr} (h : ∀ x, x ∈ fs.map Pr.nm ↔ x ∈ prFree hs ∨ x ∈ prFree bs) : ∀ x, x ∈ fs.map Pr.nm ↔ x ∈ (hs.map Pr.pm ++ Pm.init :: bs.map Pr.pm).filterMap Pm.free := by
  intro x
  rw [h x, List.filterMap_append, List.mem_append]
  exact Iff.rfl
theorem walk : LawW := by
  refine ?mG; exact ((by exact ?mB) : (let_mvar% ?mB := (by (
  intro w mean mg mb dp un gd A₀ base h₀ L s Q cells sc vs zs B F X N T XB TB XC l48 hd hu CD hS hI hl hQ
  refine seg0 B F X N T XC l48 hd hu hS hI hl fun r us n ns many tm u so nn c1 c2 c3 c4 c5 c6 c7 pr rest h1 tk1 m1 F1 N1 q1 q2 q3 q4 hpr I1 L1 hm0 hm7 e1 e2 e3 e4 e5 e6 e7 lt off => ?_
  obtain ⟨mn, rfl⟩ : ∃ k : Nat, many = (k : Int) := ⟨many.toNat, (Int.toNat_of_nonneg hm0).symm⟩
  have h7' : Small mn := by show mn < 7; wtm_at "om"
  refine seg6 B F1 X N1 T hd hu q1 q2 q3 q4 I1 L1 h7' e1 e2 l48 lt off fun h2 tk2 m2 nx2 F2 N2 J2 => ?_
  refine seg7 B F2 X N2 T hd hu J2 h7' hpr e1 e2 l48 lt fun h3 tk3 m3 nx3 gv F3 N3 J3 => ?_
  refine seg9 B F3 X N3 T hd hu J3 e1 e2 l48 lt fun h4 tk4 m4 nx4 F4 N4 J4 => ?_
  refine seg10 B F4 X N4 T hd hu J4 l48 lt fun h5 tk5 m5 nx5 F5 N5 J5 => ?_
  refine seg11 B F5 X N5 T hd hu J5 e1 e2 l48 lt fun h6 tk6 m6 nx6 F6 N6 J6 => ?_
  refine seg13 B F6 X N6 T hd hu J6 e4 l48 lt.1 fun us7 ns7 n7 hl7 bo fr c4' h7 tk7 m7 F7 N7 I7 L7 e4' p1 p2 lt7 => ?_
  refine seg16 B F7 X N7 T hd hu I7 L7 e1 e4' p1 p2 l48 ⟨lt.1, lt7⟩ fun i h8 tk8 m8 nx8 hi8 F8 N8 J8 => ?_
  refine seg17 B F8 X N8 T hd hu hi8 J8 e1 e3 e4' l48 ⟨lt.1, lt7⟩ fun sa c3' h9 tk9 m9 nx9 F9 N9 e3' J9 => ?_
  refine seg18 B F9 X N9 T hd hu J9 l48 ⟨lt.1, lt7⟩ fun ox h10 tk10 m10 nx10 F10 N10 J10 => ?_
  obtain ⟨us, ns, n, vf, nf, vx, kx, rest, hs, bs, fs, rfl, hI, hl9, mf, mx, hvf, lf, hvx, hsl, bsl, hfr, okh, okb, okf, off10, hD, q9⟩ := J10
  have lr : @LT.lt Nat _ (L + 7) r := lt.1
  have off7 : ∀ p ∈ (r, listOf us.toArray n) :: (L + 6, c6) :: (L + 5, c5) :: (L + 4, c4') :: (L + 3, c3') :: (L + 2, c2) :: (L + 1, c1) :: (1348, tabObj #[]) :: rest, p.1 ≠ L + 7 := by
    have o7 : ∀ p ∈ rest, p.1 ≠ L + 7 := off10 (L + 7) (by wtm_at "led_mem")
    wtm_at "off_p"
  refine seg20 B F10 X (nsub N10 (by wtm_at "led_sub")) T e7 off7 hd hu fun sp c7' ent h11 tk11 F11 N11 e7' hsc hent => ?_
  have N12 := nsub N11 (l' := (r, listOf us.toArray n) :: lawLed L c1 c2 c3' c4' c5 c6 c7' #[] (ent ++ rest)) (by
    intro p hp
    simp only [lawLed, List.mem_cons, List.mem_append] at hp ⊢
    rcases hp with h | h | h | h | h | h | h | h | h | h | h <;> simp [h])
  have off12 : OffA (lawBs L r) (ent ++ rest) := fun a ha p hp => (List.mem_append.mp hp).elim (fun h => by
    have g : ∀ a ∈ lawBs L r, @LT.lt Nat _ a p.1 := by
      have h7 := (hent p h).1
      have hr := (hent p h).2 (r, listOf us.toArray n) (.head _)
      refine List.forall_mem_cons.mpr ⟨by wtm_at "om", List.forall_mem_cons.mpr ⟨by wtm_at "om", List.forall_mem_cons.mpr ⟨by wtm_at "om", List.forall_mem_cons.mpr ⟨by wtm_at "om", List.forall_mem_cons.mpr ⟨by wtm_at "om", List.forall_mem_cons.mpr ⟨by wtm_at "om", List.forall_mem_cons.mpr ⟨by wtm_at "om", List.forall_mem_cons.mpr ⟨by wtm_at "om", List.forall_mem_cons.mpr ⟨hr, List.forall_mem_nil _⟩⟩⟩⟩⟩⟩⟩⟩⟩
    exact Nat.ne_of_gt (g a ha)) (off10 a ha p)
  have upE : ∀ p ∈ rest, p ∈ ent ++ rest := fun p hp => List.mem_append_right _ hp
  refine seg22 B F11 X N12 T hd hu e5 e6 q9 l48 lr off12 fun ol du od c5' c6' h13 tk13 m13 F13 N13 hO13 dlo e5' e6' lt13 ltr13 q13 => ?_
  refine seg24 B F13 X N13 T hd hu hI hl9 hO13 dlo e1 e5' e6' q13 l48 ⟨lr, lt13⟩ off12 ltr13 (upE _ mx) hvx (ordX_len hsl bsl) fun i14 h14 tk14 m14 nx14 hi14 F14 N14 J14 => ?_
  have hl1 : (hs.map Pr.pm).length ≤ 100 := by rw [List.length_map]; wtm_at "om"
  have hl2 : (Pm.init :: bs.map Pr.pm).length ≤ 100 := by rw [List.length_cons, List.length_map]; wtm_at "om"
  refine seg25 B F14 X XB N14 T TB CD hd hu hi14 J14 dlo e3' e6' e7' l48 ⟨lr, lt13⟩ (hD.mono upE) hl1 hl2 (hsc.mono fun p hp => List.mem_append_left _ hp) (ordX_ok okh okb) (fun h' tk' m' ps rest' F' N' => hQ h' tk' m' ps rest' F' N') fun c9 c5'' od' kvs rest15 h15 tk15 m15 F15 N15 sub15 off15 e5'' hO15 hk15 hkl15 => ?_
  refine seg28 B F15 X N15 T hd hu dlo e5'' e4' hO15 hkl15 (sub15 _ (upE _ mf)) ((hvf.mono upE).mono sub15) lf fun uk vu nu h16 tk16 m16 F16 N16 hY16 q16 nuk => ?_
  exact seg29 B F16 X XB N16 T TB CD hd hu dlo e5'' e3' hO15 hY16 q16 l48 (by wtm_at "om") nuk off15 ((hD.mono upE).mono sub15) hl1 hl2 (free_iff hfr) hk15 (fun h' tk' m' ps rest' F' N' => hQ h' tk' m' ps rest' F' N')
  ) : type_of% ?mG); have _ : True := trivial; type_of% ?mG))
end
end
end Mine
end
open PySem PySem.W PyProof.Rows
theorem PySem.Challenge.cw_ok0100_01_holds : PySem.Challenge.rw_ok0100_01.Holds :=
  Mine.lawSaid (Mine.row_holds Mine.walk)
